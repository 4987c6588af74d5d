import PyProof.Rows.All
import Wide.All
import OpenK.AllK
import Wide.FinOn
import HandS.ForMost
import HandS.Exc
import HandS.ExcOwn
import HandS.TryOnly
import HandS.TryMany
import HandS.Lambda
import HandS.Wide
import HandS.Sort
import HandS.HeadHook1
import HandS.Deep
import HandS.TupAny
import HandS.Style
import HandS.IsInst
import HandS.Small
import HandS.More
import HandS.SortInts
import HandS.CallSlots
import KE.KExcIs
import HandS.Conv
import Lean
import KE.KStateDown
import HandS.Ends
import HandS.Defaults
import HandS.Head0
import HandS.Head1
import HandS.Head2
import HandS.HeadEnd
import HandS.HeadHook2
import PySem.Challenge.RW_askwide_k75_bad_pieces
set_option Elab.async false
set_option linter.all false
set_option maxRecDepth 100000
set_option maxHeartbeats 4000000
set_option autoImplicit false
/-! Aw1: plain data over the abstract heap: what stands at a value (At), the frozen part F, the frame G, the cells. -/
namespace Aw
open PySem L2 LamX

/-- plain data; loc n: the cell n; scr: the script; fn: a def's value -/
inductive D where
  | non | bl (b : Bool) | int (i : Int) | str (x : Str)
  | tup (xs : List D) | lst (xs : List D) | dct (ks vs : List D)
  | loc (n : Nat) | scr (ns : List Int) | fn (a : Addr)
inductive Cell where
  | lst (xs : List D) | dct (ks vs : List D) | fz (d : D)
abbrev Store := List Cell
abbrev Env := List (Option D)

def Le (F F' : Hp) : Prop := ∀ a o, F a = some o → F' a = some o
theorem Le.refl (F : Hp) : Le F F := fun _ _ h => h
theorem Le.trans {F F1 F2 : Hp} (a : Le F F1) (b : Le F1 F2) : Le F F2 := fun x o h => b x o (a x o h)
theorem Le.new {F : Hp} {p : Addr} {o : HO} (h : F p = none) : Le F (upd F p o) := fun a u e => by
  rw [upd_ne (ne_of_none e h)]; exact e
def Pre (l l' : List Addr) : Prop := ∀ (n : Nat) (a : Addr), l[n]? = some a → l'[n]? = some a
theorem Pre.refl (l : List Addr) : Pre l l := fun _ _ h => h
theorem Pre.trans {l l1 l2 : List Addr} (a : Pre l l1) (b : Pre l1 l2) : Pre l l2 := fun x o h => b x o (a x o h)
theorem Pre.app (l m : List Addr) : Pre l (l ++ m) := fun n a h => by
  rw [List.getElem?_append_left (List.getElem?_eq_some_iff.mp h).1]; exact h
theorem Pre.len {l l' : List Addr} (h : Pre l l') : l.length ≤ l'.length := by
  by_cases e : l.length = 0
  · omega
  · have q := h (l.length - 1) (l[l.length - 1]'(by omega)) (List.getElem?_eq_getElem (by omega))
    have := (List.getElem?_eq_some_iff.mp q).1
    omega

theorem rd_le {F F' : Hp} {a : Addr} {u : HO} (e : Le F F') (h : Rd F a u) : Rd F' a u := by
  rcases h with h | ⟨o, h⟩
  · exact .inl (e a _ h)
  · exact .inr ⟨o, e a _ h⟩
theorem sql_le {K : PySem.W.Frag} {F F' : Hp} {a : Addr} {xs : List V} (e : Le F F') (h : SqL K F a xs) : SqL K F' a xs := by
  rcases h with h | h
  · exact .inl (rd_le e h)
  · exact .inr h
theorem sqt_le {K : PySem.W.Frag} {F F' : Hp} {a : Addr} {xs : List V} (e : Le F F') (h : SqT K F a xs) : SqT K F' a xs := by
  rcases h with h | h
  · exact .inl (rd_le e h)
  · exact .inr h

def keyD : Key → D
  | .inl i => .int i
  | .inr s => .str s

mutual
/-- the datum d stands at the value v -/
def At (K : PySem.W.Frag) (F : Hp) (l : List Addr) : D → V → Prop
  | .non, v => v = .non
  | .bl b, v => v = .bl b
  | .int i, v => v = .int i
  | .str x, v => v = .str x
  | .tup ds, v => ∃ a vs, v = .ref a ∧ F a = some (.tup vs) ∧ ds.length ≤ sizeLine ∧ AtL K F l ds vs
  | .lst ds, v => ∃ a vs, v = .ref a ∧ F a = some (.lst vs) ∧ ds.length ≤ sizeLine ∧ AtL K F l ds vs
  | .dct ks ws, v => ∃ a vs, v = .ref a ∧ AtL K F l ws vs ∧ ks.length ≤ sizeLine ∧
      ((∃ kvs : List (Key × V), F a = some (.dK kvs) ∧ ks = kvs.map (fun p => keyD p.1) ∧ vs = kvs.map (·.2)) ∨
       (∃ kvs : List (List Key × V), F a = some (.dT kvs) ∧ ks = kvs.map (fun p => .tup (p.1.map keyD)) ∧ vs = kvs.map (·.2)))
  | .loc n, v => ∃ a, l[n]? = some a ∧ v = .ref a
  | .scr ns, v => ∃ a, v = .ref a ∧ SqL K F a (ns.map V.int) ∧ ns.length ≤ 63
  | .fn a, v => v = .ref a
def AtL (K : PySem.W.Frag) (F : Hp) (l : List Addr) : List D → List V → Prop
  | [], vs => vs = []
  | d :: ds, vs => ∃ v vs', vs = v :: vs' ∧ At K F l d v ∧ AtL K F l ds vs'
end

section
variable {K : PySem.W.Frag} {F F' G G' H H' : Hp} {l l' : List Addr}
mutual
theorem At.mono (e : Le F F') (p : Pre l l') : ∀ (d : D) (v : V), At K F l d v → At K F' l' d v
  | .non, _, h => h
  | .bl _, _, h => h
  | .int _, _, h => h
  | .str _, _, h => h
  | .tup ds, v, h => by
    obtain ⟨a, vs, h1, h2, h3, h4⟩ := h
    exact ⟨a, vs, h1, e _ _ h2, h3, AtL.mono e p ds vs h4⟩
  | .lst ds, v, h => by
    obtain ⟨a, vs, h1, h2, h3, h4⟩ := h
    exact ⟨a, vs, h1, e _ _ h2, h3, AtL.mono e p ds vs h4⟩
  | .dct ks ws, v, h => by
    obtain ⟨a, vs, h1, h2, h3, h4⟩ := h
    refine ⟨a, vs, h1, AtL.mono e p ws vs h2, h3, ?_⟩
    rcases h4 with ⟨kvs, q, r⟩ | ⟨kvs, q, r⟩
    · exact .inl ⟨kvs, e _ _ q, r⟩
    · exact .inr ⟨kvs, e _ _ q, r⟩
  | .loc n, v, h => by
    obtain ⟨a, h1, h2⟩ := h
    exact ⟨a, p _ _ h1, h2⟩
  | .scr ns, v, h => by
    obtain ⟨a, h1, h2, h3⟩ := h
    exact ⟨a, h1, sql_le e h2, h3⟩
  | .fn _, _, h => h
theorem AtL.mono (e : Le F F') (p : Pre l l') : ∀ (ds : List D) (vs : List V), AtL K F l ds vs → AtL K F' l' ds vs
  | [], _, h => h
  | d :: ds, vs, h => by
    obtain ⟨v, vs', h1, h2, h3⟩ := h
    exact ⟨v, vs', h1, At.mono e p d v h2, AtL.mono e p ds vs' h3⟩
end
theorem AtL.nil : AtL K F l [] [] := rfl
theorem AtL.cons {d : D} {v : V} {ds : List D} {vs : List V} (h : At K F l d v) (t : AtL K F l ds vs) : AtL K F l (d :: ds) (v :: vs) := ⟨v, vs, rfl, h, t⟩
theorem AtL.length : ∀ {ds : List D} {vs : List V}, AtL K F l ds vs → vs.length = ds.length
  | [], _, h => by cases h; rfl
  | d :: ds, vs, h => by
    obtain ⟨v, vs', rfl, _, h⟩ := h
    simp [AtL.length h]
theorem AtL.get : ∀ {ds : List D} {vs : List V} {i : Nat} {d : D}, AtL K F l ds vs → ds[i]? = some d → ∃ v, vs[i]? = some v ∧ At K F l d v
  | [], _, i, _, _, e => by simp at e
  | d :: ds, vs, 0, d', h, e => by
    obtain ⟨v, vs', rfl, h1, _⟩ := h
    simp at e; subst e
    exact ⟨v, rfl, h1⟩
  | d :: ds, vs, i + 1, d', h, e => by
    obtain ⟨v, vs', rfl, _, h⟩ := h
    obtain ⟨w, q, r⟩ := AtL.get (i := i) h (by simpa using e)
    exact ⟨w, by simpa using q, r⟩
theorem AtL.get' : ∀ {ds : List D} {vs : List V} {i : Nat} {v : V}, AtL K F l ds vs → vs[i]? = some v → ∃ d, ds[i]? = some d ∧ At K F l d v
  | [], _, i, _, h, e => by cases h; simp at e
  | d :: ds, vs, 0, w, h, e => by
    obtain ⟨v, vs', rfl, h1, _⟩ := h
    simp at e; subst e
    exact ⟨d, rfl, h1⟩
  | d :: ds, vs, i + 1, w, h, e => by
    obtain ⟨v, vs', rfl, _, h⟩ := h
    obtain ⟨x, q, r⟩ := AtL.get' (i := i) h (by simpa using e)
    exact ⟨x, by simpa using q, r⟩
theorem AtL.of_get : ∀ {ds : List D} {vs : List V}, vs.length = ds.length → (∀ (i : Nat) (d : D) (v : V), ds[i]? = some d → vs[i]? = some v → At K F l d v) → AtL K F l ds vs
  | [], vs, e, _ => by
    have : vs = [] := List.eq_nil_of_length_eq_zero (by simpa using e)
    exact this
  | d :: ds, [], e, _ => by simp at e
  | d :: ds, v :: vs, e, h => ⟨v, vs, rfl, h 0 d v rfl rfl, AtL.of_get (by simpa using e) fun i d' v' h1 h2 => h (i + 1) d' v' (by simpa using h1) (by simpa using h2)⟩
theorem AtL.append : ∀ {ds es : List D} {vs us : List V}, AtL K F l ds vs → AtL K F l es us → AtL K F l (ds ++ es) (vs ++ us)
  | [], es, vs, us, h, k => by cases h; exact k
  | d :: ds, es, vs, us, h, k => by
    obtain ⟨v, vs', rfl, h1, h⟩ := h
    exact ⟨v, vs' ++ us, rfl, h1, AtL.append h k⟩
theorem AtL.set {d : D} {v : V} (hv : At K F l d v) : ∀ {ds : List D} {vs : List V} (i : Nat), AtL K F l ds vs → AtL K F l (ds.set i d) (vs.set i v)
  | [], vs, i, h => by cases h; exact rfl
  | d :: ds, vs, 0, h => by
    obtain ⟨w, vs', rfl, h1, h⟩ := h
    exact ⟨v, vs', rfl, hv, h⟩
  | d :: ds, vs, i + 1, h => by
    obtain ⟨w, vs', rfl, h1, h⟩ := h
    exact ⟨w, vs'.set i v, rfl, h1, AtL.set hv i h⟩
theorem AtL.take : ∀ {ds : List D} {vs : List V} (n : Nat), AtL K F l ds vs → AtL K F l (ds.take n) (vs.take n)
  | ds, vs, 0, h => rfl
  | [], vs, n + 1, h => by cases h; exact rfl
  | d :: ds, vs, n + 1, h => by
    obtain ⟨w, vs', rfl, h1, h⟩ := h
    exact ⟨w, vs'.take n, rfl, h1, AtL.take n h⟩
theorem AtL.drop : ∀ {ds : List D} {vs : List V} (n : Nat), AtL K F l ds vs → AtL K F l (ds.drop n) (vs.drop n)
  | ds, vs, 0, h => h
  | [], vs, n + 1, h => by cases h; exact rfl
  | d :: ds, vs, n + 1, h => by
    obtain ⟨w, vs', rfl, h1, h⟩ := h
    exact AtL.drop n h
theorem AtL.reverse {ds : List D} {vs : List V} (h : AtL K F l ds vs) : AtL K F l ds.reverse vs.reverse := by
  refine AtL.of_get (by simp [h.length]) fun i d v h1 h2 => ?_
  have e := h.length
  have hi : i < ds.length := by have := (List.getElem?_eq_some_iff.mp h1).1; simpa using this
  rw [List.getElem?_reverse hi] at h1
  rw [List.getElem?_reverse (by omega), e] at h2
  obtain ⟨w, q, r⟩ := h.get h1
  rw [q] at h2; cases h2; exact r
theorem AtL.ints : ∀ (ns : List Int), AtL K F l (ns.map D.int) (ns.map V.int)
  | [] => rfl
  | n :: ns => ⟨.int n, ns.map V.int, rfl, rfl, AtL.ints ns⟩
theorem AtL.of_ints : ∀ {ns : List Int} {vs : List V}, AtL K F l (ns.map D.int) vs → vs = ns.map V.int
  | [], vs, h => h
  | n :: ns, vs, h => by
    obtain ⟨v, vs', rfl, h1, h2⟩ := h
    have h1 : v = .int n := h1
    rw [h1, AtL.of_ints h2]; rfl
theorem AtL.of_bls : ∀ {ns : List Bool} {vs : List V}, AtL K F l (ns.map D.bl) vs → vs = ns.map V.bl
  | [], vs, h => h
  | n :: ns, vs, h => by
    obtain ⟨v, vs', rfl, h1, h2⟩ := h
    have h1 : v = .bl n := h1
    rw [h1, AtL.of_bls h2]; rfl
end

/-- a cell's content -/
def CellOk (K : PySem.W.Frag) (F : Hp) (l : List Addr) (H : Hp) (a : Addr) : Cell → Prop
  | .lst ds => F a = none ∧ ds.length ≤ sizeLine ∧ ∃ vs, H a = some (.lst vs) ∧ AtL K F l ds vs
  | .dct ks ws => F a = none ∧ ks.length ≤ sizeLine ∧ ∃ vs, AtL K F l ws vs ∧
      ((∃ kvs : List (Key × V), H a = some (.dK kvs) ∧ ks = kvs.map (fun p => keyD p.1) ∧ vs = kvs.map (·.2)) ∨
       (∃ kvs : List (List Key × V), H a = some (.dT kvs) ∧ ks = kvs.map (fun p => .tup (p.1.map keyD)) ∧ vs = kvs.map (·.2)))
  | .fz d => At K F l d (.ref a)
theorem CellOk.mono {K : PySem.W.Frag} {F F' H H' : Hp} {l l' : List Addr} {a : Addr} (e : Le F F') (p : Pre l l') (hF : F' a = F a) (hH : H' a = H a) : ∀ {c : Cell}, CellOk K F l H a c → CellOk K F' l' H' a c
  | .lst ds, h => by
    obtain ⟨h1, h0, vs, h2, h3⟩ := h
    exact ⟨hF.trans h1, h0, vs, hH.trans h2, h3.mono e p⟩
  | .dct ks ws, h => by
    obtain ⟨h1, h0, vs, h2, h3⟩ := h
    refine ⟨hF.trans h1, h0, vs, h2.mono e p, ?_⟩
    rcases h3 with ⟨kvs, q, r⟩ | ⟨kvs, q, r⟩
    · exact .inl ⟨kvs, hH.trans q, r⟩
    · exact .inr ⟨kvs, hH.trans q, r⟩
  | .fz d, h => At.mono e p d _ h

/-- what a cell's object may be -/
def isCellO : HO → Bool
  | .lst _ => true
  | .dK _ => true
  | .dT _ => true
  | _ => false
/-- F frozen, G the frame, l the cells' addresses, S what they hold -/
structure HRel (K : PySem.W.Frag) (T : List (Addr × Str)) (F G : Hp) (l : List Addr) (S : Store) (H : Hp) : Prop where
  fz : Le F H
  gr : Le G H
  fg : ∀ a o, F a = some o → G a = none
  nd : ∀ (i j : Nat) (a : Addr), l[i]? = some a → l[j]? = some a → F a = none → i = j
  len : l.length = S.length
  gl : ∀ a ∈ l, G a = none
  al : ∀ a ∈ l, H a ≠ none
  tb : ∀ a ∈ l, ∀ o, H a = some o → isCellO o = true
  tabs : Tabs T H
  cell : ∀ (n : Nat) (c : Cell), S[n]? = some c → ∃ a, l[n]? = some a ∧ CellOk K F l H a c

section
variable {K : PySem.W.Frag} {T : List (Addr × Str)} {F F' G G' H H' : Hp} {l l' : List Addr} {S S' : Store} {p : Addr} {o : HO} {vs : List V} {ds : List D}
theorem nodup_get {l : List Addr} (nd : l.Nodup) {i j : Nat} {a : Addr} (h1 : l[i]? = some a) (h2 : l[j]? = some a) : i = j := by
  obtain ⟨hi, e1⟩ := List.getElem?_eq_some_iff.mp h1
  obtain ⟨hj, e2⟩ := List.getElem?_eq_some_iff.mp h2
  exact (List.getElem_inj nd).mp (e1.trans e2.symm)
theorem nd_snoc {F : Hp} {l : List Addr} {p : Addr} (h : ∀ (i j : Nat) (a : Addr), l[i]? = some a → l[j]? = some a → F a = none → i = j) (np : p ∉ l) :
    ∀ (i j : Nat) (a : Addr), (l ++ [p])[i]? = some a → (l ++ [p])[j]? = some a → F a = none → i = j := by
  have at_ : ∀ (i : Nat) (a : Addr), (l ++ [p])[i]? = some a → l[i]? = some a ∨ (i = l.length ∧ a = p) := fun i a e => by
    by_cases hi : i < l.length
    · rw [List.getElem?_append_left hi] at e; exact .inl e
    · rw [List.getElem?_append_right (by omega)] at e
      have hz : i - l.length = 0 := by
        have := (List.getElem?_eq_some_iff.mp e).1
        simp at this; omega
      rw [hz] at e
      simp at e
      exact .inr ⟨by omega, e.symm⟩
  intro i j a h1 h2 h3
  rcases at_ i a h1 with e1 | ⟨e1, e2⟩ <;> rcases at_ j a h2 with e3 | ⟨e3, e4⟩
  · exact h i j a e1 e3 h3
  · subst e4; exact absurd (List.mem_of_getElem? e1) np
  · subst e2; exact absurd (List.mem_of_getElem? e3) np
  · omega
theorem ne_mem {l : List Addr} {a p : Addr} (ha : a ∈ l) (np : p ∉ l) : a ≠ p := fun z => np (z ▸ ha)
/-- a new frozen object -/
theorem HRel.newF (h : HRel K T F G l S H) (hp : H p = none) : HRel K T (upd F p o) G l S (upd H p o) := by
  have fp : F p = none := by
    cases e : F p with
    | none => rfl
    | some u => rw [h.fz p u e] at hp; cases hp
  have gp : G p = none := by
    cases e : G p with
    | none => rfl
    | some u => rw [h.gr p u e] at hp; cases hp
  refine ⟨fun a u e => ?_, fun a u e => ?_, fun a u e => ?_, fun i j a h1 h2 h3 => h.nd i j a h1 h2 (by
    by_cases q : a = p
    · rw [q]; exact fp
    · rw [upd_ne q] at h3; exact h3), h.len, h.gl, fun a ha => ?_, fun a ha u e => ?_, h.tabs.ext fun b u e => ?_, fun n c e => ?_⟩
  · by_cases q : a = p
    · subst q; rw [upd_same] at e ⊢; exact e
    · rw [upd_ne q] at e ⊢; exact h.fz a u e
  · rw [upd_ne (ne_of_none (h.gr a u e) hp)]; exact h.gr a u e
  · by_cases q : a = p
    · subst q; exact gp
    · rw [upd_ne q] at e; exact h.fg a u e
  · by_cases q : a = p
    · subst q; rw [upd_same]; simp
    · rw [upd_ne q]; exact h.al a ha
  · have q : a ≠ p := fun z => h.al a ha (by rw [z]; exact hp)
    rw [upd_ne q] at e
    exact h.tb a ha u e
  · rw [upd_ne (ne_of_none e hp)]; exact e
  · obtain ⟨a, h1, h2⟩ := h.cell n c e
    have q : a ≠ p := fun z => h.al a (List.mem_of_getElem? h1) (by rw [z]; exact hp)
    exact ⟨a, h1, h2.mono (Le.new fp) (Pre.refl l) (upd_ne q) (upd_ne q)⟩
theorem HRel.fnone (h : HRel K T F G l S H) (hp : H p = none) : F p = none := by
  cases e : F p with
  | none => rfl
  | some u => rw [h.fz p u e] at hp; cases hp
theorem HRel.gnone (h : HRel K T F G l S H) (hp : H p = none) : G p = none := by
  cases e : G p with
  | none => rfl
  | some u => rw [h.gr p u e] at hp; cases hp
theorem HRel.lnot (h : HRel K T F G l S H) (hp : H p = none) : p ∉ l := fun z => h.al p z hp
/-- a new cell -/
theorem HRel.newC {c : Cell} (h : HRel K T F G l S H) (hp : H p = none) (ho : isCellO o = true) (hc : CellOk K F (l ++ [p]) (upd H p o) p c) : HRel K T F G (l ++ [p]) (S ++ [c]) (upd H p o) := by
  have fp := h.fnone hp
  have gp := h.gnone hp
  have np := h.lnot hp
  refine ⟨fun a u e => ?_, fun a u e => ?_, h.fg, ?_, by simp [h.len], fun a ha => ?_, fun a ha => ?_, fun a ha u e => ?_, h.tabs.ext fun b u e => ?_, fun n c' e => ?_⟩
  · rw [upd_ne (ne_of_none (h.fz a u e) hp)]; exact h.fz a u e
  · rw [upd_ne (ne_of_none (h.gr a u e) hp)]; exact h.gr a u e
  · exact nd_snoc h.nd np
  · rcases List.mem_append.mp ha with ha | ha
    · exact h.gl a ha
    · simp at ha; subst ha; exact gp
  · rcases List.mem_append.mp ha with ha | ha
    · by_cases q : a = p
      · subst q; rw [upd_same]; simp
      · rw [upd_ne q]; exact h.al a ha
    · simp at ha; subst ha; rw [upd_same]; simp
  · rcases List.mem_append.mp ha with ha | ha
    · have q : a ≠ p := fun z => np (z ▸ ha)
      rw [upd_ne q] at e
      exact h.tb a ha u e
    · simp at ha; subst ha
      rw [upd_same] at e; cases e; exact ho
  · rw [upd_ne (ne_of_none e hp)]; exact e
  · by_cases hn : n < S.length
    · rw [List.getElem?_append_left hn] at e
      obtain ⟨a, h1, h2⟩ := h.cell n c' e
      have q : a ≠ p := fun z => np (z ▸ List.mem_of_getElem? h1)
      exact ⟨a, Pre.app _ _ _ _ h1, h2.mono (Le.refl F) (Pre.app _ _) rfl (upd_ne q)⟩
    · rw [List.getElem?_append_right (by omega)] at e
      have : n - S.length = 0 := by
        have := (List.getElem?_eq_some_iff.mp e).1
        simp at this; omega
      have en : n = S.length := by omega
      rw [this] at e
      simp at e; subst e
      refine ⟨p, ?_, hc⟩
      rw [en, ← h.len]; simp
/-- a cell is written -/
theorem HRel.setC {n : Nat} {c c' : Cell} (h : HRel K T F G l S H) (hl : l[n]? = some p) (hS : S[n]? = some c) (hd : F p = none) (ho : isCellO o = true) (hc : CellOk K F l (upd H p o) p c') : HRel K T F G l (S.set n c') (upd H p o) := by
  have mem : p ∈ l := List.mem_of_getElem? hl
  have gp := h.gl p mem
  have ob : ∃ u, H p = some u ∧ isCellO u = true := by
    cases e : H p with
    | none => exact absurd e (h.al p mem)
    | some u => exact ⟨u, rfl, h.tb p mem u e⟩
  obtain ⟨u0, hp0, hu0⟩ := ob
  refine ⟨fun a u e => ?_, fun a u e => ?_, h.fg, h.nd, by simp [h.len], h.gl, fun a ha => ?_, fun a ha u e => ?_, fun q hq => ?_, fun m c2 e => ?_⟩
  · rw [upd_ne (ne_of_none e hd)]; exact h.fz a u e
  · rw [upd_ne (ne_of_none e gp)]; exact h.gr a u e
  · by_cases q : a = p
    · subst q; rw [upd_same]; simp
    · rw [upd_ne q]; exact h.al a ha
  · by_cases q : a = p
    · subst q; rw [upd_same] at e; cases e; exact ho
    · rw [upd_ne q] at e; exact h.tb a ha u e
  · obtain ⟨ps, h1, h2, h3⟩ := h.tabs q hq
    refine ⟨ps, ?_, h2, fun pos cv hcv => ?_⟩
    · rw [upd_ne]
      · exact h1
      · intro z; rw [z, hp0] at h1; cases h1; cases hu0
    · obtain ⟨c, e1, e2⟩ := h3 pos cv hcv
      refine ⟨c, e1, ?_⟩
      rw [upd_ne]
      · exact e2
      · intro z; rw [z, hp0] at e2
        have e2 := Option.some.inj e2
        rw [e2] at hu0; cases hu0
  · by_cases hm : m = n
    · subst hm
      have hlt := (List.getElem?_eq_some_iff.mp hS).1
      rw [List.getElem?_set_self hlt] at e
      cases e
      exact ⟨p, hl, hc⟩
    · rw [List.getElem?_set_ne (Ne.symm hm)] at e
      obtain ⟨a, h1, h2⟩ := h.cell m c2 e
      have q : a ≠ p := fun z => hm (h.nd _ _ _ (z ▸ h1) hl hd)
      exact ⟨a, h1, h2.mono (Le.refl F) (Pre.refl l) rfl (upd_ne q)⟩
/-- a cell is frozen -/
theorem HRel.frz {n : Nat} {c : Cell} {d : D} (h : HRel K T F G l S H) (hl : l[n]? = some p) (hS : S[n]? = some c) (hd : F p = none) (hp : H p = some o) (hc : At K (upd F p o) l d (.ref p)) : HRel K T (upd F p o) G l (S.set n (.fz d)) H := by
  have mem : p ∈ l := List.mem_of_getElem? hl
  refine ⟨fun a u e => ?_, h.gr, fun a u e => ?_, fun i j a h1 h2 h3 => h.nd i j a h1 h2 (by
    by_cases q : a = p
    · rw [q]; exact hd
    · rw [upd_ne q] at h3; exact h3), by simp [h.len], h.gl, h.al, h.tb, h.tabs, fun m c2 e => ?_⟩
  · by_cases q : a = p
    · subst q; rw [upd_same] at e; cases e; exact hp
    · rw [upd_ne q] at e; exact h.fz a u e
  · by_cases q : a = p
    · subst q; exact h.gl _ mem
    · rw [upd_ne q] at e; exact h.fg a u e
  · by_cases hm : m = n
    · subst hm
      have hlt := (List.getElem?_eq_some_iff.mp hS).1
      rw [List.getElem?_set_self hlt] at e
      cases e
      exact ⟨p, hl, hc⟩
    · rw [List.getElem?_set_ne (Ne.symm hm)] at e
      obtain ⟨a, h1, h2⟩ := h.cell m c2 e
      have q : a ≠ p := fun z => hm (h.nd _ _ _ (z ▸ h1) hl hd)
      exact ⟨a, h1, h2.mono (Le.new hd) (Pre.refl l) (upd_ne q) rfl⟩
/-- into the frame -/
theorem HRel.gAdd (h : HRel K T F G l S H) (hp : H p = none) : HRel K T F (upd G p o) l S (upd H p o) := by
  have fp := h.fnone hp
  have np := h.lnot hp
  refine ⟨fun a u e => ?_, fun a u e => ?_, fun a u e => ?_, h.nd, h.len, fun a ha => ?_, fun a ha => ?_, fun a ha u e => ?_, h.tabs.ext fun b u e => ?_, fun n c e => ?_⟩
  · rw [upd_ne (ne_of_none (h.fz a u e) hp)]; exact h.fz a u e
  · by_cases q : a = p
    · subst q; rw [upd_same] at e ⊢; exact e
    · rw [upd_ne q] at e ⊢; exact h.gr a u e
  · rw [upd_ne (ne_of_none e fp)]; exact h.fg a u e
  · rw [upd_ne (ne_mem ha np)]; exact h.gl a ha
  · rw [upd_ne (ne_mem ha np)]; exact h.al a ha
  · rw [upd_ne (ne_mem ha np)] at e; exact h.tb a ha u e
  · rw [upd_ne (ne_of_none e hp)]; exact e
  · obtain ⟨a, h1, h2⟩ := h.cell n c e
    exact ⟨a, h1, h2.mono (Le.refl F) (Pre.refl l) rfl (upd_ne (ne_mem (List.mem_of_getElem? h1) np))⟩
/-- the frame's object changes -/
theorem HRel.gSet {u : HO} (h : HRel K T F (upd G p u) l S H) (hu : isCellO u = true) : HRel K T F (upd G p o) l S (upd H p o) := by
  have hp : H p = some u := h.gr p u upd_same
  have fp : F p = none := by
    cases e : F p with
    | none => rfl
    | some w => have := h.fg p w e; rw [upd_same] at this; cases this
  have np : p ∉ l := fun z => by have := h.gl p z; rw [upd_same] at this; cases this
  refine ⟨fun a w e => ?_, fun a w e => ?_, fun a w e => ?_, h.nd, h.len, fun a ha => ?_, fun a ha => ?_, fun a ha w e => ?_, fun q hq => ?_, fun n c e => ?_⟩
  · rw [upd_ne (ne_of_none e fp)]; exact h.fz a w e
  · by_cases q : a = p
    · subst q; rw [upd_same] at e ⊢; exact e
    · rw [upd_ne q] at e ⊢; exact h.gr a w (by rw [upd_ne q]; exact e)
  · have := h.fg a w e
    rw [upd_ne (ne_of_none e fp)] at this ⊢; exact this
  · have := h.gl a ha
    rw [upd_ne (ne_mem ha np)] at this ⊢; exact this
  · rw [upd_ne (ne_mem ha np)]; exact h.al a ha
  · rw [upd_ne (ne_mem ha np)] at e; exact h.tb a ha w e
  · obtain ⟨ps, h1, h2, h3⟩ := h.tabs q hq
    refine ⟨ps, ?_, h2, fun pos cv hcv => ?_⟩
    · rw [upd_ne]
      · exact h1
      · intro z; rw [z, hp] at h1; cases h1; cases hu
    · obtain ⟨c, e1, e2⟩ := h3 pos cv hcv
      refine ⟨c, e1, ?_⟩
      rw [upd_ne]
      · exact e2
      · intro z; rw [z, hp] at e2
        have e2 := Option.some.inj e2
        rw [e2] at hu; cases hu
  · obtain ⟨a, h1, h2⟩ := h.cell n c e
    exact ⟨a, h1, h2.mono (Le.refl F) (Pre.refl l) rfl (upd_ne (ne_mem (List.mem_of_getElem? h1) np))⟩
/-- out of the frame into the frozen part -/
theorem HRel.gToF (h : HRel K T F (upd G p o) l S H) (hg : G p = none) : HRel K T (upd F p o) G l S H := by
  have hp : H p = some o := h.gr p o upd_same
  have fp : F p = none := by
    cases e : F p with
    | none => rfl
    | some w => have := h.fg p w e; rw [upd_same] at this; cases this
  have np : p ∉ l := fun z => by have := h.gl p z; rw [upd_same] at this; cases this
  refine ⟨fun a w e => ?_, fun a w e => ?_, fun a w e => ?_, fun i j a h1 h2 h3 => h.nd i j a h1 h2 (by
    by_cases q : a = p
    · rw [q]; exact fp
    · rw [upd_ne q] at h3; exact h3), h.len, fun a ha => ?_, h.al, h.tb, h.tabs, fun n c e => ?_⟩
  · by_cases q : a = p
    · subst q; rw [upd_same] at e; cases e; exact hp
    · rw [upd_ne q] at e; exact h.fz a w e
  · exact h.gr a w (by rw [upd_ne (ne_of_none e hg)]; exact e)
  · by_cases q : a = p
    · subst q; exact hg
    · rw [upd_ne q] at e
      have := h.fg a w e
      rw [upd_ne q] at this; exact this
  · have := h.gl a ha
    rw [upd_ne (ne_mem ha np)] at this; exact this
  · obtain ⟨a, h1, h2⟩ := h.cell n c e
    exact ⟨a, h1, h2.mono (Le.new fp) (Pre.refl l) (upd_ne (ne_mem (List.mem_of_getElem? h1) np)) rfl⟩
/-- out of the frame, forgotten -/
theorem HRel.gDrop (h : HRel K T F (upd G p o) l S H) (hg : G p = none) : HRel K T F G l S H := by
  refine ⟨h.fz, fun a w e => h.gr a w (by rw [upd_ne (ne_of_none e hg)]; exact e), fun a w e => ?_, h.nd, h.len, fun a ha => ?_, h.al, h.tb, h.tabs, h.cell⟩
  · have := h.fg a w e
    by_cases q : a = p
    · rw [q]; exact hg
    · rw [upd_ne q] at this; exact this
  · have := h.gl a ha
    by_cases q : a = p
    · rw [q]; exact hg
    · rw [upd_ne q] at this; exact this
/-- out of the frame into a new cell -/
theorem HRel.gToC {c : Cell} (h : HRel K T F (upd G p o) l S H) (hg : G p = none) (ho : isCellO o = true) (hc : CellOk K F (l ++ [p]) H p c) : HRel K T F G (l ++ [p]) (S ++ [c]) H := by
  have hp : H p = some o := h.gr p o upd_same
  have np : p ∉ l := fun z => by have := h.gl p z; rw [upd_same] at this; cases this
  have h' := h.gDrop hg
  refine ⟨h'.fz, h'.gr, h'.fg, ?_, by simp [h'.len], fun a ha => ?_, fun a ha => ?_, fun a ha u e => ?_, h'.tabs, fun n c' e => ?_⟩
  · exact nd_snoc h.nd np
  · rcases List.mem_append.mp ha with ha | ha
    · exact h'.gl a ha
    · simp at ha; subst ha; exact hg
  · rcases List.mem_append.mp ha with ha | ha
    · exact h'.al a ha
    · simp at ha; subst ha; rw [hp]; simp
  · rcases List.mem_append.mp ha with ha | ha
    · exact h'.tb a ha u e
    · simp at ha; subst ha
      rw [hp] at e; cases e; exact ho
  · by_cases hn : n < S.length
    · rw [List.getElem?_append_left hn] at e
      obtain ⟨a, h1, h2⟩ := h'.cell n c' e
      exact ⟨a, Pre.app _ _ _ _ h1, h2.mono (Le.refl F) (Pre.app _ _) rfl rfl⟩
    · rw [List.getElem?_append_right (by omega)] at e
      have : n - S.length = 0 := by
        have := (List.getElem?_eq_some_iff.mp e).1
        simp at this; omega
      have en : n = S.length := by omega
      rw [this] at e
      simp at e; subst e
      refine ⟨p, ?_, hc⟩
      rw [en, ← h.len]; simp
end
end Aw

/-! Aw2: what code does to plain data (Out, R), the readings made of it (wp, wpS ..), expressions. -/
namespace Aw
open PySem L2 LamX

/-- an exception's class: the program's own, a built-in one -/
inductive Ex where
  | own (x : Str) | bt (n : String)
  deriving DecidableEq
def exV (K : PySem.W.Frag) : Ex → Value
  | .own x => .ref (He.ga K x)
  | .bt n => .type n
inductive Out (α : Type) where
  | ok (a : α) (S : Store) | err (c : Ex) (S : Store) | stuck
abbrev Sem (α : Type) := Env → Store → Out α
inductive R where
  | nx (r : Env) (S : Store) | ret (d : D) (S : Store) | brk (r : Env) (S : Store) | ct (r : Env) (S : Store) | err (c : Ex) (r : Env) (S : Store) | stuck
abbrev SemS := Env → Store → R

def bindO {α β : Type} (f : Sem α) (g : α → Sem β) : Sem β := fun r S => match f r S with
  | .ok a S' => g a r S'
  | .err c S' => .err c S'
  | .stuck => .stuck
def retO {α : Type} (a : α) : Sem α := fun _ S => .ok a S
def optO {α : Type} (o : Option α) : Sem α := fun _ S => match o with
  | some a => .ok a S
  | none => .stuck

/-- the slots -/
def Sl (K : PySem.W.Frag) (F : Hp) (l : List Addr) (r : Env) (σ : St) : Prop := r.length = σ.length ∧ ∀ (i : Nat) (d : D), r[i]? = some (some d) → ∃ v, σ[i]? = some (some v) ∧ At K F l d v
theorem Sl.mono {K : PySem.W.Frag} {F F' : Hp} {l l' : List Addr} {r : Env} {σ : St} (e : Le F F') (p : Pre l l') (h : Sl K F l r σ) : Sl K F' l' r σ :=
  ⟨h.1, fun i d q => let ⟨v, q1, q2⟩ := h.2 i d q; ⟨v, q1, q2.mono e p d v⟩⟩
theorem Sl.set {K : PySem.W.Frag} {F : Hp} {l : List Addr} {r : Env} {σ : St} {d : D} {v : V} (h : Sl K F l r σ) (hv : At K F l d v) (i : Nat) : Sl K F l (r.set i (some d)) (σ.set i (some v)) := by
  refine ⟨by simp [h.1], fun j e q => ?_⟩
  by_cases hj : i = j
  · subst hj
    by_cases hi : i < r.length
    · rw [List.getElem?_set_self hi] at q
      cases q
      exact ⟨v, List.getElem?_set_self (by rw [← h.1]; exact hi), hv⟩
    · rw [List.getElem?_eq_none (by simp; omega)] at q; cases q
  · rw [List.getElem?_set_ne hj] at q
    obtain ⟨w, q1, q2⟩ := h.2 j e q
    exact ⟨w, by rw [List.getElem?_set_ne hj]; exact q1, q2⟩

/-- a later state -/
structure Later (K : PySem.W.Frag) (T : List (Addr × Str)) (F G : Hp) (l : List Addr) (F' : Hp) (l' : List Addr) (S' : Store) (H' : Hp) : Prop where
  le : Le F F'
  pre : Pre l l'
  rel : HRel K T F' G l' S' H'
theorem Later.trans {K : PySem.W.Frag} {T : List (Addr × Str)} {F G F1 F2 H1 H2 : Hp} {l l1 l2 : List Addr} {S1 S2 : Store} (a : Later K T F G l F1 l1 S1 H1) (b : Later K T F1 G l1 F2 l2 S2 H2) : Later K T F G l F2 l2 S2 H2 :=
  ⟨a.le.trans b.le, a.pre.trans b.pre, b.rel⟩
theorem Later.refl {K : PySem.W.Frag} {T : List (Addr × Str)} {F G H : Hp} {l : List Addr} {S : Store} (h : HRel K T F G l S H) : Later K T F G l F l S H := ⟨Le.refl F, Pre.refl l, h⟩

abbrev Rl (α β : Type) := Hp → List Addr → α → β → Prop
def PostG {α β : Type} (K : PySem.W.Frag) (T : List (Addr × Str)) (W : WX) (rl : Rl α β) (F G : Hp) (l : List Addr) (σ : St) (Q : β → Hp → Prop) : Out α → Prop
  | .ok a S' => ∀ F' l' H' b, Later K T F G l F' l' S' H' → rl F' l' a b → Q b H'
  | .err c S' => ∀ F' l' H', Later K T F G l F' l' S' H' → W (exV K c) none σ H'
  | .stuck => False
def wp {α β : Type} (K : PySem.W.Frag) (T : List (Addr × Str)) (W : WX) (rl : Rl α β) (f : Sem α) : St → Hp → (β → Hp → Prop) → Prop := fun σ H Q =>
  ∃ F G l r S, HRel K T F G l S H ∧ Sl K F l r σ ∧ PostG K T W rl F G l σ Q (f r S)
abbrev rE (K : PySem.W.Frag) : Rl D V := fun F l d v => At K F l d v
def rT : Rl Bool Bool := fun _ _ a b => b = a
abbrev rA (K : PySem.W.Frag) : Rl (List D) (List V) := fun F l d v => AtL K F l d v
theorem PostG.mono {α β : Type} {K : PySem.W.Frag} {T : List (Addr × Str)} {W : WX} {rl : Rl α β} {F G F1 : Hp} {l l1 : List Addr} {σ : St} {Q : β → Hp → Prop} (a : Le F F1) (p : Pre l l1) : ∀ {o : Out α}, PostG K T W rl F G l σ Q o → PostG K T W rl F1 G l1 σ Q o
  | .ok _ _, h => fun F' l' H' b e q => h F' l' H' b ⟨a.trans e.le, p.trans e.pre, e.rel⟩ q
  | .err _ _, h => fun F' l' H' e => h F' l' H' ⟨a.trans e.le, p.trans e.pre, e.rel⟩
  | .stuck, h => h
theorem PostG.later {α β : Type} {K : PySem.W.Frag} {T : List (Addr × Str)} {W : WX} {rl : Rl α β} {F G F1 H1 : Hp} {l l1 : List Addr} {S1 : Store} {σ : St} {Q : β → Hp → Prop} (a : Later K T F G l F1 l1 S1 H1) : ∀ {o : Out α}, PostG K T W rl F G l σ Q o → PostG K T W rl F1 G l1 σ Q o
  | .ok _ _, h => fun F' l' H' b e q => h F' l' H' b (a.trans e) q
  | .err _ _, h => fun F' l' H' e => h F' l' H' (a.trans e)
  | .stuck, h => h
section
variable {α β γ δ : Type} {K : PySem.W.Frag} {T : List (Addr × Str)} {W : WX} {σ : St} {H : Hp}
/-- the first step of two -/
theorem wp_step {rl : Rl α β} {rl' : Rl γ δ} {f : Sem α} {g : α → Sem γ} {Q : δ → Hp → Prop} {Q1 : β → Hp → Prop} {F G : Hp} {l : List Addr} {r : Env} {S : Store} (hr : HRel K T F G l S H) (hs : Sl K F l r σ)
    (hp : PostG K T W rl' F G l σ Q (bindO f g r S))
    (k : ∀ F' l' S' a b H', Later K T F G l F' l' S' H' → Sl K F' l' r σ → rl F' l' a b → PostG K T W rl' F' G l' σ Q (g a r S') → Q1 b H') : wp K T W rl f σ H Q1 := by
  refine ⟨F, G, l, r, S, hr, hs, ?_⟩
  unfold bindO at hp
  cases e : f r S with
  | ok a S' =>
    rw [e] at hp
    exact fun F' l' H' b lt q => k F' l' S' a b H' lt (hs.mono lt.le lt.pre) q (hp.later lt)
  | err c S' => rw [e] at hp; exact hp
  | stuck => rw [e] at hp; exact hp
/-- the end -/
theorem wp_end {rl : Rl α β} {f : Sem α} {F G : Hp} {l : List Addr} {r : Env} {S : Store} {Q : β → Hp → Prop} (hr : HRel K T F G l S H) (hs : Sl K F l r σ) (hp : PostG K T W rl F G l σ Q (f r S)) : wp K T W rl f σ H Q := ⟨F, G, l, r, S, hr, hs, hp⟩
end

/-! ### judgements -/
/-- what the context gives -/
structure Ctx (X : Cx) (W : WX) (k : Nat) : Prop where
  calm : X.calm = true
  nd : X.N.Nodup
  tk : Takes X W
  po : PySem.PassesOwn (model X.prog X.w) X.A X.env X.xe
  rm : Room k X.A
def PD (X : Cx) (T : List (Addr × Str)) (W : WX) (e : Expr) (f : Sem D) : Prop := PE X e (wp X.K T W (rE X.K) f)
def PDT (X : Cx) (T : List (Addr × Str)) (W : WX) (e : Expr) (f : Sem Bool) : Prop := PT X e (wp X.K T W rT f)
def PDW (X : Cx) (T : List (Addr × Str)) (W : WX) (e : Expr) (f : Sem Bool) : Prop := PW X e (wp X.K T W rT f)
def PDA (X : Cx) (T : List (Addr × Str)) (W : WX) (e : List Expr) (f : Sem (List D)) : Prop := PA X e (wp X.K T W (rA X.K) f)
theorem PE.imp {X : Cx} {e : Expr} {t t' : TE} (h : PE X e t) (k : ∀ σ H Q, t' σ H Q → t σ H Q) : PE X e t' := ⟨fun pins s σ H Q I q => h.run pins s σ H Q I (k σ H Q q)⟩
theorem PT.imp {X : Cx} {e : Expr} {t t' : TT} (h : PT X e t) (k : ∀ σ H Q, t' σ H Q → t σ H Q) : PT X e t' := ⟨fun pins s σ H Q I q => h.run pins s σ H Q I (k σ H Q q)⟩
theorem PW.imp {X : Cx} {e : Expr} {t t' : TT} (h : PW X e t) (k : ∀ σ H Q, t' σ H Q → t σ H Q) : PW X e t' := ⟨fun w pins s σ H Q I q => h.run w pins s σ H Q I (k σ H Q q)⟩
theorem PA.imp {X : Cx} {e : List Expr} {t t' : TA} (h : PA X e t) (k : ∀ σ H Q, t' σ H Q → t σ H Q) : PA X e t' := ⟨fun p pins s σ H Q I q => h.run p pins s σ H Q I (k σ H Q q)⟩
theorem PS.imp {X : Cx} {e : Stmt} {t t' : TS} (h : PS X e t) (k : ∀ Dn σ H, t' Dn σ H → t Dn σ H) : PS X e t' := ⟨fun pins s σ H Dn I q => h.run pins s σ H Dn I (k Dn σ H q)⟩
theorem PSs.imp {X : Cx} {e : List Stmt} {t t' : TS} (h : PSs X e t) (k : ∀ Dn σ H, t' Dn σ H → t Dn σ H) : PSs X e t' := ⟨fun pins s σ H Dn I q => h.run pins s σ H Dn I (k Dn σ H q)⟩

section
variable {X : Cx} {T : List (Addr × Str)} {W : WX} {k : Nat} {pos : Pos} {e e1 e2 a b : Expr}

/-! ### names, constants -/
/-- a frozen cell's name is what it holds -/
def normL (S : Store) (n : Nat) : D := match S[n]? with
  | some (.fz d) => d
  | _ => .loc n
def norm (S : Store) : D → D
  | .loc n => normL S n
  | d => d
theorem norm_at {K : PySem.W.Frag} {F G H : Hp} {l : List Addr} {S : Store} (hr : HRel K T F G l S H) : ∀ {d : D} {v : V}, At K F l d v → At K F l (norm S d) v
  | .non, _, h => h
  | .bl _, _, h => h
  | .int _, _, h => h
  | .str _, _, h => h
  | .tup _, _, h => h
  | .lst _, _, h => h
  | .dct _ _, _, h => h
  | .scr _, _, h => h
  | .fn _, _, h => h
  | .loc n, v, h => by
    show At K F l (normL S n) v
    unfold normL
    split
    · rename_i d e
      obtain ⟨a, h1, rfl⟩ := h
      obtain ⟨a', h2, h3⟩ := hr.cell n _ e
      rw [h1] at h2; cases h2
      exact h3
    · exact h
def vE (i : Nat) : Sem D := fun r S => match r[i]? with
  | some (some d) => .ok (norm S d) S
  | _ => .stuck
theorem pd_var (i : Nat) {x : Str} (hN : X.N[i]? = some x := by rfl) (hv : Vis X.env.scope x := by first | exact Or.inl rfl | exact Or.inr (Or.inl rfl) | exact Or.inr (Or.inr rfl)) (hd : (x == ("__debug__" : Str)) = false := by decide)
    (hcd : (x == ("__classdict__" : Str)) = false := by decide) : PD X T W (.Name x pos) (vE i) := by
  refine PE.imp (pe_var hN hv hd hcd) fun σ H Q ⟨F, G, l, r, S, hr, hs, hp⟩ => ?_
  unfold vE at hp
  split at hp
  · rename_i d e
    obtain ⟨v, q1, q2⟩ := hs.2 i d e
    exact ⟨v, q1, hp F l H v (Later.refl hr) (norm_at hr q2)⟩
  · exact hp.elim
/-- a value that needs no heap -/
theorem pd_const {d : D} {v : V} (h : PE X e (tC v)) (hv : ∀ F l, At X.K F l d v) : PD X T W e (retO d) :=
  PE.imp h fun σ H Q ⟨F, G, l, r, S, hr, hs, hp⟩ => hp F l H v (Later.refl hr) (hv F l)
theorem pd_int {i : Int} {j} : PD X T W (.Constant (.int i) j pos) (retO (.int i)) := pd_const pe_int fun _ _ => rfl
theorem pd_bl {i : Bool} {j} : PD X T W (.Constant (.bool i) j pos) (retO (.bl i)) := pd_const pe_bl fun _ _ => rfl
theorem pd_non {j} : PD X T W (.Constant .none j pos) (retO .non) := pd_const pe_non fun _ _ => rfl
theorem pd_str {i : Str} {j} : PD X T W (.Constant (.str i) j pos) (retO (.str i)) := pd_const pe_str fun _ _ => rfl
/-- a module's text constant -/
theorem pd_gstr {x : Str} {s : Str} {t : Tok} (hg : Gl X x) (hm : X.mg x = some (.str s t)) (hd : (x == ("__debug__" : Str)) = false := by decide) : PD X T W (.Name x pos) (retO (.str s)) :=
  pd_const (pe_glob (v := .str s) hg hm ⟨t, rfl⟩ hd) fun _ _ => rfl
theorem pd_gint {x : Str} {s : Int} {t : Tok} (hg : Gl X x) (hm : X.mg x = some (.int s t)) (hd : (x == ("__debug__" : Str)) = false := by decide) : PD X T W (.Name x pos) (retO (.int s)) :=
  pd_const (pe_glob (v := .int s) hg hm ⟨t, rfl⟩ hd) fun _ _ => rfl

/-! ### two operands -/
abbrev G2 := Store → D → D → Option (D × Store)
/-- what an operator does -/
def OpD (K : PySem.W.Frag) (T : List (Addr × Str)) (r : R2) (g : G2) : Prop := ∀ F G l S H a b d S' x y (Q : VK), HRel K T F G l S H → At K F l a x → At K F l b y → g S a b = some (d, S') →
  (∀ F' l' H' v, Later K T F G l F' l' S' H' → At K F' l' d v → Q v H') → r x y H Q
def stepO (o : Option (D × Store)) : Out D := match o with
  | some (d, S') => .ok d S'
  | none => .stuck
def op2 (g : G2) (fa fb : Sem D) : Sem D := bindO fa fun a => bindO fb fun b => fun _ S => stepO (g S a b)
theorem op2_wp {K : PySem.W.Frag} {r : R2} {g : G2} {fa fb : Sem D} (ho : OpD K T r g) {σ : St} {H : Hp} {Q : VK} (h : wp K T W (rE K) (op2 g fa fb) σ H Q) : tOp r (wp K T W (rE K) fa) (wp K T W (rE K) fb) σ H Q := by
  obtain ⟨F, G, l, r0, S, hr, hs, hp⟩ := h
  refine wp_step hr hs hp fun F1 l1 S1 a x H1 lt1 hs1 ha hp1 => ?_
  refine wp_step lt1.rel hs1 hp1 fun F2 l2 S2 b y H2 lt2 hs2 hb hp2 => ?_
  cases e : g S2 a b with
  | none => simp only [e, stepO] at hp2; exact hp2.elim
  | some p =>
    simp only [e, stepO] at hp2
    exact ho F2 G l2 S2 H2 a b p.1 p.2 x y Q lt2.rel (ha.mono lt2.le lt2.pre) hb e hp2

theorem pd_op {op : Operator} {r : R2} {g : G2} {fa fb : Sem D} (hr : OpR X (binaryOp op) r) (ho : OpD X.K T r g) (ha : PD X T W a fa) (hb : PD X T W b fb) : PD X T W (.BinOp a op b pos) (op2 g fa fb) :=
  PE.imp (pe_op hr ha hb) fun _ _ _ h => op2_wp ho h
theorem pd_cmp {op : CmpOp} {r : R2} {g : G2} {fa fb : Sem D} (hr : OpR X (compareOp op) r) (ho : OpD X.K T r g) (ha : PD X T W a fa) (hb : PD X T W b fb) (hm : behindInMarks op b = false) : PD X T W (.Compare a [op] [b] pos) (op2 g fa fb) :=
  PE.imp (pe_cmpR hr ha hb hm) fun _ _ _ h => op2_wp ho h
theorem pd_ix {r : R2} {g : G2} {fa fb : Sem D} (hr : IxR X r) (ho : OpD X.K T r g) (ha : PD X T W a fa) (hb : PD X T W b fb) (hs : PlainIx b) : PD X T W (.Subscript a b pos) (op2 g fa fb) :=
  PE.imp (pe_ix hr ha hb hs) fun _ _ _ h => op2_wp ho h

/-! ### tests -/
def toB : D → Sem Bool
  | .bl b => retO b
  | _ => fun _ _ => .stuck
def testE (f : Sem D) : Sem Bool := bindO f toB
def valB (f : Sem Bool) : Sem D := bindO f fun b => retO (.bl b)
theorem toB_wp {K : PySem.W.Frag} {f : Sem D} {σ : St} {H : Hp} {Q : Bool → Hp → Prop} (h : wp K T W rT (testE f) σ H Q) : wp K T W (rE K) f σ H fun x H1 => ∃ c, x = .bl c ∧ Q c H1 := by
  obtain ⟨F, G, l, r0, S, hr, hs, hp⟩ := h
  refine wp_step hr hs hp fun F1 l1 S1 a x H1 lt1 hs1 ha hp1 => ?_
  cases a with
  | bl b =>
    have ha : x = .bl b := ha
    exact ⟨b, ha, hp1 F1 l1 H1 b (Later.refl lt1.rel) rfl⟩
  | _ => exact hp1.elim
theorem pt_of {f : Sem D} (h : PD X T W e f) (he : ∀ whole, isTrue e X.env whole = (do let v ← whole; standAt e.pos; holding [v] (truthy v)) := by intro _; rfl) : PDT X T W e (testE f) :=
  PT.imp (pt_val h he) fun _ _ _ q => toB_wp q
theorem pt_cmp' {op : CmpOp} {r : R2} {g : G2} {fa fb : Sem D} (hr : OpR X (compareOp op) r) (ho : OpD X.K T r g) (ha : PD X T W a fa) (hb : PD X T W b fb) (hm : behindInMarks op b = false) : PDT X T W (.Compare a [op] [b] pos) (testE (op2 g fa fb)) :=
  PT.imp (pt_cmpR hr ha hb hm) fun σ H Q q => by
    refine op2_wp ho ?_
    exact toB_wp q
def chainE (g g' : G2) (fa fb fc : Sem D) : Sem D := bindO fa fun a => bindO fb fun b => bindO (fun _ S => stepO (g S a b)) fun z => match z with
  | .bl true => bindO fc fun c => fun _ S => stepO (g' S b c)
  | .bl false => retO (.bl false)
  | _ => fun _ _ => .stuck
theorem opD_run {K : PySem.W.Frag} {r : R2} {g : G2} (ho : OpD K T r g) {F G H : Hp} {l : List Addr} {S : Store} {σ : St} {a b : D} {x y : V} {Q : VK} (hr : HRel K T F G l S H) (ha : At K F l a x) (hb : At K F l b y)
    (hp : PostG K T W (rE K) F G l σ Q (stepO (g S a b))) : r x y H Q := by
  cases e : g S a b with
  | none => simp only [e, stepO] at hp; exact hp.elim
  | some p =>
    simp only [e, stepO] at hp
    exact ho F G l S H a b p.1 p.2 x y Q hr ha hb e hp
theorem chain_wp {K : PySem.W.Frag} {r r' : R2} {g g' : G2} {fa fb fc : Sem D} (ho : OpD K T r g) (ho' : OpD K T r' g') {σ : St} {H : Hp} {Q : VK} (h : wp K T W (rE K) (chainE g g' fa fb fc) σ H Q) :
    tChain r r' (wp K T W (rE K) fa) (wp K T W (rE K) fb) (wp K T W (rE K) fc) σ H Q := by
  obtain ⟨F, G, l, r0, S, hr, hs, hp⟩ := h
  refine wp_step hr hs hp fun F1 l1 S1 a x H1 lt1 hs1 ha hp1 => ?_
  refine wp_step lt1.rel hs1 hp1 fun F2 l2 S2 b y H2 lt2 hs2 hb hp2 => ?_
  have ha2 := At.mono lt2.le lt2.pre _ _ ha
  have fin : ∀ (q : D × Store), g S2 a b = some q → ∀ F' l' H' v, Later K T F2 G l2 F' l' q.2 H' → At K F' l' q.1 v → (∃ k, v = .bl k ∧ (if k = true then wp K T W (rE K) fc σ H' fun w' H4 => r' y w' H4 Q else Q (.bl false) H')) := by
    intro q hq F' l' H' v lt3 hv
    unfold bindO at hp2
    simp only [hq, stepO] at hp2
    obtain ⟨d, S3⟩ := q
    cases d with
    | bl b' =>
      have hv : v = .bl b' := hv
      refine ⟨b', hv, ?_⟩
      cases b' with
      | false => exact hp2 F' l' H' _ lt3 rfl
      | true =>
        have hp3 : PostG K T W (rE K) F2 G l2 σ Q (bindO fc (fun c => fun _ S => stepO (g' S b c)) r0 S3) := hp2
        refine wp_step lt3.rel (hs2.mono lt3.le lt3.pre) (hp3.later lt3) fun F4 l4 S4 c z H4 lt4 hs4 hc hp4 => ?_
        exact opD_run ho' lt4.rel (At.mono (lt3.le.trans lt4.le) (lt3.pre.trans lt4.pre) _ _ hb) hc hp4
    | _ => exact hp2.elim
  cases e : g S2 a b with
  | none =>
    unfold bindO at hp2
    simp only [e, stepO] at hp2
    exact hp2.elim
  | some q => exact ho F2 G l2 S2 H2 a b q.1 q.2 x y _ lt2.rel ha2 hb e (fin q e)
theorem pd_chain {op op' : CmpOp} {r r' : R2} {g g' : G2} {fa fb fc : Sem D} {c : Expr} (hr : OpR X (compareOp op) r) (hr' : OpR X (compareOp op') r') (ho : OpD X.K T r g) (ho' : OpD X.K T r' g') (ha : PD X T W a fa) (hb : PD X T W b fb) (hc : PD X T W c fc)
    (hm : lastMarks [op, op'] [b, c] = false := by with_unfolding_all rfl) : PD X T W (.Compare a [op, op'] [b, c] pos) (chainE g g' fa fb fc) :=
  PE.imp (pe_chain hr hr' ha hb hc hm) fun _ _ _ h => chain_wp ho ho' h
theorem pt_chain' {op op' : CmpOp} {r r' : R2} {g g' : G2} {fa fb fc : Sem D} {c : Expr} (hr : OpR X (compareOp op) r) (hr' : OpR X (compareOp op') r') (ho : OpD X.K T r g) (ho' : OpD X.K T r' g') (ha : PD X T W a fa) (hb : PD X T W b fb) (hc : PD X T W c fc)
    (hm : lastMarks [op, op'] [b, c] = false := by with_unfolding_all rfl) : PDT X T W (.Compare a [op, op'] [b, c] pos) (testE (chainE g g' fa fb fc)) :=
  PT.imp (pt_chain hr hr' ha hb hc hm) fun σ H Q q => chain_wp ho ho' (toB_wp q)

/-! ### and, or, not, if -/
def andT (f g : Sem Bool) : Sem Bool := bindO f fun b => if b = true then g else retO false
def orT (f g : Sem Bool) : Sem Bool := bindO f fun b => if b = true then retO true else g
def notT (f : Sem Bool) : Sem Bool := bindO f fun b => retO (!b)
def ifE {α : Type} (c : Sem Bool) (f g : Sem α) : Sem α := bindO c fun b => if b = true then f else g
theorem if_wp {α β : Type} {K : PySem.W.Frag} {rl : Rl α β} {c : Sem Bool} {f g : Sem α} {σ : St} {H : Hp} {Q : β → Hp → Prop} (h : wp K T W rl (ifE c f g) σ H Q) :
    wp K T W rT c σ H fun b H1 => if b = true then wp K T W rl f σ H1 Q else wp K T W rl g σ H1 Q := by
  obtain ⟨F, G, l, r0, S, hr, hs, hp⟩ := h
  refine wp_step hr hs hp fun F1 l1 S1 a x H1 lt1 hs1 ha hp1 => ?_
  have ha : x = a := ha
  subst ha
  cases x with
  | true => exact ⟨F1, G, l1, r0, S1, lt1.rel, hs1, hp1⟩
  | false => exact ⟨F1, G, l1, r0, S1, lt1.rel, hs1, hp1⟩
theorem ret_wp {α β : Type} {K : PySem.W.Frag} {rl : Rl α β} {v : α} {x : β} {σ : St} {H : Hp} {Q : β → Hp → Prop} (hx : ∀ F l, rl F l v x) (h : wp K T W rl (retO v) σ H Q) : Q x H := by
  obtain ⟨F, G, l, r0, S, hr, hs, hp⟩ := h
  exact hp F l H x (Later.refl hr) (hx F l)
theorem pd_if {c : Expr} {fc : Sem Bool} {fa fb : Sem D} (hc : PDT X T W c fc) (ha : PD X T W a fa) (hb : PD X T W b fb) : PD X T W (.IfExp c a b pos) (ifE fc fa fb) :=
  PE.imp (pe_ifExp hc ha hb) fun _ _ _ h => if_wp h
theorem andT_wp {K : PySem.W.Frag} {f g : Sem Bool} {σ : St} {H : Hp} {Q : Bool → Hp → Prop} (h : wp K T W rT (andT f g) σ H Q) : tAnd (wp K T W rT f) (wp K T W rT g) σ H Q := by
  have := if_wp (c := f) (f := g) (g := retO false) h
  unfold tAnd
  obtain ⟨F, G, l, r0, S, hr, hs, hp⟩ := this
  refine ⟨F, G, l, r0, S, hr, hs, ?_⟩
  cases e : f r0 S with
  | ok b S1 =>
    rw [e] at hp
    intro F' l' H' x lt hx
    have := hp F' l' H' x lt hx
    cases x with
    | true => exact this
    | false => exact ret_wp (rl := rT) (x := false) (fun _ _ => rfl) this
  | err c S1 => rw [e] at hp; exact hp
  | stuck => rw [e] at hp; exact hp
theorem orT_wp {K : PySem.W.Frag} {f g : Sem Bool} {σ : St} {H : Hp} {Q : Bool → Hp → Prop} (h : wp K T W rT (orT f g) σ H Q) : tOr (wp K T W rT f) (wp K T W rT g) σ H Q := by
  have := if_wp (c := f) (f := retO true) (g := g) h
  unfold tOr
  obtain ⟨F, G, l, r0, S, hr, hs, hp⟩ := this
  refine ⟨F, G, l, r0, S, hr, hs, ?_⟩
  cases e : f r0 S with
  | ok b S1 =>
    rw [e] at hp
    intro F' l' H' x lt hx
    have := hp F' l' H' x lt hx
    cases x with
    | true => exact ret_wp (rl := rT) (x := true) (fun _ _ => rfl) this
    | false => exact this
  | err c S1 => rw [e] at hp; exact hp
  | stuck => rw [e] at hp; exact hp
theorem notT_wp {K : PySem.W.Frag} {f : Sem Bool} {σ : St} {H : Hp} {Q : Bool → Hp → Prop} (h : wp K T W rT (notT f) σ H Q) : tNot (wp K T W rT f) σ H Q := by
  obtain ⟨F, G, l, r0, S, hr, hs, hp⟩ := h
  refine wp_step hr hs hp fun F1 l1 S1 a x H1 lt1 hs1 ha hp1 => ?_
  have ha : x = a := ha
  subst ha
  exact hp1 F1 l1 H1 _ (Later.refl lt1.rel) rfl
variable {rest : List Expr}
theorem pw_and1' {f : Sem Bool} (h : PDT X T W a f) : PDW X T W (.BoolOp .And [a] pos) f := pw_and1 h
theorem pw_or1' {f : Sem Bool} (h : PDT X T W a f) : PDW X T W (.BoolOp .Or [a] pos) f := pw_or1 h
theorem pw_and' {f g : Sem Bool} (h : PDT X T W a f) (h2 : PDW X T W (.BoolOp .And (b :: rest) pos) g) : PDW X T W (.BoolOp .And (a :: b :: rest) pos) (andT f g) := PW.imp (pw_and h h2) fun _ _ _ q => andT_wp q
theorem pw_or' {f g : Sem Bool} (h : PDT X T W a f) (h2 : PDW X T W (.BoolOp .Or (b :: rest) pos) g) : PDW X T W (.BoolOp .Or (a :: b :: rest) pos) (orT f g) := PW.imp (pw_or h h2) fun _ _ _ q => orT_wp q
theorem pt_w {f : Sem Bool} (h : PDW X T W e f) : PDT X T W e f := PW.pt h
theorem pt_not' {f : Sem Bool} (h : PDT X T W a f) : PDT X T W (.UnaryOp .Not a pos) (notT f) := PT.imp (pt_not h) fun _ _ _ q => notT_wp q
/-- as values: all of them truths -/
def andE (f g : Sem D) : Sem D := bindO f fun b => match b with
  | .bl true => g
  | .bl false => retO (.bl false)
  | _ => fun _ _ => .stuck
def orE (f g : Sem D) : Sem D := bindO f fun b => match b with
  | .bl false => g
  | .bl true => retO (.bl true)
  | _ => fun _ _ => .stuck
def notE (f : Sem D) : Sem D := bindO f fun b => match b with
  | .bl b => retO (.bl (!b))
  | _ => fun _ _ => .stuck
theorem pd_one {op : BoolOp} {f : Sem D} (h : PD X T W a f) : PD X T W (.BoolOp op [a] pos) f := pe_one h
theorem pd_and {f g : Sem D} (h : PD X T W a f) (h2 : PD X T W (.BoolOp .And (b :: rest) pos) g) : PD X T W (.BoolOp .And (a :: b :: rest) pos) (andE f g) := PE.imp (pe_and h h2) fun σ H Q q => by
  obtain ⟨F, G, l, r0, S, hr, hs, hp⟩ := q
  refine wp_step hr hs hp fun F1 l1 S1 a x H1 lt1 hs1 ha hp1 => ?_
  cases a with
  | bl b =>
    have ha : x = .bl b := ha
    refine ⟨b, ha, ?_⟩
    cases b with
    | true => exact ⟨F1, G, l1, r0, S1, lt1.rel, hs1, hp1⟩
    | false => exact hp1 F1 l1 H1 _ (Later.refl lt1.rel) rfl
  | _ => exact hp1.elim
theorem pd_or {f g : Sem D} (h : PD X T W a f) (h2 : PD X T W (.BoolOp .Or (b :: rest) pos) g) : PD X T W (.BoolOp .Or (a :: b :: rest) pos) (orE f g) := PE.imp (pe_or h h2) fun σ H Q q => by
  obtain ⟨F, G, l, r0, S, hr, hs, hp⟩ := q
  refine wp_step hr hs hp fun F1 l1 S1 a x H1 lt1 hs1 ha hp1 => ?_
  cases a with
  | bl b =>
    have ha : x = .bl b := ha
    refine ⟨b, ha, ?_⟩
    cases b with
    | true => exact hp1 F1 l1 H1 _ (Later.refl lt1.rel) rfl
    | false => exact ⟨F1, G, l1, r0, S1, lt1.rel, hs1, hp1⟩
  | _ => exact hp1.elim
theorem pd_not {f : Sem D} (h : PD X T W a f) : PD X T W (.UnaryOp .Not a pos) (notE f) := PE.imp (pe_not h) fun σ H Q q => by
  obtain ⟨F, G, l, r0, S, hr, hs, hp⟩ := q
  refine wp_step hr hs hp fun F1 l1 S1 a x H1 lt1 hs1 ha hp1 => ?_
  cases a with
  | bl b =>
    have ha : x = .bl b := ha
    exact ⟨b, ha, hp1 F1 l1 H1 _ (Later.refl lt1.rel) rfl⟩
  | _ => exact hp1.elim
/-- one operand -/
def op1 (g : Store → D → Option D) (f : Sem D) : Sem D := bindO f fun a => fun _ S => match g S a with
  | some d => .ok d S
  | none => .stuck
theorem pd_neg {f : Sem D} (h : PD X T W a f) : PD X T W (.UnaryOp .USub a pos) (op1 (fun _ d => match d with
    | .int i => some (.int (-i))
    | _ => none) f) := PE.imp (pe_un un_neg h) fun σ H Q q => by
  obtain ⟨F, G, l, r0, S, hr, hs, hp⟩ := q
  refine wp_step hr hs hp fun F1 l1 S1 a x H1 lt1 hs1 ha hp1 => ?_
  cases a with
  | int b =>
    have ha : x = .int b := ha
    exact ⟨b, ha, hp1 F1 l1 H1 _ (Later.refl lt1.rel) rfl⟩
  | _ => exact hp1.elim

/-! ### lists of expressions, displays -/
def nilA : Sem (List D) := retO []
def consA (f : Sem D) (g : Sem (List D)) : Sem (List D) := bindO f fun a => bindO g fun as => retO (a :: as)
theorem pda_nil : PDA X T W [] nilA := PA.imp pa_nil fun σ H Q ⟨F, G, l, r0, S, hr, hs, hp⟩ => hp F l H [] (Later.refl hr) rfl
theorem pda_cons {f : Sem D} {g : Sem (List D)} {es : List Expr} (h : PD X T W e f) (h2 : PDA X T W es g) (hs : starEach (e :: es) X.env = (false, eval e X.env) :: starEach es X.env := by rfl) : PDA X T W (e :: es) (consA f g) := PA.imp (pa_cons h h2 hs) fun σ H Q q => by
  obtain ⟨F, G, l, r0, S, hr, hs, hp⟩ := q
  refine wp_step hr hs hp fun F1 l1 S1 a x H1 lt1 hs1 ha hp1 => ?_
  refine wp_step lt1.rel hs1 hp1 fun F2 l2 S2 b y H2 lt2 hs2 hb hp2 => ?_
  exact hp2 F2 l2 H2 _ (Later.refl lt2.rel) ⟨x, y, rfl, At.mono lt2.le lt2.pre _ _ ha, hb⟩
def tupE (f : Sem (List D)) : Sem D := bindO f fun ds => if ds.length ≤ 100000 then retO (.tup ds) else fun _ _ => .stuck
def lstE (f : Sem (List D)) : Sem D := bindO f fun ds => if ds.length ≤ 100000 then retO (.lst ds) else fun _ _ => .stuck
/-- a list as a new cell -/
def newCell (ds : List D) : Sem D := fun _ S => if ds.length ≤ 100000 then .ok (.loc S.length) (S ++ [.lst ds]) else .stuck
def lstC (f : Sem (List D)) : Sem D := bindO f newCell
theorem sz_of {n : Nat} (h : n ≤ 100000) : n ≤ sizeLine := Nat.le_trans h (by decide)
theorem pd_tup {x1} {es : List Expr} {f : Sem (List D)} (h : PDA X T W es f) : PD X T W (.Tuple es x1 pos) (tupE f) := PE.imp (pe_tup h) fun σ H Q q => by
  obtain ⟨F, G, l, r0, S, hr, hs, hp⟩ := q
  refine wp_step hr hs hp fun F1 l1 S1 a x H1 lt1 hs1 ha hp1 => ?_
  by_cases hl : a.length ≤ 100000
  · rw [if_pos hl] at hp1
    refine ⟨by rw [ha.length]; exact sz_of hl, fun p hpn => ?_⟩
    have h2 := lt1.rel.newF (o := .tup x) hpn
    refine hp1 _ l1 _ _ ⟨Le.new (lt1.rel.fnone hpn), Pre.refl _, h2⟩ ?_
    exact ⟨p, x, rfl, upd_same, sz_of hl, AtL.mono (Le.new (lt1.rel.fnone hpn)) (Pre.refl _) _ _ ha⟩
  · rw [if_neg hl] at hp1; exact hp1.elim
theorem newList_frozen {K : PySem.W.Frag} {F G H : Hp} {l : List Addr} {S : Store} {ds : List D} {vs : List V} {σ : St} {Q : VK} {p : Addr} (hr : HRel K T F G l S H) (ha : AtL K F l ds vs) (hl : ds.length ≤ sizeLine)
    (hp : PostG K T W (rE K) F G l σ Q (.ok (.lst ds) S)) (hpn : H p = none) : Q (.ref p) (upd H p (.lst vs)) := by
  have h2 := hr.newF (o := .lst vs) hpn
  refine hp _ l _ _ ⟨Le.new (hr.fnone hpn), Pre.refl _, h2⟩ ?_
  exact ⟨p, vs, rfl, upd_same, hl, AtL.mono (Le.new (hr.fnone hpn)) (Pre.refl _) _ _ ha⟩
theorem newList_cell {K : PySem.W.Frag} {F G H : Hp} {l : List Addr} {S : Store} {ds : List D} {vs : List V} {σ : St} {Q : VK} {p : Addr} (hr : HRel K T F G l S H) (ha : AtL K F l ds vs) (hl : ds.length ≤ sizeLine)
    (hp : PostG K T W (rE K) F G l σ Q (.ok (.loc S.length) (S ++ [.lst ds]))) (hpn : H p = none) : Q (.ref p) (upd H p (.lst vs)) := by
  have h2 := hr.newC (o := .lst vs) (c := .lst ds) hpn rfl ⟨hr.fnone hpn, hl, vs, upd_same, AtL.mono (Le.refl F) (Pre.app _ _) _ _ ha⟩
  refine hp _ _ _ _ ⟨Le.refl F, Pre.app _ _, h2⟩ ⟨p, ?_, rfl⟩
  rw [← hr.len]; simp
theorem pd_lst {es : List Expr} {f : Sem (List D)} (h : PDA X T W es f) : PD X T W (.List es pos) (lstE f) := PE.imp (pe_lst h) fun σ H Q q => by
  obtain ⟨F, G, l, r0, S, hr, hs, hp⟩ := q
  refine wp_step hr hs hp fun F1 l1 S1 a x H1 lt1 hs1 ha hp1 => ?_
  by_cases hl : a.length ≤ 100000
  · rw [if_pos hl] at hp1
    exact ⟨by rw [ha.length]; exact sz_of hl, fun p hpn => newList_frozen lt1.rel ha (sz_of hl) hp1 hpn⟩
  · rw [if_neg hl] at hp1; exact hp1.elim
theorem pd_lstC {es : List Expr} {f : Sem (List D)} (h : PDA X T W es f) : PD X T W (.List es pos) (lstC f) := PE.imp (pe_lst h) fun σ H Q q => by
  obtain ⟨F, G, l, r0, S, hr, hs, hp⟩ := q
  refine wp_step hr hs hp fun F1 l1 S1 a x H1 lt1 hs1 ha hp1 => ?_
  unfold newCell at hp1
  by_cases hl : a.length ≤ 100000
  · rw [if_pos hl] at hp1
    exact ⟨by rw [ha.length]; exact sz_of hl, fun p hpn => newList_cell lt1.rel ha (sz_of hl) hp1 hpn⟩
  · rw [if_neg hl] at hp1; exact hp1.elim
end
end Aw

/-! Aw3: what is walked, comprehensions, statements. -/
namespace Aw
open PySem L2 LamX

/-! ### targets -/
inductive Tgt where
  | one (i : Nat) | many (is : List Nat)
def setMany : List Nat → List D → Env → Env
  | i :: is, d :: ds, r => setMany is ds (r.set i (some d))
  | _, _, r => r
def Tgt.set : Tgt → D → Env → Option Env
  | .one i, d, r => some (r.set i (some d))
  | .many is, .tup ds, r => if ds.length = is.length then some (setMany is ds r) else none
  | .many _, _, _ => none
def Tgt.slots : Tgt → List Nat
  | .one i => [i]
  | .many is => is
def gMany : List Nat → TGs
  | [] => gNil
  | i :: is => gCons (gName i) (gMany is)
def Tgt.rd (K : PySem.W.Frag) : Tgt → TG
  | .one i => gName i
  | .many is => gTup K is.length (gMany is)
def wipeD (r : Env) : List Nat → Env
  | [] => r
  | v :: vs => (wipeD r vs).set v none
section
variable {K : PySem.W.Frag} {F F' G H H' : Hp} {l l' : List Addr} {S S' : Store} {r r' : Env} {σ : St}
theorem Sl.unset (h : Sl K F l r σ) (i : Nat) : Sl K F l (r.set i none) (σ.set i none) := by
  refine ⟨by simp [h.1], fun j e q => ?_⟩
  by_cases hj : i = j
  · subst hj
    by_cases hi : i < r.length
    · rw [List.getElem?_set_self hi] at q; cases q
    · rw [List.getElem?_eq_none (by simp; omega)] at q; cases q
  · rw [List.getElem?_set_ne hj] at q
    obtain ⟨w, q1, q2⟩ := h.2 j e q
    exact ⟨w, by rw [List.getElem?_set_ne hj]; exact q1, q2⟩
theorem Sl.wipe (h : Sl K F l r σ) : ∀ vs : List Nat, Sl K F l (wipeD r vs) (L2.wipe σ vs)
  | [] => h
  | v :: vs => (Sl.wipe h vs).unset v
theorem set_none_set {α : Type} (xs : List (Option α)) (i : Nat) (x : Option α) : (xs.set i x).set i none = xs.set i none := by
  simp
theorem wipe_set {σ : St} {i : Nat} {x : Option V} : ∀ {vs : List Nat}, i ∈ vs → L2.wipe (σ.set i x) vs = L2.wipe σ vs := by
  have comm : ∀ (vs : List Nat) (σ : St), i ∉ vs → L2.wipe (σ.set i x) vs = (L2.wipe σ vs).set i x := by
    intro vs
    induction vs with
    | nil => intro σ _; rfl
    | cons v vs ih =>
      intro σ hn
      simp only [List.mem_cons, not_or] at hn
      show (L2.wipe (σ.set i x) vs).set v none = ((L2.wipe σ vs).set v none).set i x
      rw [ih σ hn.2, List.set_comm _ _ hn.1]
  intro vs
  induction vs with
  | nil => intro h; simp at h
  | cons v vs ih =>
    intro h
    show (L2.wipe (σ.set i x) vs).set v none = (L2.wipe σ vs).set v none
    by_cases hm : i ∈ vs
    · rw [ih hm]
    · have e : i = v := by simpa [hm] using h
      subst e
      rw [comm vs σ hm, set_none_set]
theorem many_rd {Q : St → Hp → Prop} : ∀ {is : List Nat} {ds : List D} {vs : List V} {r : Env} {σ : St}, AtL K F l ds vs → ds.length = is.length → Sl K F l r σ →
    (∀ σ', Sl K F l (setMany is ds r) σ' → (∀ ws : List Nat, (∀ i ∈ is, i ∈ ws) → L2.wipe σ' ws = L2.wipe σ ws) → Q σ' H) → gMany is vs σ H Q
  | [], [], vs, r, σ, ha, _, hs, k => by
    cases ha
    exact ⟨rfl, k σ hs fun _ _ => rfl⟩
  | [], d :: ds, _, _, _, _, e, _, _ => by simp at e
  | i :: is, [], _, _, _, _, e, _, _ => by simp at e
  | i :: is, d :: ds, vs, r, σ, ha, e, hs, k => by
    obtain ⟨v, vs', rfl, h1, h2⟩ := ha
    refine ⟨v, vs', rfl, ?_⟩
    refine many_rd h2 (by simpa using e) (hs.set h1 i) fun σ' hs' hw => k σ' hs' fun ws hws => ?_
    rw [hw ws fun j hj => hws j (List.mem_cons_of_mem _ hj), wipe_set (hws i List.mem_cons_self)]
theorem wipe_get {σ : St} {i : Nat} : ∀ (vs : List Nat), (L2.wipe σ vs)[i]? = if i ∈ vs ∧ i < σ.length then some none else σ[i]?
  | [] => by simp [L2.wipe]
  | v :: vs => by
    show ((L2.wipe σ vs).set v none)[i]? = _
    rw [List.getElem?_set, wipe_length, wipe_get vs]
    by_cases hv : v = i
    · subst hv
      by_cases hl : v < σ.length
      · simp [hl]
      · simp [hl]
    · simp [hv, Ne.symm hv]
theorem wipe_wipe (σ : St) (vs : List Nat) : L2.wipe (L2.wipe σ vs) vs = L2.wipe σ vs := by
  apply List.ext_getElem?
  intro i
  rw [wipe_get, wipe_length, wipe_get]
  split <;> simp_all
theorem Tgt.run {T : List (Addr × Str)} {t : Tgt} {d : D} {v : V} {Q : St → Hp → Prop} (hr : HRel K T F G l S H) (hs : Sl K F l r σ) (hv : At K F l d v) (e : t.set d r = some r')
    (k : ∀ σ', Sl K F l r' σ' → (∀ ws : List Nat, (∀ i ∈ t.slots, i ∈ ws) → L2.wipe σ' ws = L2.wipe σ ws) → Q σ' H) : t.rd K v σ H Q := by
  cases t with
  | one i =>
    cases e
    exact k _ (hs.set hv i) fun ws hws => wipe_set (hws i (by simp [Tgt.slots]))
  | many is =>
    cases d with
    | tup ds =>
      simp only [Tgt.set] at e
      split at e
      · rename_i hl
        cases e
        obtain ⟨a, vs, rfl, h1, _, h3⟩ := hv
        refine ⟨a, vs, rfl, .of (hr.fz _ _ h1), by rw [h3.length, hl], ?_⟩
        exact many_rd h3 hl hs k
      · cases e
    | _ => cases e
theorem pg_many_nil {X : Cx} : PGs X [] (gMany []) := pgs_nil
end
section
variable {X : Cx} {T : List (Addr × Str)} {W : WX} {k : Nat} {pos : Pos} {e : Expr} {es : List Expr}
/-- one name -/
theorem tg_one (i : Nat) {x : Str} (hN : X.N.Nodup) (hi : X.N[i]? = some x := by rfl) (hx : Loc X.env.scope x := by first | exact Or.inl rfl | exact Or.inr rfl)
    (hf : X.fn x = true ∨ X.env.scope.names.lookup x = some .local := by first | exact .inl rfl | exact .inr rfl) : PG X (.Name x pos) ((Tgt.one i).rd X.K) := pg_name hN hi hx hf
theorem tgs_nil : PGs X [] (gMany []) := pgs_nil
theorem tgs_cons {i : Nat} {is : List Nat} (h : PG X e ((Tgt.one i).rd X.K)) (h2 : PGs X es (gMany is)) (hs : (assignEach (e :: es) X.env).map (·.2) = assign e X.env :: (assignEach es X.env).map (·.2) := by rfl) : PGs X (e :: es) (gMany (i :: is)) := pgs_cons h h2 hs
theorem tg_many {is : List Nat} {k : Nat} (hc : X.calm = true) (h : PGs X es (gMany is)) (hn : (assignEach es X.env).length = is.length := by rfl) (hst : (assignEach es X.env).findIdx? (·.1) = none := by rfl) : PG X (.Tuple es k pos) ((Tgt.many is).rd X.K) := pg_tup hc h hn hst
end

/-! ### what is walked -/
structure ItOk (K : PySem.W.Frag) (T : List (Addr × Str)) (J : It) (F : Hp) (l : List Addr) (ds : List D) : Prop where
  go : ∀ F1 G1 l1 S1 H1 i, Le F F1 → Pre l l1 → HRel K T F1 G1 l1 S1 H1 → i < ds.length → J.go i H1
  stop : ∀ F1 G1 l1 S1 H1, Le F F1 → Pre l l1 → HRel K T F1 G1 l1 S1 H1 → J.stop ds.length H1
  yld : ∀ F1 G1 l1 S1 H1 i x H2, Le F F1 → Pre l l1 → HRel K T F1 G1 l1 S1 H1 → i < ds.length → J.yld i H1 x H2 → ∃ F2 d, Later K T F1 G1 l1 F2 l1 S1 H2 ∧ ds[i]? = some d ∧ At K F2 l1 d x
def PostI (K : PySem.W.Frag) (T : List (Addr × Str)) (W : WX) (F G : Hp) (l : List Addr) (σ : St) (R : It → Hp → Prop) : Out (List D) → Prop
  | .ok ds S' => ∀ F' l' H' J, Later K T F G l F' l' S' H' → ItOk K T J F' l' ds → R J H'
  | .err c S' => ∀ F' l' H', Later K T F G l F' l' S' H' → W (exV K c) none σ H'
  | .stuck => False
def wpI (K : PySem.W.Frag) (T : List (Addr × Str)) (W : WX) (f : Sem (List D)) : TI := fun σ H R =>
  ∃ F G l r S, HRel K T F G l S H ∧ Sl K F l r σ ∧ PostI K T W F G l σ R (f r S)
theorem PostI.later {K : PySem.W.Frag} {T : List (Addr × Str)} {W : WX} {F G F1 H1 : Hp} {l l1 : List Addr} {S1 : Store} {σ : St} {R : It → Hp → Prop} (a : Later K T F G l F1 l1 S1 H1) : ∀ {o : Out (List D)}, PostI K T W F G l σ R o → PostI K T W F1 G l1 σ R o
  | .ok _ _, h => fun F' l' H' b e q => h F' l' H' b (a.trans e) q
  | .err _ _, h => fun F' l' H' e => h F' l' H' (a.trans e)
  | .stuck, h => h
def PDI (X : Cx) (T : List (Addr × Str)) (W : WX) (tg iter : Expr) (f : Sem (List D)) : Prop := PI X tg iter (wpI X.K T W f)
theorem PI.imp {X : Cx} {tg iter : Expr} {t t' : TI} (h : PI X tg iter t) (k : ∀ σ H R, t' σ H R → t σ H R) : PI X tg iter t' := ⟨fun pins s σ H R I q => h.run pins s σ H R I (k σ H R q)⟩
section
variable {α β γ δ : Type} {K : PySem.W.Frag} {T : List (Addr × Str)} {W : WX} {σ : St} {H : Hp}
/-- the first step ahead of a walk -/
theorem wpI_step {rl : Rl α β} {f : Sem α} {g : α → Sem (List D)} {R : It → Hp → Prop} {Q1 : β → Hp → Prop} {F G : Hp} {l : List Addr} {r : Env} {S : Store} (hr : HRel K T F G l S H) (hs : Sl K F l r σ)
    (hp : PostI K T W F G l σ R (bindO f g r S))
    (k : ∀ F' l' S' a b H', Later K T F G l F' l' S' H' → Sl K F' l' r σ → rl F' l' a b → PostI K T W F' G l' σ R (g a r S') → Q1 b H') : wp K T W rl f σ H Q1 := by
  refine ⟨F, G, l, r, S, hr, hs, ?_⟩
  unfold bindO at hp
  cases e : f r S with
  | ok a S' =>
    rw [e] at hp
    exact fun F' l' H' b lt q => k F' l' S' a b H' lt (hs.mono lt.le lt.pre) q (hp.later lt)
  | err c S' => rw [e] at hp; exact hp
  | stuck => rw [e] at hp; exact hp
end
section
variable {X : Cx} {T : List (Addr × Str)} {W : WX} {k : Nat} {pos p : Pos} {e tg : Expr} {es : List Expr}
def asSeq (S : Store) : D → Sem (List D)
  | .lst ds => retO ds
  | .tup ds => retO ds
  | .scr ns => retO (ns.map D.int)
  | _ => fun _ _ => .stuck
/-- a list or a tuple -/
def iSeq (K : PySem.W.Frag) (tl : TE) : TI := fun σ H R => tl σ H fun x H1 => ∃ a, x = .ref a ∧ (((∃ xs, SqL K H1 a xs) ∧ R (Itl K a) H1) ∨ ((∃ xs, SqT K H1 a xs) ∧ R (Itt K a) H1))
theorem pi_seq {tl : TE} (hl : PE X e tl) : PI X tg e (iSeq X.K tl) := by
  refine ⟨fun pins s σ H R I h => ?_⟩
  refine thn (hl.run pins s σ H _ I h) fun v s1 q0 => ?_
  obtain ⟨x, H1, I1, r1, a, rfl, q⟩ := q0
  cases r1
  rcases q with ⟨⟨xs, hq⟩, q⟩ | ⟨⟨xs, hq⟩, q⟩
  · obtain ⟨its, rv, pl, hz⟩ := I1.list hq
    refine wpAny_pyIter_list pl.isList ⟨s1.heap.objs.size, [s1.heap.objs.size], _, _, H1, rfl, I1.kept (t' := s1.toks) fun b o ho => Heap.get?_push_of_some _ ho, turn_list a _, ⟨_, Heap.get?_push_size _ rfl, rfl, rfl⟩, ?_, q⟩
    intro b hb
    cases List.mem_singleton.mp hb
    exact I1.fpOk (Nat.le_refl _) (I1.hok.fresh (Nat.le_refl _))
  · obtain ⟨its, rv, pl, hz⟩ := I1.tuple hq
    refine wpAny_pyIter_tuple (show s1.heap.IsTuple a its.toArray from pl) ⟨s1.heap.objs.size, [s1.heap.objs.size], _, _, H1, rfl, I1.kept (t' := s1.toks) fun b o ho => Heap.get?_push_of_some _ ho, turn_tuple a _, ⟨_, Heap.get?_push_size _ rfl, rfl, rfl⟩, ?_, q⟩
    intro b hb
    cases List.mem_singleton.mp hb
    exact I1.fpOk (Nat.le_refl _) (I1.hok.fresh (Nat.le_refl _))
theorem itok_list {K : PySem.W.Frag} {F : Hp} {l : List Addr} {ds : List D} {vs : List V} {a : Addr} (h : SqL K F a vs) (ha : AtL K F l ds vs) : ItOk K T (Itl K a) F l ds where
  go := fun F1 G1 l1 S1 H1 i e p hr hi => ⟨vs, vs[i]'(by rw [ha.length]; exact hi), sql_le (e.trans hr.fz) h, List.getElem?_eq_getElem _⟩
  stop := fun F1 G1 l1 S1 H1 e p hr => ⟨vs, sql_le (e.trans hr.fz) h, by rw [ha.length]; exact Nat.le_refl _⟩
  yld := fun F1 G1 l1 S1 H1 i x H2 e p hr hi hy => by
    obtain ⟨rfl, hy⟩ := hy
    have hx := hy vs (sql_le (e.trans hr.fz) h)
    obtain ⟨d, h1, h2⟩ := ha.get' hx
    exact ⟨F1, d, Later.refl hr, h1, At.mono e p _ _ h2⟩
theorem itok_tup {K : PySem.W.Frag} {F : Hp} {l : List Addr} {ds : List D} {vs : List V} {a : Addr} (h : SqT K F a vs) (ha : AtL K F l ds vs) : ItOk K T (Itt K a) F l ds where
  go := fun F1 G1 l1 S1 H1 i e p hr hi => ⟨vs, vs[i]'(by rw [ha.length]; exact hi), sqt_le (e.trans hr.fz) h, List.getElem?_eq_getElem _⟩
  stop := fun F1 G1 l1 S1 H1 e p hr => ⟨vs, sqt_le (e.trans hr.fz) h, by rw [ha.length]; exact Nat.le_refl _⟩
  yld := fun F1 G1 l1 S1 H1 i x H2 e p hr hi hy => by
    obtain ⟨rfl, hy⟩ := hy
    have hx := hy vs (sqt_le (e.trans hr.fz) h)
    obtain ⟨d, h1, h2⟩ := ha.get' hx
    exact ⟨F1, d, Later.refl hr, h1, At.mono e p _ _ h2⟩
def itSeq (f : Sem D) : Sem (List D) := bindO f fun d => fun r S => asSeq S d r S
theorem pdi_seq {f : Sem D} (h : PD X T W e f) : PDI X T W tg e (itSeq f) := PI.imp (pi_seq h) fun σ H R q => by
  obtain ⟨F, G, l, r0, S, hr, hs, hp⟩ := q
  refine wpI_step hr hs hp fun F1 l1 S1 a x H1 lt1 hs1 ha hp1 => ?_
  cases a with
  | lst ds =>
    obtain ⟨b, vs, rfl, h1, h2, h3⟩ := ha
    exact ⟨b, rfl, .inl ⟨⟨vs, .of (lt1.rel.fz _ _ h1)⟩, hp1 F1 l1 H1 _ (Later.refl lt1.rel) (itok_list (.of h1) h3)⟩⟩
  | tup ds =>
    obtain ⟨b, vs, rfl, h1, h2, h3⟩ := ha
    exact ⟨b, rfl, .inr ⟨⟨vs, .of (lt1.rel.fz _ _ h1)⟩, hp1 F1 l1 H1 _ (Later.refl lt1.rel) (itok_tup (.of h1) h3)⟩⟩
  | scr ns =>
    obtain ⟨b, rfl, h1, h2⟩ := ha
    exact ⟨b, rfl, .inl ⟨⟨_, sql_le lt1.rel.fz h1⟩, hp1 F1 l1 H1 _ (Later.refl lt1.rel) (itok_list h1 (AtL.ints ns))⟩⟩
  | _ => exact hp1.elim
/-- lo, lo + 1, .. -/
def rangeD (lo : Int) (n : Nat) : List D := (List.range n).map fun i => D.int (lo + (i : Nat))
theorem rangeD_get {lo : Int} {n i : Nat} (h : i < n) : (rangeD lo n)[i]? = some (.int (lo + (i : Nat))) := by
  simp [rangeD, h]
theorem itok_range {K : PySem.W.Frag} {F : Hp} {l : List Addr} {lo : Int} {n : Nat} : ItOk K T (Itr lo n) F l (rangeD lo n) where
  go := fun F1 G1 l1 S1 H1 i e p hr hi => by
    have : i < n := by simpa [rangeD] using hi
    exact this
  stop := fun F1 G1 l1 S1 H1 e p hr => by simp [rangeD, Itr]
  yld := fun F1 G1 l1 S1 H1 i x H2 e p hr hi hy => by
    obtain ⟨rfl, rfl⟩ := hy
    exact ⟨F1, _, Later.refl hr, rangeD_get (by simpa [rangeD] using hi), rfl⟩
def inR (j : Int) : Bool := decide (-(2 ^ 62) ≤ j) && decide (j < 2 ^ 62)
theorem inR_iff {j : Int} (h : inR j = true) : -(2 ^ 62) ≤ j ∧ j < 2 ^ 62 := by simpa [inR] using h
def rangeI1 : List D → Sem (List D)
  | [.int j] => if inR j then retO (rangeD 0 j.toNat) else fun _ _ => .stuck
  | _ => fun _ _ => .stuck
def rangeI2 : List D → Sem (List D)
  | [.int i, .int j] => if inR i && inR j then retO (rangeD i (j - i).toNat) else fun _ _ => .stuck
  | _ => fun _ _ => .stuck
def itRange1 (f : Sem (List D)) : Sem (List D) := bindO f rangeI1
def itRange2 (f : Sem (List D)) : Sem (List D) := bindO f rangeI2
theorem AtL.one {K : PySem.W.Frag} {F : Hp} {l : List Addr} {d : D} {vs : List V} (h : AtL K F l [d] vs) : ∃ v, vs = [v] ∧ At K F l d v := by
  obtain ⟨v, vs', rfl, h1, h2⟩ := h
  cases h2
  exact ⟨v, rfl, h1⟩
theorem AtL.two {K : PySem.W.Frag} {F : Hp} {l : List Addr} {d e : D} {vs : List V} (h : AtL K F l [d, e] vs) : ∃ v w, vs = [v, w] ∧ At K F l d v ∧ At K F l e w := by
  obtain ⟨v, vs', rfl, h1, h2⟩ := h
  obtain ⟨w, rfl, h3⟩ := AtL.one h2
  exact ⟨v, w, rfl, h1, h3⟩
theorem AtL.three {K : PySem.W.Frag} {F : Hp} {l : List Addr} {d e g : D} {vs : List V} (h : AtL K F l [d, e, g] vs) : ∃ v w u, vs = [v, w, u] ∧ At K F l d v ∧ At K F l e w ∧ At K F l g u := by
  obtain ⟨v, vs', rfl, h1, h2⟩ := h
  obtain ⟨w, u, rfl, h3, h4⟩ := AtL.two h2
  exact ⟨v, w, u, rfl, h1, h3, h4⟩
theorem pdi_range1 {f : Sem (List D)} {a : Expr} (hg : Gl X "range") (hm : X.mg "range" = none) (ha : PDA X T W [a] f) (hs : starEach [a] X.env = [(false, eval a X.env)] := by rfl) : PDI X T W tg (.Call (.Name "range" p) [a] [] pos) (itRange1 f) :=
  PI.imp (pi_range1 hg hm ha hs) fun σ H R q => by
  obtain ⟨F, G, l, r0, S, hr, hs, hp⟩ := q
  refine wpI_step hr hs hp fun F1 l1 S1 a x H1 lt1 hs1 ha hp1 => ?_
  unfold rangeI1 at hp1
  split at hp1
  · obtain ⟨v, rfl, h1⟩ := AtL.one ha
    cases h1
    split at hp1
    · rename_i hj
      obtain ⟨j1, j2⟩ := inR_iff hj
      exact ⟨_, rfl, j1, j2, hp1 F1 l1 H1 _ (Later.refl lt1.rel) itok_range⟩
    · exact hp1.elim
  · exact hp1.elim
theorem pdi_range2 {f : Sem (List D)} {a b : Expr} (hg : Gl X "range") (hm : X.mg "range" = none) (ha : PDA X T W [a, b] f) (hs : starEach [a, b] X.env = [(false, eval a X.env), (false, eval b X.env)] := by rfl) (hs2 : starEach [b] X.env = [(false, eval b X.env)] := by rfl) : PDI X T W tg (.Call (.Name "range" p) [a, b] [] pos) (itRange2 f) :=
  PI.imp (pi_range2 hg hm ha hs hs2) fun σ H R q => by
  obtain ⟨F, G, l, r0, S, hr, hs, hp⟩ := q
  refine wpI_step hr hs hp fun F1 l1 S1 a x H1 lt1 hs1 ha hp1 => ?_
  unfold rangeI2 at hp1
  split at hp1
  · obtain ⟨v, w, rfl, h1, h2⟩ := AtL.two ha
    cases h1; cases h2
    split at hp1
    · rename_i hj
      simp only [Bool.and_eq_true] at hj
      obtain ⟨j1, j2⟩ := inR_iff hj.1
      obtain ⟨j3, j4⟩ := inR_iff hj.2
      exact ⟨_, _, rfl, ⟨j1, j2, j3, j4⟩, hp1 F1 l1 H1 _ (Later.refl lt1.rel) itok_range⟩
    · exact hp1.elim
  · exact hp1.elim
/-- enumerate(list) -/
def enumFrom (i : Nat) : List D → List D
  | [] => []
  | d :: ds => .tup [.int (i : Nat), d] :: enumFrom (i + 1) ds
theorem enumFrom_length : ∀ (ds : List D) (i : Nat), (enumFrom i ds).length = ds.length
  | [], _ => rfl
  | d :: ds, i => by simp [enumFrom, enumFrom_length ds]
theorem enumFrom_get : ∀ (ds : List D) (i j : Nat) (d : D), ds[j]? = some d → (enumFrom i ds)[j]? = some (.tup [.int ((i + j : Nat) : Int), d])
  | [], _, _, _, h => by simp at h
  | d :: ds, i, 0, e, h => by simp at h; subst h; rfl
  | d :: ds, i, j + 1, e, h => by
    have := enumFrom_get ds (i + 1) j e (by simpa using h)
    simp only [enumFrom, List.getElem?_cons_succ, this]
    have q : i + 1 + j = i + (j + 1) := by omega
    rw [q]
theorem two_sz {a b : D} : [a, b].length ≤ sizeLine := by show 2 ≤ sizeLine; decide
theorem itok_enum {K : PySem.W.Frag} {F : Hp} {l : List Addr} {ds : List D} {vs : List V} {a : Addr} (h : SqL K F a vs) (ha : AtL K F l ds vs) : ItOk K T (Ite K a) F l (enumFrom 0 ds) where
  go := fun F1 G1 l1 S1 H1 i e p hr hi => ⟨vs, vs[i]'(by rw [ha.length]; rw [enumFrom_length] at hi; exact hi), sql_le (e.trans hr.fz) h, List.getElem?_eq_getElem _⟩
  stop := fun F1 G1 l1 S1 H1 e p hr => ⟨vs, sql_le (e.trans hr.fz) h, by rw [ha.length, enumFrom_length]; exact Nat.le_refl _⟩
  yld := fun F1 G1 l1 S1 H1 i x H2 e p hr hi hy => by
    obtain ⟨q, y, rfl, hq, rfl, hy⟩ := hy
    have hx := hy vs (sql_le (e.trans hr.fz) h)
    obtain ⟨d, h1, h2⟩ := ha.get' hx
    have fq := hr.fnone hq
    refine ⟨upd F1 q (.tup [.int (i : Nat), y]), _, ⟨Le.new fq, Pre.refl _, hr.newF hq⟩, enumFrom_get ds 0 i d h1, q, _, rfl, upd_same, two_sz, ?_⟩
    exact ⟨_, _, rfl, by simp [At], _, _, rfl, At.mono (e.trans (Le.new fq)) p _ _ h2, rfl⟩
def asLst : List D → Sem (List D)
  | [.lst ds] => retO ds
  | _ => fun _ _ => .stuck
def itEnum (f : Sem (List D)) : Sem (List D) := bindO f fun as => bindO (asLst as) fun ds => retO (enumFrom 0 ds)
theorem pdi_enum {elts : List Expr} {kk : Nat} {tpos : Pos} {f : Sem (List D)} (hg : Gl X "enumerate") (hm : X.mg "enumerate" = none) (ha : PDA X T W [e] f) (hs : starEach [e] X.env = [(false, eval e X.env)] := by rfl) : PDI X T W (.Tuple elts kk tpos) (.Call (.Name "enumerate" p) [e] [] pos) (itEnum f) :=
  PI.imp (pi_enum hg hm ha hs) fun σ H R q => by
  obtain ⟨F, G, l, r0, S, hr, hs, hp⟩ := q
  refine wpI_step hr hs hp fun F1 l1 S1 a x H1 lt1 hs1 ha hp1 => ?_
  unfold bindO asLst at hp1
  split at hp1
  · rename_i e1
    split at e1
    · cases e1
      obtain ⟨v, rfl, h1⟩ := AtL.one ha
      obtain ⟨b, vs, rfl, h2, h3, h4⟩ := h1
      exact ⟨b, vs, rfl, .of (lt1.rel.fz _ _ h2), hp1 F1 l1 H1 _ (Later.refl lt1.rel) (itok_enum (.of h2) h4)⟩
    · cases e1
  · rename_i e1
    split at e1 <;> cases e1
  · exact hp1.elim
/-- zip(list, list) -/
def zipD : List D → List D → List D
  | d :: ds, e :: es => .tup [d, e] :: zipD ds es
  | _, _ => []
theorem zipD_length : ∀ (ds es : List D), (zipD ds es).length = min ds.length es.length
  | [], es => by simp [zipD]
  | d :: ds, [] => by simp [zipD]
  | d :: ds, e :: es => by simp [zipD, zipD_length ds es]
theorem zipD_get : ∀ (ds es : List D) (j : Nat) (d e : D), ds[j]? = some d → es[j]? = some e → (zipD ds es)[j]? = some (.tup [d, e])
  | [], _, _, _, _, h, _ => by simp at h
  | d :: ds, [], _, _, _, _, h => by simp at h
  | d :: ds, e :: es, 0, _, _, h, h2 => by simp at h h2; subst h; subst h2; rfl
  | d :: ds, e :: es, j + 1, d', e', h, h2 => by
    have := zipD_get ds es j d' e' (by simpa using h) (by simpa using h2)
    simpa [zipD] using this
theorem itok_zip {K : PySem.W.Frag} {F : Hp} {l : List Addr} {ds es : List D} {vs us : List V} {a b : Addr} (h : SqL K F a vs) (ha : AtL K F l ds vs) (h' : SqL K F b us) (hb : AtL K F l es us) : ItOk K T (Itz K a b) F l (zipD ds es) where
  go := fun F1 G1 l1 S1 H1 i e p hr hi => by
    rw [zipD_length] at hi
    exact ⟨vs, us, vs[i]'(by rw [ha.length]; omega), us[i]'(by rw [hb.length]; omega), sql_le (e.trans hr.fz) h, sql_le (e.trans hr.fz) h', List.getElem?_eq_getElem _, List.getElem?_eq_getElem _⟩
  stop := fun F1 G1 l1 S1 H1 e p hr => ⟨vs, us, sql_le (e.trans hr.fz) h, sql_le (e.trans hr.fz) h', by rw [ha.length, hb.length, zipD_length]; omega⟩
  yld := fun F1 G1 l1 S1 H1 i x H2 e p hr hi hy => by
    obtain ⟨q, y, z, rfl, hq, rfl, hy, hz⟩ := hy
    obtain ⟨d, h1, h2⟩ := ha.get' (hy vs (sql_le (e.trans hr.fz) h))
    obtain ⟨d', h3, h4⟩ := hb.get' (hz us (sql_le (e.trans hr.fz) h'))
    have fq := hr.fnone hq
    refine ⟨upd F1 q (.tup [y, z]), _, ⟨Le.new fq, Pre.refl _, hr.newF hq⟩, zipD_get ds es i d d' h1 h3, q, _, rfl, upd_same, two_sz, ?_⟩
    exact ⟨_, _, rfl, At.mono (e.trans (Le.new fq)) p _ _ h2, _, _, rfl, At.mono (e.trans (Le.new fq)) p _ _ h4, rfl⟩
def asLst2 : List D → Sem (List D × List D)
  | [.lst ds, .lst es] => retO (ds, es)
  | _ => fun _ _ => .stuck
def itZip (f : Sem (List D)) : Sem (List D) := bindO f fun as => bindO (asLst2 as) fun p => retO (zipD p.1 p.2)
theorem pdi_zip {elts : List Expr} {kk : Nat} {tpos : Pos} {e2 : Expr} {f : Sem (List D)} (hg : Gl X "zip") (hm : X.mg "zip" = none) (ha : PDA X T W [e, e2] f)
    (hs : starEach [e, e2] X.env = (false, eval e X.env) :: starEach [e2] X.env := by rfl) (hpl : (backTo pos (starEach [e2] X.env)).any (·.1) = false := by rfl) : PDI X T W (.Tuple elts kk tpos) (.Call (.Name "zip" p) [e, e2] [] pos) (itZip f) :=
  PI.imp (pi_zip hg hm ha hs hpl) fun σ H R q => by
  obtain ⟨F, G, l, r0, S, hr, hs, hp⟩ := q
  refine wpI_step hr hs hp fun F1 l1 S1 a x H1 lt1 hs1 ha hp1 => ?_
  unfold bindO asLst2 at hp1
  split at hp1
  · rename_i e1
    split at e1
    · cases e1
      obtain ⟨v, w, rfl, h1, h2⟩ := AtL.two ha
      obtain ⟨b, vs, rfl, h3, h4, h5⟩ := h1
      obtain ⟨c, us, rfl, h6, h7, h8⟩ := h2
      exact ⟨b, c, vs, us, rfl, .of (lt1.rel.fz _ _ h3), .of (lt1.rel.fz _ _ h6), hp1 F1 l1 H1 _ (Later.refl lt1.rel) (itok_zip (.of h3) h5 (.of h6) h8)⟩
    · cases e1
  · rename_i e1
    split at e1 <;> cases e1
  · exact hp1.elim
/-- reversed(list) -/
theorem itok_rev {K : PySem.W.Frag} {F : Hp} {l : List Addr} {ds : List D} {vs : List V} {a : Addr} (h : SqL K F a vs) (ha : AtL K F l ds vs) : ItOk K T (Itv K a vs.length) F l ds.reverse where
  go := fun F1 G1 l1 S1 H1 i e p hr hi => by
    have e1 := ha.length
    simp only [List.length_reverse] at hi
    exact ⟨by omega, vs, vs[vs.length - 1 - i]'(by omega), sql_le (e.trans hr.fz) h, List.getElem?_eq_getElem _⟩
  stop := fun F1 G1 l1 S1 H1 e p hr => by
    show vs.length ≤ ds.reverse.length
    simp [ha.length]
  yld := fun F1 G1 l1 S1 H1 i x H2 e p hr hi hy => by
    obtain ⟨rfl, hy⟩ := hy
    have hx := hy vs (sql_le (e.trans hr.fz) h)
    obtain ⟨d, h1, h2⟩ := ha.get' hx
    refine ⟨F1, d, Later.refl hr, ?_, At.mono e p _ _ h2⟩
    simp only [List.length_reverse] at hi
    rw [List.getElem?_reverse hi, ← ha.length]
    exact h1
def itRev (f : Sem (List D)) : Sem (List D) := bindO f fun as => bindO (asLst as) fun ds => retO ds.reverse
theorem pdi_rev {f : Sem (List D)} (hg : Gl X "reversed") (hm : X.mg "reversed" = none) (ha : PDA X T W [e] f) (hs : starEach [e] X.env = [(false, eval e X.env)] := by rfl) : PDI X T W tg (.Call (.Name "reversed" p) [e] [] pos) (itRev f) :=
  PI.imp (pi_reversed hg hm ha hs) fun σ H R q => by
  obtain ⟨F, G, l, r0, S, hr, hs, hp⟩ := q
  refine wpI_step hr hs hp fun F1 l1 S1 a x H1 lt1 hs1 ha hp1 => ?_
  unfold bindO asLst at hp1
  split at hp1
  · rename_i e1
    split at e1
    · cases e1
      obtain ⟨v, rfl, h1⟩ := AtL.one ha
      obtain ⟨b, vs, rfl, h2, h3, h4⟩ := h1
      exact ⟨b, vs, rfl, .of (lt1.rel.fz _ _ h2), hp1 F1 l1 H1 _ (Later.refl lt1.rel) (itok_rev (.of h2) h4)⟩
    · cases e1
  · rename_i e1
    split at e1 <;> cases e1
  · exact hp1.elim
end

/-! ### list comprehensions -/
def loopC (t : Tgt) (c : Sem Bool) (e : Sem D) (r : Env) : List D → Store → Out (List D)
  | [], S => .ok [] S
  | d :: ds, S => match t.set d r with
    | none => .stuck
    | some r1 => match c r1 S with
      | .ok false S1 => loopC t c e r ds S1
      | .ok true S1 => match e r1 S1 with
        | .ok x S2 => match loopC t c e r ds S2 with
          | .ok xs S3 => .ok (x :: xs) S3
          | _ => .stuck
        | _ => .stuck
      | _ => .stuck
def compE (it : Sem (List D)) (t : Tgt) (vs : List Nat) (c : Sem Bool) (e : Sem D) : Sem (List D) := bindO it fun ds => fun r S => if ds.length ≤ 100000 then loopC t c e (wipeD r vs) ds S else .stuck
def lcE (it : Sem (List D)) (t : Tgt) (vs : List Nat) (c : Sem Bool) (e : Sem D) : Sem D := bindO (compE it t vs c e) fun xs => retO (.lst xs)
def lcC (it : Sem (List D)) (t : Tgt) (vs : List Nat) (c : Sem Bool) (e : Sem D) : Sem D := bindO (compE it t vs c e) fun xs => fun _ S => .ok (.loc S.length) (S ++ [.lst xs])
def yesT : Sem Bool := retO true
abbrev W0 : WX := fun _ _ _ _ => False
theorem comp_wp {K : PySem.W.Frag} {T : List (Addr × Str)} {W : WX} {it : Sem (List D)} {t : Tgt} {ws : List Nat} {c : Sem Bool} {e : Sem D} {fin : List D → Store → Out D} (hws : ∀ i ∈ t.slots, i ∈ ws)
    (hfin : ∀ {F G : Hp} {H : Hp} {l : List Addr} {S : Store} {xs : List D} {vs : List V} {σ : St} {Q : VK} {p : Addr}, HRel K T F (upd G p (.lst vs)) l S H → G p = none → AtL K F l xs vs → xs.length ≤ sizeLine → PostG K T W (rE K) F G l σ Q (fin xs S) → Q (.ref p) H)
    {σ : St} {H : Hp} {Q : VK} (h : wp K T W (rE K) (bindO (compE it t ws c e) fun xs => fun _ S => fin xs S) σ H Q) :
    tLc (wpI K T W it) (t.rd K) (wp K T W0 rT c) (wp K T W0 (rE K) e) ws σ H Q := by
  obtain ⟨F, G, l, r, S, hr, hs, hp⟩ := h
  refine ⟨F, G, l, r, S, hr, hs, ?_⟩
  unfold bindO compE bindO at hp
  cases e0 : it r S with
  | err c' S' => rw [e0] at hp; exact hp
  | stuck => rw [e0] at hp; exact hp
  | ok ds S0 =>
    rw [e0] at hp
    simp only at hp
    intro F1 l1 H1 J lt1 iok p hpn
    by_cases hlen : ds.length ≤ 100000
    · rw [if_pos hlen] at hp
      have gp : G p = none := lt1.rel.gnone hpn
      let Goal : Hp → List Addr → List D → Out (List D) → Prop := fun F2 l2 acc o => match o with
        | .ok xs S3 => PostG K T W (rE K) F2 G l2 σ Q (fin (acc ++ xs) S3)
        | _ => False
      have goal_mono : ∀ {F2 l2 F3 l3 acc} {o : Out (List D)}, Le F2 F3 → Pre l2 l3 → Goal F2 l2 acc o → Goal F3 l3 acc o := by
        intro F2 l2 F3 l3 acc o le pre g
        cases o with
        | ok xs S3 => exact PostG.mono le pre g
        | _ => exact g
      let Iv : Nat → Hp → Prop := fun i H' => i ≤ ds.length ∧ ∃ F2 l2 S2 acc accV, Le F1 F2 ∧ Pre l1 l2 ∧ HRel K T F2 (upd G p (.lst accV)) l2 S2 H' ∧ AtL K F2 l2 acc accV ∧ acc.length ≤ i ∧ Goal F2 l2 acc (loopC t c e (wipeD r ws) (ds.drop i) S2)
      refine ⟨fun i m H' => m = ds.length - i ∧ Iv i H', ⟨ds.length, by simp, Nat.zero_le _, F1, l1, S0, [], [], Le.refl _, Pre.refl _, lt1.rel.gAdd hpn, rfl, Nat.le_refl _, ?_⟩, ?_⟩
      · simp only [List.drop_zero]
        cases e1 : loopC t c e (wipeD r ws) ds S0 with
        | ok xs S3 =>
          rw [e1] at hp
          exact hp.later lt1
        | err c' S' =>
          -- a comprehension's loop has no such end
          rw [e1] at hp
          exfalso
          have : ∀ (ds : List D) (S : Store) (c' : Ex) (S' : Store), loopC t c e (wipeD r ws) ds S ≠ .err c' S' := by
            intro ds
            induction ds with
            | nil => intro S c' S' h; cases h
            | cons d ds ih =>
              intro S c' S' h
              unfold loopC at h
              split at h
              · cases h
              · split at h
                · exact ih _ _ _ h
                · split at h
                  · split at h <;> cases h
                  · cases h
                · cases h
          exact this _ _ _ _ e1
        | stuck => rw [e1] at hp; exact hp
      · rintro i m H2 ⟨rfl, hi, F2, l2, S2, acc, accV, le2, pre2, hr2, ha2, hacc, hg⟩
        by_cases hlt : i < ds.length
        · refine .inr ⟨iok.go F2 _ l2 S2 H2 i le2 pre2 hr2 hlt, Iv (i + 1), fun H' hN => ⟨ds.length - (i + 1), by omega, rfl, hN⟩, fun x H3 hy => ?_⟩
          obtain ⟨F3, d, lt3, hd, hx⟩ := iok.yld F2 _ l2 S2 H2 i x H3 le2 pre2 hr2 hlt hy
          have hdrop : ds.drop i = d :: ds.drop (i + 1) := by
            rw [List.drop_eq_getElem_cons hlt]
            have : ds[i] = d := by
              rw [List.getElem?_eq_getElem hlt] at hd
              exact Option.some.inj hd
            rw [this]
          rw [hdrop] at hg
          unfold loopC at hg
          cases e1 : t.set d (wipeD r ws) with
          | none => rw [e1] at hg; exact hg.elim
          | some r1 =>
            rw [e1] at hg
            simp only at hg
            have hs3 : Sl K F3 l2 (wipeD r ws) (L2.wipe σ ws) := ((hs.mono (lt1.le.trans (le2.trans lt3.le)) (lt1.pre.trans pre2)).wipe ws)
            refine Tgt.run lt3.rel hs3 hx e1 fun σ2 hs2 hw => ⟨?_, F3, _, l2, r1, S2, lt3.rel, hs2, ?_⟩
            · rw [hw ws hws, wipe_wipe]
            · cases e2 : c r1 S2 with
              | err c' S' => rw [e2] at hg; exact hg.elim
              | stuck => rw [e2] at hg; exact hg.elim
              | ok b S4 =>
                rw [e2] at hg
                intro F4 l4 H4 b' lt4 hb'
                have hb' : b' = b := hb'
                subst hb'
                have leA := lt3.le.trans lt4.le
                cases b' with
                | false => exact ⟨hlt, F4, l4, S4, acc, accV, le2.trans leA, pre2.trans lt4.pre, lt4.rel, AtL.mono leA lt4.pre _ _ ha2, Nat.le_succ_of_le hacc, goal_mono leA lt4.pre hg⟩
                | true =>
                  simp only at hg
                  refine ⟨F4, _, l4, r1, S4, lt4.rel, hs2.mono lt4.le lt4.pre, ?_⟩
                  cases e3 : e r1 S4 with
                  | err c' S' => rw [e3] at hg; exact hg.elim
                  | stuck => rw [e3] at hg; exact hg.elim
                  | ok y S5 =>
                    rw [e3] at hg
                    intro F5 l5 H5 v lt5 hv
                    have leB := leA.trans lt5.le
                    have preB := lt4.pre.trans lt5.pre
                    refine ⟨accV, lt5.rel.gr _ _ upd_same, ?_, hlt, F5, l5, S5, acc ++ [y], accV ++ [v], le2.trans leB, pre2.trans preB, lt5.rel.gSet rfl, (AtL.mono leB preB _ _ ha2).append ⟨v, [], rfl, hv, rfl⟩, by simp; exact hacc, ?_⟩
                    · rw [ha2.length]
                      exact Nat.lt_of_lt_of_le (Nat.lt_of_le_of_lt hacc (Nat.lt_of_lt_of_le hlt hlen)) (by decide)
                    · simp only at hg
                      cases e4 : loopC t c e (wipeD r ws) (ds.drop (i + 1)) S5 with
                      | ok xs S6 =>
                        rw [e4] at hg
                        have hg : PostG K T W (rE K) F2 G l2 σ Q (fin (acc ++ y :: xs) S6) := hg
                        show PostG K T W (rE K) F5 G l5 σ Q (fin ((acc ++ [y]) ++ xs) S6)
                        rw [List.append_assoc]
                        exact PostG.mono leB preB hg
                      | err c' S' => rw [e4] at hg; exact hg.elim
                      | stuck => rw [e4] at hg; exact hg.elim
        · have ei : i = ds.length := by omega
          subst ei
          refine .inl ⟨iok.stop F2 _ l2 S2 H2 le2 pre2 hr2, ?_⟩
          rw [List.drop_length] at hg
          have hg : PostG K T W (rE K) F2 G l2 σ Q (fin (acc ++ []) S2) := hg
          rw [List.append_nil] at hg
          exact hfin hr2 gp ha2 (sz_of (Nat.le_trans hacc hlen)) hg
    · rw [if_neg hlen] at hp; exact hp.elim
theorem fin_frozen {K : PySem.W.Frag} {T : List (Addr × Str)} {W : WX} {F G H : Hp} {l : List Addr} {S : Store} {xs : List D} {vs : List V} {σ : St} {Q : VK} {p : Addr} (hr : HRel K T F (upd G p (.lst vs)) l S H) (hg : G p = none) (ha : AtL K F l xs vs) (hl : xs.length ≤ sizeLine)
    (hp : PostG K T W (rE K) F G l σ Q (.ok (.lst xs) S)) : Q (.ref p) H := by
  have fp : F p = none := by
    cases e : F p with
    | none => rfl
    | some w => have := hr.fg p w e; rw [upd_same] at this; cases this
  exact hp _ l H _ ⟨Le.new fp, Pre.refl _, hr.gToF hg⟩ ⟨p, vs, rfl, upd_same, hl, AtL.mono (Le.new fp) (Pre.refl _) _ _ ha⟩
theorem fin_cell {K : PySem.W.Frag} {T : List (Addr × Str)} {W : WX} {F G H : Hp} {l : List Addr} {S : Store} {xs : List D} {vs : List V} {σ : St} {Q : VK} {p : Addr} (hr : HRel K T F (upd G p (.lst vs)) l S H) (hg : G p = none) (ha : AtL K F l xs vs) (hl : xs.length ≤ sizeLine)
    (hp : PostG K T W (rE K) F G l σ Q (.ok (.loc S.length) (S ++ [.lst xs]))) : Q (.ref p) H := by
  have fp : F p = none := by
    cases e : F p with
    | none => rfl
    | some w => have := hr.fg p w e; rw [upd_same] at this; cases this
  refine hp _ _ H _ ⟨Le.refl F, Pre.app _ _, hr.gToC (c := .lst xs) hg rfl ⟨fp, hl, vs, hr.gr _ _ upd_same, AtL.mono (Le.refl F) (Pre.app _ _) _ _ ha⟩⟩ ⟨p, ?_, rfl⟩
  rw [← hr.len]; simp
section
variable {X : Cx} {T : List (Addr × Str)} {W : WX} {k : Nat} {pos : Pos} {elt tg iter : Expr} {ifs : List Expr} {scope : Scope} {own : List (Str × Nat)} {it : Sem (List D)} {t : Tgt} {c : Sem Bool} {e : Sem D}
def PDTs (X : Cx) (T : List (Addr × Str)) (W : WX) (ifs : List Expr) (f : Sem Bool) : Prop := PTs X ifs (wp X.K T W rT f)
theorem pts_yes : PDTs X T W [] yesT := ⟨fun pins s σ H Q I h => pts_nil.run pins s σ H Q I (ret_wp (rl := rT) (x := true) (fun _ _ => rfl) h)⟩
theorem pts_if {c : Expr} {f : Sem Bool} (h : PDT X T W c f) : PDTs X T W [c] f := pts_one h
/-- within a comprehension -/
abbrev Blk (X : Cx) (scope : Scope) (P : Cx → Prop) : Prop := ∀ (s : Shared) (H : Hp) (C : Addr) (cl : List (Str × Addr)) (fp : List Addr), P (X.blk s H scope (compEnvC scope cl C X.env) fp)
theorem Ctx.blk (hc : Ctx X W k) {s : Shared} {H : Hp} {scope : Scope} {C : Addr} {cl : List (Str × Addr)} {fp : List Addr} : Ctx (X.blk s H scope (compEnvC scope cl C X.env) fp) W0 k :=
  ⟨hc.calm, hc.nd, LamX.takes0, PassesOwn.never, hc.rm⟩
theorem pd_lc (hc : Ctx X W k) (hi : PDI X T W tg iter it) (ok : BlkOk X.N X.env.scope scope own) (hws : ∀ i ∈ t.slots, i ∈ own.map (·.2) := by decide)
    (hg : Blk X scope fun Y => PG Y tg (t.rd Y.K)) (ht : Blk X scope fun Y => PDTs Y T W0 ifs c) (he : Blk X scope fun Y => PD Y T W0 elt e) (hs : ∀ x, foldedSetIterable iter X.env x = pure x := by intro _; rfl) :
    PD X T W (.ListComp elt [⟨tg, iter, ifs, 0⟩] scope pos) (lcE it t (own.map (·.2)) c e) :=
  PE.imp (pe_lc (g := t.rd X.K) (tt := wp X.K T W0 rT c) (te := wp X.K T W0 (rE X.K) e) hc.calm hc.nd hi ok hg ht he hs) fun σ H Q h => comp_wp (fin := fun xs S => .ok (.lst xs) S) hws fin_frozen h
theorem pd_lcC (hc : Ctx X W k) (hi : PDI X T W tg iter it) (ok : BlkOk X.N X.env.scope scope own) (hws : ∀ i ∈ t.slots, i ∈ own.map (·.2) := by decide)
    (hg : Blk X scope fun Y => PG Y tg (t.rd Y.K)) (ht : Blk X scope fun Y => PDTs Y T W0 ifs c) (he : Blk X scope fun Y => PD Y T W0 elt e) (hs : ∀ x, foldedSetIterable iter X.env x = pure x := by intro _; rfl) :
    PD X T W (.ListComp elt [⟨tg, iter, ifs, 0⟩] scope pos) (lcC it t (own.map (·.2)) c e) :=
  PE.imp (pe_lc (g := t.rd X.K) (tt := wp X.K T W0 rT c) (te := wp X.K T W0 (rE X.K) e) hc.calm hc.nd hi ok hg ht he hs) fun σ H Q h => comp_wp (fin := fun xs S => .ok (.loc S.length) (S ++ [Cell.lst xs])) hws fin_cell h
end
end Aw

/-! Aw4: statements. -/
namespace Aw
open PySem L2 LamX

def PostS (K : PySem.W.Frag) (T : List (Addr × Str)) (W : WX) (F G : Hp) (l : List Addr) (Dn : Ends) : R → Prop
  | .nx r' S' => ∀ F' l' σ' H', Later K T F G l F' l' S' H' → Sl K F' l' r' σ' → Dn.nx σ' H'
  | .ret d S' => ∀ F' l' H' v, Later K T F G l F' l' S' H' → At K F' l' d v → Dn.rt v H'
  | .brk r' S' => ∀ F' l' σ' H', Later K T F G l F' l' S' H' → Sl K F' l' r' σ' → Dn.bk σ' H'
  | .ct r' S' => ∀ F' l' σ' H', Later K T F G l F' l' S' H' → Sl K F' l' r' σ' → Dn.ct σ' H'
  | .err c r' S' => ∀ F' l' σ' H', Later K T F G l F' l' S' H' → Sl K F' l' r' σ' → W (exV K c) none σ' H'
  | .stuck => False
def wpS (K : PySem.W.Frag) (T : List (Addr × Str)) (W : WX) (f : SemS) : TS := fun Dn σ H =>
  ∃ F G l r S, HRel K T F G l S H ∧ Sl K F l r σ ∧ PostS K T W F G l Dn (f r S)
theorem PostS.mono {K : PySem.W.Frag} {T : List (Addr × Str)} {W : WX} {F G F1 : Hp} {l l1 : List Addr} {Dn : Ends} (a : Le F F1) (p : Pre l l1) : ∀ {o : R}, PostS K T W F G l Dn o → PostS K T W F1 G l1 Dn o
  | .nx _ _, h => fun F' l' s H' e q => h F' l' s H' ⟨a.trans e.le, p.trans e.pre, e.rel⟩ q
  | .ret _ _, h => fun F' l' s H' e q => h F' l' s H' ⟨a.trans e.le, p.trans e.pre, e.rel⟩ q
  | .brk _ _, h => fun F' l' s H' e q => h F' l' s H' ⟨a.trans e.le, p.trans e.pre, e.rel⟩ q
  | .ct _ _, h => fun F' l' s H' e q => h F' l' s H' ⟨a.trans e.le, p.trans e.pre, e.rel⟩ q
  | .err _ _ _, h => fun F' l' s H' e q => h F' l' s H' ⟨a.trans e.le, p.trans e.pre, e.rel⟩ q
  | .stuck, h => h
def PDS (X : Cx) (T : List (Addr × Str)) (W : WX) (st : Stmt) (f : SemS) : Prop := PS X st (wpS X.K T W f)
def PDB (X : Cx) (T : List (Addr × Str)) (W : WX) (st : List Stmt) (f : SemS) : Prop := PSs X st (wpS X.K T W f)

def thenS {α : Type} (f : Sem α) (g : α → SemS) : SemS := fun r S => match f r S with
  | .ok a S' => g a r S'
  | .err c S' => .err c r S'
  | .stuck => .stuck
section
variable {α β : Type} {K : PySem.W.Frag} {T : List (Addr × Str)} {W : WX} {σ : St} {H : Hp}
/-- an expression ahead of the rest of a statement -/
theorem wpS_step {rl : Rl α β} {f : Sem α} {g : α → SemS} {Dn : Ends} {Q1 : β → Hp → Prop} {F G : Hp} {l : List Addr} {r : Env} {S : Store} (hr : HRel K T F G l S H) (hs : Sl K F l r σ)
    (hp : PostS K T W F G l Dn (thenS f g r S))
    (k : ∀ F' l' S' a b H', Later K T F G l F' l' S' H' → Sl K F' l' r σ → rl F' l' a b → PostS K T W F' G l' Dn (g a r S') → Q1 b H') : wp K T W rl f σ H Q1 := by
  refine ⟨F, G, l, r, S, hr, hs, ?_⟩
  unfold thenS at hp
  cases e : f r S with
  | ok a S' =>
    rw [e] at hp
    exact fun F' l' H' b lt q => k F' l' S' a b H' lt (hs.mono lt.le lt.pre) q (hp.mono lt.le lt.pre)
  | err c S' =>
    rw [e] at hp
    exact fun F' l' H' lt => hp F' l' σ H' lt (hs.mono lt.le lt.pre)
  | stuck => rw [e] at hp; exact hp
end

section
variable {X : Cx} {T : List (Addr × Str)} {W : WX} {k : Nat} {pos p : Pos} {e : Expr} {st : Stmt} {rest : List Stmt}
def skipS : SemS := fun r S => .nx r S
def seqS (f g : SemS) : SemS := fun r S => match f r S with
  | .nx r' S' => g r' S'
  | o => o
theorem pdb_nil : PDB X T W [] skipS := PSs.imp pss_nil fun Dn σ H ⟨F, G, l, r, S, hr, hs, hp⟩ => hp F l σ H (Later.refl hr) hs
theorem seq_wp {K : PySem.W.Frag} {f g : SemS} {Dn : Ends} {σ : St} {H : Hp} (h : wpS K T W (seqS f g) Dn σ H) : tSeq (wpS K T W f) (wpS K T W g) Dn σ H := by
  obtain ⟨F, G, l, r, S, hr, hs, hp⟩ := h
  refine ⟨F, G, l, r, S, hr, hs, ?_⟩
  unfold seqS at hp
  cases e : f r S with
  | nx r' S' =>
    rw [e] at hp
    exact fun F' l' σ' H' lt q => ⟨F', G, l', r', S', lt.rel, q, hp.mono lt.le lt.pre⟩
  | ret d S' => rw [e] at hp; exact hp
  | brk r' S' => rw [e] at hp; exact hp
  | ct r' S' => rw [e] at hp; exact hp
  | err c r' S' => rw [e] at hp; exact hp
  | stuck => rw [e] at hp; exact hp
theorem pdb_cons {f g : SemS} (h : PDS X T W st f) (h2 : PDB X T W rest g) : PDB X T W (st :: rest) (seqS f g) := PSs.imp (pss_cons h h2) fun _ _ _ q => seq_wp q
theorem pdb_one {f : SemS} (h : PDS X T W st f) : PDB X T W [st] f := pss_one h
/-- a rest that is never come to -/
def nevS : SemS := fun _ _ => .stuck
theorem pdb_never {sts : List Stmt} : PDB X T W sts nevS := PSs.imp pss_never fun Dn σ H ⟨F, G, l, r, S, hr, hs, hp⟩ => hp
theorem pds_never : PDS X T W st nevS := PS.imp ps_never fun Dn σ H ⟨F, G, l, r, S, hr, hs, hp⟩ => hp
theorem pds_pass : PDS X T W (.Pass pos) skipS := PS.imp ps_pass fun Dn σ H ⟨F, G, l, r, S, hr, hs, hp⟩ => hp F l σ H (Later.refl hr) hs
theorem pds_break : PDS X T W (.Break pos) (fun r S => .brk r S) := PS.imp ps_break fun Dn σ H ⟨F, G, l, r, S, hr, hs, hp⟩ => hp F l σ H (Later.refl hr) hs
theorem pds_continue : PDS X T W (.Continue pos) (fun r S => .ct r S) := PS.imp ps_continue fun Dn σ H ⟨F, G, l, r, S, hr, hs, hp⟩ => hp F l σ H (Later.refl hr) hs
/-- a step of the proof's own: nothing is run -/
def ghostS (g : Env → Store → Option (Env × Store)) (f : SemS) : SemS := fun r S => match g r S with
  | some (r', S') => f r' S'
  | none => .stuck
def GhostOk (K : PySem.W.Frag) (T : List (Addr × Str)) (g : Env → Store → Option (Env × Store)) : Prop := ∀ (F G : Hp) (l : List Addr) (r : Env) (S : Store) (σ : St) (H : Hp) (r' : Env) (S' : Store), HRel K T F G l S H → Sl K F l r σ → g r S = some (r', S') → ∃ F', Later K T F G l F' l S' H ∧ Sl K F' l r' σ
theorem ghost_wp {K : PySem.W.Frag} {g : Env → Store → Option (Env × Store)} {f : SemS} {Dn : Ends} {σ : St} {H : Hp} (hg : GhostOk K T g) (h : wpS K T W (ghostS g f) Dn σ H) : wpS K T W f Dn σ H := by
  obtain ⟨F, G, l, r, S, hr, hs, hp⟩ := h
  unfold ghostS at hp
  cases e : g r S with
  | none => rw [e] at hp; exact hp.elim
  | some q =>
    obtain ⟨r', S'⟩ := q
    rw [e] at hp
    obtain ⟨F', lt, hs'⟩ := hg F G l r S σ H r' S' hr hs e
    exact ⟨F', G, l, r', S', lt.rel, hs', hp.mono lt.le lt.pre⟩
theorem pds_ghost {g : Env → Store → Option (Env × Store)} {f : SemS} (hg : GhostOk X.K T g) (h : PDS X T W st f) : PDS X T W st (ghostS g f) := PS.imp h fun _ _ _ q => ghost_wp hg q
theorem pdb_ghost {sts : List Stmt} {g : Env → Store → Option (Env × Store)} {f : SemS} (hg : GhostOk X.K T g) (h : PDB X T W sts f) : PDB X T W sts (ghostS g f) := PSs.imp h fun _ _ _ q => ghost_wp hg q

def dropS (f : Sem D) : SemS := thenS f fun _ r S => .nx r S
theorem pds_expr {f : Sem D} (h : PD X T W e f) (hs : swapsWith e none pos.line X.env = pure false := by rfl) : PDS X T W (.Expr e pos) (dropS f) := PS.imp (ps_expr h hs) fun Dn σ H ⟨F, G, l, r, S, hr, hs, hp⟩ =>
  wpS_step hr hs hp fun F1 l1 S1 a x H1 lt hs1 ha hp1 => hp1 F1 l1 σ H1 (Later.refl lt.rel) hs1
def retS (f : Sem D) : SemS := thenS f fun d _ S => .ret d S
theorem pds_ret {f : Sem D} (h : PD X T W e f) : PDS X T W (.Return (some e) pos) (retS f) := PS.imp (ps_ret h) fun Dn σ H ⟨F, G, l, r, S, hr, hs, hp⟩ =>
  wpS_step hr hs hp fun F1 l1 S1 a x H1 lt hs1 ha hp1 => hp1 F1 l1 H1 x (Later.refl lt.rel) ha
theorem pds_retN : PDS X T W (.Return none pos) (fun _ S => .ret .non S) := PS.imp ps_retN fun Dn σ H ⟨F, G, l, r, S, hr, hs, hp⟩ => hp F l H .non (Later.refl hr) rfl
def ifS (c : Sem Bool) (f g : SemS) : SemS := thenS c fun b => if b = true then f else g
theorem pds_if {c : Expr} {a b : List Stmt} {fc : Sem Bool} {f g : SemS} (hc : PDT X T W c fc) (h1 : PDB X T W a f) (h2 : PDB X T W b g) : PDS X T W (.If c a b pos) (ifS fc f g) := PS.imp (ps_if hc h1 h2) fun Dn σ H ⟨F, G, l, r, S, hr, hs, hp⟩ =>
  wpS_step (rl := rT) hr hs hp fun F1 l1 S1 a x H1 lt hs1 ha hp1 => by
    have ha : x = a := ha
    subst ha
    cases x with
    | true => exact ⟨F1, G, l1, r, S1, lt.rel, hs1, hp1⟩
    | false => exact ⟨F1, G, l1, r, S1, lt.rel, hs1, hp1⟩

/-! ### stores -/
def setS (f : Sem D) (t : Tgt) : SemS := thenS f fun d r S => match t.set d r with
  | some r' => .nx r' S
  | none => .stuck
theorem set_post {K : PySem.W.Frag} {F G H : Hp} {l : List Addr} {S : Store} {r : Env} {σ : St} {Dn : Ends} {t : Tgt} {d : D} {v : V} (hr : HRel K T F G l S H) (hs : Sl K F l r σ) (ha : At K F l d v)
    (hp : PostS K T W F G l Dn (match t.set d r with
      | some r' => .nx r' S
      | none => .stuck)) : t.rd K v σ H Dn.nx := by
  cases e : t.set d r with
  | none => rw [e] at hp; exact hp.elim
  | some r' =>
    rw [e] at hp
    exact Tgt.run hr hs ha e fun σ' hs' _ => hp F l σ' H (Later.refl hr) hs'
theorem pds_set (i : Nat) {x : Str} {pos' : Pos} {f : Sem D} (hc : Ctx X W k) (h : PD X T W e f) (hi : X.N[i]? = some x := by rfl) (hx : Loc X.env.scope x := by first | exact Or.inl rfl | exact Or.inr rfl)
    (hs : swapsWith e (some (.Name x pos')) pos.line X.env = pure false := by rfl) (hf : X.fn x = true ∨ X.env.scope.names.lookup x = some .local := by first | exact .inl rfl | exact .inr rfl | assumption) : PDS X T W (.Assign [.Name x pos'] e pos) (setS f (.one i)) :=
  PS.imp (ps_set hc.nd hi hx h hs hf) fun Dn σ H ⟨F, G, l, r, S, hr, hs, hp⟩ =>
    wpS_step hr hs hp fun F1 l1 S1 a x H1 lt hs1 ha hp1 => set_post (t := .one i) lt.rel hs1 ha hp1
theorem pds_asg {tg : Expr} {f : Sem D} {t : Tgt} (h : PD X T W e f) (hg : PG X tg (t.rd X.K)) (hs : swapsWithSole [tg] e pos.line X.env = pure false := by rfl) (hw : swappedStores [tg] e X.env = pure none := by rfl)
    (h1 : (assignEach [tg] X.env).map (·.2) = [assign tg X.env] := by rfl) : PDS X T W (.Assign [tg] e pos) (setS f t) :=
  PS.imp (ps_asg h hg hs hw h1) fun Dn σ H ⟨F, G, l, r, S, hr, hs, hp⟩ =>
    wpS_step hr hs hp fun F1 l1 S1 a x H1 lt hs1 ha hp1 => set_post lt.rel hs1 ha hp1
/-- a, b = e1, e2 (two local names) -/
def parS (f : Sem (List D)) (i j : Nat) : SemS := thenS f fun ds r S => match ds with
  | [d, e] => .nx ((r.set i (some d)).set j (some e)) S
  | _ => .stuck
theorem pds_par (i j : Nat) {x y : Str} {a b : Expr} {f : Sem (List D)} {px py pt : Pos} {kt k2 : Nat} {pt2 : Pos} (hc : Ctx X W k) (h : PDA X T W [a, b] f) (hi : X.N[i]? = some x := by rfl) (hj : X.N[j]? = some y := by rfl) (hij : i ≠ j := by decide)
    (hx : X.env.scope.names.lookup x = some .local := by rfl) (hy : X.env.scope.names.lookup y = some .local := by rfl)
    (hw : swappedStores [.Tuple [.Name x px, .Name y py] kt pt] (.Tuple [a, b] k2 pt2) X.env = pure (some [x, y]) := by rfl) (hs : swapsWithSole [.Tuple [.Name x px, .Name y py] kt pt] (.Tuple [a, b] k2 pt2) pos.line X.env = pure false := by rfl) :
    PDS X T W (.Assign [.Tuple [.Name x px, .Name y py] kt pt] (.Tuple [a, b] k2 pt2) pos) (parS f i j) :=
  PS.imp (ps_par hc.calm hc.nd hi hj hij hx hy h hw hs) fun Dn σ H ⟨F, G, l, r, S, hr, hs, hp⟩ =>
    wpS_step (rl := rA X.K) hr hs hp fun F1 l1 S1 ds vs H1 lt hs1 ha hp1 => by
      split at hp1
      · rename_i d e
        obtain ⟨v, w, rfl, h1, h2⟩ := AtL.two ha
        exact ⟨v, w, rfl, hp1 F1 l1 _ H1 (Later.refl lt.rel) ((hs1.set h1 i).set h2 j)⟩
      · exact hp1.elim
/-- targets of any form -/
abbrev TgS := D → SemS
def wpG (K : PySem.W.Frag) (T : List (Addr × Str)) (W : WX) (g : TgS) : TG := fun v σ H Q =>
  ∃ F G l r S d, HRel K T F G l S H ∧ Sl K F l r σ ∧ At K F l d v ∧ PostS K T W F G l ⟨Q, fun _ _ => False, fun _ _ => False, fun _ _ => False⟩ (g d r S)
def wpGs (K : PySem.W.Frag) (T : List (Addr × Str)) (W : WX) (g : List D → SemS) : TGs := fun vs σ H Q =>
  ∃ F G l r S ds, HRel K T F G l S H ∧ Sl K F l r σ ∧ AtL K F l ds vs ∧ PostS K T W F G l ⟨Q, fun _ _ => False, fun _ _ => False, fun _ _ => False⟩ (g ds r S)
def PDG (X : Cx) (T : List (Addr × Str)) (W : WX) (tg : Expr) (g : TgS) : Prop := PG X tg (wpG X.K T W g)
def PDGs (X : Cx) (T : List (Addr × Str)) (W : WX) (tg : List Expr) (g : List D → SemS) : Prop := PGs X tg (wpGs X.K T W g)
theorem PG.imp {X : Cx} {e : Expr} {t t' : TG} (h : PG X e t) (k : ∀ v σ H Q, t' v σ H Q → t v σ H Q) : PG X e t' := ⟨fun pins s σ H v u Q I r q => h.run pins s σ H v u Q I r (k v σ H Q q)⟩
theorem PGs.imp {X : Cx} {e : List Expr} {t t' : TGs} (h : PGs X e t) (k : ∀ v σ H Q, t' v σ H Q → t v σ H Q) : PGs X e t' := ⟨fun pins s σ H v u Q I r q => h.run pins s σ H v u Q I r (k v σ H Q q)⟩
def nameT (t : Tgt) : TgS := fun d r S => match t.set d r with
  | some r' => .nx r' S
  | none => .stuck
theorem pdg_t {tg : Expr} {t : Tgt} (h : PG X tg (t.rd X.K)) : PDG X T W tg (nameT t) := PG.imp h fun v σ H Q ⟨F, G, l, r, S, d, hr, hs, ha, hp⟩ =>
  set_post (Dn := ⟨Q, fun _ _ => False, fun _ _ => False, fun _ _ => False⟩) hr hs ha hp
def nilT : List D → SemS
  | [] => fun r S => .nx r S
  | _ => nevS
def consT (g : TgS) (h : List D → SemS) : List D → SemS
  | d :: ds => seqS (g d) (h ds)
  | [] => nevS
theorem pdgs_nil : PDGs X T W [] nilT := PGs.imp pgs_nil fun v σ H Q ⟨F, G, l, r, S, ds, hr, hs, ha, hp⟩ => by
  cases ds with
  | nil => cases ha; exact ⟨rfl, hp F l σ H (Later.refl hr) hs⟩
  | cons d ds => exact hp.elim
theorem pdgs_cons {tg : Expr} {tgs : List Expr} {g : TgS} {h : List D → SemS} (h1 : PDG X T W tg g) (h2 : PDGs X T W tgs h) (hs : (assignEach (tg :: tgs) X.env).map (·.2) = assign tg X.env :: (assignEach tgs X.env).map (·.2) := by rfl) : PDGs X T W (tg :: tgs) (consT g h) :=
  PGs.imp (pgs_cons h1 h2 hs) fun v σ H Q ⟨F, G, l, r, S, ds, hr, hs, ha, hp⟩ => by
  cases ds with
  | nil => exact hp.elim
  | cons d ds =>
    obtain ⟨x, xs, rfl, h1, h2⟩ := ha
    refine ⟨x, xs, rfl, F, G, l, r, S, d, hr, hs, h1, ?_⟩
    have hp : PostS X.K T W F G l ⟨Q, fun _ _ => False, fun _ _ => False, fun _ _ => False⟩ (seqS (g d) (h ds) r S) := hp
    unfold seqS at hp
    cases e : g d r S with
    | nx r' S' =>
      rw [e] at hp
      exact fun F' l' σ' H' lt q => ⟨F', G, l', r', S', ds, lt.rel, q, AtL.mono lt.le lt.pre _ _ h2, hp.mono lt.le lt.pre⟩
    | ret d S' => rw [e] at hp; exact fun F' l' H' v lt q => hp F' l' H' v lt q
    | brk r' S' => rw [e] at hp; exact fun F' l' H' v lt q => hp F' l' H' v lt q
    | ct r' S' => rw [e] at hp; exact fun F' l' H' v lt q => hp F' l' H' v lt q
    | err c r' S' => rw [e] at hp; exact hp
    | stuck => rw [e] at hp; exact hp
def tupT (n : Nat) (h : List D → SemS) : TgS
  | .tup ds => if ds.length = n then h ds else nevS
  | _ => nevS
theorem pdg_tup {tgs : List Expr} {kk n : Nat} {h : List D → SemS} (hc : X.calm = true) (h1 : PDGs X T W tgs h) (hn : (assignEach tgs X.env).length = n := by rfl) (hst : (assignEach tgs X.env).findIdx? (·.1) = none := by rfl) : PDG X T W (.Tuple tgs kk pos) (tupT n h) :=
  PG.imp (pg_tup hc h1 hn hst) fun v σ H Q ⟨F, G, l, r, S, d, hr, hs, ha, hp⟩ => by
  cases d with
  | tup ds =>
    obtain ⟨a, vs, rfl, q1, q2, q3⟩ := ha
    by_cases hl : ds.length = n
    · simp only [tupT, if_pos hl] at hp
      exact ⟨a, vs, rfl, .of (hr.fz _ _ q1), by rw [q3.length, hl], F, G, l, r, S, ds, hr, hs, q3, hp⟩
    · simp only [tupT, if_neg hl] at hp
      exact hp.elim
  | _ => exact hp.elim
/-- o[i] = v on plain data -/
abbrev GSet := Store → D → D → D → Option Store
def SetOk (K : PySem.W.Frag) (T : List (Addr × Str)) (t : TSet) (g : GSet) : Prop := ∀ F G l S H o i d S' x y v (Q : Hp → Prop), HRel K T F G l S H → At K F l o x → At K F l i y → At K F l d v → g S o i d = some S' →
  (∀ F' l' H', Later K T F G l F' l' S' H' → Q H') → t x y v H Q
def subT (g : GSet) (fo fi : Sem D) : TgS := fun d => thenS fo fun o => thenS fi fun i => fun r S => match g S o i d with
  | some S' => .nx r S'
  | none => .stuck
theorem pdg_sub {o i : Expr} {t : TSet} {g : GSet} {fo fi : Sem D} (hg : SetOk X.K T t g) (h : PG X (.Subscript o i pos) (gSub (wp X.K T W (rE X.K) fo) (wp X.K T W (rE X.K) fi) t)) : PDG X T W (.Subscript o i pos) (subT g fo fi) :=
  PG.imp h fun v σ H Q ⟨F, G, l, r, S, d, hr, hs, ha, hp⟩ => by
  refine wpS_step hr hs hp fun F1 l1 S1 a x H1 lt1 hs1 ha1 hp1 => ?_
  refine wpS_step lt1.rel hs1 hp1 fun F2 l2 S2 b y H2 lt2 hs2 ha2 hp2 => ?_
  cases e : g S2 a b d with
  | none => rw [e] at hp2; exact hp2.elim
  | some S' =>
    rw [e] at hp2
    exact hg F2 G l2 S2 H2 a b d S' x y v _ lt2.rel (At.mono lt2.le lt2.pre _ _ ha1) ha2 (At.mono (lt1.le.trans lt2.le) (lt1.pre.trans lt2.pre) _ _ ha) e fun F' l' H' lt => hp2 F' l' σ H' lt (hs2.mono lt.le lt.pre)
def asgS (f : Sem D) (g : TgS) : SemS := thenS f g
theorem pds_asgG {tg : Expr} {f : Sem D} {g : TgS} (h : PD X T W e f) (hg : PDG X T W tg g) (hnx : ∀ d r S, (∃ r' S', g d r S = .nx r' S') ∨ (∃ c r' S', g d r S = .err c r' S') ∨ g d r S = .stuck)
    (hs : swapsWithSole [tg] e pos.line X.env = pure false := by rfl) (hw : swappedStores [tg] e X.env = pure none := by rfl)
    (h1 : (assignEach [tg] X.env).map (·.2) = [assign tg X.env] := by rfl) : PDS X T W (.Assign [tg] e pos) (asgS f g) :=
  PS.imp (ps_asg h hg hs hw h1) fun Dn σ H ⟨F, G, l, r, S, hr, hs, hp⟩ =>
    wpS_step hr hs hp fun F1 l1 S1 a x H1 lt hs1 ha hp1 => by
      refine ⟨F1, G, l1, r, S1, a, lt.rel, hs1, ha, ?_⟩
      rcases hnx a r S1 with ⟨r', S', q⟩ | ⟨c, r', S', q⟩ | q
      · rw [q] at hp1 ⊢; exact hp1
      · rw [q] at hp1 ⊢; exact hp1
      · rw [q] at hp1 ⊢; exact hp1
/-- x op= e -/
def augS (g : G2) (i : Nat) (f : Sem D) : SemS := thenS (op2 g (vE i) f) fun d r S => .nx (r.set i (some d)) S

/-! ### loops -/
def loopS (t : Tgt) (b : SemS) : List D → SemS
  | [], r, S => .nx r S
  | d :: ds, r, S => match t.set d r with
    | none => .stuck
    | some r1 => match b r1 S with
      | .nx r2 S2 => loopS t b ds r2 S2
      | .ct r2 S2 => loopS t b ds r2 S2
      | .brk r2 S2 => .nx r2 S2
      | o => o
def forS (it : Sem (List D)) (t : Tgt) (b : SemS) : SemS := thenS it fun ds => loopS t b ds
theorem wpI_stepS {K : PySem.W.Frag} {f : Sem (List D)} {g : List D → SemS} {Dn : Ends} {Q1 : It → Hp → Prop} {F G H : Hp} {l : List Addr} {r : Env} {S : Store} {σ : St} (hr : HRel K T F G l S H) (hs : Sl K F l r σ)
    (hp : PostS K T W F G l Dn (thenS f g r S))
    (k : ∀ F' l' S' ds J H', Later K T F G l F' l' S' H' → Sl K F' l' r σ → ItOk K T J F' l' ds → PostS K T W F' G l' Dn (g ds r S') → Q1 J H') : wpI K T W f σ H Q1 := by
  refine ⟨F, G, l, r, S, hr, hs, ?_⟩
  unfold thenS at hp
  cases e : f r S with
  | ok a S' =>
    rw [e] at hp
    exact fun F' l' H' b lt q => k F' l' S' a b H' lt (hs.mono lt.le lt.pre) q (hp.mono lt.le lt.pre)
  | err c S' =>
    rw [e] at hp
    exact fun F' l' H' lt => hp F' l' σ H' lt (hs.mono lt.le lt.pre)
  | stuck => rw [e] at hp; exact hp
theorem for_wp {K : PySem.W.Frag} {it : Sem (List D)} {t : Tgt} {b : SemS} {Dn : Ends} {σ : St} {H : Hp} (h : wpS K T W (forS it t b) Dn σ H) : tFor (wpI K T W it) (t.rd K) (wpS K T W b) Dn σ H := by
  obtain ⟨F, G, l, r, S, hr, hs, hp⟩ := h
  refine wpI_stepS hr hs hp fun F1 l1 S1 ds J H1 lt1 hs1 iok hp1 => ?_
  let Iv : Nat → St → Hp → Prop := fun i σ H => i ≤ ds.length ∧ ∃ F2 l2 S2 r2, Le F1 F2 ∧ Pre l1 l2 ∧ HRel K T F2 G l2 S2 H ∧ Sl K F2 l2 r2 σ ∧ PostS K T W F2 G l2 Dn (loopS t b (ds.drop i) r2 S2)
  refine ⟨fun i m σ H => m = ds.length - i ∧ Iv i σ H, ⟨ds.length, by simp, Nat.zero_le _, F1, l1, S1, r, Le.refl _, Pre.refl _, lt1.rel, hs1, hp1⟩, ?_⟩
  rintro i m σ2 H2 ⟨rfl, hi, F2, l2, S2, r2, le2, pre2, hr2, hs2, hg⟩
  by_cases hlt : i < ds.length
  · refine .inr ⟨iok.go F2 _ l2 S2 H2 i le2 pre2 hr2 hlt, Iv (i + 1), fun σ' H' hN => ⟨ds.length - (i + 1), by omega, rfl, hN⟩, fun x H3 hy => ?_⟩
    obtain ⟨F3, d, lt3, hd, hx⟩ := iok.yld F2 _ l2 S2 H2 i x H3 le2 pre2 hr2 hlt hy
    have hdrop : ds.drop i = d :: ds.drop (i + 1) := by
      rw [List.drop_eq_getElem_cons hlt]
      have : ds[i] = d := by
        rw [List.getElem?_eq_getElem hlt] at hd
        exact Option.some.inj hd
      rw [this]
    rw [hdrop] at hg
    unfold loopS at hg
    cases e1 : t.set d r2 with
    | none => rw [e1] at hg; exact hg.elim
    | some r1 =>
      rw [e1] at hg
      simp only at hg
      refine Tgt.run lt3.rel (hs2.mono lt3.le lt3.pre) hx e1 fun σ3 hs3 hw => ⟨F3, G, l2, r1, S2, lt3.rel, hs3, ?_⟩
      cases e2 : b r1 S2 with
      | nx r4 S4 =>
        rw [e2] at hg
        exact fun F4 l4 σ4 H4 lt4 hs4 => ⟨hlt, F4, l4, S4, r4, le2.trans (lt3.le.trans lt4.le), pre2.trans lt4.pre, lt4.rel, hs4, hg.mono (lt3.le.trans lt4.le) lt4.pre⟩
      | ct r4 S4 =>
        rw [e2] at hg
        exact fun F4 l4 σ4 H4 lt4 hs4 => ⟨hlt, F4, l4, S4, r4, le2.trans (lt3.le.trans lt4.le), pre2.trans lt4.pre, lt4.rel, hs4, hg.mono (lt3.le.trans lt4.le) lt4.pre⟩
      | brk r4 S4 => rw [e2] at hg; exact hg.mono lt3.le lt3.pre
      | ret d4 S4 => rw [e2] at hg; exact hg.mono lt3.le lt3.pre
      | err c4 r4 S4 => rw [e2] at hg; exact hg.mono lt3.le lt3.pre
      | stuck => rw [e2] at hg; exact hg.elim
  · have ei : i = ds.length := by omega
    subst ei
    refine .inl ⟨iok.stop F2 _ l2 S2 H2 le2 pre2 hr2, ?_⟩
    rw [List.drop_length] at hg
    exact hg F2 l2 σ2 H2 (Later.refl hr2) hs2
theorem pds_for {tg iter : Expr} {body : List Stmt} {it : Sem (List D)} {t : Tgt} {b : SemS} (hc : Ctx X W k) (hi : PDI X T W tg iter it) (hg : PG X tg (t.rd X.K)) (hb : PDB X T W body b) (hfs : ∀ x, foldedSetIterable iter X.env x = pure x := by intro _; rfl) : PDS X T W (.For tg iter body [] pos) (forS it t b) :=
  PS.imp (ps_for hc.po hc.calm hi hg hb hfs) fun _ _ _ q => for_wp q
def whileS (c : Sem Bool) (b : SemS) : Nat → SemS
  | 0, _, _ => .stuck
  | n + 1, r, S => match c r S with
    | .ok true S1 => match b r S1 with
      | .nx r2 S2 => whileS c b n r2 S2
      | .ct r2 S2 => whileS c b n r2 S2
      | .brk r2 S2 => .nx r2 S2
      | o => o
    | .ok false S1 => .nx r S1
    | .err c S1 => .err c r S1
    | .stuck => .stuck
theorem while_wp {K : PySem.W.Frag} {c : Sem Bool} {b : SemS} {n : Nat} {Dn : Ends} {σ : St} {H : Hp} (h : wpS K T W (whileS c b n) Dn σ H) : tWhile (wp K T W rT c) (wpS K T W b) Dn σ H := by
  obtain ⟨F, G, l, r, S, hr, hs, hp⟩ := h
  let Iv : Nat → St → Hp → Prop := fun m σ H => ∃ F2 l2 S2 r2, Le F F2 ∧ Pre l l2 ∧ HRel K T F2 G l2 S2 H ∧ Sl K F2 l2 r2 σ ∧ PostS K T W F2 G l2 Dn (whileS c b m r2 S2)
  refine ⟨Iv, ⟨n, F, l, S, r, Le.refl _, Pre.refl _, hr, hs, hp⟩, ?_⟩
  rintro m σ2 H2 ⟨F2, l2, S2, r2, le2, pre2, hr2, hs2, hg⟩
  cases m with
  | zero => exact hg.elim
  | succ m =>
    unfold whileS at hg
    refine ⟨F2, G, l2, r2, S2, hr2, hs2, ?_⟩
    cases e1 : c r2 S2 with
    | err c' S' =>
      rw [e1] at hg
      exact fun F' l' H' lt => hg F' l' σ2 H' lt (hs2.mono lt.le lt.pre)
    | stuck => rw [e1] at hg; exact hg
    | ok bb S3 =>
      rw [e1] at hg
      intro F3 l3 H3 b' lt3 hb'
      have hb' : b' = bb := hb'
      subst hb'
      cases b' with
      | false =>
        rw [if_neg Bool.false_ne_true]
        exact hg F3 l3 σ2 H3 lt3 (hs2.mono lt3.le lt3.pre)
      | true =>
        rw [if_pos rfl]
        refine ⟨Iv m, fun σ' H' hN => ⟨m, Nat.lt_succ_self m, hN⟩, F3, G, l3, r2, S3, lt3.rel, hs2.mono lt3.le lt3.pre, ?_⟩
        simp only at hg
        cases e2 : b r2 S3 with
        | nx r4 S4 =>
          rw [e2] at hg
          exact fun F4 l4 σ4 H4 lt4 hs4 => ⟨F4, l4, S4, r4, le2.trans (lt3.le.trans lt4.le), pre2.trans (lt3.pre.trans lt4.pre), lt4.rel, hs4, hg.mono (lt3.le.trans lt4.le) (lt3.pre.trans lt4.pre)⟩
        | ct r4 S4 =>
          rw [e2] at hg
          exact fun F4 l4 σ4 H4 lt4 hs4 => ⟨F4, l4, S4, r4, le2.trans (lt3.le.trans lt4.le), pre2.trans (lt3.pre.trans lt4.pre), lt4.rel, hs4, hg.mono (lt3.le.trans lt4.le) (lt3.pre.trans lt4.pre)⟩
        | brk r4 S4 => rw [e2] at hg; exact hg.mono lt3.le lt3.pre
        | ret d4 S4 => rw [e2] at hg; exact hg.mono lt3.le lt3.pre
        | err c4 r4 S4 => rw [e2] at hg; exact hg.mono lt3.le lt3.pre
        | stuck => rw [e2] at hg; exact hg.elim
theorem pds_while (n : Nat) {c : Expr} {body : List Stmt} {fc : Sem Bool} {b : SemS} (hc : Ctx X W k) (h : PDT X T W c fc) (hb : PDB X T W body b) : PDS X T W (.While c body [] pos) (whileS fc b n) :=
  PS.imp (ps_while hc.po h hb) fun _ _ _ q => while_wp q
end
end Aw

/-! Aw5: operators on plain data. -/
namespace Aw
open PySem L2 LamX

/-! ### lists that are read -/
def lstOf (S : Store) : D → Option (List D)
  | .lst ds => some ds
  | .loc n => match S[n]? with
    | some (.lst ds) => some ds
    | some (.fz (.lst ds)) => some ds
    | _ => none
  | _ => none
theorem lstOf_at {K : PySem.W.Frag} {T : List (Addr × Str)} {F G H : Hp} {l : List Addr} {S : Store} (hr : HRel K T F G l S H) {d : D} {ds : List D} {v : V} (hv : At K F l d v) (e : lstOf S d = some ds) :
    ∃ a vs, v = .ref a ∧ H a = some (.lst vs) ∧ AtL K F l ds vs ∧ ds.length ≤ sizeLine := by
  cases d with
  | lst es =>
    cases e
    obtain ⟨a, vs, rfl, h1, h2, h3⟩ := hv
    exact ⟨a, vs, rfl, hr.fz _ _ h1, h3, h2⟩
  | loc n =>
    obtain ⟨a, h1, rfl⟩ := hv
    simp only [lstOf] at e
    split at e
    · rename_i q
      cases e
      obtain ⟨a', h2, h3⟩ := hr.cell n _ q
      rw [h1] at h2; cases h2
      obtain ⟨_, h4, vs, h5, h6⟩ := h3
      exact ⟨a, vs, rfl, h5, h6, h4⟩
    · rename_i q
      cases e
      obtain ⟨a', h2, h3⟩ := hr.cell n _ q
      rw [h1] at h2; cases h2
      obtain ⟨a, vs, h0, h1, h2, h3⟩ := h3
      cases h0
      exact ⟨_, vs, rfl, hr.fz _ _ h1, h3, h2⟩
    · cases e
  | _ => cases e
/-- a list or a tuple -/
def seqOf (S : Store) : D → Option (List D)
  | .tup ds => some ds
  | d => lstOf S d
theorem seqOf_at {K : PySem.W.Frag} {T : List (Addr × Str)} {F G H : Hp} {l : List Addr} {S : Store} (hr : HRel K T F G l S H) {d : D} {ds : List D} {v : V} (hv : At K F l d v) (e : seqOf S d = some ds) :
    ∃ a vs, v = .ref a ∧ (H a = some (.lst vs) ∨ H a = some (.tup vs)) ∧ AtL K F l ds vs ∧ ds.length ≤ sizeLine := by
  by_cases ht : ∃ es, d = .tup es
  · obtain ⟨es, rfl⟩ := ht
    cases e
    obtain ⟨a, vs, rfl, h1, h2, h3⟩ := hv
    exact ⟨a, vs, rfl, .inr (hr.fz _ _ h1), h3, h2⟩
  · have e : lstOf S d = some ds := by
      cases d with
      | tup es => exact absurd ⟨es, rfl⟩ ht
      | _ => exact e
    obtain ⟨a, vs, h1, h2, h3, h4⟩ := lstOf_at hr hv e
    exact ⟨a, vs, h1, .inl h2, h3, h4⟩

/-! ### building rules -/
def orG (g h : G2) : G2 := fun S a b => match g S a b with
  | some q => some q
  | none => h S a b
theorem OpD.or {K : PySem.W.Frag} {T : List (Addr × Str)} {r r' : R2} {g h : G2} (a : OpD K T r g) (b : OpD K T r' h) : OpD K T (fun x y H Q => r x y H Q ∨ r' x y H Q) (orG g h) := by
  intro F G l S H d e z S' x y Q hr hd he q k
  unfold orG at q
  cases e1 : g S d e with
  | some p =>
    rw [e1] at q; cases q
    exact .inl (a F G l S H d e z S' x y Q hr hd he e1 k)
  | none =>
    rw [e1] at q
    exact .inr (b F G l S H d e z S' x y Q hr hd he q k)
/-- two ints -/
def intG (c : Int → Int → Bool) (f : Int → Int → D) : G2 := fun S a b => match a, b with
  | .int i, .int j => if c i j then some (f i j, S) else none
  | _, _ => none
theorem intG_iff {c : Int → Int → Bool} {f : Int → Int → D} {S S' : Store} {a b d : D} (h : intG c f S a b = some (d, S')) : ∃ i j, a = .int i ∧ b = .int j ∧ c i j = true ∧ d = f i j ∧ S' = S := by
  unfold intG at h
  split at h
  · split at h
    · cases h; rename_i hc; exact ⟨_, _, rfl, rfl, hc, rfl, rfl⟩
    · cases h
  · cases h
theorem opd_int0 {K : PySem.W.Frag} {T : List (Addr × Str)} {f : Int → Int → V} {g : Int → Int → D} (hfg : ∀ F l i j, At K F l (g i j) (f i j)) : OpD K T (rI0 f) (intG (fun _ _ => true) g) := by
  intro F G l S H a b d S' x y Q hr ha hb e k
  obtain ⟨i, j, rfl, rfl, _, rfl, rfl⟩ := intG_iff e
  cases ha; cases hb
  exact ⟨i, j, rfl, rfl, k F l H _ (Later.refl hr) (hfg F l i j)⟩
theorem opd_int {K : PySem.W.Frag} {T : List (Addr × Str)} {C : Int → Int → Prop} {c : Int → Int → Bool} {f : Int → Int → V} {g : Int → Int → D} (hc : ∀ i j, c i j = true → C i j) (hfg : ∀ F l i j, At K F l (g i j) (f i j)) : OpD K T (rI C f) (intG c g) := by
  intro F G l S H a b d S' x y Q hr ha hb e k
  obtain ⟨i, j, rfl, rfl, h, rfl, rfl⟩ := intG_iff e
  cases ha; cases hb
  exact ⟨i, j, rfl, rfl, hc i j h, k F l H _ (Later.refl hr) (hfg F l i j)⟩

/-! ### arithmetic -/
def addI : G2 := intG (fun _ _ => true) fun i j => .int (i + j)
def subI : G2 := intG (fun _ _ => true) fun i j => .int (i - j)
/-- one factor below 2^64, or both below 2^4000 -/
def mulOk (i j : Int) : Bool := decide (j.natAbs < 18446744073709551616) || decide (i.natAbs < 18446744073709551616) || (decide (i.natAbs.log2 < 400000) && decide (j.natAbs.log2 < 400000))
def mulI : G2 := intG mulOk fun i j => .int (i * j)
def fdivI : G2 := intG (fun _ j => decide (0 < j) && decide (j.natAbs.log2 < 9000)) fun i j => .int (i / j)
def modI : G2 := intG (fun _ j => decide (0 < j)) fun i j => .int (i % j)
def powI : G2 := intG (fun i j => decide (0 ≤ j) && decide (j ≤ 1000000) && decide (i.natAbs < 18446744073709551616)) fun i j => .int (i ^ j.toNat)
def shlI : G2 := intG (fun i j => decide (0 ≤ j) && decide (j ≤ 1000000) && decide (i.natAbs < 18446744073709551616)) fun i j => .int (i * 2 ^ j.toNat)
def shrI : G2 := intG (fun _ j => decide (0 ≤ j)) fun i j => .int (i / 2 ^ j.toNat)
def ltI : G2 := intG (fun _ _ => true) fun i j => .bl (decide (i < j))
def leI : G2 := intG (fun _ _ => true) fun i j => .bl (decide (i ≤ j))
def gtI : G2 := intG (fun _ _ => true) fun i j => .bl (decide (j < i))
def geI : G2 := intG (fun _ _ => true) fun i j => .bl (decide (j ≤ i))
section
variable {K : PySem.W.Frag} {T : List (Addr × Str)}
theorem opd_addI : OpD K T (rI0 fun i j => .int (i + j)) addI := opd_int0 fun _ _ _ _ => rfl
theorem opd_subI : OpD K T (rI0 fun i j => .int (i - j)) subI := opd_int0 fun _ _ _ _ => rfl
theorem opd_ltI : OpD K T (rI0 fun i j => .bl (decide (i < j))) ltI := opd_int0 fun _ _ _ _ => rfl
theorem opd_leI : OpD K T (rI0 fun i j => .bl (decide (i ≤ j))) leI := opd_int0 fun _ _ _ _ => rfl
theorem opd_gtI : OpD K T (rI0 fun i j => .bl (decide (j < i))) gtI := opd_int0 fun _ _ _ _ => rfl
theorem opd_geI : OpD K T (rI0 fun i j => .bl (decide (j ≤ i))) geI := opd_int0 fun _ _ _ _ => rfl
theorem opd_fdivI : OpD K T (rI CDivW fun i j => .int (i / j)) fdivI := opd_int (fun i j h => by
  simp only [Bool.and_eq_true, decide_eq_true_eq] at h
  exact h) fun _ _ _ _ => rfl
theorem opd_modI : OpD K T (rI (fun _ j => 0 < j) fun i j => .int (i % j)) modI := opd_int (fun i j h => by simpa using h) fun _ _ _ _ => rfl
theorem opd_powI : OpD K T (rI CPow fun i j => .int (i ^ j.toNat)) powI := opd_int (fun i j h => by
  simp only [Bool.and_eq_true, decide_eq_true_eq] at h
  exact ⟨h.1.1, h.1.2, h.2⟩) fun _ _ _ _ => rfl
theorem opd_shlI : OpD K T (rI CPow fun i j => .int (i * 2 ^ j.toNat)) shlI := opd_int (fun i j h => by
  simp only [Bool.and_eq_true, decide_eq_true_eq] at h
  exact ⟨h.1.1, h.1.2, h.2⟩) fun _ _ _ _ => rfl
theorem opd_shrI : OpD K T (rI (fun _ j => 0 ≤ j) fun i j => .int (i / 2 ^ j.toNat)) shrI := opd_int (fun i j h => by simpa using h) fun _ _ _ _ => rfl
/-- * as the model lets it -/
def CMulA (i j : Int) : Prop := CMul i j ∨ CMulW i j
theorem opd_mulI : OpD K T (fun x y H Q => rI CMul (fun i j => .int (i * j)) x y H Q ∨ rI CMulW (fun i j => .int (i * j)) x y H Q) mulI := by
  intro F G l S H a b d S' x y Q hr ha hb e k
  obtain ⟨i, j, rfl, rfl, h, rfl, rfl⟩ := intG_iff e
  cases ha; cases hb
  have q : Q (.int (i * j)) H := k F l H _ (Later.refl hr) rfl
  simp only [mulOk, Bool.or_eq_true, Bool.and_eq_true, decide_eq_true_eq] at h
  rcases h with (h | h) | h
  · exact .inl ⟨i, j, rfl, rfl, .inr (by omega), q⟩
  · exact .inl ⟨i, j, rfl, rfl, .inl (by omega), q⟩
  · exact .inr ⟨i, j, rfl, rfl, by unfold CMulW; omega, q⟩
end

/-! ### + and * of lists and tuples, + of texts -/
def addT : G2 := fun S a b => match a, b with
  | .tup xs, .tup ys => if xs.length + ys.length ≤ 100000 then some (.tup (xs ++ ys), S) else none
  | _, _ => none
def addL : G2 := fun S a b => match lstOf S a, lstOf S b with
  | some xs, some ys => if xs.length + ys.length ≤ 100000 then some (.lst (xs ++ ys), S) else none
  | _, _ => none
/-- .. into a new cell -/
def addLC : G2 := fun S a b => match lstOf S a, lstOf S b with
  | some xs, some ys => if xs.length + ys.length ≤ 100000 then some (.loc S.length, S ++ [.lst (xs ++ ys)]) else none
  | _, _ => none
def repL : G2 := fun S a b => match lstOf S a, b with
  | some xs, .int k => if xs.length * k.toNat ≤ 100000 ∧ -(2 ^ 63) ≤ k ∧ k < 2 ^ 63 then some (.lst (List.replicate k.toNat xs).flatten, S) else none
  | _, _ => none
def repLC : G2 := fun S a b => match lstOf S a, b with
  | some xs, .int k => if xs.length * k.toNat ≤ 100000 ∧ -(2 ^ 63) ≤ k ∧ k < 2 ^ 63 then some (.loc S.length, S ++ [.lst (List.replicate k.toNat xs).flatten]) else none
  | _, _ => none
section
variable {K : PySem.W.Frag} {T : List (Addr × Str)}
theorem later_new {F G H : Hp} {l : List Addr} {S : Store} {p : Addr} {o : HO} (hr : HRel K T F G l S H) (hp : H p = none) : Later K T F G l (upd F p o) l S (upd H p o) := ⟨Le.new (hr.fnone hp), Pre.refl _, hr.newF hp⟩
theorem opd_addT : OpD K T (rCatA K) addT := by
  intro F G l S H a b d S' x y Q hr ha hb e k
  unfold addT at e
  split at e
  · split at e
    · rename_i xs ys hl
      cases e
      obtain ⟨p, vs, rfl, h1, h2, h3⟩ := ha
      obtain ⟨q, us, rfl, h4, h5, h6⟩ := hb
      have e1 := h3.length
      have e2 := h6.length
      refine ⟨p, q, vs, us, rfl, rfl, .of (hr.fz _ _ h1), .of (hr.fz _ _ h4), by rw [e1, e2]; exact sz_of hl, fun hv => ?_, fun hv hu => ?_, fun hv hu t ht => ?_⟩
      · subst hv
        have : xs = [] := List.eq_nil_of_length_eq_zero (by simpa using e1.symm)
        subst this
        exact k F l H _ (Later.refl hr) ⟨q, us, rfl, h4, h5, h6⟩
      · subst hu
        have : ys = [] := List.eq_nil_of_length_eq_zero (by simpa using e2.symm)
        subst this
        refine k F l H _ (Later.refl hr) ⟨p, vs, rfl, h1, ?_, ?_⟩
        · rw [List.append_nil]; exact h2
        · rw [List.append_nil]; exact h3
      · refine k _ l _ _ (later_new (o := .tup (vs ++ us)) hr ht) ⟨t, vs ++ us, rfl, upd_same, by rw [List.length_append]; exact sz_of hl, ?_⟩
        have le : Le F (upd F t (.tup (vs ++ us))) := Le.new (hr.fnone ht)
        exact (AtL.mono le (Pre.refl _) _ _ h3).append (AtL.mono le (Pre.refl _) _ _ h6)
    · cases e
  · cases e
theorem opd_addL : OpD K T rCat addL := by
  intro F G l S H a b d S' x y Q hr ha hb e k
  unfold addL at e
  split at e
  · rename_i xs ys e1 e2
    split at e
    · rename_i hl
      cases e
      obtain ⟨p, vs, rfl, h1, h2, h3⟩ := lstOf_at hr ha e1
      obtain ⟨q, us, rfl, h4, h5, h6⟩ := lstOf_at hr hb e2
      have l1 := h2.length
      have l2 := h5.length
      refine ⟨p, q, vs, us, rfl, rfl, h1, h4, by rw [l1, l2]; exact sz_of hl, fun t ht => ?_⟩
      have le : Le F (upd F t (.lst (vs ++ us))) := Le.new (hr.fnone ht)
      exact k _ l _ _ (later_new (o := .lst (vs ++ us)) hr ht) ⟨t, vs ++ us, rfl, upd_same, by rw [List.length_append]; exact sz_of hl, (AtL.mono le (Pre.refl _) _ _ h2).append (AtL.mono le (Pre.refl _) _ _ h5)⟩
    · cases e
  · cases e
theorem later_cell {F G H : Hp} {l : List Addr} {S : Store} {p : Addr} {ds : List D} {vs : List V} (hr : HRel K T F G l S H) (hp : H p = none) (ha : AtL K F l ds vs) (hl : ds.length ≤ sizeLine) :
    Later K T F G l F (l ++ [p]) (S ++ [.lst ds]) (upd H p (.lst vs)) ∧ At K F (l ++ [p]) (.loc S.length) (.ref p) := by
  refine ⟨⟨Le.refl F, Pre.app _ _, hr.newC (o := .lst vs) (c := .lst ds) hp rfl ⟨hr.fnone hp, hl, vs, upd_same, AtL.mono (Le.refl F) (Pre.app _ _) _ _ ha⟩⟩, p, ?_, rfl⟩
  rw [← hr.len]; simp
theorem opd_addLC : OpD K T rCat addLC := by
  intro F G l S H a b d S' x y Q hr ha hb e k
  unfold addLC at e
  split at e
  · rename_i xs ys e1 e2
    split at e
    · rename_i hl
      cases e
      obtain ⟨p, vs, rfl, h1, h2, h3⟩ := lstOf_at hr ha e1
      obtain ⟨q, us, rfl, h4, h5, h6⟩ := lstOf_at hr hb e2
      have l1 := h2.length
      have l2 := h5.length
      refine ⟨p, q, vs, us, rfl, rfl, h1, h4, by rw [l1, l2]; exact sz_of hl, fun t ht => ?_⟩
      obtain ⟨lt, at_⟩ := later_cell hr ht (h2.append h5) (by rw [List.length_append]; exact sz_of hl)
      exact k _ _ _ _ lt at_
    · cases e
  · cases e
theorem flat_at {F : Hp} {l : List Addr} {ds : List D} {vs : List V} (h : AtL K F l ds vs) : ∀ n : Nat, AtL K F l (List.replicate n ds).flatten (List.replicate n vs).flatten
  | 0 => rfl
  | n + 1 => by
    rw [List.replicate_succ, List.replicate_succ, List.flatten_cons, List.flatten_cons]
    exact h.append (flat_at h n)
theorem flat_len {α : Type} (xs : List α) : ∀ n : Nat, (List.replicate n xs).flatten.length = xs.length * n
  | 0 => rfl
  | n + 1 => by
    rw [List.replicate_succ, List.flatten_cons, List.length_append, flat_len xs n, Nat.mul_succ]; omega
theorem opd_repL : OpD K T rRep repL := by
  intro F G l S H a b d S' x y Q hr ha hb e k
  unfold repL at e
  split at e
  · rename_i xs n e1
    split at e
    · rename_i hl
      cases e
      obtain ⟨p, vs, rfl, h1, h2, h3⟩ := lstOf_at hr ha e1
      cases hb
      have l1 := h2.length
      refine ⟨p, n, vs, rfl, rfl, h1, hl.2.1, hl.2.2, by rw [l1]; exact sz_of hl.1, fun t ht => ?_⟩
      have le : Le F (upd F t (.lst (List.replicate n.toNat vs).flatten)) := Le.new (hr.fnone ht)
      exact k _ l _ _ (later_new (o := .lst (List.replicate n.toNat vs).flatten) hr ht) ⟨t, _, rfl, upd_same, by rw [flat_len]; exact sz_of hl.1, AtL.mono le (Pre.refl _) _ _ (flat_at h2 _)⟩
    · cases e
  · cases e
theorem opd_repLC : OpD K T rRep repLC := by
  intro F G l S H a b d S' x y Q hr ha hb e k
  unfold repLC at e
  split at e
  · rename_i xs n e1
    split at e
    · rename_i hl
      cases e
      obtain ⟨p, vs, rfl, h1, h2, h3⟩ := lstOf_at hr ha e1
      cases hb
      have l1 := h2.length
      refine ⟨p, n, vs, rfl, rfl, h1, hl.2.1, hl.2.2, by rw [l1]; exact sz_of hl.1, fun t ht => ?_⟩
      obtain ⟨lt, at_⟩ := later_cell hr ht (flat_at h2 n.toNat) (by rw [flat_len]; exact sz_of hl.1)
      exact k _ _ _ _ lt at_
    · cases e
  · cases e

/-! ### items -/
theorem atI_at {F : Hp} {l : List Addr} {ds : List D} {vs : List V} {i : Int} {d : D} (h : AtL K F l ds vs) (e : atI ds i = some d) : ∃ v, atI vs i = some v ∧ At K F l d v := by
  unfold atI at e ⊢
  rw [h.length]
  cases q : ixN ds.length i with
  | none => rw [q] at e; cases e
  | some j =>
    rw [q] at e
    exact h.get e
def ixG : G2 := fun S a b => match seqOf S a, b with
  | some ds, .int i => match atI ds i with
    | some d => some (norm S d, S)
    | none => none
  | some _, _ => none
  | none, .int i => match a with
    | .scr ns => match atI ns i with
      | some n => some (.int n, S)
      | none => none
    | _ => none
  | none, _ => none
theorem atI_map {α β : Type} (f : α → β) (xs : List α) (i : Int) : atI (xs.map f) i = (atI xs i).map f := by
  unfold atI
  rw [List.length_map]
  cases ixN xs.length i <;> simp
theorem opd_ix : OpD K T (rIx K) ixG := by
  intro F G l S H a b d S' x y Q hr ha hb e k
  unfold ixG at e
  split at e
  · rename_i ds i e1
    split at e
    · rename_i d' e2
      cases e
      obtain ⟨p, vs, rfl, h1, h2, h3⟩ := seqOf_at hr ha e1
      cases hb
      obtain ⟨v, q1, q2⟩ := atI_at h2 e2
      have q : Q v H := k F l H v (Later.refl hr) (norm_at hr q2)
      rcases h1 with h1 | h1
      · exact .inl ⟨p, vs, i, v, rfl, rfl, .of h1, q1, q⟩
      · exact .inr (.inl ⟨p, vs, i, v, rfl, rfl, .of h1, q1, q⟩)
    · cases e
  · cases e
  · rename_i i e1
    split at e
    · split at e
      · rename_i ns n e2
        cases e
        obtain ⟨p, rfl, h1, h2⟩ := ha
        cases hb
        refine .inl ⟨p, _, i, .int n, rfl, rfl, sql_le hr.fz h1, ?_, k F l H _ (Later.refl hr) rfl⟩
        rw [atI_map, e2]; rfl
      · cases e
    · cases e
  · cases e
end
end Aw

/-! Aw6: comparisons, slices, methods, built-ins on plain data. -/
namespace Aw
open PySem L2 LamX

/-! ### == of data at any depth -/
mutual
def pyD (f : Nat → Option PyData) : D → Option PyData
  | .non => some .none
  | .bl b => some (.bool b)
  | .int i => some (.int i)
  | .str x => some (.str x)
  | .tup ds => (pyL f ds).map .tuple
  | .lst ds => (pyL f ds).map .list
  | .dct _ _ => none
  | .loc n => f n
  | .scr _ => none
  | .fn _ => none
def pyL (f : Nat → Option PyData) : List D → Option (List PyData)
  | [] => some []
  | d :: ds => match pyD f d, pyL f ds with
    | some p, some ps => some (p :: ps)
    | _, _ => none
end
def pyLoc (S : Store) : Nat → Nat → Option PyData
  | 0, _ => none
  | k + 1, n => match S[n]? with
    | some (.lst ds) => (pyL (pyLoc S k) ds).map .list
    | some (.fz d) => pyD (pyLoc S k) d
    | _ => none
def pyS (S : Store) (d : D) : Option PyData := pyD (pyLoc S 4) d
section
variable {K : PySem.W.Frag} {T : List (Addr × Str)} {F G H : Hp} {l : List Addr} {S : Store}
mutual
theorem pyD_at (hr : HRel K T F G l S H) {f : Nat → Option PyData} (hf : ∀ n p v, f n = some p → At K F l (.loc n) v → Dp K H v p) : ∀ (d : D) (v : V) (p : PyData), At K F l d v → pyD f d = some p → Dp K H v p
  | .non, v, p, h, e => by cases h; cases e; exact .non
  | .bl b, v, p, h, e => by cases h; cases e; exact .bl b
  | .int i, v, p, h, e => by cases h; cases e; exact .int i
  | .str x, v, p, h, e => by cases h; cases e; exact .str x
  | .tup ds, v, p, h, e => by
    obtain ⟨a, vs, rfl, h1, h2, h3⟩ := h
    simp only [pyD] at e
    cases q : pyL f ds with
    | none => rw [q] at e; cases e
    | some ps =>
      rw [q] at e; cases e
      exact .tup (.of (hr.fz _ _ h1)) (pyL_at hr hf ds vs ps h3 q)
  | .lst ds, v, p, h, e => by
    obtain ⟨a, vs, rfl, h1, h2, h3⟩ := h
    simp only [pyD] at e
    cases q : pyL f ds with
    | none => rw [q] at e; cases e
    | some ps =>
      rw [q] at e; cases e
      exact .lst (.of (hr.fz _ _ h1)) (pyL_at hr hf ds vs ps h3 q)
  | .dct _ _, v, p, h, e => by cases e
  | .loc n, v, p, h, e => hf n p v e h
  | .scr _, v, p, h, e => by cases e
  | .fn _, v, p, h, e => by cases e
theorem pyL_at (hr : HRel K T F G l S H) {f : Nat → Option PyData} (hf : ∀ n p v, f n = some p → At K F l (.loc n) v → Dp K H v p) : ∀ (ds : List D) (vs : List V) (ps : List PyData), AtL K F l ds vs → pyL f ds = some ps → DpAll K H vs ps
  | [], vs, ps, h, e => by cases h; cases e; exact .nil
  | d :: ds, vs, ps, h, e => by
    obtain ⟨v, vs', rfl, h1, h2⟩ := h
    simp only [pyL] at e
    cases q1 : pyD f d with
    | none => rw [q1] at e; cases e
    | some p =>
      rw [q1] at e
      cases q2 : pyL f ds with
      | none => rw [q2] at e; cases e
      | some ps' =>
        rw [q2] at e; cases e
        exact .cons (pyD_at hr hf d v p h1 q1) (pyL_at hr hf ds vs' ps' h2 q2)
end
theorem pyLoc_at (hr : HRel K T F G l S H) : ∀ (k n : Nat) (p : PyData) (v : V), pyLoc S k n = some p → At K F l (.loc n) v → Dp K H v p
  | 0, n, p, v, e, h => by cases e
  | k + 1, n, p, v, e, h => by
    obtain ⟨a, h1, rfl⟩ := h
    simp only [pyLoc] at e
    split at e
    · rename_i ds q
      obtain ⟨a', h2, h3⟩ := hr.cell n _ q
      rw [h1] at h2; cases h2
      obtain ⟨_, h4, vs, h5, h6⟩ := h3
      cases q2 : pyL (pyLoc S k) ds with
      | none => rw [q2] at e; cases e
      | some ps =>
        rw [q2] at e; cases e
        exact .lst (.of h5) (pyL_at hr (pyLoc_at hr k) ds vs ps h6 q2)
    · rename_i d q
      obtain ⟨a', h2, h3⟩ := hr.cell n _ q
      rw [h1] at h2; cases h2
      exact pyD_at hr (pyLoc_at hr k) d _ p h3 e
    · cases e
theorem pyS_at (hr : HRel K T F G l S H) {d : D} {v : V} {p : PyData} (h : At K F l d v) (e : pyS S d = some p) : Dp K H v p := pyD_at hr (pyLoc_at hr 4) d v p h e
end
def eqB (S : Store) (a b : D) : Option Bool := match pyS S a, pyS S b with
  | some p, some q => if SeqAt.shaped p && SeqAt.shaped q then some (PyData.eqv p q) else none
  | _, _ => none
def eqG : G2 := fun S a b => (eqB S a b).map fun c => (.bl c, S)
def neG : G2 := fun S a b => (eqB S a b).map fun c => (.bl (!c), S)
/-! ### in -/
def inB (S : Store) (a b : D) : Option Bool := match pyS S a, seqOf S b with
  | some p, some ds => match pyL (pyLoc S 4) ds with
    | some qs => if SeqAt.shaped p && SeqAt.shaped (.list qs) then some (qs.any fun z => PyData.eqv z p) else none
    | none => none
  | _, _ => none
/-- where it is a tuple: flat things -/
def flatD : D → Bool
  | .non => true
  | .bl _ => true
  | .int _ => true
  | .str _ => true
  | _ => false
def eqF : D → D → Bool
  | .non, .non => true
  | .bl a, .bl b => a == b
  | .bl a, .int b => (if a then 1 else 0) == b
  | .int a, .bl b => a == (if b then 1 else 0)
  | .int a, .int b => a == b
  | .str a, .str b => a == b
  | _, _ => false
def inF (S : Store) (a b : D) : Option Bool := match seqOf S b with
  | some ds => if flatD a && ds.all flatD then some (ds.any fun y => eqF y a) else none
  | none => none
def inDeep (S : Store) (a b : D) : Option Bool := match pyS S a, lstOf S b with
  | some p, some ds => match pyL (pyLoc S 4) ds with
    | some qs => if SeqAt.shaped p && SeqAt.shaped (.list qs) then some (qs.any fun z => PyData.eqv z p) else none
    | none => none
  | _, _ => none
def boG (f : Store → D → D → Option Bool) (neg : Bool) : G2 := fun S a b => match f S a b with
  | some c => some (.bl (if neg then !c else c), S)
  | none => none
section
variable {K : PySem.W.Frag} {T : List (Addr × Str)}
theorem opd_eq : OpD K T (rEqD K) eqG := by
  intro F G l S H a b d S' x y Q hr ha hb e k
  unfold eqG eqB at e
  split at e
  · rename_i p q e1 e2
    split at e
    · rename_i hs
      simp only [Bool.and_eq_true] at hs
      cases e
      exact ⟨p, q, pyS_at hr ha e1, pyS_at hr hb e2, hs.1, hs.2, k F l H _ (Later.refl hr) rfl⟩
    · cases e
  · cases e
theorem opd_ne : OpD K T (rNeD K) neG := by
  intro F G l S H a b d S' x y Q hr ha hb e k
  unfold neG eqB at e
  split at e
  · rename_i p q e1 e2
    split at e
    · rename_i hs
      simp only [Bool.and_eq_true] at hs
      cases e
      exact ⟨p, q, pyS_at hr ha e1, pyS_at hr hb e2, hs.1, hs.2, k F l H _ (Later.refl hr) rfl⟩
    · cases e
  · cases e
theorem flatD_V {F : Hp} {l : List Addr} {d : D} {v : V} (h : At K F l d v) (f : flatD d = true) : flatV v = true := by
  cases d with
  | non => cases h; rfl
  | bl _ => cases h; rfl
  | int _ => cases h; rfl
  | str _ => cases h; rfl
  | _ => cases f
theorem eqF_V {F : Hp} {l : List Addr} {d e : D} {v w : V} (h : At K F l d v) (h' : At K F l e w) (f : flatD d = true) (f' : flatD e = true) : eqV v w = eqF d e := by
  cases d with
  | non => cases h; cases e with
    | non => cases h'; rfl
    | bl _ => cases h'; rfl
    | int _ => cases h'; rfl
    | str _ => cases h'; rfl
    | _ => cases f'
  | bl _ => cases h; cases e with
    | non => cases h'; rfl
    | bl _ => cases h'; rfl
    | int _ => cases h'; rfl
    | str _ => cases h'; rfl
    | _ => cases f'
  | int _ => cases h; cases e with
    | non => cases h'; rfl
    | bl _ => cases h'; rfl
    | int _ => cases h'; rfl
    | str _ => cases h'; rfl
    | _ => cases f'
  | str _ => cases h; cases e with
    | non => cases h'; rfl
    | bl _ => cases h'; rfl
    | int _ => cases h'; rfl
    | str _ => cases h'; rfl
    | _ => cases f'
  | _ => cases f
theorem anyF_V {F : Hp} {l : List Addr} {e : D} {w : V} (h' : At K F l e w) (f' : flatD e = true) : ∀ {ds : List D} {vs : List V}, AtL K F l ds vs → ds.all flatD = true → vs.all flatV = true ∧ inV w vs = ds.any fun y => eqF y e
  | [], vs, h, _ => by cases h; exact ⟨rfl, rfl⟩
  | d :: ds, vs, h, hf => by
    obtain ⟨v, vs', rfl, h1, h2⟩ := h
    simp only [List.all_cons, Bool.and_eq_true] at hf
    obtain ⟨i1, i2⟩ := anyF_V h' f' h2 hf.2
    refine ⟨by simp only [List.all_cons, Bool.and_eq_true]; exact ⟨flatD_V h1 hf.1, i1⟩, ?_⟩
    show (eqV v w || inV w vs') = _
    rw [i2, eqF_V h1 h' hf.1 f']; rfl
theorem opd_inF (neg : Bool) : OpD K T (rIn K neg) (boG inF neg) := by
  intro F G l S H a b d S' x y Q hr ha hb e k
  unfold boG inF at e
  split at e
  · rename_i c e1
    split at e1
    · rename_i ds e2
      split at e1
      · rename_i hf
        simp only [Bool.and_eq_true] at hf
        cases e1; cases e
        obtain ⟨p, vs, rfl, h1, h2, _⟩ := seqOf_at hr hb e2
        obtain ⟨h3, h4⟩ := anyF_V ha hf.1 h2 hf.2
        refine ⟨p, vs, rfl, ?_, flatD_V ha hf.1, h3, ?_⟩
        · rcases h1 with h1 | h1
          · exact .inl (.of h1)
          · exact .inr (.of h1)
        · rw [h4]
          exact k F l H _ (Later.refl hr) (by cases neg <;> rfl)
      · cases e1
    · cases e1
  · cases e
theorem opd_inD : OpD K T (rInD K) (boG inDeep false) := by
  intro F G l S H a b d S' x y Q hr ha hb e k
  unfold boG inDeep at e
  split at e
  · rename_i c e1
    split at e1
    · rename_i p ds e2 e3
      split at e1
      · rename_i qs e4
        split at e1
        · rename_i hs
          simp only [Bool.and_eq_true] at hs
          cases e1; cases e
          obtain ⟨q, vs, rfl, h1, h2, _⟩ := lstOf_at hr hb e3
          exact ⟨p, qs, pyS_at hr ha e2, .lst (.of h1) (pyL_at hr (pyLoc_at hr 4) ds vs qs h2 e4), hs.1, hs.2, k F l H _ (Later.refl hr) rfl⟩
        · cases e1
      · cases e1
    · cases e1
  · cases e
theorem opd_notInD : OpD K T (rNotInD K) (boG inDeep true) := by
  intro F G l S H a b d S' x y Q hr ha hb e k
  unfold boG inDeep at e
  split at e
  · rename_i c e1
    split at e1
    · rename_i p ds e2 e3
      split at e1
      · rename_i qs e4
        split at e1
        · rename_i hs
          simp only [Bool.and_eq_true] at hs
          cases e1; cases e
          obtain ⟨q, vs, rfl, h1, h2, _⟩ := lstOf_at hr hb e3
          exact ⟨p, qs, pyS_at hr ha e2, .lst (.of h1) (pyL_at hr (pyLoc_at hr 4) ds vs qs h2 e4), hs.1, hs.2, k F l H _ (Later.refl hr) rfl⟩
        · cases e1
      · cases e1
    · cases e1
  · cases e
/-! ### is -/
def isNonD : D → Bool
  | .non => true
  | _ => false
theorem isNon_V {F : Hp} {l : List Addr} {d : D} {v : V} (h : At K F l d v) : decide (v = .non) = isNonD d := by
  cases d with
  | non => cases h; rfl
  | bl _ => cases h; rfl
  | int _ => cases h; rfl
  | str _ => cases h; rfl
  | tup _ => obtain ⟨a, vs, rfl, _⟩ := h; rfl
  | lst _ => obtain ⟨a, vs, rfl, _⟩ := h; rfl
  | dct _ _ => obtain ⟨a, vs, rfl, _⟩ := h; rfl
  | loc _ => obtain ⟨a, _, rfl⟩ := h; rfl
  | scr _ => obtain ⟨a, rfl, _⟩ := h; rfl
  | fn a => cases h; rfl
def isN (neg : Bool) : G2 := fun S a b => match b with
  | .non => some (.bl (if neg then !isNonD a else isNonD a), S)
  | _ => none
theorem opd_isN : OpD K T (fun x y H Q => y = .non ∧ Q (.bl (decide (x = .non))) H) (isN false) := by
  intro F G l S H a b d S' x y Q hr ha hb e k
  unfold isN at e
  split at e
  · cases e; cases hb
    refine ⟨rfl, ?_⟩
    rw [isNon_V ha]
    exact k F l H _ (Later.refl hr) rfl
  · cases e
theorem opd_notN : OpD K T (fun x y H Q => y = .non ∧ Q (.bl (!decide (x = .non))) H) (isN true) := by
  intro F G l S H a b d S' x y Q hr ha hb e k
  unfold isN at e
  split at e
  · cases e; cases hb
    refine ⟨rfl, ?_⟩
    rw [isNon_V ha]
    exact k F l H _ (Later.refl hr) rfl
  · cases e
def isB (neg : Bool) : G2 := fun S a b => match a, b with
  | .bl a, .bl b => some (.bl (if neg then !decide (a = b) else decide (a = b)), S)
  | _, _ => none
theorem opd_isB : OpD K T rIsB (isB false) := by
  intro F G l S H a b d S' x y Q hr ha hb e k
  unfold isB at e
  split at e
  · cases e; cases ha; cases hb
    exact ⟨_, _, rfl, rfl, k F l H _ (Later.refl hr) rfl⟩
  · cases e
theorem opd_notB : OpD K T rNotB (isB true) := by
  intro F G l S H a b d S' x y Q hr ha hb e k
  unfold isB at e
  split at e
  · cases e; cases ha; cases hb
    exact ⟨_, _, rfl, rfl, k F l H _ (Later.refl hr) rfl⟩
  · cases e

/-! ### o[i] = v of a list's cell -/
theorem cell_lst {F G H : Hp} {l : List Addr} {S : Store} {n : Nat} {ds : List D} {x : V} (hr : HRel K T F G l S H) (hx : At K F l (.loc n) x) (e : S[n]? = some (.lst ds)) :
    ∃ p vs, x = .ref p ∧ H p = some (.lst vs) ∧ AtL K F l ds vs ∧ ds.length ≤ sizeLine ∧ ∀ ds' vs', AtL K F l ds' vs' → ds'.length ≤ sizeLine → Later K T F G l F l (S.set n (.lst ds')) (upd H p (.lst vs')) := by
  obtain ⟨p, h1, rfl⟩ := hx
  obtain ⟨p', h2, h3⟩ := hr.cell n _ e
  rw [h1] at h2; cases h2
  obtain ⟨h4, h5, vs, h6, h7⟩ := h3
  exact ⟨p, vs, rfl, h6, h7, h5, fun ds' vs' ha hl => ⟨Le.refl F, Pre.refl l, hr.setC h1 e h4 rfl ⟨h4, hl, vs', upd_same, ha⟩⟩⟩
def setL : GSet := fun S o i d => match o, i with
  | .loc n, .int k => match S[n]? with
    | some (.lst ds) => match ixN ds.length k with
      | some j => some (S.set n (.lst (ds.set j d)))
      | none => none
    | _ => none
  | _, _ => none
theorem setok_list : SetOk K T rSetL setL := by
  intro F G l S H o i d S' x y v Q hr hx hy hv e k
  unfold setL at e
  split at e
  · rename_i n j
    split at e
    · rename_i ds e1
      split at e
      · rename_i m e2
        cases e; cases hy
        obtain ⟨p, vs, rfl, h1, h2, h3, h4⟩ := cell_lst hr hx e1
        refine ⟨p, vs, j, m, rfl, rfl, h1, by rw [h2.length]; exact e2, ?_⟩
        exact k _ _ _ (h4 _ _ (h2.set hv m) (by rw [List.length_set]; exact h3))
      · cases e
    · cases e
  · cases e

/-! ### slices -/
def cutD (xs : List D) (lo hi : Option Int) : List D := (xs.drop (HT.sIx xs.length 0 lo)).take (HT.sIx xs.length xs.length hi - HT.sIx xs.length 0 lo)
theorem cutD_at {F : Hp} {l : List Addr} {ds : List D} {vs : List V} (h : AtL K F l ds vs) (lo hi : Option Int) : AtL K F l (cutD ds lo hi) (cutV vs lo hi) := by
  unfold cutD cutV
  rw [h.length]
  exact (h.drop _).take _
theorem cutD_len (xs : List D) (lo hi : Option Int) : (cutD xs lo hi).length ≤ xs.length := by
  unfold cutD
  rw [List.length_take, List.length_drop]; omega
end
/-- a part of a slice -/
def partO (f : Sem D) : Sem (Option Int) := bindO f fun d => match d with
  | .int i => retO (some i)
  | _ => fun _ _ => .stuck
def noPartO : Sem (Option Int) := retO none
def sliceE (g : Store → D → Option Int → Option Int → Option (D × Store)) (f : Sem D) (lo hi : Sem (Option Int)) : Sem D := bindO f fun a => bindO lo fun i => bindO hi fun j => fun _ S => stepO (g S a i j)
def rO : Rl (Option Int) (Option Int) := fun _ _ a b => b = a
def PDO (X : Cx) (T : List (Addr × Str)) (W : WX) (e : Option Expr) (f : Sem (Option Int)) : Prop := PO X e (wp X.K T W rO f)
theorem PO.imp {X : Cx} {e : Option Expr} {t t' : TO} (h : PO X e t) (k : ∀ σ H Q, t' σ H Q → t σ H Q) : PO X e t' := ⟨fun pins s σ H Q I q => h.run pins s σ H Q I (k σ H Q q)⟩
def SlD (K : PySem.W.Frag) (T : List (Addr × Str)) (r : V → Option Int → Option Int → Hp → VK → Prop) (g : Store → D → Option Int → Option Int → Option (D × Store)) : Prop :=
  ∀ F G l S H a i j d S' x (Q : VK), HRel K T F G l S H → At K F l a x → g S a i j = some (d, S') → (∀ F' l' H' v, Later K T F G l F' l' S' H' → At K F' l' d v → Q v H') → r x i j H Q
section
variable {X : Cx} {T : List (Addr × Str)} {W : WX} {pos p2 : Pos} {e : Expr} {lo hi : Option Expr}
theorem pdo_some {f : Sem D} (h : PD X T W e f) : PDO X T W (some e) (partO f) := PO.imp (po_some h) fun σ H Q ⟨F, G, l, r, S, hr, hs, hp⟩ =>
  wp_step (rl' := rO) hr hs hp fun F1 l1 S1 a x H1 lt hs1 ha hp1 => by
    cases a with
    | int i => cases ha; exact ⟨i, rfl, hp1 F1 l1 H1 _ (Later.refl lt.rel) rfl⟩
    | _ => exact hp1.elim
theorem pdo_none : PDO X T W none noPartO := PO.imp po_none fun σ H Q ⟨F, G, l, r, S, hr, hs, hp⟩ => hp F l H none (Later.refl hr) rfl
theorem pd_slice {r : V → Option Int → Option Int → Hp → VK → Prop} {g : Store → D → Option Int → Option Int → Option (D × Store)} {f : Sem D} {fl fh : Sem (Option Int)} (hr : SlR X r) (hg : SlD X.K T r g) (he : PD X T W e f) (hl : PDO X T W lo fl) (hh : PDO X T W hi fh) :
    PD X T W (.Subscript e (.Slice lo hi none p2) pos) (sliceE g f fl fh) := PE.imp (pe_slice hr he hl hh) fun σ H Q ⟨F, G, l, r0, S, hr, hs, hp⟩ => by
  refine wp_step hr hs hp fun F1 l1 S1 a x H1 lt1 hs1 ha hp1 => ?_
  refine wp_step (rl := rO) lt1.rel hs1 hp1 fun F2 l2 S2 i i' H2 lt2 hs2 hi hp2 => ?_
  refine wp_step (rl := rO) lt2.rel hs2 hp2 fun F3 l3 S3 j j' H3 lt3 hs3 hj hp3 => ?_
  have hi : i' = i := hi
  have hj : j' = j := hj
  subst hi hj
  cases e : g S3 a i' j' with
  | none => simp only [e, stepO] at hp3; exact hp3.elim
  | some q =>
    simp only [e, stepO] at hp3
    exact hg F3 G l3 S3 H3 a i' j' q.1 q.2 x Q lt3.rel (At.mono (lt2.le.trans lt3.le) (lt2.pre.trans lt3.pre) _ _ ha) e hp3
end
def slL : Store → D → Option Int → Option Int → Option (D × Store) := fun S a i j => match a with
  | .scr ns => some (.lst (cutD (ns.map D.int) i j), S)
  | a => match lstOf S a with
    | some ds => some (.lst (cutD ds i j), S)
    | none => none
section
variable {K : PySem.W.Frag} {T : List (Addr × Str)}
theorem sld_list : SlD K T (rSlL K) slL := by
  intro F G l S H a i j d S' x Q hr ha e k
  unfold slL at e
  split at e
  · rename_i ns
    cases e
    obtain ⟨p, rfl, h1, h2⟩ := ha
    refine ⟨p, _, rfl, sql_le hr.fz h1, fun t ht => ?_⟩
    have le : Le F (upd F t (.lst (cutV (ns.map V.int) i j))) := Le.new (hr.fnone ht)
    refine k _ l _ _ (later_new (o := .lst (cutV (ns.map V.int) i j)) hr ht) ⟨t, _, rfl, upd_same, ?_, AtL.mono le (Pre.refl _) _ _ (cutD_at (AtL.ints ns) i j)⟩
    refine Nat.le_trans (cutD_len _ _ _) ?_
    rw [List.length_map]
    exact Nat.le_trans h2 (by decide)
  · rename_i a _
    split at e
    · rename_i ds e1
      cases e
      obtain ⟨p, vs, rfl, h1, h2, h3⟩ := lstOf_at hr ha e1
      refine ⟨p, vs, rfl, .of h1, fun t ht => ?_⟩
      have le : Le F (upd F t (.lst (cutV vs i j))) := Le.new (hr.fnone ht)
      exact k _ l _ _ (later_new (o := .lst (cutV vs i j)) hr ht) ⟨t, _, rfl, upd_same, Nat.le_trans (cutD_len _ _ _) h3, AtL.mono le (Pre.refl _) _ _ (cutD_at h2 i j)⟩
    · cases e
end
section
variable {X : Cx} {T : List (Addr × Str)} {W : WX} {pos p1 p2 p3 : Pos} {e : Expr} {k : Nat}
/-- xs[::-1] -/
def revE (f : Sem D) : Sem D := bindO f fun a => fun _ S => match lstOf S a with
  | some ds => .ok (.lst ds.reverse) S
  | none => .stuck
theorem pd_revL {f : Sem D} (h : PD X T W e f) : PD X T W (.Subscript e (.Slice none none (some (.UnaryOp .USub (.Constant (.int 1) k p1) p2)) p3) pos) (revE f) := PE.imp (pe_revL h) fun σ H Q ⟨F, G, l, r0, S, hr, hs, hp⟩ => by
  refine wp_step hr hs hp fun F1 l1 S1 a x H1 lt1 hs1 ha hp1 => ?_
  split at hp1
  · rename_i ds e1
    obtain ⟨p, vs, rfl, h1, h2, h3⟩ := lstOf_at lt1.rel ha e1
    refine ⟨p, vs, rfl, .of h1, fun t ht => ?_⟩
    exact newList_frozen lt1.rel h2.reverse (by rw [List.length_reverse]; exact h3) hp1 ht
  · exact hp1.elim
end
end Aw

/-! Aw7: built-ins and methods. -/
namespace Aw
open PySem L2 LamX

/-! ### built-ins -/
abbrev GC := Store → List D → Option (D × Store)
def CallD (K : PySem.W.Frag) (T : List (Addr × Str)) (r : List V → Hp → VK → Prop) (g : GC) : Prop := ∀ F G l S H ds d S' xs (Q : VK), HRel K T F G l S H → AtL K F l ds xs → g S ds = some (d, S') →
  (∀ F' l' H' v, Later K T F G l F' l' S' H' → At K F' l' d v → Q v H') → r xs H Q
def callB (g : GC) (f : Sem (List D)) : Sem D := bindO f fun as => fun _ S => stepO (g S as)
theorem callB_wp {K : PySem.W.Frag} {T : List (Addr × Str)} {W : WX} {r : List V → Hp → VK → Prop} {g : GC} {f : Sem (List D)} (hg : CallD K T r g) {σ : St} {H : Hp} {Q : VK} (h : wp K T W (rE K) (callB g f) σ H Q) : tCB r (wp K T W (rA K) f) σ H Q := by
  obtain ⟨F, G, l, r0, S, hr, hs, hp⟩ := h
  refine wp_step hr hs hp fun F1 l1 S1 a x H1 lt1 hs1 ha hp1 => ?_
  cases e : g S1 a with
  | none => simp only [e, stepO] at hp1; exact hp1.elim
  | some q =>
    simp only [e, stepO] at hp1
    exact hg F1 G l1 S1 H1 a q.1 q.2 x Q lt1.rel ha e hp1
section
variable {X : Cx} {T : List (Addr × Str)} {W : WX} {p pos : Pos} {e : Expr} {es : List Expr} {x : Str} {id : String}
theorem pd_callB {r : List V → Hp → VK → Prop} {g : GC} {f : Sem (List D)} (hc : CallR X (.builtin id) r) (hg : CallD X.K T r g) (hgl : Gl X x) (hm : X.mg x = none) (hv : bootBuiltins x = some (.builtin id)) (ha : PDA X T W (e :: es) f) (hn : x ≠ "__name__" := by decide) (hdb : (x == ("__debug__" : Str)) = false := by decide)
    (he : starEach (e :: es) X.env = (false, eval e X.env) :: starEach es X.env := by rfl) (hpl : (backTo pos (starEach es X.env)).any (·.1) = false := by rfl) : PD X T W (.Call (.Name x p) (e :: es) [] pos) (callB g f) :=
  PE.imp (pe_callB hc hgl hm hv ha hn hdb he hpl) fun _ _ _ q => callB_wp hg q
theorem pd_callTy {r : List V → Hp → VK → Prop} {g : GC} {f : Sem (List D)} (hc : CallR X (.type id) r) (hg : CallD X.K T r g) (hgl : Gl X x) (hm : X.mg x = none) (hv : bootBuiltins x = some (.type id)) (ha : PDA X T W (e :: es) f) (hn : x ≠ "__name__" := by decide) (hdb : (x == ("__debug__" : Str)) = false := by decide)
    (he : starEach (e :: es) X.env = (false, eval e X.env) :: starEach es X.env := by rfl) (hpl : (backTo pos (starEach es X.env)).any (·.1) = false := by rfl) : PD X T W (.Call (.Name x p) (e :: es) [] pos) (callB g f) :=
  PE.imp (pe_callTy hc hgl hm hv ha hn hdb he hpl) fun _ _ _ q => callB_wp hg q
end
def orC (g h : GC) : GC := fun S a => match g S a with
  | some q => some q
  | none => h S a
theorem CallD.or {K : PySem.W.Frag} {T : List (Addr × Str)} {r r' : List V → Hp → VK → Prop} {g h : GC} (a : CallD K T r g) (b : CallD K T r' h) : CallD K T (fun x H Q => r x H Q ∨ r' x H Q) (orC g h) := by
  intro F G l S H ds z S' x Q hr hd q k
  unfold orC at q
  cases e1 : g S ds with
  | some p =>
    rw [e1] at q; cases q
    exact .inl (a F G l S H ds z S' x Q hr hd e1 k)
  | none =>
    rw [e1] at q
    exact .inr (b F G l S H ds z S' x Q hr hd q k)
section
variable {K : PySem.W.Frag} {T : List (Addr × Str)}
/-- len -/
def lenOf (S : Store) : D → Option Nat
  | .str x => if x.length ≤ 100000 then some x.length else none
  | .scr ns => some ns.length
  | d => (seqOf S d).map (·.length)
def lenG : GC := fun S as => match as with
  | [d] => match lenOf S d with
    | some n => some (.int (n : Nat), S)
    | none => none
  | _ => none
theorem calld_len : CallD K T (fun xs H Q => ∃ x n, xs = [x] ∧ LenV K x H n ∧ Q (.int n) H) lenG := by
  intro F G l S H ds d S' xs Q hr ha e k
  unfold lenG at e
  split at e
  · rename_i c
    obtain ⟨v, rfl, hv⟩ := AtL.one ha
    split at e
    · rename_i n e1
      cases e
      refine ⟨v, n, rfl, ?_, k F l H _ (Later.refl hr) rfl⟩
      unfold lenOf at e1
      split at e1
      · cases hv
        split at e1
        · rename_i hl
          cases e1
          exact ⟨sz_of hl, rfl⟩
        · cases e1
      · cases e1
        obtain ⟨a, rfl, h1, h2⟩ := hv
        exact .inl ⟨_, sql_le hr.fz h1, by simp⟩
      · cases e2 : seqOf S c with
        | none => rw [e2] at e1; cases e1
        | some es =>
          rw [e2] at e1; cases e1
          obtain ⟨a, vs, rfl, h1, h2, h3⟩ := seqOf_at hr hv e2
          rcases h1 with h1 | h1
          · exact .inl ⟨vs, .of h1, h2.length.symm⟩
          · exact .inr ⟨vs, .of h1, h2.length.symm⟩
    · cases e
  · cases e
/-- lists of ints, of truths -/
def intsOf : List D → Option (List Int)
  | [] => some []
  | .int i :: ds => (intsOf ds).map (i :: ·)
  | _ => none
theorem intsOf_eq : ∀ {ds : List D} {ns : List Int}, intsOf ds = some ns → ds = ns.map D.int
  | [], ns, h => by cases h; rfl
  | .int i :: ds, ns, h => by
    simp only [intsOf] at h
    cases q : intsOf ds with
    | none => rw [q] at h; cases h
    | some ms => rw [q] at h; cases h; rw [intsOf_eq q]; rfl
  | .non :: _, _, h => by cases h
  | .bl _ :: _, _, h => by cases h
  | .str _ :: _, _, h => by cases h
  | .tup _ :: _, _, h => by cases h
  | .lst _ :: _, _, h => by cases h
  | .dct _ _ :: _, _, h => by cases h
  | .loc _ :: _, _, h => by cases h
  | .scr _ :: _, _, h => by cases h
  | .fn _ :: _, _, h => by cases h
theorem intsOf_map (ns : List Int) : intsOf (ns.map D.int) = some ns := by
  induction ns with
  | nil => rfl
  | cons n ns ih => simp [intsOf, ih]
def blsOf : List D → Option (List Bool)
  | [] => some []
  | .bl i :: ds => (blsOf ds).map (i :: ·)
  | _ => none
theorem blsOf_eq : ∀ {ds : List D} {ns : List Bool}, blsOf ds = some ns → ds = ns.map D.bl
  | [], ns, h => by cases h; rfl
  | .bl i :: ds, ns, h => by
    simp only [blsOf] at h
    cases q : blsOf ds with
    | none => rw [q] at h; cases h
    | some ms => rw [q] at h; cases h; rw [blsOf_eq q]; rfl
  | .non :: _, _, h => by cases h
  | .int _ :: _, _, h => by cases h
  | .str _ :: _, _, h => by cases h
  | .tup _ :: _, _, h => by cases h
  | .lst _ :: _, _, h => by cases h
  | .dct _ _ :: _, _, h => by cases h
  | .loc _ :: _, _, h => by cases h
  | .scr _ :: _, _, h => by cases h
  | .fn _ :: _, _, h => by cases h
theorem blsOf_map (ns : List Bool) : blsOf (ns.map D.bl) = some ns := by
  induction ns with
  | nil => rfl
  | cons n ns ih => simp [blsOf, ih]
def onInts (f : List Int → Option D) : GC := fun S as => match as with
  | [d] => match lstOf S d with
    | some ds => match intsOf ds with
      | some ns => (f ns).map fun r => (r, S)
      | none => none
    | none => none
  | _ => none
def onBls (f : List Bool → Option D) : GC := fun S as => match as with
  | [d] => match lstOf S d with
    | some ds => match blsOf ds with
      | some ns => (f ns).map fun r => (r, S)
      | none => none
    | none => none
  | _ => none
theorem onInts_at {F G H : Hp} {l : List Addr} {S S' : Store} {ds : List D} {d : D} {xs : List V} {f : List Int → Option D} (hr : HRel K T F G l S H) (ha : AtL K F l ds xs) (e : onInts f S ds = some (d, S')) :
    ∃ a ns, xs = [.ref a] ∧ H a = some (.lst (ns.map V.int)) ∧ f ns = some d ∧ S' = S ∧ ns.length ≤ sizeLine := by
  unfold onInts at e
  split at e
  · obtain ⟨v, rfl, hv⟩ := AtL.one ha
    split at e
    · rename_i es e1
      split at e
      · rename_i ns e2
        obtain ⟨a, vs, rfl, h1, h2, h3⟩ := lstOf_at hr hv e1
        cases intsOf_eq e2
        have := AtL.of_ints h2
        subst this
        cases q : f ns with
        | none => rw [q] at e; cases e
        | some r => rw [q] at e; cases e; exact ⟨a, ns, rfl, h1, q, rfl, by simpa using h3⟩
      · cases e
    · cases e
  · cases e
theorem onBls_at {F G H : Hp} {l : List Addr} {S S' : Store} {ds : List D} {d : D} {xs : List V} {f : List Bool → Option D} (hr : HRel K T F G l S H) (ha : AtL K F l ds xs) (e : onBls f S ds = some (d, S')) :
    ∃ a ns, xs = [.ref a] ∧ H a = some (.lst (ns.map V.bl)) ∧ f ns = some d ∧ S' = S := by
  unfold onBls at e
  split at e
  · obtain ⟨v, rfl, hv⟩ := AtL.one ha
    split at e
    · rename_i es e1
      split at e
      · rename_i ns e2
        obtain ⟨a, vs, rfl, h1, h2, h3⟩ := lstOf_at hr hv e1
        cases blsOf_eq e2
        have := AtL.of_bls h2
        subst this
        cases q : f ns with
        | none => rw [q] at e; cases e
        | some r => rw [q] at e; cases e; exact ⟨a, ns, rfl, h1, q, rfl⟩
      · cases e
    · cases e
  · cases e
def sumG : GC := onInts fun ns => some (.int ns.sum)
theorem calld_sum : CallD K T (rSum K) sumG := by
  intro F G l S H ds d S' xs Q hr ha e k
  obtain ⟨a, ns, rfl, h1, h2, rfl, _⟩ := onInts_at hr ha e
  cases h2
  exact ⟨a, ns, rfl, .of h1, k F l H _ (Later.refl hr) rfl⟩
def allG : GC := onBls fun bs => some (.bl (bs.all id))
def anyG : GC := onBls fun bs => some (.bl (bs.any id))
theorem calld_all : CallD K T (rAll K) allG := by
  intro F G l S H ds d S' xs Q hr ha e k
  obtain ⟨a, ns, rfl, h1, h2, rfl⟩ := onBls_at hr ha e
  cases h2
  exact ⟨a, ns, rfl, .of h1, k F l H _ (Later.refl hr) rfl⟩
theorem calld_any : CallD K T (rAny K) anyG := by
  intro F G l S H ds d S' xs Q hr ha e k
  obtain ⟨a, ns, rfl, h1, h2, rfl⟩ := onBls_at hr ha e
  cases h2
  exact ⟨a, ns, rfl, .of h1, k F l H _ (Later.refl hr) rfl⟩
def maxI : List Int → Option D
  | [] => none
  | n :: ns => some (.int (ns.foldl max n))
def minI : List Int → Option D
  | [] => none
  | n :: ns => some (.int (ns.foldl min n))
theorem foldmax_le : ∀ (ns : List Int) (n : Int), n ≤ ns.foldl max n ∧ (∀ y ∈ ns, y ≤ ns.foldl max n) ∧ (ns.foldl max n = n ∨ ns.foldl max n ∈ ns)
  | [], n => by simp
  | m :: ns, n => by
    obtain ⟨h1, h2, h3⟩ := foldmax_le ns (max n m)
    simp only [List.foldl_cons]
    refine ⟨by omega, fun y hy => ?_, ?_⟩
    · rcases List.mem_cons.mp hy with rfl | hy
      · omega
      · exact h2 y hy
    · rcases h3 with h3 | h3
      · rw [h3]
        by_cases hm : n ≤ m
        · right; rw [Int.max_eq_right hm]; exact List.mem_cons_self
        · left; rw [Int.max_eq_left (by omega)]
      · exact .inr (List.mem_cons_of_mem _ h3)
theorem foldmin_le : ∀ (ns : List Int) (n : Int), ns.foldl min n ≤ n ∧ (∀ y ∈ ns, ns.foldl min n ≤ y) ∧ (ns.foldl min n = n ∨ ns.foldl min n ∈ ns)
  | [], n => by simp
  | m :: ns, n => by
    obtain ⟨h1, h2, h3⟩ := foldmin_le ns (min n m)
    simp only [List.foldl_cons]
    refine ⟨by omega, fun y hy => ?_, ?_⟩
    · rcases List.mem_cons.mp hy with rfl | hy
      · omega
      · exact h2 y hy
    · rcases h3 with h3 | h3
      · rw [h3]
        by_cases hm : n ≤ m
        · left; rw [Int.min_eq_left hm]
        · right; rw [Int.min_eq_right (by omega)]; exact List.mem_cons_self
      · exact .inr (List.mem_cons_of_mem _ h3)
def maxG : GC := onInts maxI
def minG : GC := onInts minI
theorem calld_max : CallD K T (rMax K) maxG := by
  intro F G l S H ds d S' xs Q hr ha e k
  obtain ⟨a, ns, rfl, h1, h2, rfl, _⟩ := onInts_at hr ha e
  cases ns with
  | nil => cases h2
  | cons n ns =>
    cases h2
    obtain ⟨q1, q2, q3⟩ := foldmax_le ns n
    refine ⟨a, n :: ns, rfl, .of h1, by simp, fun m hm hle => ?_⟩
    have em : m = ns.foldl max n := by
      have a1 : m ≤ ns.foldl max n := by
        rcases List.mem_cons.mp hm with rfl | hm
        · exact q1
        · exact q2 m hm
      have a2 : ns.foldl max n ≤ m := by
        rcases q3 with q3 | q3
        · rw [q3]; exact hle n List.mem_cons_self
        · exact hle _ (List.mem_cons_of_mem _ q3)
      omega
    subst em
    exact k F l H _ (Later.refl hr) rfl
theorem calld_min : CallD K T (rMin K) minG := by
  intro F G l S H ds d S' xs Q hr ha e k
  obtain ⟨a, ns, rfl, h1, h2, rfl, _⟩ := onInts_at hr ha e
  cases ns with
  | nil => cases h2
  | cons n ns =>
    cases h2
    obtain ⟨q1, q2, q3⟩ := foldmin_le ns n
    refine ⟨a, n :: ns, rfl, .of h1, by simp, fun m hm hle => ?_⟩
    have em : m = ns.foldl min n := by
      have a1 : ns.foldl min n ≤ m := by
        rcases List.mem_cons.mp hm with rfl | hm
        · exact q1
        · exact q2 m hm
      have a2 : m ≤ ns.foldl min n := by
        rcases q3 with q3 | q3
        · rw [q3]; exact hle n List.mem_cons_self
        · exact hle _ (List.mem_cons_of_mem _ q3)
      omega
    subst em
    exact k F l H _ (Later.refl hr) rfl
def max2G : GC := fun S as => match as with
  | [.int i, .int j] => some (.int (if j > i then j else i), S)
  | _ => none
def min2G : GC := fun S as => match as with
  | [.int i, .int j] => some (.int (if j < i then j else i), S)
  | _ => none
theorem calld_max2 : CallD K T (fun xs H Q => ∃ i j, xs = [.int i, .int j] ∧ Q (.int (if j > i then j else i)) H) max2G := by
  intro F G l S H ds d S' xs Q hr ha e k
  unfold max2G at e
  split at e
  · cases e
    obtain ⟨v, w, rfl, h1, h2⟩ := AtL.two ha
    cases h1; cases h2
    exact ⟨_, _, rfl, k F l H _ (Later.refl hr) rfl⟩
  · cases e
theorem calld_min2 : CallD K T (fun xs H Q => ∃ i j, xs = [.int i, .int j] ∧ Q (.int (if j < i then j else i)) H) min2G := by
  intro F G l S H ds d S' xs Q hr ha e k
  unfold min2G at e
  split at e
  · cases e
    obtain ⟨v, w, rfl, h1, h2⟩ := AtL.two ha
    cases h1; cases h2
    exact ⟨_, _, rfl, k F l H _ (Later.refl hr) rfl⟩
  · cases e
def absG : GC := fun S as => match as with
  | [.int i] => some (.int (if i < 0 then -i else i), S)
  | _ => none
theorem calld_abs : CallD K T (fun xs H Q => ∃ i, xs = [.int i] ∧ Q (.int (if i < 0 then -i else i)) H) absG := by
  intro F G l S H ds d S' xs Q hr ha e k
  unfold absG at e
  split at e
  · cases e
    obtain ⟨v, rfl, h1⟩ := AtL.one ha
    cases h1
    exact ⟨_, rfl, k F l H _ (Later.refl hr) rfl⟩
  · cases e
def intG1 : GC := fun S as => match as with
  | [.int i] => some (.int i, S)
  | [.bl b] => some (.int (if b then 1 else 0), S)
  | _ => none
theorem calld_int : CallD K T (fun xs H Q => (∃ i, xs = [.int i] ∧ Q (.int i) H) ∨ ∃ k, xs = [.bl k] ∧ Q (.int (if k then 1 else 0)) H) intG1 := by
  intro F G l S H ds d S' xs Q hr ha e k
  unfold intG1 at e
  split at e
  · cases e
    obtain ⟨v, rfl, h1⟩ := AtL.one ha
    cases h1
    exact .inl ⟨_, rfl, k F l H _ (Later.refl hr) rfl⟩
  · cases e
    obtain ⟨v, rfl, h1⟩ := AtL.one ha
    cases h1
    exact .inr ⟨_, rfl, k F l H _ (Later.refl hr) rfl⟩
  · cases e
/-- list(x): frozen, or a new cell -/
def listG : GC := fun S as => match as with
  | [d] => (seqOf S d).map fun ds => (.lst ds, S)
  | _ => none
def listGC : GC := fun S as => match as with
  | [d] => (seqOf S d).map fun ds => (.loc S.length, S ++ [.lst ds])
  | _ => none
theorem calld_list : CallD K T (fun xs H Q => ∃ p ys, xs = [.ref p] ∧ (SqL K H p ys ∨ SqT K H p ys) ∧ ∀ l, H l = none → Q (.ref l) (upd H l (.lst ys))) listG := by
  intro F G l S H ds d S' xs Q hr ha e k
  unfold listG at e
  split at e
  · obtain ⟨v, rfl, hv⟩ := AtL.one ha
    rename_i c
    cases q : seqOf S c with
    | none => rw [q] at e; cases e
    | some es =>
      rw [q] at e; cases e
      obtain ⟨a, vs, rfl, h1, h2, h3⟩ := seqOf_at hr hv q
      refine ⟨a, vs, rfl, ?_, fun t ht => ?_⟩
      · rcases h1 with h1 | h1
        · exact .inl (.of h1)
        · exact .inr (.of h1)
      · have le : Le F (upd F t (.lst vs)) := Le.new (hr.fnone ht)
        exact k _ l _ _ (later_new (o := .lst vs) hr ht) ⟨t, _, rfl, upd_same, h3, AtL.mono le (Pre.refl _) _ _ h2⟩
  · cases e
theorem calld_listC : CallD K T (fun xs H Q => ∃ p ys, xs = [.ref p] ∧ (SqL K H p ys ∨ SqT K H p ys) ∧ ∀ l, H l = none → Q (.ref l) (upd H l (.lst ys))) listGC := by
  intro F G l S H ds d S' xs Q hr ha e k
  unfold listGC at e
  split at e
  · obtain ⟨v, rfl, hv⟩ := AtL.one ha
    rename_i c
    cases q : seqOf S c with
    | none => rw [q] at e; cases e
    | some es =>
      rw [q] at e; cases e
      obtain ⟨a, vs, rfl, h1, h2, h3⟩ := seqOf_at hr hv q
      refine ⟨a, vs, rfl, ?_, fun t ht => ?_⟩
      · rcases h1 with h1 | h1
        · exact .inl (.of h1)
        · exact .inr (.of h1)
      · obtain ⟨lt, at_⟩ := later_cell hr ht h2 h3
        exact k _ _ _ _ lt at_
  · cases e
/-- tuple(list) -/
def tupG : GC := fun S as => match as with
  | [.tup ds] => some (.tup ds, S)
  | [d] => (lstOf S d).map fun ds => (.tup ds, S)
  | _ => none
theorem calld_tup : CallD K T (fun xs H Q => ∃ p ys, xs = [.ref p] ∧ ((SqL K H p ys ∧ ∀ l, H l = none → Q (.ref l) (upd H l (.tup ys))) ∨ (SqT K H p ys ∧ Q (.ref p) H))) tupG := by
  intro F G l S H ds d S' xs Q hr ha e k
  unfold tupG at e
  split at e
  · cases e
    obtain ⟨v, rfl, hv⟩ := AtL.one ha
    have hv' := hv
    obtain ⟨a, vs, rfl, h1, h2, h3⟩ := hv
    exact ⟨a, vs, rfl, .inr ⟨.of (hr.fz _ _ h1), k F l H _ (Later.refl hr) hv'⟩⟩
  · obtain ⟨v, rfl, hv⟩ := AtL.one ha
    rename_i c _
    cases q : lstOf S c with
    | none => rw [q] at e; cases e
    | some es =>
      rw [q] at e; cases e
      obtain ⟨a, vs, rfl, h1, h2, h3⟩ := lstOf_at hr hv q
      refine ⟨a, vs, rfl, .inl ⟨.of h1, fun t ht => ?_⟩⟩
      have le : Le F (upd F t (.tup vs)) := Le.new (hr.fnone ht)
      exact k _ l _ _ (later_new (o := .tup vs) hr ht) ⟨t, _, rfl, upd_same, h3, AtL.mono le (Pre.refl _) _ _ h2⟩
  · cases e

/-! ### sorted -/
def ins {α : Type} (lt : α → α → Bool) (x : α) : List α → List α
  | [] => [x]
  | y :: ys => if lt y x then y :: ins lt x ys else x :: y :: ys
def isort {α : Type} (lt : α → α → Bool) : List α → List α
  | [] => []
  | x :: xs => ins lt x (isort lt xs)
theorem ins_perm {α : Type} (lt : α → α → Bool) (x : α) : ∀ ys : List α, (ins lt x ys).Perm (x :: ys)
  | [] => List.Perm.refl _
  | y :: ys => by
    unfold ins
    split
    · exact ((ins_perm lt x ys).cons y).trans (List.Perm.swap x y ys)
    · exact List.Perm.refl _
theorem isort_perm {α : Type} (lt : α → α → Bool) : ∀ xs : List α, (isort lt xs).Perm xs
  | [] => List.Perm.refl _
  | x :: xs => (ins_perm lt x _).trans ((isort_perm lt xs).cons x)
theorem ins_srtd {α : Type} {lt : α → α → Bool} (O : SrtO.Swo lt) (x : α) : ∀ {ys : List α}, SrtO.Srtd lt ys → SrtO.Srtd lt (ins lt x ys)
  | [], _ => SrtO.srtd_one x
  | y :: ys, h => by
    unfold ins
    obtain ⟨h1, h2⟩ := List.pairwise_cons.mp h
    split
    · rename_i hl
      refine List.pairwise_cons.mpr ⟨fun z hz => ?_, ins_srtd O x h2⟩
      rcases List.mem_cons.mp ((ins_perm lt x ys).mem_iff.mp hz) with rfl | hz
      · exact O.asym _ _ hl
      · exact h1 z hz
    · rename_i hl
      have hl : lt y x = false := by simpa using hl
      refine List.pairwise_cons.mpr ⟨fun z hz => ?_, h⟩
      rcases List.mem_cons.mp hz with rfl | hz
      · exact hl
      · exact O.tr x y z hl (h1 z hz)
theorem isort_srtd {α : Type} {lt : α → α → Bool} (O : SrtO.Swo lt) : ∀ xs : List α, SrtO.Srtd lt (isort lt xs)
  | [] => List.Pairwise.nil
  | x :: xs => ins_srtd O x (isort_srtd O xs)
theorem ins_cls {α : Type} {lt : α → α → Bool} (O : SrtO.Swo lt) (x z : α) : ∀ ys : List α, (ins lt x ys).filter (SrtO.eqv lt z) = (x :: ys).filter (SrtO.eqv lt z)
  | [] => rfl
  | y :: ys => by
    unfold ins
    split
    · rename_i hl
      rw [List.filter_cons, ins_cls O x z ys]
      by_cases h1 : SrtO.eqv lt z y = true
      · have h2 : SrtO.eqv lt z x = false := by
          cases q : SrtO.eqv lt z x with
          | false => rfl
          | true =>
            obtain ⟨a1, a2⟩ := SrtO.eqv_iff.mp h1
            obtain ⟨b1, b2⟩ := SrtO.eqv_iff.mp q
            have := O.tr x z y b1 a2
            rw [hl] at this; cases this
        simp [List.filter_cons, h1, h2]
      · simp [List.filter_cons, h1]
    · rfl
theorem isort_stb {α : Type} {lt : α → α → Bool} (O : SrtO.Swo lt) : ∀ xs : List α, SrtO.Stb lt (isort lt xs) xs
  | [] => SrtO.Stb.refl _
  | x :: xs => ⟨isort_perm lt _, fun z => by
    show (ins lt x (isort lt xs)).filter _ = _
    rw [ins_cls O, List.filter_cons, List.filter_cons, (isort_stb O xs).cls z]⟩
theorem isort_uniq {α : Type} {lt : α → α → Bool} (O : SrtO.Swo lt) {ys xs : List α} (h1 : SrtO.Srtd lt ys) (h2 : SrtO.Stb lt ys xs) : ys = isort lt xs :=
  SrtO.stb_uniq O h1 (isort_srtd O xs) (h2.trans ⟨(isort_stb O xs).perm.symm, fun z => ((isort_stb O xs).cls z).symm⟩)
theorem ins_at {F : Hp} {l : List Addr} {lt : D → D → Bool} {lt' : V → V → Bool} {d : D} {v : V} {ds : List D} {vs : List V} (hv : At K F l d v) (h : AtL K F l ds vs)
    (k : ∀ e w, e ∈ ds → w ∈ vs → At K F l e w → lt e d = lt' w v) : AtL K F l (ins lt d ds) (ins lt' v vs) := by
  induction ds generalizing vs with
  | nil => cases h; exact ⟨v, [], rfl, hv, rfl⟩
  | cons e es ih =>
    obtain ⟨w, ws, rfl, h1, h2⟩ := h
    unfold ins
    rw [k e w List.mem_cons_self List.mem_cons_self h1]
    split
    · exact ⟨w, _, rfl, h1, ih h2 fun e w he hw => k e w (List.mem_cons_of_mem _ he) (List.mem_cons_of_mem _ hw)⟩
    · exact ⟨v, _, rfl, hv, w, ws, rfl, h1, h2⟩
theorem isort_at {F : Hp} {l : List Addr} {lt : D → D → Bool} {lt' : V → V → Bool} : ∀ {ds : List D} {vs : List V}, AtL K F l ds vs →
    (∀ d v e w, d ∈ ds → v ∈ vs → e ∈ ds → w ∈ vs → At K F l d v → At K F l e w → lt e d = lt' w v) → AtL K F l (isort lt ds) (isort lt' vs)
  | [], vs, h, _ => by cases h; exact rfl
  | d :: ds, vs, h, k => by
    obtain ⟨v, vs', rfl, h1, h2⟩ := h
    refine ins_at h1 (isort_at h2 fun a b c e h1 h2 h3 h4 => k a b c e (List.mem_cons_of_mem _ h1) (List.mem_cons_of_mem _ h2) (List.mem_cons_of_mem _ h3) (List.mem_cons_of_mem _ h4)) fun e w he hw h3 => ?_
    exact k d v e w List.mem_cons_self List.mem_cons_self (List.mem_cons_of_mem _ ((isort_perm lt ds).mem_iff.mp he)) (List.mem_cons_of_mem _ ((isort_perm lt' vs').mem_iff.mp hw)) h1 h3
def ltInt : Int → Int → Bool := fun i j => decide (i < j)
theorem swo_int : SrtO.Swo ltInt := ⟨fun x y h => by simp only [ltInt, decide_eq_true_eq, decide_eq_false_iff_not] at *; omega, fun x y z h1 h2 => by simp only [ltInt, decide_eq_false_iff_not] at *; omega⟩
theorem isort_int {ys xs : List Int} (h1 : ys.Perm xs) (h2 : ys.Pairwise (· ≤ ·)) : ys = isort ltInt xs := by
  refine isort_uniq swo_int (h2.imp fun h => by simp only [ltInt, decide_eq_false_iff_not]; omega) ⟨h1, fun x => ?_⟩
  have e : SrtO.eqv ltInt x = fun y => x == y := by
    funext y
    simp only [SrtO.eqv, ltInt]
    by_cases h : x = y
    · subst h; simp
    · have : x < y ∨ y < x := by omega
      rcases this with q | q <;> simp [h, q]
  rw [e]
  have := h1.count_eq x
  rw [List.count_eq_length_filter, List.count_eq_length_filter] at this
  have f : ∀ l : List Int, l.filter (fun y => x == y) = List.replicate (l.filter (fun y => x == y)).length x := fun l =>
    List.eq_replicate_iff.mpr ⟨rfl, fun b hb => by have := (List.mem_filter.mp hb).2; simpa using (beq_iff_eq.mp this).symm⟩
  rw [f ys, f xs]
  congr 1
  have g : ∀ l : List Int, (l.filter fun y => x == y).length = (l.filter (fun y => y == x)).length := fun l => by
    congr 1
    congr 1
    funext y
    rw [Bool.eq_iff_iff, beq_iff_eq, beq_iff_eq]
    exact eq_comm
  rw [g, g]
  exact this
def sortI : GC := onInts fun ns => some (.lst ((isort ltInt ns).map D.int))
theorem calld_sortI : CallD K T (rSortedI K) sortI := by
  intro F G l S H ds d S' xs Q hr ha e k
  obtain ⟨a, ns, rfl, h1, h2, rfl, hlen⟩ := onInts_at hr ha e
  cases h2
  refine ⟨a, ns, rfl, .of h1, fun ns' p hp hs hn => ?_⟩
  have := isort_int hp hs
  subst this
  have le : Le F (upd F p (.lst ((isort ltInt ns).map V.int))) := Le.new (hr.fnone hn)
  refine k _ l _ _ (later_new (o := .lst ((isort ltInt ns).map V.int)) hr hn) ⟨p, _, rfl, upd_same, ?_, AtL.ints _⟩
  rw [List.length_map, (isort_perm ltInt ns).length_eq]
  exact hlen
/-- pairs of ints -/
def pairK : D → Int × Int
  | .tup [.int i, .int j] => (i, j)
  | _ => (0, 0)
def isPair : D → Bool
  | .tup [.int _, .int _] => true
  | _ => false
def ltPair : D → D → Bool := fun a b => SrtO.lexB (pairK a) (pairK b)
def sortP : GC := fun S as => match as with
  | [d] => match lstOf S d with
    | some ds => if ds.all isPair then some (.lst (isort ltPair ds), S) else none
    | none => none
  | _ => none
theorem isPair_eq {d : D} (h : isPair d = true) : ∃ i j, d = .tup [.int i, .int j] := by
  unfold isPair at h
  split at h
  · exact ⟨_, _, rfl⟩
  · cases h
open Classical in
theorem calld_sortP : CallD K T (rSortedPO K) sortP := by
  intro F G l S H ds d S' xs Q hr ha e k
  unfold sortP at e
  split at e
  · obtain ⟨v, rfl, hv⟩ := AtL.one ha
    split at e
    · rename_i es e1
      split at e
      · rename_i hall
        cases e
        obtain ⟨a, vs, rfl, h1, h2, h3⟩ := lstOf_at hr hv e1
        have key : ∀ v ∈ vs, ∀ d ∈ es, At K F l d v → ∃ t, v = .ref t ∧ H t = some (.tup [.int (pairK d).1, .int (pairK d).2]) := fun v _ d hd hat => by
          obtain ⟨i, j, rfl⟩ := isPair_eq (List.all_eq_true.mp hall d hd)
          obtain ⟨t, us, rfl, q1, _, q2⟩ := hat
          obtain ⟨x, y, rfl, q3, q4⟩ := AtL.two q2
          cases q3; cases q4
          exact ⟨t, rfl, hr.fz _ _ q1⟩
        let kk : V → Int × Int := fun v => match v with
          | .ref t => match H t with
            | some (.tup [.int i, .int j]) => (i, j)
            | _ => (0, 0)
          | _ => (0, 0)
        have kk_eq : ∀ v ∈ vs, ∀ d ∈ es, At K F l d v → kk v = pairK d := fun v hv d hd hat => by
          obtain ⟨t, rfl, q⟩ := key v hv d hd hat
          show (match H t with
            | some (.tup [.int i, .int j]) => (i, j)
            | _ => (0, 0)) = _
          rw [q]
        refine ⟨a, vs, kk, rfl, .of h1, fun v hv => ?_, fun ys p hs hb hn => ?_⟩
        · obtain ⟨i, hi⟩ := List.getElem?_of_mem hv
          obtain ⟨d, hd1, hd2⟩ := h2.get' hi
          have hd := List.mem_of_getElem? hd1
          obtain ⟨t, e, q⟩ := key v hv d hd hd2
          exact ⟨t, e, by rw [kk_eq v hv d hd hd2]; exact q⟩
        · have := isort_uniq (ltP_swo kk) hs hb
          subst this
          have le : Le F (upd F p (.lst (isort (ltP kk) vs))) := Le.new (hr.fnone hn)
          refine k _ l _ _ (later_new (o := .lst (isort (ltP kk) vs)) hr hn) ⟨p, _, rfl, upd_same, by rw [(isort_perm _ es).length_eq]; exact h3, AtL.mono le (Pre.refl _) _ _ ?_⟩
          refine isort_at h2 fun d v e w hd hv he hw hat hat' => ?_
          show SrtO.lexB (pairK e) (pairK d) = SrtO.lexB (kk w) (kk v)
          rw [kk_eq v hv d hd hat, kk_eq w hw e he hat']
      · cases e
    · cases e
  · cases e
end
end Aw

/-! Aw8: methods of lists, isinstance. -/
namespace Aw
open PySem L2 LamX

abbrev GM := Store → D → List D → Option (D × Store)
def MethD (K : PySem.W.Frag) (T : List (Addr × Str)) (r : V → List V → Hp → VK → Prop) (g : GM) : Prop := ∀ F G l S H o ds d S' x xs (Q : VK), HRel K T F G l S H → At K F l o x → AtL K F l ds xs → g S o ds = some (d, S') →
  (∀ F' l' H' v, Later K T F G l F' l' S' H' → At K F' l' d v → Q v H') → r x xs H Q
/-- a list's method -/
def methL (g : GM) (fo : Sem D) (fa : Sem (List D)) : Sem D := bindO fo fun o => fun r S => if (lstOf S o).isSome then bindO fa (fun as => fun _ S => stepO (g S o as)) r S else .stuck
theorem tyV_lst {K : PySem.W.Frag} {T : List (Addr × Str)} {F G H : Hp} {l : List Addr} {S : Store} (hr : HRel K T F G l S H) {d : D} {v : V} (hv : At K F l d v) (e : (lstOf S d).isSome = true) : tyV K "list" v H := by
  cases q : lstOf S d with
  | none => rw [q] at e; cases e
  | some ds =>
    obtain ⟨a, vs, rfl, h1, _⟩ := lstOf_at hr hv q
    exact .inl ⟨rfl, vs, .of h1⟩
theorem meth_wp {K : PySem.W.Frag} {T : List (Addr × Str)} {W : WX} {r : V → List V → Hp → VK → Prop} {g : GM} {fo : Sem D} {fa : Sem (List D)} (hg : MethD K T r g) {σ : St} {H : Hp} {Q : VK} (h : wp K T W (rE K) (methL g fo fa) σ H Q) :
    tBM K "list" r (wp K T W (rE K) fo) (wp K T W (rA K) fa) σ H Q := by
  obtain ⟨F, G, l, r0, S, hr, hs, hp⟩ := h
  refine wp_step hr hs hp fun F1 l1 S1 a x H1 lt1 hs1 ha hp1 => ?_
  by_cases hl : (lstOf S1 a).isSome = true
  · rw [if_pos hl] at hp1
    refine ⟨tyV_lst lt1.rel ha hl, ?_⟩
    refine wp_step lt1.rel hs1 hp1 fun F2 l2 S2 b y H2 lt2 hs2 hb hp2 => ?_
    cases e : g S2 a b with
    | none => simp only [e, stepO] at hp2; exact hp2.elim
    | some q =>
      simp only [e, stepO] at hp2
      exact hg F2 G l2 S2 H2 a b q.1 q.2 x y Q lt2.rel (At.mono lt2.le lt2.pre _ _ ha) hb e hp2
  · rw [if_neg hl] at hp1; exact hp1.elim
section
variable {X : Cx} {T : List (Addr × Str)} {W : WX} {p pos apos cpos : Pos} {e o : Expr} {es : List Expr} {name : Str} {id : String}
theorem pd_ml {r : V → List V → Hp → VK → Prop} {g : GM} {fo : Sem D} {fa : Sem (List D)} {id : String} (slot : Slot "list" name id) (hty : typeOf (.builtin id) = pure (.type "method_descriptor")) (hm : MtR X id r) (hg : MethD X.K T r g) (ho : PD X T W o fo) (ha : PDA X T W (e :: es) fa)
    (hbase : attributeBase o name X.env (eval o X.env) = eval o X.env := by rfl)
    (hfew : ((backTo cpos (starEach (e :: es) X.env)).all (fun x => !x.1) && (backToKw cpos (keywordEach [] X.env)).all (fun x => x.1.isSome) && decide ((e :: es).length + ([] : List Keyword).length + (if ([] : List Keyword).isEmpty then 0 else 1) < 30)) = true := by rfl)
    (hline : (apos.endLine == cpos.line) = true := by rfl) (hs : starEach (e :: es) X.env = (false, eval e X.env) :: starEach es X.env := by rfl) (hplain : (backTo cpos (starEach es X.env)).any (·.1) = false := by rfl) :
    PD X T W (.Call (.Attribute o name apos) (e :: es) [] cpos) (methL g fo fa) :=
  PE.imp (pe_bm PySem.F.plainAttrs_list slot hty hm ho ha hbase hfew hline hs hplain) fun _ _ _ q => meth_wp hg q
theorem pd_ml0 {r : V → List V → Hp → VK → Prop} {g : GM} {fo : Sem D} {id : String} (slot : Slot "list" name id) (hty : typeOf (.builtin id) = pure (.type "method_descriptor")) (hm : MtR X id r) (hg : MethD X.K T r g) (ho : PD X T W o fo)
    (hbase : attributeBase o name X.env (eval o X.env) = eval o X.env := by rfl) (hline : (apos.endLine == cpos.line) = true := by rfl) : PD X T W (.Call (.Attribute o name apos) [] [] cpos) (methL g fo nilA) :=
  PE.imp (pe_bm0 PySem.F.plainAttrs_list slot hty hm ho hbase hline) fun σ H Q q => by
  obtain ⟨F, G, l, r0, S, hr, hs, hp⟩ := q
  refine wp_step hr hs hp fun F1 l1 S1 a x H1 lt1 hs1 ha hp1 => ?_
  by_cases hl : (lstOf S1 a).isSome = true
  · rw [if_pos hl] at hp1
    refine ⟨tyV_lst lt1.rel ha hl, ?_⟩
    have hp2 : PostG X.K T W (rE X.K) F1 G l1 σ Q (stepO (g S1 a [])) := hp1
    cases e : g S1 a [] with
    | none => simp only [e, stepO] at hp2; exact hp2.elim
    | some q =>
      simp only [e, stepO] at hp2
      exact hg F1 G l1 S1 H1 a [] q.1 q.2 x [] Q lt1.rel ha rfl e hp2
  · rw [if_neg hl] at hp1; exact hp1.elim
end
section
variable {K : PySem.W.Frag} {T : List (Addr × Str)}
/-- a change of a list's cell by its items -/
def onCell (f : List D → List D → Option (D × List D)) : GM := fun S o as => match o with
  | .loc n => match S[n]? with
    | some (.lst ds) => match f ds as with
      | some (d, ds') => some (d, S.set n (.lst ds'))
      | none => none
    | _ => none
  | _ => none
theorem onCell_at {F G H : Hp} {l : List Addr} {S S' : Store} {o d : D} {as : List D} {x : V} {f : List D → List D → Option (D × List D)} (hr : HRel K T F G l S H) (hx : At K F l o x) (e : onCell f S o as = some (d, S')) :
    ∃ p vs ds ds', x = .ref p ∧ H p = some (.lst vs) ∧ AtL K F l ds vs ∧ ds.length ≤ sizeLine ∧ f ds as = some (d, ds') ∧ ∀ vs', AtL K F l ds' vs' → ds'.length ≤ sizeLine → Later K T F G l F l S' (upd H p (.lst vs')) := by
  unfold onCell at e
  split at e
  · split at e
    · rename_i n ds e1
      split at e
      · rename_i d' ds' e2
        cases e
        obtain ⟨p, vs, rfl, h1, h2, h3, h4⟩ := cell_lst hr hx e1
        exact ⟨p, vs, ds, ds', rfl, h1, h2, h3, e2, fun vs' a b => h4 ds' vs' a b⟩
      · cases e
    · cases e
  · cases e
def appendG : GM := onCell fun ds as => match as with
  | [d] => if ds.length < 100000 then some (.non, ds ++ [d]) else none
  | _ => none
theorem methd_append : MethD K T rAppend appendG := by
  intro F G l S H o as d S' x xs Q hr hx ha e k
  obtain ⟨p, vs, ds, ds', rfl, h1, h2, h3, h4, h5⟩ := onCell_at hr hx e
  split at h4
  · rename_i a
    split at h4
    · rename_i hl
      cases h4
      obtain ⟨v, rfl, hv⟩ := AtL.one ha
      refine ⟨p, vs, v, rfl, rfl, h1, by rw [h2.length]; exact Nat.lt_of_lt_of_le hl (by decide), ?_⟩
      exact k _ _ _ _ (h5 _ (h2.append ⟨v, [], rfl, hv, rfl⟩) (by rw [List.length_append]; exact sz_of hl)) rfl
    · cases h4
  · cases h4
def extendG : GM := fun S o as => match as with
  | [e] => match lstOf S e with
    | some es => onCell (fun ds _ => if ds.length + es.length ≤ 100000 then some (.non, ds ++ es) else none) S o []
    | none => none
  | _ => none
theorem methd_extend : MethD K T rExtend extendG := by
  intro F G l S H o as d S' x xs Q hr hx ha e k
  unfold extendG at e
  split at e
  · rename_i a
    split at e
    · rename_i es e1
      obtain ⟨v, rfl, hv⟩ := AtL.one ha
      obtain ⟨q, us, rfl, g1, g2, g3⟩ := lstOf_at hr hv e1
      obtain ⟨p, vs, ds, ds', rfl, h1, h2, h3, h4, h5⟩ := onCell_at hr hx e
      split at h4
      · rename_i hl
        cases h4
        refine ⟨p, q, vs, us, rfl, rfl, h1, g1, by rw [h2.length, g2.length]; exact sz_of hl, ?_⟩
        exact k _ _ _ _ (h5 _ (h2.append g2) (by rw [List.length_append]; exact sz_of hl)) rfl
      · cases h4
    · cases e
  · cases e
def insertG : GM := onCell fun ds as => match as with
  | [.int i, d] => if ds.length < 100000 ∧ 0 ≤ i ∧ i < 2 ^ 63 then some (.non, ds.take i.toNat ++ d :: ds.drop i.toNat) else none
  | _ => none
def popG : GM := onCell fun ds as => match as with
  | [] => match ds[ds.length - 1]? with
    | some d => some (d, ds.dropLast)
    | none => none
  | _ => none
theorem AtL.dropLast {F : Hp} {l : List Addr} {ds : List D} {vs : List V} (h : AtL K F l ds vs) : AtL K F l ds.dropLast vs.dropLast := by
  rw [List.dropLast_eq_take, List.dropLast_eq_take, h.length]
  exact h.take _
theorem methd_pop : MethD K T rPop popG := by
  intro F G l S H o as d S' x xs Q hr hx ha e k
  obtain ⟨p, vs, ds, ds', rfl, h1, h2, h3, h4, h5⟩ := onCell_at hr hx e
  split at h4
  · split at h4
    · rename_i d' e1
      cases h4; cases ha
      obtain ⟨v, q1, q2⟩ := h2.get e1
      refine ⟨p, vs, v, rfl, rfl, h1, by rw [h2.length]; exact q1, ?_⟩
      exact k _ _ _ _ (h5 _ h2.dropLast (by simp; omega)) q2
    · cases h4
  · cases h4
theorem AtL.eraseIdx {F : Hp} {l : List Addr} : ∀ {ds : List D} {vs : List V} (i : Nat), AtL K F l ds vs → AtL K F l (ds.eraseIdx i) (vs.eraseIdx i)
  | [], vs, i, h => by cases h; simp; exact rfl
  | d :: ds, vs, 0, h => by obtain ⟨v, vs', rfl, h1, h2⟩ := h; exact h2
  | d :: ds, vs, i + 1, h => by obtain ⟨v, vs', rfl, h1, h2⟩ := h; exact ⟨v, _, rfl, h1, AtL.eraseIdx i h2⟩
def popAtG : GM := onCell fun ds as => match as with
  | [.int i] => if -(2 ^ 63) ≤ i ∧ i < 2 ^ 63 then match seqIndex? i ds.length with
    | some k => match ds[k]? with
      | some d => some (d, ds.eraseIdx k)
      | none => none
    | none => none
    else none
  | _ => none
theorem methd_popAt : MethD K T rPopAt popAtG := by
  intro F G l S H o as d S' x xs Q hr hx ha e k
  obtain ⟨p, vs, ds, ds', rfl, h1, h2, h3, h4, h5⟩ := onCell_at hr hx e
  split at h4
  · split at h4
    · rename_i hb
      split at h4
      · rename_i j e2
        split at h4
        · rename_i d' e1
          cases h4
          obtain ⟨u, rfl, hu⟩ := AtL.one ha
          cases hu
          obtain ⟨v, q1, q2⟩ := h2.get e1
          refine ⟨p, vs, _, j, v, rfl, rfl, h1, hb.1, hb.2, by rw [h2.length]; exact e2, q1, ?_⟩
          exact k _ _ _ _ (h5 _ (h2.eraseIdx j) (by rw [List.length_eraseIdx]; split <;> omega)) q2
        · cases h4
      · cases h4
    · cases h4
  · cases h4
def reverseG : GM := onCell fun ds as => match as with
  | [] => some (.non, ds.reverse)
  | _ => none
theorem methd_reverse : MethD K T rReverse reverseG := by
  intro F G l S H o as d S' x xs Q hr hx ha e k
  obtain ⟨p, vs, ds, ds', rfl, h1, h2, h3, h4, h5⟩ := onCell_at hr hx e
  split at h4
  · cases h4; cases ha
    exact ⟨p, vs, rfl, rfl, h1, k _ _ _ _ (h5 _ h2.reverse (by simpa using h3)) rfl⟩
  · cases h4
def clearG : GM := onCell fun ds as => match as with
  | [] => some (.non, [])
  | _ => none
theorem methd_clear : MethD K T rClear clearG := by
  intro F G l S H o as d S' x xs Q hr hx ha e k
  obtain ⟨p, vs, ds, ds', rfl, h1, h2, h3, h4, h5⟩ := onCell_at hr hx e
  split at h4
  · cases h4; cases ha
    exact ⟨p, vs, rfl, rfl, h1, k _ _ _ _ (h5 [] rfl (Nat.zero_le _)) rfl⟩
  · cases h4
end

/-! ### isinstance -/
inductive Ty where
  | non | bool | int | str | tuple | list | dict
  deriving DecidableEq
def Ty.name : Ty → String
  | .non => "NoneType"
  | .bool => "bool"
  | .int => "int"
  | .str => "str"
  | .tuple => "tuple"
  | .list => "list"
  | .dict => "dict"
def isiB : Ty → Ty → Bool
  | .bool, .int => true
  | .non, .non => true
  | .bool, .bool => true
  | .int, .int => true
  | .str, .str => true
  | .tuple, .tuple => true
  | .list, .list => true
  | .dict, .dict => true
  | _, _ => false
theorem isiB_ok {K : PySem.W.Frag} (a b : Ty) : PySem.W.kitOne K (.type a.name) (.type b.name) = some (isiB a b) := by
  cases a <;> cases b <;> exact kit_ty (by decide +kernel)
def tyD0 : D → Option Ty
  | .non => some .non
  | .bl _ => some .bool
  | .int _ => some .int
  | .str _ => some .str
  | .tup _ => some .tuple
  | .lst _ => some .list
  | .dct _ _ => some .dict
  | _ => none
def tyD (S : Store) : D → Option Ty
  | .loc n => match S[n]? with
    | some (.lst _) => some .list
    | some (.dct _ _) => some .dict
    | some (.fz d) => tyD0 d
    | none => none
  | d => tyD0 d
theorem tyD0_at {K : PySem.W.Frag} {T : List (Addr × Str)} {F G H : Hp} {l : List Addr} {S : Store} (hr : HRel K T F G l S H) {d : D} {v : V} {t : Ty} (hv : At K F l d v) (e : tyD0 d = some t) : TyX K H v (.type t.name) := by
  cases d with
  | non => cases hv; cases e; exact .base .non
  | bl b => cases hv; cases e; exact .base (.bl b)
  | int i => cases hv; cases e; exact .base (.int i)
  | str x => cases hv; cases e; exact .base (.str x)
  | tup ds => obtain ⟨a, vs, rfl, h1, _⟩ := hv; cases e; exact .base (.tup (hr.fz _ _ h1))
  | lst ds => obtain ⟨a, vs, rfl, h1, _⟩ := hv; cases e; exact .base (.lst (hr.fz _ _ h1))
  | dct ks ws =>
    obtain ⟨a, vs, rfl, _, _, h | h⟩ := hv
    · obtain ⟨kvs, h1, _⟩ := h; cases e; exact .base (.dK (hr.fz _ _ h1))
    · obtain ⟨kvs, h1, _⟩ := h; cases e; exact .base (.dT (hr.fz _ _ h1))
  | _ => cases e
theorem tyD_at {K : PySem.W.Frag} {T : List (Addr × Str)} {F G H : Hp} {l : List Addr} {S : Store} (hr : HRel K T F G l S H) {d : D} {v : V} {t : Ty} (hv : At K F l d v) (e : tyD S d = some t) : TyX K H v (.type t.name) := by
  cases d with
  | loc n =>
    obtain ⟨a, h1, rfl⟩ := hv
    simp only [tyD] at e
    cases q : S[n]? with
    | none => rw [q] at e; cases e
    | some c =>
      rw [q] at e
      obtain ⟨a', h2, h3⟩ := hr.cell n c q
      rw [h1] at h2; cases h2
      cases c with
      | lst ds =>
        cases e
        obtain ⟨_, _, vs, h5, _⟩ := h3
        exact .base (.lst h5)
      | dct ks ws =>
        cases e
        obtain ⟨_, _, vs, _, h | h⟩ := h3
        · obtain ⟨kvs, q1, _⟩ := h; exact .base (.dK q1)
        · obtain ⟨kvs, q1, _⟩ := h; exact .base (.dT q1)
      | fz d => exact tyD0_at hr h3 e
  | _ => exact tyD0_at hr hv e
def isiE (t : Ty) (f : Sem D) : Sem D := bindO f fun d => fun _ S => match tyD S d with
  | some a => .ok (.bl (isiB a t)) S
  | none => .stuck
section
variable {X : Cx} {T : List (Addr × Str)} {W : WX} {p p2 pos : Pos} {e : Expr} {x : Str}
theorem pd_isi {f : Sem D} (t : Ty) (hi : Gl X "isinstance") (hm : X.mg "isinstance" = none) (hx : Gl X x) (hxm : X.mg x = none) (hv : bootBuiltins x = some (.type t.name)) (h : PD X T W e f) (hn : x ≠ "__name__" := by decide) (hdb : (x == ("__debug__" : Str)) = false := by decide)
    (hb : bootBuiltins "isinstance" = some (.builtin "isinstance") := by decide +kernel)
    (he : starEach [e, .Name x p2] X.env = (false, eval e X.env) :: starEach [.Name x p2] X.env := by rfl) (hpl : (backTo pos (starEach [.Name x p2] X.env)).any (·.1) = false := by rfl) : PD X T W (.Call (.Name "isinstance" p) [e, .Name x p2] [] pos) (isiE t f) :=
  PE.imp (pe_callB call_isi hi hm hb (pa_cons h (pa_cons (pe_bltn (v := .ty t.name) hx hxm hv rfl hn hdb) pa_nil) he) (by decide) (by decide) he hpl) fun σ H Q q => by
  obtain ⟨F, G, l, r0, S, hr, hs, hp⟩ := q
  refine wp_step hr hs hp fun F1 l1 S1 a v H1 lt1 hs1 ha hp1 => ?_
  cases e1 : tyD S1 a with
  | none => rw [e1] at hp1; exact hp1.elim
  | some u =>
    rw [e1] at hp1
    exact ⟨v, .ty t.name, _, _, _, rfl, .ty _, tyD_at lt1.rel ha e1, isiB_ok u t, hp1 F1 l1 H1 _ (Later.refl lt1.rel) rfl⟩
end
end Aw

/-! Aw9: defs and their calls. -/
namespace Aw
open PySem L2 LamX

/-! ### names of cells, resolved -/
mutual
def resD (f : Nat → Option D) : D → Option D
  | .loc n => f n
  | .tup ds => (resL f ds).map .tup
  | .lst ds => (resL f ds).map .lst
  | .dct ks ws => (resL f ws).map (.dct ks)
  | d => some d
def resL (f : Nat → Option D) : List D → Option (List D)
  | [] => some []
  | d :: ds => match resD f d, resL f ds with
    | some e, some es => some (e :: es)
    | _, _ => none
end
/-- all cells are held to be frozen -/
def resLoc (S : Store) : Nat → Nat → Option D
  | 0, _ => none
  | k + 1, n => match S[n]? with
    | some (.lst ds) => (resL (resLoc S k) ds).map .lst
    | some (.dct ks ws) => (resL (resLoc S k) ws).map (.dct ks)
    | some (.fz d) => resD (resLoc S k) d
    | none => none
/-- frozen cells alone -/
def resFz (S : Store) : Nat → Nat → Option D
  | 0, _ => none
  | k + 1, n => match S[n]? with
    | some (.fz d) => resD (resFz S k) d
    | _ => none
def resA (S : Store) (d : D) : Option D := resD (resLoc S 4) d
def resF (S : Store) (ds : List D) : Option (List D) := resL (resFz S 4) ds
section
variable {K : PySem.W.Frag} {T : List (Addr × Str)} {F F' G H H' : Hp} {l : List Addr} {S : Store}
mutual
theorem resD_at (e : Le F F') {f : Nat → Option D} (hf : ∀ n d v, f n = some d → At K F l (.loc n) v → At K F' [] d v) : ∀ (d d1 : D) (v : V), At K F l d v → resD f d = some d1 → At K F' [] d1 v
  | .non, d1, v, h, q => by cases q; exact h
  | .bl _, d1, v, h, q => by cases q; exact h
  | .int _, d1, v, h, q => by cases q; exact h
  | .str _, d1, v, h, q => by cases q; exact h
  | .fn _, d1, v, h, q => by cases q; exact h
  | .scr ns, d1, v, h, q => by
    cases q
    obtain ⟨a, h1, h2, h3⟩ := h
    exact ⟨a, h1, sql_le e h2, h3⟩
  | .loc n, d1, v, h, q => hf n d1 v q h
  | .tup ds, d1, v, h, q => by
    simp only [resD] at q
    cases q1 : resL f ds with
    | none => rw [q1] at q; cases q
    | some es =>
      rw [q1] at q; cases q
      obtain ⟨a, vs, h1, h2, h3, h4⟩ := h
      have h5 := resL_at e hf ds es vs h4 q1
      exact ⟨a, vs, h1, e _ _ h2, by rw [← h5.length, h4.length]; exact h3, h5⟩
  | .lst ds, d1, v, h, q => by
    simp only [resD] at q
    cases q1 : resL f ds with
    | none => rw [q1] at q; cases q
    | some es =>
      rw [q1] at q; cases q
      obtain ⟨a, vs, h1, h2, h3, h4⟩ := h
      have h5 := resL_at e hf ds es vs h4 q1
      exact ⟨a, vs, h1, e _ _ h2, by rw [← h5.length, h4.length]; exact h3, h5⟩
  | .dct ks ws, d1, v, h, q => by
    simp only [resD] at q
    cases q1 : resL f ws with
    | none => rw [q1] at q; cases q
    | some es =>
      rw [q1] at q; cases q
      obtain ⟨a, vs, h1, h2, h3, h4⟩ := h
      refine ⟨a, vs, h1, resL_at e hf ws es vs h2 q1, h3, ?_⟩
      rcases h4 with ⟨kvs, r1, r2⟩ | ⟨kvs, r1, r2⟩
      · exact .inl ⟨kvs, e _ _ r1, r2⟩
      · exact .inr ⟨kvs, e _ _ r1, r2⟩
theorem resL_at (e : Le F F') {f : Nat → Option D} (hf : ∀ n d v, f n = some d → At K F l (.loc n) v → At K F' [] d v) : ∀ (ds ds1 : List D) (vs : List V), AtL K F l ds vs → resL f ds = some ds1 → AtL K F' [] ds1 vs
  | [], d1, v, h, q => by cases q; exact h
  | d :: ds, d1, v, h, q => by
    simp only [resL] at q
    obtain ⟨w, ws, rfl, h1, h2⟩ := h
    cases q1 : resD f d with
    | none => rw [q1] at q; cases q
    | some e1 =>
      rw [q1] at q
      cases q2 : resL f ds with
      | none => rw [q2] at q; cases q
      | some es =>
        rw [q2] at q; cases q
        exact ⟨w, ws, rfl, resD_at e hf d e1 w h1 q1, resL_at e hf ds es ws h2 q2⟩
end
/-- every cell frozen -/
def freezeF (F H : Hp) (l : List Addr) : Hp := fun a => match F a with
  | some o => some o
  | none => if a ∈ l then H a else none
theorem freezeF_le : Le F (freezeF F H l) := fun a o h => by simp [freezeF, h]
theorem HRel.freezeAll (h : HRel K T F G l S H) : HRel K T (freezeF F H l) G [] [] H := by
  refine ⟨fun a o e => ?_, h.gr, fun a o e => ?_, fun i j a h1 => by simp at h1, rfl, fun a ha => by simp at ha, fun a ha => by simp at ha, fun a ha => by simp at ha, h.tabs, fun n c e => by simp at e⟩
  · unfold freezeF at e
    split at e
    · rename_i q; cases e; exact h.fz a _ q
    · split at e
      · exact e
      · cases e
  · unfold freezeF at e
    split at e
    · rename_i q; exact h.fg a _ q
    · split at e
      · rename_i hm; exact h.gl a hm
      · cases e
theorem resLoc_at (h : HRel K T F G l S H) : ∀ (k n : Nat) (d : D) (v : V), resLoc S k n = some d → At K F l (.loc n) v → At K (freezeF F H l) [] d v
  | 0, _, _, _, e, _ => by cases e
  | k + 1, n, d, v, e, hv => by
    obtain ⟨a, h1, rfl⟩ := hv
    have mem : a ∈ l := List.mem_of_getElem? h1
    simp only [resLoc] at e
    split at e
    · rename_i ds q
      obtain ⟨a', h2, h3⟩ := h.cell n _ q
      rw [h1] at h2; cases h2
      obtain ⟨h4, h5, vs, h6, h7⟩ := h3
      cases q1 : resL (resLoc S k) ds with
      | none => rw [q1] at e; cases e
      | some es =>
        rw [q1] at e; cases e
        have h8 := resL_at freezeF_le (resLoc_at h k) ds es vs h7 q1
        exact ⟨a, vs, rfl, by simp [freezeF, h4, mem, h6], by rw [← h8.length, h7.length]; exact h5, h8⟩
    · rename_i ks ws q
      obtain ⟨a', h2, h3⟩ := h.cell n _ q
      rw [h1] at h2; cases h2
      obtain ⟨h4, h5, vs, h6, h7⟩ := h3
      cases q1 : resL (resLoc S k) ws with
      | none => rw [q1] at e; cases e
      | some es =>
        rw [q1] at e; cases e
        refine ⟨a, vs, rfl, resL_at freezeF_le (resLoc_at h k) ws es vs h6 q1, h5, ?_⟩
        rcases h7 with ⟨kvs, r1, r2⟩ | ⟨kvs, r1, r2⟩
        · exact .inl ⟨kvs, by simp [freezeF, h4, mem, r1], r2⟩
        · exact .inr ⟨kvs, by simp [freezeF, h4, mem, r1], r2⟩
    · rename_i d' q
      obtain ⟨a', h2, h3⟩ := h.cell n _ q
      rw [h1] at h2; cases h2
      exact resD_at freezeF_le (resLoc_at h k) d' d _ h3 e
    · cases e
theorem resA_at (h : HRel K T F G l S H) {d d1 : D} {v : V} (hv : At K F l d v) (e : resA S d = some d1) : At K (freezeF F H l) [] d1 v := resD_at freezeF_le (resLoc_at h 4) d d1 v hv e
theorem resFz_at (h : HRel K T F G l S H) : ∀ (k n : Nat) (d : D) (v : V), resFz S k n = some d → At K F l (.loc n) v → At K F [] d v
  | 0, _, _, _, e, _ => by cases e
  | k + 1, n, d, v, e, hv => by
    obtain ⟨a, h1, rfl⟩ := hv
    simp only [resFz] at e
    split at e
    · rename_i d' q
      obtain ⟨a', h2, h3⟩ := h.cell n _ q
      rw [h1] at h2; cases h2
      exact resD_at (Le.refl F) (resFz_at h k) d' d _ h3 e
    · cases e
theorem resF_at (h : HRel K T F G l S H) {ds ds1 : List D} {vs : List V} (hv : AtL K F l ds vs) (e : resF S ds = some ds1) : AtL K F [] ds1 vs := resL_at (Le.refl F) (resFz_at h 4) ds ds1 vs hv e

/-! ### the cells into the frame, and back -/
def rootG (F G H : Hp) (l : List Addr) : Hp := fun a => match F a with
  | some _ => none
  | none => if a ∈ l then H a else G a
theorem HRel.root (h : HRel K T F G l S H) : HRel K T F (rootG F G H l) [] [] H := by
  refine ⟨h.fz, fun a o e => ?_, fun a o e => by simp [rootG, e], fun i j a h1 => by simp at h1, rfl, fun a ha => by simp at ha, fun a ha => by simp at ha, fun a ha => by simp at ha, h.tabs, fun n c e => by simp at e⟩
  unfold rootG at e
  split at e
  · cases e
  · split at e
    · exact e
    · exact h.gr a o e
theorem HRel.unroot (h : HRel K T F G l S H) (le : Le F F') (h' : HRel K T F' (rootG F G H l) [] [] H') : HRel K T F' G l S H' := by
  have same : ∀ a, a ∈ l → H' a = H a := fun a ha => by
    cases e : F a with
    | some o => rw [h'.fz a o (le a o e), h.fz a o e]
    | none =>
      cases e2 : H a with
      | none => exact absurd e2 (h.al a ha)
      | some o =>
        refine h'.gr a o ?_
        simp [rootG, e, ha, e2]
  have free : ∀ a, a ∈ l → F a = none → F' a = none := fun a ha e => by
    cases e1 : F' a with
    | none => rfl
    | some o =>
      have := h'.fg a o e1
      simp only [rootG, e, if_pos ha] at this
      exact absurd this (h.al a ha)
  refine ⟨h'.fz, fun a o e => ?_, fun a o e => ?_, fun i j a h1 h2 h3 => h.nd i j a h1 h2 (by
    cases q : F a with
    | none => rfl
    | some o => rw [le a o q] at h3; cases h3), h.len, h.gl, fun a ha => by rw [same a ha]; exact h.al a ha, fun a ha o e => h.tb a ha o (by rw [← same a ha]; exact e), h'.tabs, fun n c e => ?_⟩
  · have nl : a ∉ l := fun z => by rw [h.gl a z] at e; cases e
    have nf : F a = none := by
      cases q : F a with
      | none => rfl
      | some u => rw [h.fg a u q] at e; cases e
    exact h'.gr a o (by simp [rootG, nf, nl, e])
  · cases q : G a with
    | none => rfl
    | some u =>
      have nl : a ∉ l := fun z => by rw [h.gl a z] at q; cases q
      have nf : F a = none := by
        cases q2 : F a with
        | none => rfl
        | some u2 => rw [h.fg a u2 q2] at q; cases q
      have := h'.fg a o e
      simp only [rootG, nf, if_neg nl] at this
      rw [q] at this; cases this
  · obtain ⟨a, h1, h2⟩ := h.cell n c e
    have mem : a ∈ l := List.mem_of_getElem? h1
    refine ⟨a, h1, ?_⟩
    cases c with
    | lst ds =>
      obtain ⟨h3, h4, vs, h5, h6⟩ := h2
      exact ⟨free a mem h3, h4, vs, (same a mem).trans h5, AtL.mono le (Pre.refl l) _ _ h6⟩
    | dct ks ws =>
      obtain ⟨h3, h4, vs, h5, h6⟩ := h2
      refine ⟨free a mem h3, h4, vs, AtL.mono le (Pre.refl l) _ _ h5, ?_⟩
      rcases h6 with ⟨kvs, r1, r2⟩ | ⟨kvs, r1, r2⟩
      · exact .inl ⟨kvs, (same a mem).trans r1, r2⟩
      · exact .inr ⟨kvs, (same a mem).trans r1, r2⟩
    | fz d => exact At.mono le (Pre.refl l) _ _ h2
end

/-! ### a def without cells of others -/
inductive PR where
  | ok (d : D) | err (c : Ex) | stuck
abbrev FSem := List D → PR
def PostP (K : PySem.W.Frag) (T : List (Addr × Str)) (F G : Hp) (Q : VK) (E : XK) : PR → Prop
  | .ok d => ∀ F' H' v, Le F F' → HRel K T F' G [] [] H' → At K F' [] d v → Q v H'
  | .err c => ∀ F' H', Le F F' → HRel K T F' G [] [] H' → E (exV K c) none H'
  | .stuck => False
def spP (K : PySem.W.Frag) (T : List (Addr × Str)) (n : Nat) (f : FSem) : Sp := fun vs H Q E => ∃ F G ds, HRel K T F G [] [] H ∧ AtL K F [] ds vs ∧ ds.length = n ∧ PostP K T F G Q E (f ds)
def startE (n : Nat) (ds : List D) : Env := ds.map some ++ List.replicate (n - ds.length) none
def fnOut (n : Nat) (body : SemS) : FSem := fun ds => match body (startE n ds) [] with
  | .ret d S => match resA S d with
    | some d1 => .ok d1
    | none => .stuck
  | .nx _ _ => .ok .non
  | .err c _ _ => .err c
  | _ => .stuck
/-- a def that may be called by its name -/
structure FnD (P : Program) (w : World) (K : PySem.W.Frag) (T : List (Addr × Str)) (mg : Str → Option Value) (base : Heap) (x : Str) (k n : Nat) (f : FSem) : Prop where
  ex : ∃ (a : Addr) (fd : FuncData) (ps : List Str), mg x = some (.ref a) ∧ PySem.W.keepIn K (.ref a) = true ∧ Binds K fd ps [] ∧ ps.length = n ∧ FnOk P w K mg base (L2.CX P w) k a fd ps (spP K T n f)
/-- the context of a def's body -/
abbrev bodyCx (P : Program) (w : World) (K : PySem.W.Frag) (mg : Str → Option Value) (base : Heap) (N : List Str) (qual : Str) (sc : Scope) (f : Addr) (cdv : Value) (A : Around) (outer : List PySem.Env) (s : Shared) (H : Hp) (E : XK) : Cx :=
  cxOf (L2.CX P w) P w K mg base N qual sc f cdv A outer s H E
abbrev bodyW (E : XK) : WX := fun c d _ H => E c d H
theorem bodyCtx {P : Program} {w : World} {K : PySem.W.Frag} {mg : Str → Option Value} {base : Heap} {N ps : List Str} {qual : Str} {sc : Scope} {f : Addr} {cdv : Value} {A : Around} {outer : List PySem.Env} {s : Shared} {H : Hp} {E : XK} {k : Nat}
    (S : FnScope N ps sc) (hr : Room k (A.deeper (PyProof.Rows.envOfC qual sc s.heap.objs.size f cdv))) : Ctx (bodyCx P w K mg base N qual sc f cdv A outer s H E) (bodyW E) k :=
  ⟨rfl, S.nd, takes_of rfl rfl rfl rfl, passes_of rfl, hr⟩
theorem start_sl {K : PySem.W.Frag} {F : Hp} {N : List Str} {ds : List D} {vs : List V} (h : AtL K F [] ds vs) : Sl K F [] (startE N.length ds) (L2.start N vs) := by
  have e := h.length
  refine ⟨by simp [startE, L2.start, e], fun i d q => ?_⟩
  unfold startE at q
  by_cases hi : i < ds.length
  · rw [List.getElem?_append_left (by simpa using hi), List.getElem?_map] at q
    cases q1 : ds[i]? with
    | none => rw [q1] at q; cases q
    | some d' =>
      rw [q1] at q; cases q
      obtain ⟨v, q2, q3⟩ := h.get q1
      refine ⟨v, ?_, q3⟩
      unfold L2.start
      rw [List.getElem?_append_left (by simp [e]; exact hi), List.getElem?_map, q2]
      rfl
  · rw [List.getElem?_append_right (by simpa using hi), List.getElem?_replicate] at q
    split at q <;> cases q
section
variable {P : Program} {w : World} {K : PySem.W.Frag} {T : List (Addr × Str)} {mg : Str → Option Value} {base : Heap} {x qual : Str} {st : Stmt} {a : Addr} {fd : FuncData} {N ps : List Str} {k : Nat}
theorem fnP {body : SemS} {n : Nat} (F : Fun K x qual st a fd) (Sc : FnScope N ps (defScope st)) (hn : N.length = n)
    (hb : ∀ (cdv : Value) (A : Around) (outer : List PySem.Env) (s : Shared) (H : Hp) (E : XK), Ctx (bodyCx P w K mg base N qual (defScope st) a cdv A outer s H E) (bodyW E) k →
      PDB (bodyCx P w K mg base N qual (defScope st) a cdv A outer s H E) T (bodyW E) (defBody st) body) :
    FnOk P w K mg base (L2.CX P w) (k + 1) a fd ps (spP K T ps.length (fnOut n body)) := by
  subst hn
  obtain ⟨oc, od, kV, doc, pm, an, cdv, ct, osl, rfl, lk, hcd⟩ := F.ex
  refine fn_of lk hcd Sc (fun vs H Q E ⟨F, G, ds, _, h, e, _⟩ => by rw [h.length, e]) fun A outer s H vs Q E hr ⟨F, G, ds, h1, h2, h3, h4⟩ => ?_
  refine ⟨_, hb cdv A outer s H E (bodyCtx Sc hr), F, G, [], startE N.length ds, [], h1, start_sl h2, ?_⟩
  unfold fnOut at h4
  cases e : body (startE N.length ds) [] with
  | ret d S =>
    rw [e] at h4
    intro F' l' H' v lt hv
    cases q : resA S d with
    | none => simp only [q] at h4; exact h4.elim
    | some d1 =>
      simp only [q] at h4
      exact h4 _ H' v (lt.le.trans freezeF_le) lt.rel.freezeAll (resA_at lt.rel hv q)
  | nx r S =>
    rw [e] at h4
    exact fun F' l' σ' H' lt _ => h4 _ H' .non (lt.le.trans freezeF_le) lt.rel.freezeAll rfl
  | err c r S =>
    rw [e] at h4
    exact fun F' l' σ' H' lt _ => h4 _ H' (lt.le.trans freezeF_le) lt.rel.freezeAll
  | brk r S => rw [e] at h4; exact h4.elim
  | ct r S => rw [e] at h4; exact h4.elim
  | stuck => rw [e] at h4; exact h4.elim
end
/-! ### the call -/
def liftP : PR → Store → Out D
  | .ok d, S => .ok d S
  | .err c, S => .err c S
  | .stuck, _ => .stuck
/-- an answer that holds no address -/
def flatA : D → Bool
  | .non => true
  | .bl _ => true
  | .int _ => true
  | .str _ => true
  | _ => false
theorem flatA_at {K : PySem.W.Frag} {F F' : Hp} {l l' : List Addr} {d : D} {v : V} (h : At K F l d v) (f : flatA d = true) : At K F' l' d v := by
  cases d with
  | non => exact h
  | bl _ => exact h
  | int _ => exact h
  | str _ => exact h
  | _ => cases f
/-- the call with cells lent -/
def liftB : PR → Store → Out D
  | .ok d, S => if flatA d then .ok d S else .stuck
  | .err c, S => .err c S
  | .stuck, _ => .stuck
def callF (n : Nat) (f : FSem) (fa : Sem (List D)) : Sem D := bindO fa fun ds => fun _ S => match resF S ds with
  | some ds1 => if ds1.length = n then liftP (f ds1) S else .stuck
  | none => match resL (resLoc S 4) ds with
    | some ds1 => if ds1.length = n then liftB (f ds1) S else .stuck
    | none => .stuck
theorem HRel.lent {K : PySem.W.Frag} {T : List (Addr × Str)} {F F' G H H' : Hp} {l : List Addr} {S : Store} (h : HRel K T F G l S H) (le : Le (freezeF F H l) F') (h' : HRel K T F' G [] [] H') : HRel K T F G l S H' := by
  have same : ∀ a, a ∈ l → H' a = H a := fun a ha => by
    cases e2 : H a with
    | none => exact absurd e2 (h.al a ha)
    | some o =>
      refine h'.fz a o (le a o ?_)
      unfold freezeF
      cases e : F a with
      | some u => rw [h.fz a u e] at e2; exact e2
      | none => simp [ha, e2]
  refine ⟨(freezeF_le.trans le).trans h'.fz, h'.gr, h.fg, h.nd, h.len, h.gl, fun a ha => by rw [same a ha]; exact h.al a ha, fun a ha o e => h.tb a ha o (by rw [← same a ha]; exact e), h'.tabs, fun n c e => ?_⟩
  obtain ⟨a, h1, h2⟩ := h.cell n c e
  exact ⟨a, h1, h2.mono (Le.refl F) (Pre.refl l) rfl (same a (List.mem_of_getElem? h1))⟩
section
variable {X : Cx} {T : List (Addr × Str)} {W : WX} {k j n : Nat} {p pos : Pos} {e : Expr} {es : List Expr} {x : Str} {f : FSem} {fa : Sem (List D)}
theorem callF_wp {K : PySem.W.Frag} {σ : St} {H : Hp} {Q : VK} (h : wp K T W (rE K) (callF n f fa) σ H Q) : tCallSD (spP K T n f) [] (WE W) (wp K T W (rA K) fa) σ H Q := by
  obtain ⟨F, G, l, r0, S, hr, hs, hp⟩ := h
  refine wp_step hr hs hp fun F1 l1 S1 a xs H1 lt1 hs1 ha hp1 => ?_
  rw [List.append_nil]
  cases e1 : resF S1 a with
  | none =>
    simp only [e1] at hp1
    cases e3 : resL (resLoc S1 4) a with
    | none => simp only [e3] at hp1; exact hp1.elim
    | some ds1 =>
      simp only [e3] at hp1
      by_cases hl : ds1.length = n
      · rw [if_pos hl] at hp1
        refine ⟨_, G, ds1, lt1.rel.freezeAll, resL_at freezeF_le (resLoc_at lt1.rel 4) a ds1 xs ha e3, hl, ?_⟩
        cases e2 : f ds1 with
        | ok d =>
          rw [e2] at hp1
          simp only [liftB] at hp1
          split at hp1
          · rename_i hfl
            exact fun F' H' v le h' hv => hp1 F1 l1 H' v (Later.refl (lt1.rel.lent le h')) (flatA_at hv hfl)
          · exact hp1.elim
        | err c =>
          rw [e2] at hp1
          exact fun F' H' le h' => hp1 F1 l1 H' (Later.refl (lt1.rel.lent le h'))
        | stuck => rw [e2] at hp1; exact hp1.elim
      · rw [if_neg hl] at hp1; exact hp1.elim
  | some ds1 =>
    simp only [e1] at hp1
    by_cases hl : ds1.length = n
    · rw [if_pos hl] at hp1
      refine ⟨F1, _, ds1, lt1.rel.root, resF_at lt1.rel ha e1, hl, ?_⟩
      cases e2 : f ds1 with
      | ok d =>
        rw [e2] at hp1
        exact fun F' H' v le h' hv => hp1 F' l1 H' v ⟨le, Pre.refl _, lt1.rel.unroot le h'⟩ (At.mono (Le.refl F') (fun n a e => by simp at e) _ _ hv)
      | err c =>
        rw [e2] at hp1
        exact fun F' H' le h' => hp1 F' l1 H' ⟨le, Pre.refl _, lt1.rel.unroot le h'⟩
      | stuck => rw [e2] at hp1; exact hp1.elim
    · rw [if_neg hl] at hp1; exact hp1.elim
theorem pd_call (hc : Ctx X W k) (F : FnD X.prog X.w X.K T X.mg X.base x j n f) (hj : j ≤ k) (hg : Gl X x) (ha : PDA X T W (e :: es) fa) (hdb : (x == ("__debug__" : Str)) = false := by decide)
    (he : starEach (e :: es) X.env = (false, eval e X.env) :: starEach es X.env := by rfl) (hpl : (backTo pos (starEach es X.env)).any (·.1) = false := by rfl) : PD X T W (.Call (.Name x p) (e :: es) [] pos) (callF n f fa) := by
  obtain ⟨a, fd, ps, hm, hk, hb, hl, hF⟩ := F.ex
  exact PE.imp (pe_callSD hF (hc.rm.mono hj) hg hm hk hb .nil (fun σ => passAt hc.tk σ) ha hdb he hpl) fun _ _ _ q => callF_wp q
end
end Aw

/-! Aw10: defs whose answer the caller may change. -/
namespace Aw
open PySem L2 LamX

mutual
def shD (n : Nat) : D → D
  | .loc m => .loc (n + m)
  | .tup ds => .tup (shL n ds)
  | .lst ds => .lst (shL n ds)
  | .dct ks ws => .dct ks (shL n ws)
  | d => d
def shL (n : Nat) : List D → List D
  | [] => []
  | d :: ds => shD n d :: shL n ds
end
def shC (n : Nat) : Cell → Cell
  | .lst ds => .lst (shL n ds)
  | .dct ks ws => .dct ks (shL n ws)
  | .fz d => .fz (shD n d)
theorem shL_len (n : Nat) : ∀ ds : List D, (shL n ds).length = ds.length
  | [] => rfl
  | d :: ds => by simp [shL, shL_len n ds]
section
variable {K : PySem.W.Frag} {T : List (Addr × Str)} {F F' G H H' : Hp} {l l' : List Addr} {S S' : Store}
mutual
theorem shD_at (l : List Addr) : ∀ (d : D) (v : V), At K F l' d v → At K F (l ++ l') (shD l.length d) v
  | .non, _, h => h
  | .bl _, _, h => h
  | .int _, _, h => h
  | .str _, _, h => h
  | .fn _, _, h => h
  | .scr _, _, h => h
  | .loc n, v, h => by
    obtain ⟨a, h1, h2⟩ := h
    refine ⟨a, ?_, h2⟩
    rw [List.getElem?_append_right (by omega)]
    rw [show l.length + n - l.length = n by omega]
    exact h1
  | .tup ds, v, h => by
    obtain ⟨a, vs, h1, h2, h3, h4⟩ := h
    exact ⟨a, vs, h1, h2, by rw [shL_len]; exact h3, shL_at l ds vs h4⟩
  | .lst ds, v, h => by
    obtain ⟨a, vs, h1, h2, h3, h4⟩ := h
    exact ⟨a, vs, h1, h2, by rw [shL_len]; exact h3, shL_at l ds vs h4⟩
  | .dct ks ws, v, h => by
    obtain ⟨a, vs, h1, h2, h3, h4⟩ := h
    exact ⟨a, vs, h1, shL_at l ws vs h2, h3, h4⟩
theorem shL_at (l : List Addr) : ∀ (ds : List D) (vs : List V), AtL K F l' ds vs → AtL K F (l ++ l') (shL l.length ds) vs
  | [], _, h => h
  | d :: ds, vs, h => by
    obtain ⟨v, vs', h1, h2, h3⟩ := h
    exact ⟨v, vs', h1, shD_at l d v h2, shL_at l ds vs' h3⟩
end
theorem shC_ok (l : List Addr) {a : Addr} : ∀ {c : Cell}, CellOk K F l' H a c → CellOk K F (l ++ l') H a (shC l.length c)
  | .lst ds, ⟨h1, h2, vs, h3, h4⟩ => ⟨h1, by rw [shL_len]; exact h2, vs, h3, shL_at l ds vs h4⟩
  | .dct ks ws, ⟨h1, h2, vs, h3, h4⟩ => ⟨h1, h2, vs, shL_at l ws vs h3, h4⟩
  | .fz d, h => shD_at l d _ h
theorem HRel.unrootR (h : HRel K T F G l S H) (le : Le F F') (h' : HRel K T F' (rootG F G H l) l' S' H') : HRel K T F' G (l ++ l') (S ++ S'.map (shC l.length)) H' := by
  have same : ∀ a, a ∈ l → H' a = H a := fun a ha => by
    cases e : F a with
    | some o => rw [h'.fz a o (le a o e), h.fz a o e]
    | none =>
      cases e2 : H a with
      | none => exact absurd e2 (h.al a ha)
      | some o =>
        refine h'.gr a o ?_
        simp [rootG, e, ha, e2]
  have free : ∀ a, a ∈ l → F a = none → F' a = none := fun a ha e => by
    cases e1 : F' a with
    | none => rfl
    | some o =>
      have := h'.fg a o e1
      simp only [rootG, e, if_pos ha] at this
      exact absurd this (h.al a ha)
  have apart : ∀ a, a ∈ l → a ∈ l' → F' a = none → False := fun a ha hb e => by
    have e1 : F a = none := by
      cases q : F a with
      | none => rfl
      | some o => rw [le a o q] at e; cases e
    have := h'.gl a hb
    simp only [rootG, e1, if_pos ha] at this
    exact h.al a ha this
  have nf : ∀ a o, G a = some o → F a = none ∧ a ∉ l := fun a o e => by
    refine ⟨?_, fun z => by rw [h.gl a z] at e; cases e⟩
    cases q : F a with
    | none => rfl
    | some u => rw [h.fg a u q] at e; cases e
  have gsome : ∀ a o, G a = some o → rootG F G H l a = some o := fun a o e => by
    obtain ⟨a1, a2⟩ := nf a o e
    simp [rootG, a1, a2, e]
  refine ⟨h'.fz, fun a o e => h'.gr a o (gsome a o e), fun a o e => ?_, fun i j a h1 h2 h3 => ?_, by simp [h.len, h'.len], fun a ha => ?_, fun a ha => ?_, fun a ha o e => ?_, h'.tabs, fun n c e => ?_⟩
  · cases q : G a with
    | none => rfl
    | some u =>
      have := h'.fg a o e
      rw [gsome a u q] at this; cases this
  · by_cases hi : i < l.length <;> by_cases hj : j < l.length
    · rw [List.getElem?_append_left hi] at h1
      rw [List.getElem?_append_left hj] at h2
      refine h.nd i j a h1 h2 ?_
      cases q : F a with
      | none => rfl
      | some o => rw [le a o q] at h3; cases h3
    · rw [List.getElem?_append_left hi] at h1
      rw [List.getElem?_append_right (by omega)] at h2
      exact (apart a (List.mem_of_getElem? h1) (List.mem_of_getElem? h2) h3).elim
    · rw [List.getElem?_append_right (by omega)] at h1
      rw [List.getElem?_append_left hj] at h2
      exact (apart a (List.mem_of_getElem? h2) (List.mem_of_getElem? h1) h3).elim
    · rw [List.getElem?_append_right (by omega)] at h1
      rw [List.getElem?_append_right (by omega)] at h2
      have := h'.nd _ _ a h1 h2 h3
      omega
  · rcases List.mem_append.mp ha with ha | ha
    · exact h.gl a ha
    · cases q : G a with
      | none => rfl
      | some o =>
        have := h'.gl a ha
        rw [gsome a o q] at this; cases this
  · rcases List.mem_append.mp ha with ha | ha
    · rw [same a ha]; exact h.al a ha
    · exact h'.al a ha
  · rcases List.mem_append.mp ha with ha | ha
    · exact h.tb a ha o (by rw [← same a ha]; exact e)
    · exact h'.tb a ha o e
  · by_cases hn : n < S.length
    · rw [List.getElem?_append_left hn] at e
      obtain ⟨a, h1, h2⟩ := h.cell n c e
      have mem : a ∈ l := List.mem_of_getElem? h1
      refine ⟨a, Pre.app _ _ _ _ h1, ?_⟩
      cases c with
      | lst ds =>
        obtain ⟨h3, h4, vs, h5, h6⟩ := h2
        exact ⟨free a mem h3, h4, vs, (same a mem).trans h5, AtL.mono le (Pre.app _ _) _ _ h6⟩
      | dct ks ws =>
        obtain ⟨h3, h4, vs, h5, h6⟩ := h2
        refine ⟨free a mem h3, h4, vs, AtL.mono le (Pre.app _ _) _ _ h5, ?_⟩
        rcases h6 with ⟨kvs, r1, r2⟩ | ⟨kvs, r1, r2⟩
        · exact .inl ⟨kvs, (same a mem).trans r1, r2⟩
        · exact .inr ⟨kvs, (same a mem).trans r1, r2⟩
      | fz d => exact At.mono le (Pre.app _ _) _ _ h2
    · rw [List.getElem?_append_right (by omega), List.getElem?_map] at e
      cases q : S'[n - S.length]? with
      | none => rw [q] at e; cases e
      | some c' =>
        rw [q] at e; cases e
        obtain ⟨a, h1, h2⟩ := h'.cell _ c' q
        refine ⟨a, ?_, shC_ok l h2⟩
        rw [List.getElem?_append_right (by rw [h.len]; omega), h.len]
        exact h1
end
inductive RR where
  | ok (d : D) (S : Store) | err (c : Ex) | stuck
abbrev RSem := List D → RR
def PostR (K : PySem.W.Frag) (T : List (Addr × Str)) (F G : Hp) (Q : VK) (E : XK) : RR → Prop
  | .ok d S => ∀ F' l' H' v, Le F F' → HRel K T F' G l' S H' → At K F' l' d v → Q v H'
  | .err c => ∀ F' H', Le F F' → HRel K T F' G [] [] H' → E (exV K c) none H'
  | .stuck => False
def spR (K : PySem.W.Frag) (T : List (Addr × Str)) (n : Nat) (f : RSem) : Sp := fun vs H Q E => ∃ F G ds, HRel K T F G [] [] H ∧ AtL K F [] ds vs ∧ ds.length = n ∧ PostR K T F G Q E (f ds)
def fnRaw (n : Nat) (body : SemS) : RSem := fun ds => match body (startE n ds) [] with
  | .ret d S => .ok d S
  | .nx _ S => .ok .non S
  | .err c _ _ => .err c
  | _ => .stuck
structure FnR (P : Program) (w : World) (K : PySem.W.Frag) (T : List (Addr × Str)) (mg : Str → Option Value) (base : Heap) (x : Str) (k n : Nat) (f : RSem) : Prop where
  ex : ∃ (a : Addr) (fd : FuncData) (ps : List Str), mg x = some (.ref a) ∧ PySem.W.keepIn K (.ref a) = true ∧ Binds K fd ps [] ∧ ps.length = n ∧ FnOk P w K mg base (L2.CX P w) k a fd ps (spR K T n f)
section
variable {P : Program} {w : World} {K : PySem.W.Frag} {T : List (Addr × Str)} {mg : Str → Option Value} {base : Heap} {x qual : Str} {st : Stmt} {a : Addr} {fd : FuncData} {N ps : List Str} {k : Nat}
theorem fnR {body : SemS} {n : Nat} (F : Fun K x qual st a fd) (Sc : FnScope N ps (defScope st)) (hn : N.length = n)
    (hb : ∀ (cdv : Value) (A : Around) (outer : List PySem.Env) (s : Shared) (H : Hp) (E : XK), Ctx (bodyCx P w K mg base N qual (defScope st) a cdv A outer s H E) (bodyW E) k →
      PDB (bodyCx P w K mg base N qual (defScope st) a cdv A outer s H E) T (bodyW E) (defBody st) body) :
    FnOk P w K mg base (L2.CX P w) (k + 1) a fd ps (spR K T ps.length (fnRaw n body)) := by
  subst hn
  obtain ⟨oc, od, kV, doc, pm, an, cdv, ct, osl, rfl, lk, hcd⟩ := F.ex
  refine fn_of lk hcd Sc (fun vs H Q E ⟨F, G, ds, _, h, e, _⟩ => by rw [h.length, e]) fun A outer s H vs Q E hr ⟨F, G, ds, h1, h2, h3, h4⟩ => ?_
  refine ⟨_, hb cdv A outer s H E (bodyCtx Sc hr), F, G, [], startE N.length ds, [], h1, start_sl h2, ?_⟩
  unfold fnRaw at h4
  cases e : body (startE N.length ds) [] with
  | ret d S =>
    rw [e] at h4
    exact fun F' l' H' v lt hv => h4 F' l' H' v lt.le lt.rel hv
  | nx r S =>
    rw [e] at h4
    exact fun F' l' σ' H' lt _ => h4 F' l' H' .non lt.le lt.rel rfl
  | err c r S =>
    rw [e] at h4
    exact fun F' l' σ' H' lt _ => h4 _ H' (lt.le.trans freezeF_le) lt.rel.freezeAll
  | brk r S => rw [e] at h4; exact h4.elim
  | ct r S => rw [e] at h4; exact h4.elim
  | stuck => rw [e] at h4; exact h4.elim
end
def liftR : RR → Store → Out D
  | .ok d S', S => .ok (shD S.length d) (S ++ S'.map (shC S.length))
  | .err c, S => .err c S
  | .stuck, _ => .stuck
def callFR (n : Nat) (f : RSem) (fa : Sem (List D)) : Sem D := bindO fa fun ds => fun _ S => match resF S ds with
  | some ds1 => if ds1.length = n then liftR (f ds1) S else .stuck
  | none => .stuck
section
variable {X : Cx} {T : List (Addr × Str)} {W : WX} {k j n : Nat} {p pos : Pos} {e : Expr} {es : List Expr} {x : Str} {f : RSem} {fa : Sem (List D)}
theorem callFR_wp {K : PySem.W.Frag} {σ : St} {H : Hp} {Q : VK} (h : wp K T W (rE K) (callFR n f fa) σ H Q) : tCallSD (spR K T n f) [] (WE W) (wp K T W (rA K) fa) σ H Q := by
  obtain ⟨F, G, l, r0, S, hr, hs, hp⟩ := h
  refine wp_step hr hs hp fun F1 l1 S1 a xs H1 lt1 hs1 ha hp1 => ?_
  rw [List.append_nil]
  cases e1 : resF S1 a with
  | none => simp only [e1] at hp1; exact hp1.elim
  | some ds1 =>
    simp only [e1] at hp1
    by_cases hl : ds1.length = n
    · rw [if_pos hl] at hp1
      refine ⟨F1, _, ds1, lt1.rel.root, resF_at lt1.rel ha e1, hl, ?_⟩
      cases e2 : f ds1 with
      | ok d S' =>
        rw [e2] at hp1
        intro F' l' H' v le h' hv
        have h2 := lt1.rel.unrootR le h'
        rw [lt1.rel.len] at h2
        have h3 := shD_at l1 d v hv
        rw [lt1.rel.len] at h3
        exact hp1 F' _ H' v ⟨le, Pre.app _ _, h2⟩ h3
      | err c =>
        rw [e2] at hp1
        exact fun F' H' le h' => hp1 F' l1 H' ⟨le, Pre.refl _, lt1.rel.unroot le h'⟩
      | stuck => rw [e2] at hp1; exact hp1.elim
    · rw [if_neg hl] at hp1; exact hp1.elim
theorem pd_callR (hc : Ctx X W k) (F : FnR X.prog X.w X.K T X.mg X.base x j n f) (hj : j ≤ k) (hg : Gl X x) (ha : PDA X T W (e :: es) fa) (hdb : (x == ("__debug__" : Str)) = false := by decide)
    (he : starEach (e :: es) X.env = (false, eval e X.env) :: starEach es X.env := by rfl) (hpl : (backTo pos (starEach es X.env)).any (·.1) = false := by rfl) : PD X T W (.Call (.Name x p) (e :: es) [] pos) (callFR n f fa) := by
  obtain ⟨a, fd, ps, hm, hk, hb, hl, hF⟩ := F.ex
  exact PE.imp (pe_callSD hF (hc.rm.mono hj) hg hm hk hb .nil (fun σ => passAt hc.tk σ) ha hdb he hpl) fun _ _ _ q => callFR_wp q
end

/-! ### further statements -/
section
variable {X : Cx} {T : List (Addr × Str)} {W : WX} {k : Nat} {pos spos py : Pos} {elt tg iter e : Expr} {ifs : List Expr} {scope : Scope} {own : List (Str × Nat)} {it : Sem (List D)} {t : Tgt} {c : Sem Bool} {el : Sem D}
/-- name = [..] -/
theorem pds_lc (i : Nat) {y : Str} (hc : Ctx X W k) (hsw : swapsWith (.ListComp elt [⟨tg, iter, ifs, 0⟩] scope pos) (some (.Name y py)) spos.line X.env = pure true) (hi : PDI X T W tg iter it) (ok : BlkOk X.N X.env.scope scope own) (hws : ∀ i ∈ t.slots, i ∈ own.map (·.2) := by decide)
    (hg : Blk X scope fun Y => PG Y tg (t.rd Y.K)) (ht : Blk X scope fun Y => PDTs Y T W0 ifs c) (he : Blk X scope fun Y => PD Y T W0 elt el) (hy : X.N[i]? = some y := by rfl) (hyl : X.env.scope.names.lookup y = some .local := by rfl) (hs : ∀ x, foldedSetIterable iter X.env x = pure x := by intro _; rfl) :
    PDS X T W (.Assign [.Name y py] (.ListComp elt [⟨tg, iter, ifs, 0⟩] scope pos) spos) (setS (lcE it t (own.map (·.2)) c el) (.one i)) :=
  PS.imp (ps_setLc (g := t.rd X.K) (tt := wp X.K T W0 rT c) (te := wp X.K T W0 (rE X.K) el) hc.calm hc.nd hy hyl hsw hi ok hg ht he hs) fun Dn σ H ⟨F, G, l, r, S, hr, hsl, hp⟩ => by
  have q : wp X.K T W (rE X.K) (lcE it t (own.map (·.2)) c el) σ H (fun x H1 => gName i x σ H1 Dn.nx) := wpS_step hr hsl hp fun F1 l1 S1 a x H1 lt hs1 ha hp1 => set_post (t := .one i) lt.rel hs1 ha hp1
  exact comp_wp (fin := fun xs S => .ok (.lst xs) S) hws fin_frozen q
theorem pds_lcC (i : Nat) {y : Str} (hc : Ctx X W k) (hsw : swapsWith (.ListComp elt [⟨tg, iter, ifs, 0⟩] scope pos) (some (.Name y py)) spos.line X.env = pure true) (hi : PDI X T W tg iter it) (ok : BlkOk X.N X.env.scope scope own) (hws : ∀ i ∈ t.slots, i ∈ own.map (·.2) := by decide)
    (hg : Blk X scope fun Y => PG Y tg (t.rd Y.K)) (ht : Blk X scope fun Y => PDTs Y T W0 ifs c) (he : Blk X scope fun Y => PD Y T W0 elt el) (hy : X.N[i]? = some y := by rfl) (hyl : X.env.scope.names.lookup y = some .local := by rfl) (hs : ∀ x, foldedSetIterable iter X.env x = pure x := by intro _; rfl) :
    PDS X T W (.Assign [.Name y py] (.ListComp elt [⟨tg, iter, ifs, 0⟩] scope pos) spos) (setS (lcC it t (own.map (·.2)) c el) (.one i)) :=
  PS.imp (ps_setLc (g := t.rd X.K) (tt := wp X.K T W0 rT c) (te := wp X.K T W0 (rE X.K) el) hc.calm hc.nd hy hyl hsw hi ok hg ht he hs) fun Dn σ H ⟨F, G, l, r, S, hr, hsl, hp⟩ => by
  have q : wp X.K T W (rE X.K) (lcC it t (own.map (·.2)) c el) σ H (fun x H1 => gName i x σ H1 Dn.nx) := wpS_step hr hsl hp fun F1 l1 S1 a x H1 lt hs1 ha hp1 => set_post (t := .one i) lt.rel hs1 ha hp1
  exact comp_wp (fin := fun xs S => .ok (.loc S.length) (S ++ [Cell.lst xs])) hws fin_cell q
end
section
variable {K : PySem.W.Frag} {T : List (Addr × Str)}
theorem methd_insert : MethD K T (fun x vs H Q => ∃ (l : Addr) (xs : List V) (i : Int) (y : V), x = .ref l ∧ vs = [.int i, y] ∧ H l = some (.lst xs) ∧ xs.length < sizeLine ∧ 0 ≤ i ∧ i < 2 ^ 63 ∧
    Q .non (upd H l (.lst (xs.take i.toNat ++ [y] ++ xs.drop i.toNat)))) insertG := by
  intro F G l S H o as d S' x xs Q hr hx ha e k
  obtain ⟨p, vs, ds, ds', rfl, h1, h2, h3, h4, h5⟩ := onCell_at hr hx e
  split at h4
  · rename_i i a
    split at h4
    · rename_i hl
      cases h4
      obtain ⟨u, v, rfl, hu, hv⟩ := AtL.two ha
      cases hu
      refine ⟨p, vs, i, v, rfl, rfl, h1, by rw [h2.length]; exact Nat.lt_of_lt_of_le hl.1 (by decide), hl.2.1, hl.2.2, ?_⟩
      refine k _ _ _ _ (h5 _ ?_ ?_) rfl
      · rw [List.append_assoc]
        exact (h2.take _).append ⟨v, _, rfl, hv, h2.drop _⟩
      · rw [List.length_append, List.length_cons, List.length_take, List.length_drop]
        have : ds.length < 100000 := hl.1
        exact sz_of (by omega)
    · cases h4
  · cases h4
end
/-! ### the proof's own steps: a cell is frozen -/
def fzCell (n : Nat) (S : Store) : Option Store := match S[n]? with
  | some (.lst ds) => some (S.set n (.fz (.lst ds)))
  | some (.dct ks ws) => some (S.set n (.fz (.dct ks ws)))
  | some (.fz _) => some S
  | none => none
/-- the cell that slot i names -/
def fzSlot (i : Nat) : Env → Store → Option (Env × Store) := fun r S => match r[i]? with
  | some (some (.loc n)) => (fzCell n S).map fun S' => (r, S')
  | _ => none
theorem fzCell_ok {K : PySem.W.Frag} {T : List (Addr × Str)} {F G H : Hp} {l : List Addr} {S S' : Store} {n : Nat} (h : HRel K T F G l S H) (e : fzCell n S = some S') : ∃ F', Later K T F G l F' l S' H := by
  unfold fzCell at e
  split at e
  · rename_i ds q
    cases e
    obtain ⟨p, h1, h2, h3, vs, h4, h5⟩ := h.cell n _ q
    have le : Le F (upd F p (.lst vs)) := Le.new h2
    exact ⟨_, le, Pre.refl l, h.frz h1 q h2 h4 ⟨p, vs, rfl, upd_same, h3, AtL.mono le (Pre.refl l) _ _ h5⟩⟩
  · rename_i ks ws q
    cases e
    obtain ⟨p, h1, h2, h3, vs, h4, h5⟩ := h.cell n _ q
    rcases h5 with ⟨kvs, r1, r2⟩ | ⟨kvs, r1, r2⟩
    · have le : Le F (upd F p (.dK kvs)) := Le.new h2
      exact ⟨_, le, Pre.refl l, h.frz h1 q h2 r1 ⟨p, vs, rfl, AtL.mono le (Pre.refl l) _ _ h4, h3, .inl ⟨kvs, upd_same, r2⟩⟩⟩
    · have le : Le F (upd F p (.dT kvs)) := Le.new h2
      exact ⟨_, le, Pre.refl l, h.frz h1 q h2 r1 ⟨p, vs, rfl, AtL.mono le (Pre.refl l) _ _ h4, h3, .inr ⟨kvs, upd_same, r2⟩⟩⟩
  · cases e; exact ⟨F, Later.refl h⟩
  · cases e
theorem fzSlot_ok {K : PySem.W.Frag} {T : List (Addr × Str)} (i : Nat) : GhostOk K T (fzSlot i) := by
  intro F G l r S σ H r' S' hr hs e
  unfold fzSlot at e
  split at e
  · rename_i n _
    cases q : fzCell n S with
    | none => rw [q] at e; cases e
    | some S2 =>
      rw [q] at e; cases e
      obtain ⟨F', lt⟩ := fzCell_ok hr q
      exact ⟨F', lt, hs.mono lt.le lt.pre⟩
  · cases e
/-- all cells -/
def fzFrom (n : Nat) : Nat → Store → Option Store
  | 0, S => some S
  | k + 1, S => match fzCell (n + k) S with
    | some S' => fzFrom n k S'
    | none => none
theorem fzFrom_ok {K : PySem.W.Frag} {T : List (Addr × Str)} {G H : Hp} {l : List Addr} (n : Nat) : ∀ (k : Nat) {F : Hp} {S S' : Store}, HRel K T F G l S H → fzFrom n k S = some S' → ∃ F', Later K T F G l F' l S' H
  | 0, F, S, S', h, e => by cases e; exact ⟨F, Later.refl h⟩
  | k + 1, F, S, S', h, e => by
    simp only [fzFrom] at e
    cases q : fzCell (n + k) S with
    | none => rw [q] at e; cases e
    | some S2 =>
      rw [q] at e
      obtain ⟨F1, lt1⟩ := fzCell_ok h q
      obtain ⟨F2, lt2⟩ := fzFrom_ok n k lt1.rel e
      exact ⟨F2, lt1.trans lt2⟩
def fzAll : Env → Store → Option (Env × Store) := fun r S => (fzFrom 0 S.length S).map fun S' => (r, S')
theorem fzAll_ok {K : PySem.W.Frag} {T : List (Addr × Str)} : GhostOk K T fzAll := by
  intro F G l r S σ H r' S' hr hs e
  unfold fzAll at e
  cases q : fzFrom 0 S.length S with
  | none => rw [q] at e; cases e
  | some S2 =>
    rw [q] at e; cases e
    obtain ⟨F', lt⟩ := fzFrom_ok 0 _ hr q
    exact ⟨F', lt, hs.mono lt.le lt.pre⟩
end Aw

/-! Aw11: one word for each construct. -/
namespace Aw
open PySem L2 LamX

/-- the built-ins that the text leaves as they are -/
structure Bt (mg : Str → Option Value) : Prop where
  len : mg "len" = none
  range : mg "range" = none
  abs : mg "abs" = none := by assumption
  all : mg "all" = none := by assumption
  any : mg "any" = none := by assumption
  dict : mg "dict" = none := by assumption
  enumerate : mg "enumerate" = none := by assumption
  int : mg "int" = none := by assumption
  bool : mg "bool" = none := by assumption
  str : mg "str" = none := by assumption
  isinstance : mg "isinstance" = none := by assumption
  list : mg "list" = none := by assumption
  max : mg "max" = none := by assumption
  min : mg "min" = none := by assumption
  repr : mg "repr" = none := by assumption
  reversed : mg "reversed" = none := by assumption
  set : mg "set" = none := by assumption
  sorted : mg "sorted" = none := by assumption
  sum : mg "sum" = none := by assumption
  tuple : mg "tuple" = none := by assumption
  zip : mg "zip" = none := by assumption
theorem boot_len' : bootBuiltins "len" = some (.builtin "len") := by decide +kernel
theorem boot_abs' : bootBuiltins "abs" = some (.builtin "abs") := by decide +kernel
theorem boot_all' : bootBuiltins "all" = some (.builtin "all") := by decide +kernel
theorem boot_any' : bootBuiltins "any" = some (.builtin "any") := by decide +kernel
theorem boot_max' : bootBuiltins "max" = some (.builtin "max") := by decide +kernel
theorem boot_min' : bootBuiltins "min" = some (.builtin "min") := by decide +kernel
theorem boot_sum' : bootBuiltins "sum" = some (.builtin "sum") := by decide +kernel
theorem boot_sorted' : bootBuiltins "sorted" = some (.builtin "sorted") := by decide +kernel
theorem boot_int' : bootBuiltins "int" = some (.type "int") := by decide +kernel
theorem boot_bool' : bootBuiltins "bool" = some (.type "bool") := by decide +kernel
theorem boot_str' : bootBuiltins "str" = some (.type "str") := by decide +kernel
theorem boot_list' : bootBuiltins "list" = some (.type "list") := by decide +kernel
theorem boot_tuple' : bootBuiltins "tuple" = some (.type "tuple") := by decide +kernel
theorem boot_dict' : bootBuiltins "dict" = some (.type "dict") := by decide +kernel

section
variable {X : Cx} {T : List (Addr × Str)} {W : WX} {k : Nat} {pos p p2 : Pos} {a b e : Expr} {fa fb f : Sem D}
/-! ### operators -/
def addG : G2 := orG addI (orG addL addT)
def addGC : G2 := orG addI (orG addLC addT)
def mulG : G2 := orG mulI repL
def mulGC : G2 := orG mulI repLC
theorem d_add (ha : PD X T W a fa) (hb : PD X T W b fb) : PD X T W (.BinOp a .Add b pos) (op2 addG fa fb) := pd_op (OpR.or op_add (OpR.or op_cat op_catA)) (opd_addI.or (opd_addL.or opd_addT)) ha hb
theorem d_addC (ha : PD X T W a fa) (hb : PD X T W b fb) : PD X T W (.BinOp a .Add b pos) (op2 addGC fa fb) := pd_op (OpR.or op_add (OpR.or op_cat op_catA)) (opd_addI.or (opd_addLC.or opd_addT)) ha hb
theorem d_sub (ha : PD X T W a fa) (hb : PD X T W b fb) : PD X T W (.BinOp a .Sub b pos) (op2 subI fa fb) := pd_op op_sub opd_subI ha hb
theorem d_mul (ha : PD X T W a fa) (hb : PD X T W b fb) : PD X T W (.BinOp a .Mult b pos) (op2 mulG fa fb) := pd_op (OpR.or (OpR.or op_mul op_mulW) op_rep) (opd_mulI.or opd_repL) ha hb
theorem d_mulC (ha : PD X T W a fa) (hb : PD X T W b fb) : PD X T W (.BinOp a .Mult b pos) (op2 mulGC fa fb) := pd_op (OpR.or (OpR.or op_mul op_mulW) op_rep) (opd_mulI.or opd_repLC) ha hb
theorem d_fdiv (ha : PD X T W a fa) (hb : PD X T W b fb) : PD X T W (.BinOp a .FloorDiv b pos) (op2 fdivI fa fb) := pd_op op_fdivW opd_fdivI ha hb
theorem d_mod (ha : PD X T W a fa) (hb : PD X T W b fb) : PD X T W (.BinOp a .Mod b pos) (op2 modI fa fb) := pd_op op_mod opd_modI ha hb
theorem d_pow (ha : PD X T W a fa) (hb : PD X T W b fb) : PD X T W (.BinOp a .Pow b pos) (op2 powI fa fb) := pd_op op_pow opd_powI ha hb
theorem d_shl (ha : PD X T W a fa) (hb : PD X T W b fb) : PD X T W (.BinOp a .LShift b pos) (op2 shlI fa fb) := pd_op op_shl opd_shlI ha hb
theorem d_shr (ha : PD X T W a fa) (hb : PD X T W b fb) : PD X T W (.BinOp a .RShift b pos) (op2 shrI fa fb) := pd_op op_shr opd_shrI ha hb
/-! ### comparisons -/
theorem d_lt (ha : PD X T W a fa) (hb : PD X T W b fb) : PD X T W (.Compare a [.Lt] [b] pos) (op2 ltI fa fb) := pd_cmp op_lt opd_ltI ha hb (nomark _)
theorem d_le (ha : PD X T W a fa) (hb : PD X T W b fb) : PD X T W (.Compare a [.LtE] [b] pos) (op2 leI fa fb) := pd_cmp op_le opd_leI ha hb (nomark _)
theorem d_gt (ha : PD X T W a fa) (hb : PD X T W b fb) : PD X T W (.Compare a [.Gt] [b] pos) (op2 gtI fa fb) := pd_cmp op_gt opd_gtI ha hb (nomark _)
theorem d_ge (ha : PD X T W a fa) (hb : PD X T W b fb) : PD X T W (.Compare a [.GtE] [b] pos) (op2 geI fa fb) := pd_cmp op_ge opd_geI ha hb (nomark _)
theorem t_lt (ha : PD X T W a fa) (hb : PD X T W b fb) : PDT X T W (.Compare a [.Lt] [b] pos) (testE (op2 ltI fa fb)) := pt_cmp' op_lt opd_ltI ha hb (nomark _)
theorem t_le (ha : PD X T W a fa) (hb : PD X T W b fb) : PDT X T W (.Compare a [.LtE] [b] pos) (testE (op2 leI fa fb)) := pt_cmp' op_le opd_leI ha hb (nomark _)
theorem t_gt (ha : PD X T W a fa) (hb : PD X T W b fb) : PDT X T W (.Compare a [.Gt] [b] pos) (testE (op2 gtI fa fb)) := pt_cmp' op_gt opd_gtI ha hb (nomark _)
theorem t_ge (ha : PD X T W a fa) (hb : PD X T W b fb) : PDT X T W (.Compare a [.GtE] [b] pos) (testE (op2 geI fa fb)) := pt_cmp' op_ge opd_geI ha hb (nomark _)
theorem d_eq (hc : Ctx X W k) (ha : PD X T W a fa) (hb : PD X T W b fb) : PD X T W (.Compare a [.Eq] [b] pos) (op2 eqG fa fb) := pd_cmp (op_eqD hc.rm.units) opd_eq ha hb (nomark _)
theorem d_ne (hc : Ctx X W k) (ha : PD X T W a fa) (hb : PD X T W b fb) : PD X T W (.Compare a [.NotEq] [b] pos) (op2 neG fa fb) := pd_cmp (op_neD hc.rm.units) opd_ne ha hb (nomark _)
theorem t_eq (hc : Ctx X W k) (ha : PD X T W a fa) (hb : PD X T W b fb) : PDT X T W (.Compare a [.Eq] [b] pos) (testE (op2 eqG fa fb)) := pt_cmp' (op_eqD hc.rm.units) opd_eq ha hb (nomark _)
theorem t_ne (hc : Ctx X W k) (ha : PD X T W a fa) (hb : PD X T W b fb) : PDT X T W (.Compare a [.NotEq] [b] pos) (testE (op2 neG fa fb)) := pt_cmp' (op_neD hc.rm.units) opd_ne ha hb (nomark _)
def inG : G2 := orG (boG inF false) (boG inDeep false)
def notInG : G2 := orG (boG inF true) (boG inDeep true)
theorem unitsIn (hc : Ctx X W k) : X.A.units + 65 < cLine := by
  have := hc.rm.un; omega
theorem d_in (hc : Ctx X W k) (ha : PD X T W a fa) (hb : PD X T W b fb) (hm : behindInMarks .In b = false := by with_unfolding_all rfl) : PD X T W (.Compare a [.In] [b] pos) (op2 inG fa fb) := pd_cmp (OpR.or op_in_seq (op_inD (unitsIn hc))) ((opd_inF false).or opd_inD) ha hb hm
theorem d_notIn (hc : Ctx X W k) (ha : PD X T W a fa) (hb : PD X T W b fb) (hm : behindInMarks .NotIn b = false := by with_unfolding_all rfl) : PD X T W (.Compare a [.NotIn] [b] pos) (op2 notInG fa fb) := pd_cmp (OpR.or op_notIn_seq (op_notInD (unitsIn hc))) ((opd_inF true).or opd_notInD) ha hb hm
theorem t_in (hc : Ctx X W k) (ha : PD X T W a fa) (hb : PD X T W b fb) (hm : behindInMarks .In b = false := by with_unfolding_all rfl) : PDT X T W (.Compare a [.In] [b] pos) (testE (op2 inG fa fb)) := pt_cmp' (OpR.or op_in_seq (op_inD (unitsIn hc))) ((opd_inF false).or opd_inD) ha hb hm
theorem t_notIn (hc : Ctx X W k) (ha : PD X T W a fa) (hb : PD X T W b fb) (hm : behindInMarks .NotIn b = false := by with_unfolding_all rfl) : PDT X T W (.Compare a [.NotIn] [b] pos) (testE (op2 notInG fa fb)) := pt_cmp' (OpR.or op_notIn_seq (op_notInD (unitsIn hc))) ((opd_inF true).or opd_notInD) ha hb hm
def isG : G2 := orG (isN false) (isB false)
def isNotG : G2 := orG (isN true) (isB true)
theorem d_is (ha : PD X T W a fa) (hb : PD X T W b fb) : PD X T W (.Compare a [.Is] [b] pos) (op2 isG fa fb) := pd_cmp (OpR.or op_isN op_isBl) (opd_isN.or opd_isB) ha hb (nomark _)
theorem d_isNot (ha : PD X T W a fa) (hb : PD X T W b fb) : PD X T W (.Compare a [.IsNot] [b] pos) (op2 isNotG fa fb) := pd_cmp (OpR.or op_notN op_notBl) (opd_notN.or opd_notB) ha hb (nomark _)
theorem t_is (ha : PD X T W a fa) (hb : PD X T W b fb) : PDT X T W (.Compare a [.Is] [b] pos) (testE (op2 isG fa fb)) := pt_cmp' (OpR.or op_isN op_isBl) (opd_isN.or opd_isB) ha hb (nomark _)
theorem t_isNot (ha : PD X T W a fa) (hb : PD X T W b fb) : PDT X T W (.Compare a [.IsNot] [b] pos) (testE (op2 isNotG fa fb)) := pt_cmp' (OpR.or op_notN op_notBl) (opd_notN.or opd_notB) ha hb (nomark _)
/-- a < b < c and its kin: one pair of rules a pair of operators -/
theorem d_ltlt {c : Expr} {fc : Sem D} (ha : PD X T W a fa) (hb : PD X T W b fb) (hc : PD X T W c fc) (hm : lastMarks [.Lt, .Lt] [b, c] = false := by with_unfolding_all rfl) : PD X T W (.Compare a [.Lt, .Lt] [b, c] pos) (chainE ltI ltI fa fb fc) := pd_chain op_lt op_lt opd_ltI opd_ltI ha hb hc hm
theorem t_ltlt {c : Expr} {fc : Sem D} (ha : PD X T W a fa) (hb : PD X T W b fb) (hc : PD X T W c fc) (hm : lastMarks [.Lt, .Lt] [b, c] = false := by with_unfolding_all rfl) : PDT X T W (.Compare a [.Lt, .Lt] [b, c] pos) (testE (chainE ltI ltI fa fb fc)) := pt_chain' op_lt op_lt opd_ltI opd_ltI ha hb hc hm
theorem d_lelt {c : Expr} {fc : Sem D} (ha : PD X T W a fa) (hb : PD X T W b fb) (hc : PD X T W c fc) (hm : lastMarks [.LtE, .Lt] [b, c] = false := by with_unfolding_all rfl) : PD X T W (.Compare a [.LtE, .Lt] [b, c] pos) (chainE leI ltI fa fb fc) := pd_chain op_le op_lt opd_leI opd_ltI ha hb hc hm
theorem t_lelt {c : Expr} {fc : Sem D} (ha : PD X T W a fa) (hb : PD X T W b fb) (hc : PD X T W c fc) (hm : lastMarks [.LtE, .Lt] [b, c] = false := by with_unfolding_all rfl) : PDT X T W (.Compare a [.LtE, .Lt] [b, c] pos) (testE (chainE leI ltI fa fb fc)) := pt_chain' op_le op_lt opd_leI opd_ltI ha hb hc hm
theorem d_lele {c : Expr} {fc : Sem D} (ha : PD X T W a fa) (hb : PD X T W b fb) (hc : PD X T W c fc) (hm : lastMarks [.LtE, .LtE] [b, c] = false := by with_unfolding_all rfl) : PD X T W (.Compare a [.LtE, .LtE] [b, c] pos) (chainE leI leI fa fb fc) := pd_chain op_le op_le opd_leI opd_leI ha hb hc hm
theorem t_lele {c : Expr} {fc : Sem D} (ha : PD X T W a fa) (hb : PD X T W b fb) (hc : PD X T W c fc) (hm : lastMarks [.LtE, .LtE] [b, c] = false := by with_unfolding_all rfl) : PDT X T W (.Compare a [.LtE, .LtE] [b, c] pos) (testE (chainE leI leI fa fb fc)) := pt_chain' op_le op_le opd_leI opd_leI ha hb hc hm
/-! ### items -/
theorem d_ix (ha : PD X T W a fa) (hb : PD X T W b fb) (hs : PlainIx b := by exact fun _ _ => rfl) : PD X T W (.Subscript a b pos) (op2 ixG fa fb) := pd_ix ix_seq opd_ix ha hb hs
def negG : Store → D → Option D := fun _ d => match d with
  | .int i => some (.int (-i))
  | _ => none
theorem d_neg (h : PD X T W a f) : PD X T W (.UnaryOp .USub a pos) (op1 negG f) := pd_neg h
theorem g_sub {o i : Expr} {fo fi : Sem D} (h : PG X (.Subscript o i pos) (gSub (wp X.K T W (rE X.K) fo) (wp X.K T W (rE X.K) fi) rSetL)) : PDG X T W (.Subscript o i pos) (subT setL fo fi) := pdg_sub setok_list h
end
end Aw

namespace Aw
open PySem L2 LamX
theorem subT_nx (g : GSet) (fo fi : Sem D) : ∀ d r S, (∃ r' S', subT g fo fi d r S = .nx r' S') ∨ (∃ c r' S', subT g fo fi d r S = .err c r' S') ∨ subT g fo fi d r S = .stuck := by
  intro d r S
  unfold subT thenS
  cases fo r S with
  | err c S' => exact .inr (.inl ⟨_, _, _, rfl⟩)
  | stuck => exact .inr (.inr rfl)
  | ok o S1 =>
    simp only
    cases fi r S1 with
    | err c S' => exact .inr (.inl ⟨_, _, _, rfl⟩)
    | stuck => exact .inr (.inr rfl)
    | ok i S2 =>
      simp only
      cases g S2 o i d with
      | none => exact .inr (.inr rfl)
      | some S' => exact .inl ⟨_, _, rfl⟩
/-- a def of the text, under its name -/
def TxF (K : PySem.W.Frag) (mg : Str → Option Value) (x : Str) (st : Stmt) : Prop := ∃ (a : Addr) (fd : FuncData), mg x = some (.ref a) ∧ Fun K x x st a fd
section
variable {P : Program} {w : World} {K : PySem.W.Frag} {T : List (Addr × Str)} {mg : Str → Option Value} {base : Heap} {x : Str} {st : Stmt} {k n : Nat} {f : FSem} {g : RSem}
/-- how arguments come to the parameters -/
abbrev BindsTx (x : Str) (st : Stmt) (ps : List Str) : Prop := ∀ (kV doc pm : Value) (an : Option Addr) (cdv ct : Value) (us : List Value), us.length = ps.length → bindArgs (PySem.W.fnOf x x (defArgs st) (defBody st) (defScope st) .none kV doc pm an cdv ct) ⟨us, []⟩ = pure (ps.zip us)
theorem fnD_mk (ps : List Str) (Tx : TxF K mg x st) (hn : ps.length = n) (hb : BindsTx x st ps) (h : ∀ (a : Addr) (fd : FuncData), Fun K x x st a fd → FnOk P w K mg base (L2.CX P w) k a fd ps (spP K T ps.length f)) : FnD P w K T mg base x k n f := by
  obtain ⟨a, fd, hm, F⟩ := Tx
  subst hn
  exact ⟨a, fd, ps, hm, F.kp, F.binds hb, rfl, h a fd F⟩
theorem fnR_mk (ps : List Str) (Tx : TxF K mg x st) (hn : ps.length = n) (hb : BindsTx x st ps) (h : ∀ (a : Addr) (fd : FuncData), Fun K x x st a fd → FnOk P w K mg base (L2.CX P w) k a fd ps (spR K T ps.length g)) : FnR P w K T mg base x k n g := by
  obtain ⟨a, fd, hm, F⟩ := Tx
  subst hn
  exact ⟨a, fd, ps, hm, F.kp, F.binds hb, rfl, h a fd F⟩
end
end Aw

/-! AwX: raise, try, isinstance of what was caught. -/
namespace Aw
open PySem L2 LamX

/-- an own exception class over ValueError, without a method -/
structure ExF (K : PySem.W.Frag) (mg : Str → Option Value) (x : Str) : Prop where
  gC : mg x = some (.ref (He.ga K x))
  ok : (He.Fa.exc x).ok K = true
/-- what isinstance looks at in such a class -/
def exIs (K : PySem.W.Frag) (x : Str) : Bool :=
  (PySem.W.clsIn K (He.ga K x)).isSome && (decide (PySem.W.findIn K (.ref (He.ga K x)) "__getattribute__" = some (some (.builtin "BaseException.__getattribute__"))) && ((PySem.W.findIn K (.ref (He.ga K x)) "__getattr__").isSome &&
    (decide (PySem.W.subIn K (.ref (He.ga K x)) (.type "BaseException") = some true) && (decide (PySem.W.findIn K (.ref (He.ga K x)) "__class__" = some (some (.builtin "object.__class__"))) &&
      (decide (PySem.W.specialIn K (.builtin "object.__class__") "__get__" = some (some (.builtin "getset_descriptor.__get__"))) && (decide (PySem.W.takesIn K (.builtin "object.__class__") = some true) && decide (PySem.W.mroIn K (He.ga K x) (.type "object") = some true)))))))
theorem exIs_kit {K : PySem.W.Frag} {x : Str} (h : exIs K x = true) {a : Addr} {ox : Obj} {od : Option Obj} : PySem.W.KitX K (.ref a) (.ref (He.ga K x)) fun h => PySem.W.InstAt h a ox (He.ga K x) od := by
  unfold exIs at h
  simp only [Bool.and_eq_true, decide_eq_true_eq] at h
  obtain ⟨h1, h2, h3, h4, h5, h6, h7, h8⟩ := h
  obtain ⟨gt, h3⟩ := Option.isSome_iff_exists.mp h3
  exact PySem.W.kitx_exc h1 h2 h3 h4 h5 h6 h7 h8
def raiseS (c : Ex) : SemS := fun r S => .err c r S
section
variable {X : Cx} {T : List (Addr × Str)} {W : WX} {k : Nat} {pos p p2 p3 pos2 : Pos}
theorem pds_raise {x m : Str} {j : Nat} (hc : Ctx X W k) (F : ExF X.K X.mg x) (hg : Gl X x) (hdb : (x == ("__debug__" : Str)) = false := by decide) : PDS X T W (.Raise (some (.Call (.Name x p) [.Constant (.str m) j p2] [] p3)) none pos) (raiseS (.own x)) := by
  have q := F.ok
  unfold He.Fa.ok at q
  simp only [Bool.and_eq_true, decide_eq_true_eq] at q
  obtain ⟨q1, q2, q3, q4⟩ := q
  exact PS.imp (ps_raise hc.calm hc.tk (pmk_own PySem.F.excBase_ValueError q1 F.gC q2 (raises_own q3 q4) hg hdb)) fun Dn σ H ⟨F', G, l, r, S, hr, hs, hp⟩ => hp F' l σ H (Later.refl hr) hs

/-! ### try -/
/-- which class is under which, as the text tells -/
abbrev ExT := Ex → Ex → Option Bool
def ExOk (K : PySem.W.Frag) (M : ExT) : Prop := ∀ c d b, M c d = some b → PySem.W.exmOne K (exV K c) (exV K d) = some b
/-- the clauses, one after the other; nothing else is run where a body is through -/
def hands (M : ExT) (c : Ex) : List (Ex × SemS) → SemS
  | [], r, S => .err c r S
  | (d, su) :: hs, r, S => match M c d with
    | some true => su r S
    | some false => hands M c hs r S
    | none => .stuck
def tryS (M : ExT) (b : SemS) (hs : List (Ex × SemS)) : SemS := fun r S => match b r S with
  | .err c r1 S1 => hands M c hs r1 S1
  | o => o
/-- an exception's class, by its value -/
def SuTs (K : PySem.W.Frag) (T : List (Addr × Str)) (su : SemS) : Addr → Value → Option Addr → TS := fun _ _ _ => wpS K T W0 su
theorem wp_hands {K : PySem.W.Frag} {M : ExT} (hM : ExOk K M) {W : WX} {Dn : Ends} {c : Ex} : ∀ (hs : List (Ex × SemS)) {F G H : Hp} {l : List Addr} {r : Env} {S : Store} {σ : St}, HRel K T F G l S H → Sl K F l r σ → (∀ d su, (d, su) ∈ hs → ∀ r S, ∀ c' r' S', su r S ≠ .err c' r' S') →
    PostS K T W F G l Dn (hands M c hs r S) → wMany K W Dn (hs.map fun q => (exV K q.1, SuTs K T q.2)) (exV K c) none σ H
  | [], F, G, H, l, r, S, σ, hr, hs, _, hp => hp F l σ H (Later.refl hr) hs
  | (d, su) :: hs', F, G, H, l, r, S, σ, hr, hs, hne, hp => by
    simp only [hands] at hp
    cases e : M c d with
    | none => rw [e] at hp; exact hp.elim
    | some b =>
      rw [e] at hp
      refine ⟨b, hM c d b e, fun hb a _ => ?_, fun hb => ?_⟩
      · subst hb
        refine ⟨F, G, l, r, S, hr, hs, ?_⟩
        simp only at hp
        have hn := hne d su List.mem_cons_self r S
        show PostS K T W0 F G l Dn (su r S)
        cases e2 : su r S with
        | err c' r' S' => exact absurd e2 (hn c' r' S')
        | nx r' S' => rw [e2] at hp; exact hp
        | ret d' S' => rw [e2] at hp; exact hp
        | brk r' S' => rw [e2] at hp; exact hp
        | ct r' S' => rw [e2] at hp; exact hp
        | stuck => rw [e2] at hp; exact hp
      · subst hb
        exact wp_hands hM hs' hr hs (fun d su h => hne d su (List.mem_cons_of_mem _ h)) hp
/-- within a suite -/
structure CtxH (X : Cx) (k : Nat) : Prop where
  nd : X.N.Nodup
  rm : Room k X.A
inductive Hds (X : Cx) (T : List (Addr × Str)) : List ExceptHandler → List (Ex × SemS) → Prop
  | nil : Hds X T [] []
  | cons {x : Str} {c : Ex} {su : SemS} {b₀ : Stmt} {suite : List Stmt} {np pos' : Pos} {hds : List ExceptHandler} {l : List (Ex × SemS)} (hc : Names X x (exV X.K c)) (hne : ∀ r S c' r' S', su r S ≠ .err c' r' S')
      (hsu : ∀ (a : Addr) (oe : Obj) (pn : List (Addr × Obj)), PDB (X.suite a ((a, oe) :: pn)) T W0 (b₀ :: suite) su) (r : Hds X T hds l) : Hds X T (.ExceptHandler (some (.Name x np)) none (b₀ :: suite) pos' :: hds) ((c, su) :: l)
theorem Hds.ok : ∀ {hds : List ExceptHandler} {l : List (Ex × SemS)}, Hds X T hds l → HdsOk X hds (l.map fun q => (exV X.K q.1, SuTs X.K T q.2)) ∧ ∀ d su, (d, su) ∈ l → ∀ r S c' r' S', su r S ≠ .err c' r' S'
  | _, _, .nil => ⟨.nil, fun _ _ h => by simp at h⟩
  | _, _, .cons hc hne hsu r => by
    obtain ⟨h1, h2⟩ := Hds.ok r
    refine ⟨.cons hc (fun a oe cls d pn _ _ => hsu a oe pn) h1, fun d su h => ?_⟩
    rcases List.mem_cons.mp h with h | h
    · cases h; exact hne
    · exact h2 d su h
theorem pds_try {body : List Stmt} {h0 : ExceptHandler} {hds : List ExceptHandler} {M : ExT} {b : SemS} {l : List (Ex × SemS)} (hc : Ctx X W k) (hs : X.stack = X.env :: X.outer) (hf : X.env.frame = some X.env.locals) (hM : ExOk X.K M)
    (hb : ∀ (W' : WX) (pn : List (Addr × Obj)) (xe : Value → Shared → Prop), Ctx (X.tr pn xe) W' k → PDB (X.tr pn xe) T W' body b) (hh : Hds X T (h0 :: hds) l) : PDS X T W (.Try body (h0 :: hds) [] [] pos) (tryS M b l) := by
  obtain ⟨h1, h2⟩ := hh.ok
  refine PS.imp (ps_try_many (tb := fun W' => wpS X.K T W' b) hs hf hc.tk (fun W' pn xe tk po => hb W' pn xe ⟨hc.calm, hc.nd, tk, po, hc.rm⟩) h1) fun Dn σ H ⟨F, G, l', r, S, hr, hsl, hp⟩ => ?_
  refine ⟨F, G, l', r, S, hr, hsl, ?_⟩
  unfold tryS at hp
  cases e : b r S with
  | err c r1 S1 =>
    rw [e] at hp
    exact fun F' l1 σ' H' lt hs' => wp_hands hM l lt.rel hs' h2 (hp.mono lt.le lt.pre)
  | nx r' S' => rw [e] at hp; exact hp
  | ret d' S' => rw [e] at hp; exact hp
  | brk r' S' => rw [e] at hp; exact hp
  | ct r' S' => rw [e] at hp; exact hp
  | stuck => rw [e] at hp; exact hp
/-! ### except X as e -/
def unsetR (i : Nat) : R → R
  | .nx r S => .nx (r.set i none) S
  | .brk r S => .brk (r.set i none) S
  | .ct r S => .ct (r.set i none) S
  | .ret d S => .ret d S
  | .err c r S => .err c r S
  | .stuck => .stuck
open Classical in
/-- the same whatever the exception's own address is -/
noncomputable def uniR (f : Addr → R) : R := if ∀ a, f a = f 0 then f 0 else .stuck
theorem uniR_of {f : Addr → R} {o : R} (h : ∀ a, f a = o) : uniR f = o := by
  unfold uniR
  rw [if_pos fun a => by rw [h a, h 0], h 0]
theorem uniR_at {f : Addr → R} (h : uniR f ≠ .stuck) (a : Addr) : uniR f = f a := by
  unfold uniR at h ⊢
  split
  · rename_i q; exact (q a).symm
  · rename_i q
    rw [if_neg q] at h
    exact absurd rfl h
noncomputable def tryAsS (M : ExT) (b : SemS) (d : Ex) (i : Nat) (su : Addr → Ex → SemS) : SemS := fun r S => match b r S with
  | .err c r1 S1 => (match M c d with
    | some true => uniR fun a => unsetR i (su a c (r1.set i (some (.fn a))) S1)
    | some false => .err c r1 S1
    | none => .stuck)
  | o => o
theorem unset_post {K : PySem.W.Frag} {W : WX} {F G : Hp} {l : List Addr} {Dn : Ends} {i : Nat} {o : R} (hn : ∀ c r S, o ≠ .err c r S) (h : PostS K T W F G l Dn (unsetR i o)) :
    PostS K T W0 F G l { nx := fun σ' H' => Dn.nx (σ'.set i none) H', rt := Dn.rt, bk := fun σ' H' => Dn.bk (σ'.set i none) H', ct := fun σ' H' => Dn.ct (σ'.set i none) H' } o := by
  cases o with
  | err c r S => exact absurd rfl (hn c r S)
  | nx r S => exact fun F' l' σ' H' lt hs => h F' l' _ H' lt (hs.unset i)
  | brk r S => exact fun F' l' σ' H' lt hs => h F' l' _ H' lt (hs.unset i)
  | ct r S => exact fun F' l' σ' H' lt hs => h F' l' _ H' lt (hs.unset i)
  | ret d S => exact h
  | stuck => exact h
theorem pds_tryAs {body suite : List Stmt} {x n : Str} {b₀ : Stmt} {np pos' : Pos} {M : ExT} {b : SemS} {d : Ex} {su : Addr → Ex → SemS} (i : Nat) (hc : Ctx X W k) (hs : X.stack = X.env :: X.outer) (hf : X.env.frame = some X.env.locals) (hM : ExOk X.K M)
    (hi : X.N[i]? = some n) (hl : X.env.kindOf n = some .local) (hx : Names X x (exV X.K d)) (hne : ∀ a c r S c' r' S', su a c r S ≠ .err c' r' S')
    (hb : ∀ (W' : WX) (pn : List (Addr × Obj)) (xe : Value → Shared → Prop), Ctx (X.tr pn xe) W' k → PDB (X.tr pn xe) T W' body b)
    (hsu : ∀ (a : Addr) (oe : Obj) (c : Ex) (pn : List (Addr × Obj)), Zc (exV X.K c) none oe → (∃ vs, oe.data = .fields vs) → PDB (X.suite a ((a, oe) :: pn)) T W0 (b₀ :: suite) (su a c)) :
    PDS X T W (.Try body [.ExceptHandler (some (.Name x np)) (some n) (b₀ :: suite) pos'] [] [] pos) (tryAsS M b d i su) := by
  refine PS.imp (ps_try_as (i := i) (tb := fun W' => wpS X.K T W' b) (ts := fun a cls dd Dn σ H => ∃ c : Ex, cls = exV X.K c ∧ dd = none ∧ wpS X.K T W0 (su a c) Dn σ H) hs hf hc.nd hi hl hx hc.tk
    (fun W' pn xe tk po => hb W' pn xe ⟨hc.calm, hc.nd, tk, po, hc.rm⟩) fun a oe cls dd pn hz hd => ⟨fun pins s σ H Dn I ⟨c, e1, e2, h⟩ => ?_⟩) fun Dn σ H ⟨F, G, l, r, S, hr, hsl, hp⟩ => ?_
  · subst e1 e2
    exact (hsu a oe c pn hz hd).run pins s σ H Dn I h
  · refine ⟨F, G, l, r, S, hr, hsl, ?_⟩
    unfold tryAsS at hp
    cases e : b r S with
    | err c r1 S1 =>
      rw [e] at hp
      simp only at hp
      intro F' l1 σ' H' lt hs'
      cases e1 : M c d with
      | none => rw [e1] at hp; exact hp.elim
      | some z =>
        rw [e1] at hp
        refine ⟨z, hM c d z e1, fun hz a ha => ?_, fun hz => ?_⟩
        · subst hz
          simp only at hp
          have hst : uniR (fun a => unsetR i (su a c (r1.set i (some (.fn a))) S1)) ≠ .stuck := fun q => by rw [q] at hp; exact hp
          rw [uniR_at hst a] at hp
          refine ⟨c, rfl, rfl, F', G, l1, r1.set i (some (.fn a)), S1, lt.rel, hs'.set (show At X.K F' l1 (.fn a) (.ref a) from rfl) i, ?_⟩
          exact unset_post (fun c' r' S' => hne a c _ _ c' r' S') (hp.mono lt.le lt.pre)
        · subst hz
          exact hp F' l1 σ' H' lt hs'
    | nx r' S' => rw [e] at hp; exact hp
    | ret d' S' => rw [e] at hp; exact hp
    | brk r' S' => rw [e] at hp; exact hp
    | ct r' S' => rw [e] at hp; exact hp
    | stuck => rw [e] at hp; exact hp
/-- isinstance(e, C) of the exception in hand -/
def IsOk (K : PySem.W.Frag) (M : ExT) : Prop := ∀ c d b, M c d = some b → PySem.W.kitOne K (exV K c) (exV K d) = some b ∧ ∃ x, c = .own x ∧ exIs K x = true
def isxE (a : Addr) (c : Ex) (M : ExT) (i : Nat) (d : Ex) : Sem D := fun r S => match r[i]? with
  | some (some (.fn b)) => if b = a then (match M c d with
    | some z => .ok (.bl z) S
    | none => .stuck) else .stuck
  | _ => .stuck
theorem call_isx {a : Addr} {oe : Obj} {x : Str} (hp : (a, oe) ∈ X.pn) (hz : Zc (.ref (He.ga X.K x)) none oe) (hf : ∃ vs, oe.data = .fields vs) (hk : exIs X.K x = true) :
    CallR X (.builtin "isinstance") (fun xs H Q => ∃ (c : V) (u : Value) (b : Bool), xs = [.ref a, c] ∧ ClsV c u ∧ PySem.W.kitOne X.K (.ref (He.ga X.K x)) u = some b ∧ Q (.bl b) H) := by
  intro pins s σ H xs us Q I r h
  obtain ⟨c, u, b, rfl, k, e, q⟩ := h
  obtain ⟨u1, u2, rfl, r1, r2⟩ := vals2 r
  have e2 := k.eq r2
  subst e2
  obtain rfl : u1 = Value.ref a := r1
  have pin := (I.pin (a, oe) (List.mem_append_left _ hp)).1
  obtain ⟨vs, hf⟩ := hf
  refine PySem.W.kia_one (exIs_kit hk (ox := oe) (od := none)) I.kIn ⟨pin, hz.1, ?_, ?_⟩ e (fun z => nomatch z) fun tk => ⟨.bl b, H, I.tok tk, rfl, q⟩
  · unfold PySem.W.notCls; rw [hf]
  · rw [hz.2]; exact True.intro
theorem pd_isx (i : Nat) {a : Addr} {oe : Obj} {c d : Ex} {y z : Str} {M : ExT} {cv : V} (hp : (a, oe) ∈ X.pn) (hz : Zc (exV X.K c) none oe) (hf : ∃ vs, oe.data = .fields vs) (hM : IsOk X.K M) (hg : Gl X "isinstance") (hm : X.mg "isinstance" = none)
    (hcv : ClsV cv (exV X.K d)) (hy : PE X (.Name y p2) (tC cv)) (hN : X.N[i]? = some z) (hv : Vis X.env.scope z) (hdz : (z == ("__debug__" : Str)) = false := by decide) (hcd : (z == ("__classdict__" : Str)) = false := by decide)
    (hb : bootBuiltins "isinstance" = some (.builtin "isinstance") := by decide +kernel)
    (he : starEach [.Name z p, .Name y p2] X.env = (false, eval (.Name z p) X.env) :: starEach [.Name y p2] X.env := by rfl) (hpl : (backTo pos (starEach [.Name y p2] X.env)).any (·.1) = false := by rfl) :
    PD X T W (.Call (.Name "isinstance" p3) [.Name z p, .Name y p2] [] pos) (isxE a c M i d) := by
  cases e1 : M c d with
  | none =>
    refine ⟨fun pins s σ H Q I ⟨F, G, l, r, S, hr, hs, hq⟩ => ?_⟩
    have : isxE a c M i d r S = .stuck := by
      unfold isxE
      split
      · split
        · rw [e1]
        · rfl
      · rfl
    rw [this] at hq
    exact hq.elim
  | some bb =>
    obtain ⟨hk, x, hcx, hex⟩ := hM c d bb e1
    subst hcx
    refine PE.imp (pe_callB (call_isx hp hz hf hex) hg hm hb (pa_cons (pe_var hN hv hdz hcd) (pa_cons hy pa_nil)) (by decide) (by decide) he hpl) fun σ H Q ⟨F, G, l, r, S, hr, hs, hq⟩ => ?_
    unfold isxE at hq
    split at hq
    · rename_i b hri
      split at hq
      · rename_i hba
        subst hba
        rw [e1] at hq
        obtain ⟨v, q1, q2⟩ := hs.2 i _ hri
        have q2 : v = .ref b := q2
        subst q2
        exact ⟨_, q1, cv, _, bb, rfl, hcv, hk, hq F l H _ (Later.refl hr) rfl⟩
      · exact hq.elim
    · exact hq.elim
end
end Aw
namespace Aw
open PySem L2 LamX
section
variable {X : Cx} {T : List (Addr × Str)} {W : WX} {k : Nat} {pos : Pos} {e : Expr}
/-- name = e, within a suite -/
theorem pds_setH (i : Nat) {x : Str} {pos' : Pos} {f : Sem D} (nd : X.N.Nodup) (h : PD X T W e f) (hi : X.N[i]? = some x := by rfl) (hx : Loc X.env.scope x := by first | exact Or.inl rfl | exact Or.inr rfl)
    (hs : swapsWith e (some (.Name x pos')) pos.line X.env = pure false := by rfl) (hf : X.fn x = true ∨ X.env.scope.names.lookup x = some .local := by first | exact .inl rfl | exact .inr rfl | assumption) : PDS X T W (.Assign [.Name x pos'] e pos) (setS f (.one i)) :=
  PS.imp (ps_set nd hi hx h hs hf) fun Dn σ H ⟨F, G, l, r, S, hr, hsl, hp⟩ => wpS_step hr hsl hp fun F1 l1 S1 a v H1 lt hs1 ha hp1 => set_post (t := .one i) lt.rel hs1 ha hp1
/-- nothing is let out -/
def NoE {α : Type} (f : Sem α) : Prop := ∀ r S c S', f r S ≠ .err c S'
def NoS (f : SemS) : Prop := ∀ r S c r' S', f r S ≠ .err c r' S'
theorem noE_ret {α : Type} (a : α) : NoE (retO a) := fun _ _ _ _ h => by cases h
theorem noE_bind {α β : Type} {f : Sem α} {g : α → Sem β} (hf : NoE f) (hg : ∀ a, NoE (g a)) : NoE (bindO f g) := fun r S c S' h => by
  unfold bindO at h
  cases e : f r S with
  | ok a S1 => rw [e] at h; exact hg a _ _ _ _ h
  | err c1 S1 => exact hf _ _ _ _ e
  | stuck => rw [e] at h; cases h
theorem noE_var (i : Nat) : NoE (vE i) := fun r S c S' h => by
  unfold vE at h
  split at h <;> cases h
theorem noE_nil : NoE nilA := noE_ret _
theorem noE_cons {f : Sem D} {g : Sem (List D)} (hf : NoE f) (hg : NoE g) : NoE (consA f g) := noE_bind hf fun _ => noE_bind hg fun _ => noE_ret _
theorem noE_lst {f : Sem (List D)} (hf : NoE f) : NoE (lstE f) := noE_bind hf fun ds r S c S' h => by
  split at h <;> cases h
theorem noE_tup {f : Sem (List D)} (hf : NoE f) : NoE (tupE f) := noE_bind hf fun ds r S c S' h => by
  split at h <;> cases h
theorem noE_op2 {g : G2} {f f' : Sem D} (hf : NoE f) (hf' : NoE f') : NoE (op2 g f f') := noE_bind hf fun a => noE_bind hf' fun b r S c S' h => by
  unfold stepO at h
  split at h <;> cases h
theorem noE_isx {a : Addr} {c d : Ex} {M : ExT} {i : Nat} : NoE (isxE a c M i d) := fun r S c' S' h => by
  unfold isxE at h
  split at h
  · split at h
    · split at h <;> cases h
    · cases h
  · cases h
theorem noS_set {f : Sem D} {t : Tgt} (hf : NoE f) : NoS (setS f t) := fun r S c r' S' h => by
  unfold setS thenS at h
  cases e : f r S with
  | ok a S1 =>
    rw [e] at h
    simp only at h
    split at h <;> cases h
  | err c1 S1 => exact hf _ _ _ _ e
  | stuck => rw [e] at h; cases h
theorem noS_ret {f : Sem D} (hf : NoE f) : NoS (retS f) := fun r S c r' S' h => by
  unfold retS thenS at h
  cases e : f r S with
  | ok a S1 => rw [e] at h; cases h
  | err c1 S1 => exact hf _ _ _ _ e
  | stuck => rw [e] at h; cases h
theorem noS_seq {f g : SemS} (hf : NoS f) (hg : NoS g) : NoS (seqS f g) := fun r S c r' S' h => by
  unfold seqS at h
  cases e : f r S with
  | nx r1 S1 => rw [e] at h; exact hg _ _ _ _ _ h
  | err c1 r1 S1 => exact hf _ _ _ _ _ e
  | ret d S1 => rw [e] at h; cases h
  | brk r1 S1 => rw [e] at h; cases h
  | ct r1 S1 => rw [e] at h; cases h
  | stuck => rw [e] at h; cases h
end
end Aw
namespace Aw
open PySem L2 LamX
/-- a table of classes, looked up -/
def exLook (L : List (Ex × Ex × Bool)) : ExT := fun c d => (L.find? fun p => decide (p.1 = c) && decide (p.2.1 = d)).map fun p => p.2.2
def exOk (K : PySem.W.Frag) (L : List (Ex × Ex × Bool)) : Bool := L.all fun p => decide (PySem.W.exmOne K (exV K p.1) (exV K p.2.1) = some p.2.2) && (decide (PySem.W.kitOne K (exV K p.1) (exV K p.2.1) = some p.2.2) && (match p.1 with
  | .own x => exIs K x
  | _ => false))
theorem exLook_mem {L : List (Ex × Ex × Bool)} {c d : Ex} {b : Bool} (h : exLook L c d = some b) : (c, d, b) ∈ L := by
  unfold exLook at h
  cases e : L.find? (fun p => decide (p.1 = c) && decide (p.2.1 = d)) with
  | none => rw [e] at h; cases h
  | some p =>
    rw [e] at h; cases h
    have h1 := List.find?_some e
    simp only [Bool.and_eq_true, decide_eq_true_eq] at h1
    have h2 := List.mem_of_find?_eq_some e
    rw [← h1.1, ← h1.2]; exact h2
theorem exOk_at {K : PySem.W.Frag} {L : List (Ex × Ex × Bool)} (h : exOk K L = true) : ExOk K (exLook L) ∧ IsOk K (exLook L) := by
  have key : ∀ c d b, exLook L c d = some b → PySem.W.exmOne K (exV K c) (exV K d) = some b ∧ PySem.W.kitOne K (exV K c) (exV K d) = some b ∧ ∃ x, c = .own x ∧ exIs K x = true := by
    intro c d b e
    have h1 := List.all_eq_true.mp h _ (exLook_mem e)
    simp only [Bool.and_eq_true, decide_eq_true_eq] at h1
    refine ⟨h1.1, h1.2.1, ?_⟩
    cases c with
    | own x => exact ⟨x, rfl, h1.2.2⟩
    | bt n => exact absurd h1.2.2 (by simp)
  exact ⟨fun c d b e => (key c d b e).1, fun c d b e => (key c d b e).2⟩
end Aw

/-! AwL: lists and tuples of ranges. -/
namespace Aw
open PySem L2 LamX
theorem rgV_at {K : PySem.W.Frag} {F : Hp} {l : List Addr} (a b : Int) : AtL K F l (rangeD a (b - a).toNat) (rgV a b) := by
  have e1 : rangeD a (b - a).toNat = ((List.range (b - a).toNat).map fun i => a + (i : Nat)).map D.int := by rw [List.map_map]; rfl
  have e2 : rgV a b = ((List.range (b - a).toNat).map fun i => a + (i : Nat)).map V.int := by rw [List.map_map]; rfl
  rw [e1, e2]
  exact AtL.ints _
def rgOkB (a b : Int) : Bool := inR a && (inR b && decide ((b - a).toNat ≤ 100000))
theorem rgOk_of {a b : Int} (h : rgOkB a b = true) : RgOk a b ∧ (b - a).toNat ≤ sizeLine := by
  unfold rgOkB at h
  simp only [Bool.and_eq_true, decide_eq_true_eq] at h
  obtain ⟨h1, h2, h3⟩ := h
  obtain ⟨a1, a2⟩ := inR_iff h1
  obtain ⟨b1, b2⟩ := inR_iff h2
  exact ⟨⟨a1, a2, b1, b2, Nat.le_trans h3 (by decide)⟩, sz_of h3⟩
/-- the two ends -/
def ends1 (f : Sem D) : Sem (Int × Int) := bindO f fun d => match d with
  | .int j => retO (0, j)
  | _ => fun _ _ => .stuck
def ends2 (f g : Sem D) : Sem (Int × Int) := bindO f fun d => bindO g fun e => match d, e with
  | .int i, .int j => retO (i, j)
  | _, _ => fun _ _ => .stuck
def rgLst (f : Sem (Int × Int)) : Sem D := bindO f fun p => fun _ S => if rgOkB p.1 p.2 then .ok (.lst (rangeD p.1 (p.2 - p.1).toNat)) S else .stuck
def rgLstC (f : Sem (Int × Int)) : Sem D := bindO f fun p => fun _ S => if rgOkB p.1 p.2 then .ok (.loc S.length) (S ++ [.lst (rangeD p.1 (p.2 - p.1).toNat)]) else .stuck
def rgTup (f : Sem (Int × Int)) : Sem D := bindO f fun p => fun _ S => if rgOkB p.1 p.2 then .ok (.tup (rangeD p.1 (p.2 - p.1).toNat)) S else .stuck
theorem rangeD_len (a : Int) (n : Nat) : (rangeD a n).length = n := by simp [rangeD]
section
variable {X : Cx} {T : List (Addr × Str)} {W : WX} {k : Nat} {pos p p2 p3 : Pos} {e e2 : Expr}
def rP : Rl (Int × Int) (Int × Int) := fun _ _ a b => b = a
/-- a range as an argument -/
def PDR (X : Cx) (T : List (Addr × Str)) (W : WX) (e : Expr) (f : Sem (Int × Int)) : Prop := PRg X e fun σ H Q => wp X.K T W rP f σ H fun q H1 => Q q.1 q.2 H1
theorem PRg.imp {t t' : St → Hp → (Int → Int → Hp → Prop) → Prop} (h : PRg X e t) (k : ∀ σ H Q, t' σ H Q → t σ H Q) : PRg X e t' := fun pins s σ H Q I q => h pins s σ H Q I (k σ H Q q)
theorem pdr_1 {f : Sem D} (hg : Gl X "range") (hm : X.mg "range" = none) (h : PD X T W e f) (na : starEach [e] X.env = (false, eval e X.env) :: starEach [] X.env := by rfl) : PDR X T W (.Call (.Name "range" p) [e] [] pos) (ends1 f) :=
  PRg.imp (prg_1 hg hm h na) fun σ H Q q => by
  obtain ⟨F, G, l, r, S, hr, hs, hp⟩ := q
  refine wp_step (rl' := rP) hr hs hp fun F1 l1 S1 a x H1 lt hs1 ha hp1 => ?_
  cases a with
  | int j => cases ha; exact ⟨j, rfl, hp1 F1 l1 H1 _ (Later.refl lt.rel) rfl⟩
  | _ => exact hp1.elim
theorem pdr_2 {f g : Sem D} (hg : Gl X "range") (hm : X.mg "range" = none) (h : PD X T W e f) (h2 : PD X T W e2 g) (na : starEach [e, e2] X.env = (false, eval e X.env) :: starEach [e2] X.env := by rfl) (nb : starEach [e2] X.env = (false, eval e2 X.env) :: starEach [] X.env := by rfl)
    (hp : (backTo pos (starEach [e2] X.env)).any (·.1) = false := by rfl) : PDR X T W (.Call (.Name "range" p) [e, e2] [] pos) (ends2 f g) :=
  PRg.imp (prg_2 hg hm h h2 na nb hp) fun σ H Q q => by
  obtain ⟨F, G, l, r, S, hr, hs, hp⟩ := q
  refine wp_step (rl' := rP) hr hs hp fun F1 l1 S1 a x H1 lt hs1 ha hp1 => ?_
  refine wp_step (rl' := rP) lt.rel hs1 hp1 fun F2 l2 S2 b y H2 lt2 hs2 hb hp2 => ?_
  cases a with
  | int i =>
    cases b with
    | int j => cases ha; cases hb; exact ⟨i, j, rfl, rfl, hp2 F2 l2 H2 _ (Later.refl lt2.rel) rfl⟩
    | _ => exact hp2.elim
  | _ => cases b <;> exact hp2.elim
theorem pd_rgLst {f : Sem (Int × Int)} (hc : Ctx X W k) (hg : Gl X "list") (hm : X.mg "list" = none) (h : PDR X T W e f) (na : starEach [e] X.env = (false, eval e X.env) :: starEach [] X.env := by rfl) : PD X T W (.Call (.Name "list" p) [e] [] pos) (rgLst f) :=
  PE.imp (pe_listRg hc.calm hg hm h na) fun σ H Q q => by
  obtain ⟨F, G, l, r, S, hr, hs, hp⟩ := q
  refine wp_step (rl := rP) hr hs hp fun F1 l1 S1 a x H1 lt hs1 ha hp1 => ?_
  have ha : x = a := ha
  subst ha
  by_cases hb : rgOkB x.1 x.2 = true
  · rw [if_pos hb] at hp1
    obtain ⟨h1, h2⟩ := rgOk_of hb
    exact ⟨h1, fun q hq => newList_frozen lt.rel (rgV_at x.1 x.2) (by rw [rangeD_len]; exact h2) hp1 hq⟩
  · rw [if_neg hb] at hp1; exact hp1.elim
theorem pd_rgLstC {f : Sem (Int × Int)} (hc : Ctx X W k) (hg : Gl X "list") (hm : X.mg "list" = none) (h : PDR X T W e f) (na : starEach [e] X.env = (false, eval e X.env) :: starEach [] X.env := by rfl) : PD X T W (.Call (.Name "list" p) [e] [] pos) (rgLstC f) :=
  PE.imp (pe_listRg hc.calm hg hm h na) fun σ H Q q => by
  obtain ⟨F, G, l, r, S, hr, hs, hp⟩ := q
  refine wp_step (rl := rP) hr hs hp fun F1 l1 S1 a x H1 lt hs1 ha hp1 => ?_
  have ha : x = a := ha
  subst ha
  by_cases hb : rgOkB x.1 x.2 = true
  · rw [if_pos hb] at hp1
    obtain ⟨h1, h2⟩ := rgOk_of hb
    exact ⟨h1, fun q hq => newList_cell lt.rel (rgV_at x.1 x.2) (by rw [rangeD_len]; exact h2) hp1 hq⟩
  · rw [if_neg hb] at hp1; exact hp1.elim
theorem pd_rgTup {f : Sem (Int × Int)} (hc : Ctx X W k) (hg : Gl X "tuple") (hm : X.mg "tuple" = none) (h : PDR X T W e f) (na : starEach [e] X.env = (false, eval e X.env) :: starEach [] X.env := by rfl) : PD X T W (.Call (.Name "tuple" p) [e] [] pos) (rgTup f) :=
  PE.imp (pe_tupRg hc.calm hg hm h na) fun σ H Q q => by
  obtain ⟨F, G, l, r, S, hr, hs, hp⟩ := q
  refine wp_step (rl := rP) hr hs hp fun F1 l1 S1 a x H1 lt hs1 ha hp1 => ?_
  have ha : x = a := ha
  subst ha
  by_cases hb : rgOkB x.1 x.2 = true
  · rw [if_pos hb] at hp1
    obtain ⟨h1, h2⟩ := rgOk_of hb
    refine ⟨h1, fun q hq => ?_⟩
    have le : Le F1 (upd F1 q (.tup (rgV x.1 x.2))) := Le.new (lt.rel.fnone hq)
    exact hp1 _ l1 _ _ (later_new (o := .tup (rgV x.1 x.2)) lt.rel hq) ⟨q, _, rfl, upd_same, by rw [rangeD_len]; exact h2, rgV_at x.1 x.2⟩
  · rw [if_neg hb] at hp1; exact hp1.elim
end
end Aw

/-! Aw12: how the readings are reckoned out (no program in sight). -/
namespace Aw
open PySem L2 LamX

def Out.bnd {α β : Type} (o : Out α) (k : α → Store → Out β) : Out β := match o with
  | .ok a S => k a S
  | .err c S => .err c S
  | .stuck => .stuck
def Out.thn {α : Type} (o : Out α) (r : Env) (k : α → Store → R) : R := match o with
  | .ok a S => k a S
  | .err c S => .err c r S
  | .stuck => .stuck
def R.sq (o : R) (k : Env → Store → R) : R := match o with
  | .nx r S => k r S
  | o => o
section
variable {α β : Type} {r : Env} {S : Store}
theorem bnd_ok (a : α) (S : Store) (k : α → Store → Out β) : (Out.ok a S).bnd k = k a S := Eq.trans rfl rfl
theorem bnd_err (c : Ex) (S : Store) (k : α → Store → Out β) : (Out.err c S : Out α).bnd k = .err c S := Eq.trans rfl rfl
theorem thn_ok (a : α) (S : Store) (r : Env) (k : α → Store → R) : (Out.ok a S).thn r k = k a S := Eq.trans rfl rfl
theorem thn_err (c : Ex) (S : Store) (r : Env) (k : α → Store → R) : (Out.err c S : Out α).thn r k = .err c r S := Eq.trans rfl rfl
theorem sq_nx (r : Env) (S : Store) (k : Env → Store → R) : (R.nx r S).sq k = k r S := Eq.trans rfl rfl
theorem sq_ret (d : D) (S : Store) (k : Env → Store → R) : (R.ret d S).sq k = .ret d S := Eq.trans rfl rfl
theorem sq_brk (r : Env) (S : Store) (k : Env → Store → R) : (R.brk r S).sq k = .brk r S := Eq.trans rfl rfl
theorem sq_ct (r : Env) (S : Store) (k : Env → Store → R) : (R.ct r S).sq k = .ct r S := Eq.trans rfl rfl
theorem sq_err (c : Ex) (r : Env) (S : Store) (k : Env → Store → R) : (R.err c r S).sq k = .err c r S := Eq.trans rfl rfl
theorem x_bind (f : Sem α) (g : α → Sem β) : bindO f g r S = (f r S).bnd fun a S' => g a r S' := by
  unfold bindO Out.bnd; cases f r S <;> rfl
theorem x_then (f : Sem α) (g : α → SemS) : thenS f g r S = (f r S).thn r fun a S' => g a r S' := by
  unfold thenS Out.thn; cases f r S <;> rfl
theorem x_seq (f g : SemS) : seqS f g r S = (f r S).sq g := by
  unfold seqS R.sq; cases f r S <;> rfl
theorem x_ret (a : α) : retO a r S = .ok a S := Eq.trans rfl rfl
theorem x_op2 (g : G2) (fa fb : Sem D) : op2 g fa fb r S = (fa r S).bnd fun a S1 => (fb r S1).bnd fun b S2 => stepO (g S2 a b) := by
  unfold op2; rw [x_bind]; congr 1
theorem x_op1 (g : Store → D → Option D) (f : Sem D) : op1 g f r S = (f r S).bnd fun a S1 => stepO ((g S1 a).map fun d => (d, S1)) := by
  unfold op1; rw [x_bind]; congr 1; funext a S1; cases g S1 a <;> rfl
theorem x_step (d : D) (S : Store) : stepO (some (d, S)) = .ok d S := Eq.trans rfl rfl
theorem x_nilA : nilA r S = .ok [] S := Eq.trans rfl rfl
theorem x_consA (f : Sem D) (g : Sem (List D)) : consA f g r S = (f r S).bnd fun a S1 => (g r S1).bnd fun as S2 => .ok (a :: as) S2 := by
  unfold consA; rw [x_bind]; congr 1
theorem x_callB (g : GC) (f : Sem (List D)) : callB g f r S = (f r S).bnd fun as S1 => stepO (g S1 as) := by
  unfold callB; rw [x_bind]
theorem x_testE (f : Sem D) : testE f r S = (f r S).bnd fun d S1 => toB d r S1 := by unfold testE; rw [x_bind]
theorem x_toB (b : Bool) : toB (.bl b) r S = .ok b S := Eq.trans rfl rfl
theorem x_var {i : Nat} {d : D} (h : r[i]? = some (some d)) : vE i r S = .ok (norm S d) S := by unfold vE; rw [h]
theorem x_v0 (d : D) : vE 0 (some d :: r) S = .ok (norm S d) S := Eq.trans rfl rfl
theorem x_vs (i : Nat) (x : Option D) : vE (i + 1) (x :: r) S = vE i r S := Eq.trans rfl rfl
theorem n_int (i : Int) : norm S (.int i) = .int i := Eq.trans rfl rfl
theorem n_bl (i : Bool) : norm S (.bl i) = .bl i := Eq.trans rfl rfl
theorem n_str (i : PySem.Str) : norm S (.str i) = .str i := Eq.trans rfl rfl
theorem n_non : norm S .non = .non := Eq.trans rfl rfl
theorem n_lst (i : List D) : norm S (.lst i) = .lst i := Eq.trans rfl rfl
theorem n_tup (i : List D) : norm S (.tup i) = .tup i := Eq.trans rfl rfl
theorem n_scr (i : List Int) : norm S (.scr i) = .scr i := Eq.trans rfl rfl
theorem x_if (c : Sem Bool) (f g : SemS) : ifS c f g r S = (c r S).thn r fun b S1 => if b = true then f r S1 else g r S1 := by
  unfold ifS; rw [x_then]; congr 1; funext b S1; cases b <;> rfl
theorem x_retS (f : Sem D) : retS f r S = (f r S).thn r fun d S1 => .ret d S1 := by unfold retS; rw [x_then]
theorem x_dropS (f : Sem D) : dropS f r S = (f r S).thn r fun _ S1 => .nx r S1 := by unfold dropS; rw [x_then]
theorem x_setS (f : Sem D) (i : Nat) : setS f (.one i) r S = (f r S).thn r fun d S1 => .nx (r.set i (some d)) S1 := by unfold setS; rw [x_then]; rfl
theorem x_setM (f : Sem D) (is : List Nat) : setS f (.many is) r S = (f r S).thn r fun d S1 => match (Tgt.many is).set d r with
  | some r' => .nx r' S1
  | none => .stuck := by
  unfold setS; rw [x_then]
  all_goals (
    cases f r S with
    | ok a S' => simp only [thn_ok]; cases (Tgt.many is).set a r <;> rfl
    | err c S' => rfl
    | stuck => rfl)
theorem x_skip : skipS r S = .nx r S := Eq.trans rfl rfl
theorem x_andT (f g : Sem Bool) : andT f g r S = (f r S).bnd fun b S1 => if b = true then g r S1 else .ok false S1 := by
  unfold andT; rw [x_bind]; congr 1; funext b S1; cases b <;> rfl
theorem x_orT (f g : Sem Bool) : orT f g r S = (f r S).bnd fun b S1 => if b = true then .ok true S1 else g r S1 := by
  unfold orT; rw [x_bind]; congr 1; funext b S1; cases b <;> rfl
theorem x_notT (f : Sem Bool) : notT f r S = (f r S).bnd fun b S1 => .ok (!b) S1 := by unfold notT; rw [x_bind]; rfl
theorem x_ifE {α : Type} (c : Sem Bool) (f g : Sem α) : ifE c f g r S = (c r S).bnd fun b S1 => if b = true then f r S1 else g r S1 := by
  unfold ifE; rw [x_bind]; congr 1; funext b S1; cases b <;> rfl
def Out.bnB (o : Out D) (k : Bool → Store → Out D) : Out D := o.bnd fun d S => match d with
  | .bl b => k b S
  | _ => .stuck
theorem bnB_ok (b : Bool) (S : Store) (k : Bool → Store → Out D) : (Out.ok (.bl b) S).bnB k = k b S := Eq.trans rfl rfl
theorem x_andE (f g : Sem D) : andE f g r S = (f r S).bnB fun b S1 => if b = true then g r S1 else .ok (.bl false) S1 := by
  unfold andE Out.bnB; rw [x_bind]; congr 1; funext d S1; cases d with
  | bl b => cases b <;> rfl
  | _ => rfl
theorem x_orE (f g : Sem D) : orE f g r S = (f r S).bnB fun b S1 => if b = true then .ok (.bl true) S1 else g r S1 := by
  unfold orE Out.bnB; rw [x_bind]; congr 1; funext d S1; cases d with
  | bl b => cases b <;> rfl
  | _ => rfl
theorem x_notE (f : Sem D) : notE f r S = (f r S).bnB fun b S1 => .ok (.bl (!b)) S1 := by
  unfold notE Out.bnB; rw [x_bind]; congr 1; funext d S1; cases d <;> rfl
theorem x_chain (g g' : G2) (fa fb fc : Sem D) : chainE g g' fa fb fc r S = (fa r S).bnd fun a S1 => (fb r S1).bnd fun b S2 => (stepO (g S2 a b)).bnB fun z S3 => if z = true then (fc r S3).bnd fun c S4 => stepO (g' S4 b c) else .ok (.bl false) S3 := by
  unfold chainE; rw [x_bind]; congr 1; funext a S1; rw [x_bind]; congr 1; funext b S2; rw [x_bind]; unfold Out.bnB; congr 1; funext d S3
  cases d with
  | bl z => cases z with
    | true => show bindO fc _ r S3 = _; rw [x_bind]; rfl
    | false => rfl
  | _ => rfl
theorem x_tupE (f : Sem (List D)) : tupE f r S = (f r S).bnd fun ds S1 => if ds.length ≤ 100000 then .ok (.tup ds) S1 else .stuck := by
  unfold tupE; rw [x_bind]; congr 1; funext ds S1; split <;> rfl
theorem x_lstE (f : Sem (List D)) : lstE f r S = (f r S).bnd fun ds S1 => if ds.length ≤ 100000 then .ok (.lst ds) S1 else .stuck := by
  unfold lstE; rw [x_bind]; congr 1; funext ds S1; split <;> rfl
theorem x_lstC (f : Sem (List D)) : lstC f r S = (f r S).bnd fun ds S1 => if ds.length ≤ 100000 then .ok (.loc S1.length) (S1 ++ [.lst ds]) else .stuck := by
  unfold lstC; rw [x_bind]; rfl
theorem x_methL (g : GM) (fo : Sem D) (fa : Sem (List D)) : methL g fo fa r S = (fo r S).bnd fun o S1 => if (lstOf S1 o).isSome then (fa r S1).bnd fun as S2 => stepO (g S2 o as) else .stuck := by
  unfold methL; rw [x_bind]; congr 1
theorem x_for (it : Sem (List D)) (t : Tgt) (b : SemS) : forS it t b r S = (it r S).thn r fun ds S1 => loopS t b ds r S1 := by unfold forS; rw [x_then]
theorem x_itSeq (f : Sem D) : itSeq f r S = (f r S).bnd fun d S1 => asSeq S1 d r S1 := by unfold itSeq; rw [x_bind]
theorem x_asSeq (ds : List D) : asSeq S (.lst ds) r S = .ok ds S := Eq.trans rfl rfl
theorem x_asSeqT (ds : List D) : asSeq S (.tup ds) r S = .ok ds S := Eq.trans rfl rfl
theorem x_asSeqS (ns : List Int) : asSeq S (.scr ns) r S = .ok (ns.map D.int) S := Eq.trans rfl rfl
theorem x_range1 (f : Sem (List D)) : itRange1 f r S = (f r S).bnd fun as S1 => rangeI1 as r S1 := by unfold itRange1; rw [x_bind]
theorem x_range2 (f : Sem (List D)) : itRange2 f r S = (f r S).bnd fun as S1 => rangeI2 as r S1 := by unfold itRange2; rw [x_bind]
/-- the numbers below n -/
def upto (n : Nat) : List D := (List.range n).map fun i => D.int (i : Nat)
theorem rangeD0 (n : Nat) : rangeD 0 n = upto n := by
  unfold rangeD upto; congr 1; funext i; rw [Int.zero_add]
theorem x_rangeI1 {n : Nat} (h : n < 2 ^ 62) : rangeI1 [.int (n : Nat)] r S = .ok (upto n) S := by
  have h' : inR (n : Nat) = true := by
    unfold inR
    simp only [Bool.and_eq_true, decide_eq_true_eq]; omega
  simp only [rangeI1, h', if_true, retO, Int.toNat_natCast, rangeD0]
theorem x_rangeI2 {i n : Nat} (hi : i < 2 ^ 62) (h : n < 2 ^ 62) : rangeI2 [.int (i : Nat), .int (n : Nat)] r S = .ok ((List.range (n - i)).map fun j => D.int ((i + j : Nat) : Int)) S := by
  have h' : inR (n : Nat) = true := by
    unfold inR
    simp only [Bool.and_eq_true, decide_eq_true_eq]; omega
  have h2 : inR (i : Nat) = true := by
    unfold inR
    simp only [Bool.and_eq_true, decide_eq_true_eq]; omega
  have e : (((n : Nat) : Int) - (i : Nat)).toNat = n - i := by omega
  simp only [rangeI2, h', h2, Bool.and_self, if_true, retO, e, rangeD]
  congr 1
theorem x_enum (f : Sem (List D)) : itEnum f r S = (f r S).bnd fun as S1 => (asLst as r S1).bnd fun ds S2 => .ok (enumFrom 0 ds) S2 := by
  unfold itEnum; rw [x_bind]; congr 1
theorem x_asLst (ds : List D) : asLst [.lst ds] r S = .ok ds S := Eq.trans rfl rfl
theorem x_lcE (it : Sem (List D)) (t : Tgt) (vs : List Nat) (c : Sem Bool) (e : Sem D) : lcE it t vs c e r S = (it r S).bnd fun ds S1 => if ds.length ≤ 100000 then (loopC t c e (wipeD r vs) ds S1).bnd fun xs S2 => .ok (.lst xs) S2 else .stuck := by
  unfold lcE compE; rw [x_bind, x_bind]
  cases it r S with
  | ok ds S1 =>
    simp only [bnd_ok]
    split
    · rfl
    · rfl
  | err c S1 => rfl
  | stuck => rfl
theorem x_lcC (it : Sem (List D)) (t : Tgt) (vs : List Nat) (c : Sem Bool) (e : Sem D) : lcC it t vs c e r S = (it r S).bnd fun ds S1 => if ds.length ≤ 100000 then (loopC t c e (wipeD r vs) ds S1).bnd fun xs S2 => .ok (.loc S2.length) (S2 ++ [.lst xs]) else .stuck := by
  unfold lcC compE; rw [x_bind, x_bind]
  cases it r S with
  | ok ds S1 =>
    simp only [bnd_ok]
    split
    · rfl
    · rfl
  | err c S1 => rfl
  | stuck => rfl
theorem x_ghost (g : Env → Store → Option (Env × Store)) (f : SemS) {r' : Env} {S' : Store} (h : g r S = some (r', S')) : ghostS g f r S = f r' S' := by unfold ghostS; rw [h]
theorem x_asg (f : Sem D) (g : GSet) (fo fi : Sem D) : asgS f (subT g fo fi) r S = (f r S).thn r fun d S1 => (fo r S1).thn r fun o S2 => (fi r S2).thn r fun i S3 => match g S3 o i d with
  | some S' => .nx r S'
  | none => .stuck := by
  unfold asgS; rw [x_then]
  cases f r S with
  | ok d S1 =>
    simp only [thn_ok]; unfold subT; rw [x_then]
    cases fo r S1 with
    | ok o S2 =>
      simp only [thn_ok]; rw [x_then]
      all_goals (
        cases fi r S2 with
        | ok i S3 => simp only [thn_ok]; cases g S3 o i d <;> rfl
        | err c S' => rfl
        | stuck => rfl)
    | err c S' => rfl
    | stuck => rfl
  | err c S' => rfl
  | stuck => rfl
theorem x_isi (t : Ty) (f : Sem D) : isiE t f r S = (f r S).bnd fun d S1 => match tyD S1 d with
  | some a => .ok (.bl (isiB a t)) S1
  | none => .stuck := by
  unfold isiE; rw [x_bind]
  all_goals (
    cases f r S with
    | ok d S1 => simp only [bnd_ok]; cases tyD S1 d <;> rfl
    | err c S' => rfl
    | stuck => rfl)
theorem x_slice (g : Store → D → Option Int → Option Int → Option (D × Store)) (f : Sem D) (lo hi : Sem (Option Int)) : sliceE g f lo hi r S = (f r S).bnd fun a S1 => (lo r S1).bnd fun i S2 => (hi r S2).bnd fun j S3 => stepO (g S3 a i j) := by
  unfold sliceE; rw [x_bind]; congr 1
theorem x_part {f : Sem D} {i : Int} {S1 : Store} (h : f r S = .ok (.int i) S1) : partO f r S = .ok (some i) S1 := by unfold partO; rw [x_bind, h]; rfl
theorem x_noPart : noPartO r S = .ok none S := Eq.trans rfl rfl
theorem x_rev (f : Sem D) : revE f r S = (f r S).bnd fun a S1 => match lstOf S1 a with
  | some ds => .ok (.lst ds.reverse) S1
  | none => .stuck := by
  unfold revE; rw [x_bind]
  all_goals (
    cases f r S with
    | ok d S1 => simp only [bnd_ok]; cases lstOf S1 d <;> rfl
    | err c S' => rfl
    | stuck => rfl)
theorem x_call {n : Nat} {f : FSem} {fa : Sem (List D)} {ds ds1 : List D} {S1 : Store} (h : fa r S = .ok ds S1) (h1 : resF S1 ds = some ds1) (h2 : ds1.length = n) : callF n f fa r S = liftP (f ds1) S1 := by
  unfold callF; rw [x_bind, h]; simp only [bnd_ok, h1, h2, if_true]
theorem x_callB' {n : Nat} {f : FSem} {fa : Sem (List D)} {ds ds1 : List D} {S1 : Store} (h : fa r S = .ok ds S1) (h1 : resF S1 ds = none) (h0 : resL (resLoc S1 4) ds = some ds1) (h2 : ds1.length = n) : callF n f fa r S = liftB (f ds1) S1 := by
  unfold callF; rw [x_bind, h]; simp only [bnd_ok, h1, h0, h2, if_true]
theorem x_callR {n : Nat} {f : RSem} {fa : Sem (List D)} {ds ds1 : List D} {S1 : Store} (h : fa r S = .ok ds S1) (h1 : resF S1 ds = some ds1) (h2 : ds1.length = n) : callFR n f fa r S = liftR (f ds1) S1 := by
  unfold callFR; rw [x_bind, h]; simp only [bnd_ok, h1, h2, if_true]

/-! ### data without cells -/
mutual
/-- no cell's name within -/
def pureD : D → Bool
  | .loc _ => false
  | .tup ds => pureL ds
  | .lst ds => pureL ds
  | .dct _ ws => pureL ws
  | _ => true
def pureL : List D → Bool
  | [] => true
  | d :: ds => pureD d && pureL ds
end
mutual
theorem resD_pure (f : Nat → Option D) : ∀ d : D, pureD d = true → resD f d = some d
  | .non, _ => rfl
  | .bl _, _ => rfl
  | .int _, _ => rfl
  | .str _, _ => rfl
  | .fn _, _ => rfl
  | .scr _, _ => rfl
  | .loc _, h => by cases h
  | .tup ds, h => by simp only [resD, resL_pure f ds h, Option.map_some]
  | .lst ds, h => by simp only [resD, resL_pure f ds h, Option.map_some]
  | .dct ks ws, h => by simp only [resD, resL_pure f ws h, Option.map_some]
theorem resL_pure (f : Nat → Option D) : ∀ ds : List D, pureL ds = true → resL f ds = some ds
  | [], _ => rfl
  | d :: ds, h => by
    simp only [pureL, Bool.and_eq_true] at h
    simp only [resL, resD_pure f d h.1, resL_pure f ds h.2]
end
mutual
theorem shD_pure (n : Nat) : ∀ d : D, pureD d = true → shD n d = d
  | .non, _ => rfl
  | .bl _, _ => rfl
  | .int _, _ => rfl
  | .str _, _ => rfl
  | .fn _, _ => rfl
  | .scr _, _ => rfl
  | .loc _, h => by cases h
  | .tup ds, h => by simp only [shD, shL_pure n ds h]
  | .lst ds, h => by simp only [shD, shL_pure n ds h]
  | .dct ks ws, h => by simp only [shD, shL_pure n ws h]
theorem shL_pure (n : Nat) : ∀ ds : List D, pureL ds = true → shL n ds = ds
  | [], _ => rfl
  | d :: ds, h => by
    simp only [pureL, Bool.and_eq_true] at h
    simp only [shL, shD_pure n d h.1, shL_pure n ds h.2]
end
theorem pureL_map {α : Type} (f : α → D) (h : ∀ x, pureD (f x) = true) : ∀ xs : List α, pureL (xs.map f) = true
  | [] => rfl
  | x :: xs => by simp only [List.map_cons, pureL, h x, pureL_map f h xs, Bool.and_self]
theorem pureL_of : ∀ (ds : List D), (∀ d ∈ ds, pureD d = true) → pureL ds = true
  | [], _ => rfl
  | d :: ds, h => by
    simp only [pureL, Bool.and_eq_true]
    exact ⟨h d List.mem_cons_self, pureL_of ds fun e he => h e (List.mem_cons_of_mem _ he)⟩
theorem norm_pure (S : Store) : ∀ d : D, pureD d = true → norm S d = d
  | .non, _ => rfl
  | .bl _, _ => rfl
  | .int _, _ => rfl
  | .str _, _ => rfl
  | .fn _, _ => rfl
  | .scr _, _ => rfl
  | .loc _, h => by cases h
  | .tup ds, h => rfl
  | .lst ds, h => rfl
  | .dct ks ws, h => rfl
theorem resF_pure (S : Store) (ds : List D) (h : pureL ds = true) : resF S ds = some ds := resL_pure _ ds h
theorem resA_pure (S : Store) (d : D) (h : pureD d = true) : resA S d = some d := resD_pure _ d h

/-! ### items -/
theorem ixN_nat {n k : Nat} (h : k < n) : ixN n (k : Nat) = some k := by
  unfold ixN; simp [h]
theorem atI_nat {α : Type} {xs : List α} {k : Nat} {x : α} (h : xs[k]? = some x) : atI xs (k : Nat) = some x := by
  have hk := (List.getElem?_eq_some_iff.mp h).1
  unfold atI; rw [ixN_nat hk]; exact h
theorem ix_lst {S : Store} {ds : List D} {k : Nat} {d : D} (h : ds[k]? = some d) : ixG S (.lst ds) (.int (k : Nat)) = some (norm S d, S) := by
  unfold ixG; simp only [seqOf, lstOf, atI_nat h]
theorem ix_tup {S : Store} {ds : List D} {k : Nat} {d : D} (h : ds[k]? = some d) : ixG S (.tup ds) (.int (k : Nat)) = some (norm S d, S) := by
  unfold ixG; simp only [seqOf, atI_nat h]
theorem ix_scr {S : Store} {ns : List Int} {k : Nat} {n : Int} (h : ns[k]? = some n) : ixG S (.scr ns) (.int (k : Nat)) = some (.int n, S) := by
  unfold ixG; simp only [seqOf, lstOf, atI_nat h]
theorem ix_loc {S : Store} {n : Nat} {ds : List D} {k : Nat} {d : D} (hn : S[n]? = some (.lst ds)) (h : ds[k]? = some d) : ixG S (.loc n) (.int (k : Nat)) = some (norm S d, S) := by
  unfold ixG; simp only [seqOf, lstOf, hn, atI_nat h]
theorem len_lst {S : Store} {ds : List D} : lenG S [.lst ds] = some (.int (ds.length : Nat), S) := Eq.trans rfl rfl
theorem len_tup {S : Store} {ds : List D} : lenG S [.tup ds] = some (.int (ds.length : Nat), S) := Eq.trans rfl rfl
theorem len_scr {S : Store} {ds : List Int} : lenG S [.scr ds] = some (.int (ds.length : Nat), S) := Eq.trans rfl rfl
theorem len_loc {S : Store} {n : Nat} {ds : List D} (hn : S[n]? = some (.lst ds)) : lenG S [.loc n] = some (.int (ds.length : Nat), S) := by
  unfold lenG lenOf; simp only [seqOf, lstOf, hn, Option.map_some]

/-! ### loops -/
theorem loop_inv {t : Tgt} {b : SemS} (I : Nat → Env → Store → Prop) : ∀ {ds : List D} {k : Nat} {r : Env} {S : Store}, I k r S →
    (∀ i d r S, ds[i]? = some d → I (k + i) r S → ∃ r1, t.set d r = some r1 ∧ ∃ r2 S2, (b r1 S = .nx r2 S2 ∨ b r1 S = .ct r2 S2) ∧ I (k + i + 1) r2 S2) →
    ∃ r' S', loopS t b ds r S = .nx r' S' ∧ I (k + ds.length) r' S'
  | [], k, r, S, h, _ => ⟨r, S, rfl, h⟩
  | d :: ds, k, r, S, h, hs => by
    obtain ⟨r1, h1, r2, S2, h2, h3⟩ := hs 0 d r S rfl h
    obtain ⟨r', S', h4, h5⟩ := loop_inv I (t := t) (b := b) (ds := ds) (k := k + 1) h3 fun i e r S he hi => by
      have := hs (i + 1) e r S (by simpa using he) (by rw [show k + (i + 1) = k + 1 + i by omega]; exact hi)
      rw [show k + (i + 1) = k + 1 + i by omega] at this
      exact this
    refine ⟨r', S', ?_, by rw [List.length_cons, show k + (ds.length + 1) = k + 1 + ds.length by omega]; exact h5⟩
    unfold loopS
    rw [h1]
    rcases h2 with h2 | h2 <;> simp only [h2] <;> exact h4
theorem loop_inv0 {t : Tgt} {b : SemS} (I : Nat → Env → Store → Prop) {ds : List D} {r : Env} {S : Store} (h0 : I 0 r S)
    (hs : ∀ i d r S, ds[i]? = some d → I i r S → ∃ r1, t.set d r = some r1 ∧ ∃ r2 S2, (b r1 S = .nx r2 S2 ∨ b r1 S = .ct r2 S2) ∧ I (i + 1) r2 S2) :
    ∃ r' S', loopS t b ds r S = .nx r' S' ∧ I ds.length r' S' := by
  obtain ⟨r', S', h1, h2⟩ := loop_inv I (k := 0) (ds := ds) (t := t) (b := b) h0 fun i d r S hd hi => by
    rw [Nat.zero_add] at hi ⊢
    exact hs i d r S hd hi
  exact ⟨r', S', h1, by rw [Nat.zero_add] at h2; exact h2⟩
/-- a loop that may be left by return at a place: the first one -/
theorem loop_find {t : Tgt} {b : SemS} (I : Nat → Env → Store → Prop) (p : Nat → Bool) (Z : Nat → R → Prop) : ∀ {ds : List D} {k : Nat} {r : Env} {S : Store}, I k r S →
    (∀ i d r S, ds[i]? = some d → I (k + i) r S → ∃ r1, t.set d r = some r1 ∧ if p (k + i) = true then (∃ d' S', b r1 S = .ret d' S') ∧ Z (k + i) (b r1 S) else ∃ r2 S2, (b r1 S = .nx r2 S2 ∨ b r1 S = .ct r2 S2) ∧ I (k + i + 1) r2 S2) →
    (∃ r' S', loopS t b ds r S = .nx r' S' ∧ I (k + ds.length) r' S' ∧ ∀ i, i < ds.length → p (k + i) = false) ∨ (∃ i, i < ds.length ∧ p (k + i) = true ∧ (∀ j, j < i → p (k + j) = false) ∧ Z (k + i) (loopS t b ds r S))
  | [], k, r, S, h, _ => .inl ⟨r, S, rfl, h, fun i hi => by simp at hi⟩
  | d :: ds, k, r, S, h, hs => by
    obtain ⟨r1, h1, h2⟩ := hs 0 d r S rfl h
    by_cases hp : p (k + 0) = true
    · rw [if_pos hp] at h2
      obtain ⟨⟨d', S', h3⟩, h4⟩ := h2
      refine .inr ⟨0, by simp, hp, fun j hj => by omega, ?_⟩
      unfold loopS
      rw [h1]
      rw [h3] at h4
      simp only [h3]
      exact h4
    · rw [if_neg hp] at h2
      obtain ⟨r2, S2, h2, h3⟩ := h2
      have e : loopS t b (d :: ds) r S = loopS t b ds r2 S2 := by
        conv => lhs; unfold loopS
        rw [h1]
        rcases h2 with h2 | h2 <;> simp only [h2]
      rw [e]
      rcases loop_find I p Z (t := t) (b := b) (ds := ds) (k := k + 1) h3 fun i e r S he hi => by
        have := hs (i + 1) e r S (by simpa using he) (by rw [show k + (i + 1) = k + 1 + i by omega]; exact hi)
        rw [show k + (i + 1) = k + 1 + i by omega] at this
        exact this with ⟨r', S', h4, h5, h6⟩ | ⟨i, h4, h5, h6, h7⟩
      · refine .inl ⟨r', S', h4, by rw [List.length_cons, show k + (ds.length + 1) = k + 1 + ds.length by omega]; exact h5, fun i hi => ?_⟩
        cases i with
        | zero => simpa using hp
        | succ i =>
          have := h6 i (by simpa using hi)
          rw [show k + (i + 1) = k + 1 + i by omega]; exact this
      · refine .inr ⟨i + 1, by simpa using h4, by rw [show k + (i + 1) = k + 1 + i by omega]; exact h5, fun j hj => ?_, by rw [show k + (i + 1) = k + 1 + i by omega]; exact h7⟩
        cases j with
        | zero => simpa using hp
        | succ j =>
          rw [show k + (j + 1) = k + 1 + j by omega]
          exact h6 j (by omega)
/-- comprehensions whose parts change no cell -/
theorem loopC_map {α : Type} {t : Tgt} {c : Sem Bool} {e : Sem D} {r : Env} {S : Store} (enc g : α → D) (p : α → Bool) : ∀ {xs : List α}, (∀ x ∈ xs, ∃ r1, t.set (enc x) r = some r1 ∧ c r1 S = .ok (p x) S ∧ (p x = true → e r1 S = .ok (g x) S)) →
    loopC t c e r (xs.map enc) S = .ok ((xs.filter p).map g) S
  | [], _ => rfl
  | x :: xs, h => by
    obtain ⟨r1, h1, h2, h3⟩ := h x List.mem_cons_self
    have ih := loopC_map (t := t) (c := c) (e := e) (r := r) (S := S) enc g p (xs := xs) fun y hy => h y (List.mem_cons_of_mem _ hy)
    rw [List.map_cons]
    unfold loopC
    rw [h1]
    simp only [h2]
    cases q : p x with
    | false => simp only [ih, List.filter_cons, q]; rfl
    | true => simp only [h3 q, ih, List.filter_cons, q]; rfl
theorem loopC_all {α : Type} {t : Tgt} {e : Sem D} {r : Env} {S : Store} (enc g : α → D) {xs : List α} (h : ∀ x ∈ xs, ∃ r1, t.set (enc x) r = some r1 ∧ e r1 S = .ok (g x) S) :
    loopC t yesT e r (xs.map enc) S = .ok (xs.map g) S := by
  have := loopC_map (t := t) (c := yesT) (e := e) (r := r) (S := S) enc g (fun _ => true) (xs := xs) fun x hx => by
    obtain ⟨r1, h1, h2⟩ := h x hx
    exact ⟨r1, h1, rfl, fun _ => h2⟩
  rw [this, List.filter_eq_self.mpr (by simp)]
theorem lc_map {α : Type} {it : Sem (List D)} {t : Tgt} {ws : List Nat} {c : Sem Bool} {e : Sem D} {r : Env} {S S1 : Store} (enc g : α → D) (p : α → Bool) {xs : List α} (hi : it r S = .ok (xs.map enc) S1) (hl : xs.length ≤ 100000)
    (h : ∀ x ∈ xs, ∃ r1, t.set (enc x) (wipeD r ws) = some r1 ∧ c r1 S1 = .ok (p x) S1 ∧ (p x = true → e r1 S1 = .ok (g x) S1)) : lcE it t ws c e r S = .ok (.lst ((xs.filter p).map g)) S1 := by
  rw [x_lcE, hi, bnd_ok, if_pos (by simpa using hl), loopC_map enc g p h, bnd_ok]
theorem lc_all {α : Type} {it : Sem (List D)} {t : Tgt} {ws : List Nat} {e : Sem D} {r : Env} {S S1 : Store} (enc g : α → D) {xs : List α} (hi : it r S = .ok (xs.map enc) S1) (hl : xs.length ≤ 100000)
    (h : ∀ x ∈ xs, ∃ r1, t.set (enc x) (wipeD r ws) = some r1 ∧ e r1 S1 = .ok (g x) S1) : lcE it t ws yesT e r S = .ok (.lst (xs.map g)) S1 := by
  rw [x_lcE, hi, bnd_ok, if_pos (by simpa using hl), loopC_all enc g h, bnd_ok]
theorem lcC_all {α : Type} {it : Sem (List D)} {t : Tgt} {ws : List Nat} {e : Sem D} {r : Env} {S S1 : Store} (enc g : α → D) {xs : List α} (hi : it r S = .ok (xs.map enc) S1) (hl : xs.length ≤ 100000)
    (h : ∀ x ∈ xs, ∃ r1, t.set (enc x) (wipeD r ws) = some r1 ∧ e r1 S1 = .ok (g x) S1) : lcC it t ws yesT e r S = .ok (.loc S1.length) (S1 ++ [.lst (xs.map g)]) := by
  rw [x_lcC, hi, bnd_ok, if_pos (by simpa using hl), loopC_all enc g h, bnd_ok]
theorem out_ret {n : Nat} {b : SemS} {ds : List D} {d d1 : D} {S : Store} (h : b (startE n ds) [] = .ret d S) (h1 : resA S d = some d1) : fnOut n b ds = .ok d1 := by
  unfold fnOut; rw [h]; simp only [h1]
theorem out_pure {n : Nat} {b : SemS} {ds : List D} {d : D} {S : Store} (h : b (startE n ds) [] = .ret d S) (h1 : pureD d = true) : fnOut n b ds = .ok d := out_ret h (resA_pure S d h1)
theorem raw_ret {n : Nat} {b : SemS} {ds : List D} {d : D} {S : Store} (h : b (startE n ds) [] = .ret d S) : fnRaw n b ds = .ok d S := by
  unfold fnRaw; rw [h]
end
end Aw

/-! Aw13: Lean values as plain data. -/
namespace Aw
open PySem L2 LamX

class En (α : Type) [DecidableEq α] where
  e : α → D
  p : α → PyData
  dep : Nat
  py : ∀ (f : Nat → Option PyData) (a : α), pyD f (e a) = some (p a)
  pu : ∀ a : α, pureD (e a) = true
  lay : ∀ a : α, (p a).canLay0 = true
  dp : ∀ a : α, (p a).depth ≤ dep
  eqv : ∀ a b : α, PyData.eqv (p a) (p b) = decide (a = b)
theorem dec_beq {α : Type} [BEq α] [LawfulBEq α] [DecidableEq α] (a b : α) : (a == b) = decide (a = b) := by
  rw [Bool.eq_iff_iff, beq_iff_eq, decide_eq_true_eq]
instance : En Int where
  e := .int
  p := .int
  dep := 0
  py _ _ := rfl
  pu _ := rfl
  lay _ := rfl
  dp _ := Nat.le_refl _
  eqv a b := by simp only [PyData.eqv]; exact dec_beq a b
instance : En Nat where
  e n := .int (n : Nat)
  p n := .int (n : Nat)
  dep := 0
  py _ _ := rfl
  pu _ := rfl
  lay _ := rfl
  dp _ := Nat.le_refl _
  eqv a b := by simp only [PyData.eqv]; rw [dec_beq]; exact decide_eq_decide.mpr Int.ofNat_inj
instance : En Bool where
  e := .bl
  p := .bool
  dep := 0
  py _ _ := rfl
  pu _ := rfl
  lay _ := rfl
  dp _ := Nat.le_refl _
  eqv a b := by simp only [PyData.eqv]; exact dec_beq a b
section
variable {α β : Type} [DecidableEq α] [En α] [DecidableEq β] [En β]
theorem py_map (f : Nat → Option PyData) : ∀ xs : List α, pyL f (xs.map En.e) = some (xs.map En.p)
  | [] => rfl
  | x :: xs => by simp only [List.map_cons, pyL, En.py, py_map f xs]
theorem lay_map : ∀ xs : List α, PyData.canLayAll0 (xs.map En.p) = true
  | [] => rfl
  | x :: xs => by simp only [List.map_cons, PyData.canLayAll0, En.lay, lay_map xs, Bool.and_self]
theorem dep_map : ∀ xs : List α, PyData.depthAll (xs.map En.p) ≤ En.dep α
  | [] => Nat.zero_le _
  | x :: xs => by
    rw [List.map_cons, PyData.depthAll]
    exact Nat.max_le.mpr ⟨En.dp x, dep_map xs⟩
theorem eqvAll_en : ∀ xs ys : List α, PyData.eqvAll (xs.map En.p) (ys.map En.p) = decide (xs = ys)
  | [], [] => by simp only [List.map_nil, PyData.eqvAll, decide_true]
  | [], _ :: _ => by simp [PyData.eqvAll]
  | _ :: _, [] => by simp [PyData.eqvAll]
  | x :: xs, y :: ys => by
    rw [List.map_cons, List.map_cons, PyData.eqvAll, En.eqv x y, eqvAll_en xs ys, ← Bool.decide_and]
    exact decide_eq_decide.mpr (by rw [List.cons.injEq])
instance : En (List α) where
  e xs := .lst (xs.map En.e)
  p xs := .list (xs.map En.p)
  dep := En.dep α + 1
  py f xs := by simp only [pyD, py_map, Option.map_some]
  pu xs := pureL_map _ En.pu xs
  lay xs := by simp only [PyData.canLay0]; exact lay_map xs
  dp xs := by simp only [PyData.depth]; exact Nat.succ_le_succ (dep_map xs)
  eqv xs ys := by simp only [PyData.eqv]; exact eqvAll_en xs ys
instance : En (α × β) where
  e q := .tup [En.e q.1, En.e q.2]
  p q := .tuple [En.p q.1, En.p q.2]
  dep := max (En.dep α) (En.dep β) + 1
  py f q := by simp only [pyD, pyL, En.py, Option.map_some]
  pu q := by simp only [pureD, pureL, En.pu, Bool.and_self]
  lay q := by simp only [PyData.canLay0, PyData.canLayAll0, En.lay, Bool.and_self]
  dp q := by
    simp only [PyData.depth, PyData.depthAll]
    have h1 := En.dp q.1
    have h2 := En.dp q.2
    omega
  eqv a b := by
    simp only [PyData.eqv, PyData.eqvAll]
    rw [En.eqv, En.eqv, Bool.and_true, ← Bool.decide_and]
    exact decide_eq_decide.mpr ⟨fun e => Prod.ext e.1 e.2, fun e => by rw [e]; exact ⟨rfl, rfl⟩⟩
end
abbrev en {α : Type} [DecidableEq α] [En α] (a : α) : D := En.e a
/-- it is within what == reads -/
class Low (α : Type) [DecidableEq α] [En α] : Prop where
  le : En.dep α ≤ 30
instance : Low Int := ⟨by decide⟩
instance : Low Nat := ⟨by decide⟩
instance : Low Bool := ⟨by decide⟩
section
variable {α β : Type} [DecidableEq α] [En α] [DecidableEq β] [En β] {S : Store}
theorem en_py (a : α) : pyS S (En.e a) = some (En.p a) := En.py _ a
theorem en_norm (a : α) : norm S (En.e a) = En.e a := norm_pure S _ (En.pu a)
theorem en_shaped (hd : En.dep α ≤ 60) (a : α) : SeqAt.shaped (En.p a) = true := by
  unfold SeqAt.shaped
  rw [En.lay, Bool.true_and, decide_eq_true_eq]
  exact Nat.le_trans (En.dp a) (by omega)
theorem eqB_en (hd : En.dep α ≤ 60 := by decide) (a b : α) : eqB S (En.e a) (En.e b) = some (decide (a = b)) := by
  unfold eqB
  simp only [en_py, en_shaped hd, Bool.and_self, if_true, En.eqv]
theorem eqG_en (hd : En.dep α ≤ 60 := by decide) (a b : α) : eqG S (En.e a) (En.e b) = some (.bl (decide (a = b)), S) := by
  unfold eqG; rw [eqB_en hd]; rfl
theorem neG_en (hd : En.dep α ≤ 60 := by decide) (a b : α) : neG S (En.e a) (En.e b) = some (.bl (!decide (a = b)), S) := by
  unfold neG; rw [eqB_en hd]; rfl
theorem eqG_py {a b : D} {x y : α} (hd : En.dep α ≤ 60) (ha : pyS S a = some (En.p x)) (hb : pyS S b = some (En.p y)) : eqG S a b = some (.bl (decide (x = y)), S) := by
  unfold eqG eqB
  simp only [ha, hb, en_shaped hd, Bool.and_self, if_true, En.eqv, Option.map_some]
theorem neG_py {a b : D} {x y : α} (hd : En.dep α ≤ 60) (ha : pyS S a = some (En.p x)) (hb : pyS S b = some (En.p y)) : neG S a b = some (.bl (!decide (x = y)), S) := by
  unfold neG eqB
  simp only [ha, hb, en_shaped hd, Bool.and_self, if_true, En.eqv, Option.map_some]
theorem eq_int (i j : Int) : eqG S (.int i) (.int j) = some (.bl (decide (i = j)), S) := eqG_en (α := Int) (by decide) i j
theorem ne_int (i j : Int) : neG S (.int i) (.int j) = some (.bl (!decide (i = j)), S) := neG_en (α := Int) (by decide) i j
theorem eq_bl (i j : Bool) : eqG S (.bl i) (.bl j) = some (.bl (decide (i = j)), S) := eqG_en (α := Bool) (by decide) i j
theorem ne_bl (i j : Bool) : neG S (.bl i) (.bl j) = some (.bl (!decide (i = j)), S) := neG_en (α := Bool) (by decide) i j
theorem en_resF1 (a : D) (h : pureD a = true) : resF S [a] = some [a] := resF_pure S _ (by simp only [pureL, h, Bool.and_self])
theorem en_get {xs : List α} {k : Nat} {x : α} (h : xs[k]? = some x) : (xs.map (En.e (α := α)))[k]? = some (En.e x) := by
  rw [List.getElem?_map, h]; rfl
theorem ix_en {xs : List α} {k : Nat} {x : α} (h : xs[k]? = some x) : ixG S (.lst (xs.map En.e)) (.int (k : Nat)) = some (En.e x, S) := by
  rw [ix_lst (en_get h), en_norm]
theorem upto_en (n : Nat) : upto n = (List.range n).map En.e := rfl
/-- whole numbers within a list -/
theorem intsFlat (ns : List Int) : (ns.map D.int).all flatD = true := by
  induction ns with
  | nil => rfl
  | cons n ns ih => rw [List.map_cons, List.all_cons, ih]; rfl
theorem anyInt (x : Int) (ns : List Int) : (ns.map D.int).any (fun y => eqF y (.int x)) = decide (x ∈ ns) := by
  induction ns with
  | nil => rfl
  | cons n ns ih =>
    rw [List.map_cons, List.any_cons, ih]
    show ((n == x) || decide (x ∈ ns)) = _
    rw [dec_beq, ← Bool.decide_or]
    exact decide_eq_decide.mpr (by rw [List.mem_cons]; exact or_congr eq_comm Iff.rfl)
theorem in_int {b : D} {x : Int} {ns : List Int} (h : seqOf S b = some (ns.map D.int)) : inG S (.int x) b = some (.bl (decide (x ∈ ns)), S) := by
  unfold inG orG boG inF
  simp only [h, flatD, intsFlat, Bool.and_self, if_true, anyInt, Bool.false_eq_true, if_false]
theorem notIn_int {b : D} {x : Int} {ns : List Int} (h : seqOf S b = some (ns.map D.int)) : notInG S (.int x) b = some (.bl (!decide (x ∈ ns)), S) := by
  unfold notInG orG boG inF
  simp only [h, flatD, intsFlat, Bool.and_self, if_true, anyInt]
theorem nat_int (ns : List Nat) : ns.map (En.e (α := Nat)) = (ns.map fun n : Nat => (n : Int)).map D.int := by
  rw [List.map_map]; rfl
theorem in_nat {b : D} {x : Nat} {ns : List Nat} (h : seqOf S b = some (ns.map En.e)) : inG S (.int (x : Nat)) b = some (.bl (decide (x ∈ ns)), S) := by
  rw [in_int (ns := ns.map fun n : Nat => (n : Int)) (by rw [h, nat_int])]
  have : ((x : Nat) : Int) ∈ ns.map (fun n : Nat => (n : Int)) ↔ x ∈ ns := by
    rw [List.mem_map]
    exact ⟨fun ⟨a, h1, h2⟩ => (Int.ofNat_inj.mp h2) ▸ h1, fun h => ⟨x, h, rfl⟩⟩
  rw [decide_eq_decide.mpr this]
theorem notIn_nat {b : D} {x : Nat} {ns : List Nat} (h : seqOf S b = some (ns.map En.e)) : notInG S (.int (x : Nat)) b = some (.bl (!decide (x ∈ ns)), S) := by
  rw [notIn_int (ns := ns.map fun n : Nat => (n : Int)) (by rw [h, nat_int])]
  have : ((x : Nat) : Int) ∈ ns.map (fun n : Nat => (n : Int)) ↔ x ∈ ns := by
    rw [List.mem_map]
    exact ⟨fun ⟨a, h1, h2⟩ => (Int.ofNat_inj.mp h2) ▸ h1, fun h => ⟨x, h, rfl⟩⟩
  rw [decide_eq_decide.mpr this]
end
end Aw


/-! Aw14: tables of truths; more of reckoning. -/
namespace Aw
open PySem L2 LamX
theorem loopC_new0 {α : Type} {t : Tgt} {e : Sem D} {r : Env} {S0 : Store} (enc : α → D) (g : α → Cell) : ∀ {xs : List α} (S1 : Store), (∀ x ∈ xs, ∀ S1 : Store, ∃ r1, t.set (enc x) r = some r1 ∧ e r1 (S0 ++ S1) = .ok (.loc (S0.length + S1.length)) (S0 ++ (S1 ++ [g x]))) →
    loopC t yesT e r (xs.map enc) (S0 ++ S1) = .ok ((List.range xs.length).map fun i => D.loc (S0.length + S1.length + i)) (S0 ++ (S1 ++ xs.map g))
  | [], S1, _ => by simp [loopC]
  | x :: xs, S1, h => by
    obtain ⟨r1, h1, h2⟩ := h x List.mem_cons_self S1
    have ih := loopC_new0 (t := t) (e := e) (r := r) (S0 := S0) enc g (xs := xs) (S1 ++ [g x]) fun y hy => h y (List.mem_cons_of_mem _ hy)
    rw [List.map_cons]
    unfold loopC
    rw [h1]
    have q : yesT r1 (S0 ++ S1) = .ok true (S0 ++ S1) := rfl
    simp only [q, h2]
    rw [ih]
    simp only [List.length_cons, List.range_succ_eq_map, List.map_cons, List.map_map, List.length_append, List.length_nil, List.append_assoc, List.cons_append, List.nil_append]
    congr 1
    rw [List.cons.injEq]
    refine ⟨by simp, ?_⟩
    apply List.map_congr_left
    intro i _
    simp only [Function.comp, Nat.succ_eq_add_one]
    congr 1
    omega
theorem loopC_new {α : Type} {t : Tgt} {e : Sem D} {r : Env} {S0 : Store} (enc : α → D) (g : α → Cell) {xs : List α} (h : ∀ x ∈ xs, ∀ S1 : Store, ∃ r1, t.set (enc x) r = some r1 ∧ e r1 (S0 ++ S1) = .ok (.loc (S0.length + S1.length)) (S0 ++ (S1 ++ [g x]))) :
    loopC t yesT e r (xs.map enc) S0 = .ok ((List.range xs.length).map fun i => D.loc (S0.length + i)) (S0 ++ xs.map g) := by
  have := loopC_new0 enc g [] h
  simpa using this
theorem lcC_new {α : Type} {it : Sem (List D)} {t : Tgt} {ws : List Nat} {e : Sem D} {r : Env} {S S0 : Store} (enc : α → D) (g : α → Cell) {xs : List α} (hi : it r S = .ok (xs.map enc) S0) (hl : xs.length ≤ 100000)
    (h : ∀ x ∈ xs, ∀ S1 : Store, ∃ r1, t.set (enc x) (wipeD r ws) = some r1 ∧ e r1 (S0 ++ S1) = .ok (.loc (S0.length + S1.length)) (S0 ++ (S1 ++ [g x]))) :
    lcC it t ws yesT e r S = .ok (.loc (S0.length + xs.length)) (S0 ++ xs.map g ++ [.lst ((List.range xs.length).map fun i => D.loc (S0.length + i))]) := by
  rw [x_lcC, hi, bnd_ok, if_pos (by simpa using hl), loopC_new enc g h, bnd_ok]
  simp

theorem upto_get {n i : Nat} (h : i < n) : (upto n)[i]? = some (.int (i : Nat)) := by
  simp [upto, h]
theorem upto_len (n : Nat) : (upto n).length = n := by simp [upto]
theorem upto_at {n i : Nat} {d : D} (h : (upto n)[i]? = some d) : i < n ∧ d = .int (i : Nat) := by
  have h1 : i < n := by
    have := (List.getElem?_eq_some_iff.mp h).1
    simpa [upto] using this
  rw [upto_get h1] at h
  exact ⟨h1, (Option.some.inj h).symm⟩
/-! ### tables -/
abbrev Tb := List (List Bool)
def ent (t : Tb) (i j : Nat) : Bool := (t.getD i []).getD j false
def setE (t : Tb) (i j : Nat) (b : Bool) : Tb := t.set i ((t.getD i []).set j b)
structure Sq (n : Nat) (t : Tb) : Prop where
  len : t.length = n
  row : ∀ i, i < n → (t.getD i []).length = n
theorem Sq.get {n : Nat} {t : Tb} (h : Sq n t) {i : Nat} (hi : i < n) : t[i]? = some (t.getD i []) := by
  have : i < t.length := by rw [h.len]; exact hi
  rw [List.getElem?_eq_getElem this, List.getD_eq_getElem?_getD, List.getElem?_eq_getElem this]; rfl
theorem Sq.get2 {n : Nat} {t : Tb} (h : Sq n t) {i j : Nat} (hi : i < n) (hj : j < n) : (t.getD i [])[j]? = some (ent t i j) := by
  have : j < (t.getD i []).length := by rw [h.row i hi]; exact hj
  unfold ent
  rw [List.getElem?_eq_getElem this, List.getD_eq_getElem?_getD (l := t.getD i []), List.getElem?_eq_getElem this]; rfl
theorem ent_of {t : Tb} {row : List Bool} {i j : Nat} {b : Bool} (h : t[i]? = some row) (h2 : row[j]? = some b) : ent t i j = b := by
  unfold ent
  rw [List.getD_eq_getElem?_getD (l := t), h, Option.getD_some, List.getD_eq_getElem?_getD, h2, Option.getD_some]
theorem Sq.setE {n : Nat} {t : Tb} (h : Sq n t) (i j : Nat) (b : Bool) : Sq n (setE t i j b) := by
  refine ⟨by simp [Aw.setE, h.len], fun k hk => ?_⟩
  unfold Aw.setE
  rw [List.getD_eq_getElem?_getD, List.getElem?_set]
  by_cases e : i = k
  · subst e
    rw [if_pos rfl, if_pos (by rw [h.len]; exact hk)]
    simp only [Option.getD_some, List.length_set]
    exact h.row i hk
  · rw [if_neg e, ← List.getD_eq_getElem?_getD]
    exact h.row k hk
theorem Sq.ent_setE {n : Nat} {t : Tb} (h : Sq n t) {i j : Nat} (hi : i < n) (hj : j < n) (b : Bool) (i' j' : Nat) : ent (Aw.setE t i j b) i' j' = if i = i' ∧ j = j' then b else ent t i' j' := by
  unfold ent Aw.setE
  rw [List.getD_eq_getElem?_getD (l := t.set _ _), List.getElem?_set]
  by_cases e : i = i'
  · subst e
    rw [if_pos rfl, if_pos (by rw [h.len]; exact hi), Option.getD_some, List.getD_eq_getElem?_getD (l := List.set _ _ _), List.getElem?_set]
    by_cases e2 : j = j'
    · subst e2
      rw [if_pos rfl, if_pos (by rw [h.row i hi]; exact hj), if_pos ⟨rfl, rfl⟩]; rfl
    · rw [if_neg e2, if_neg (fun q => e2 q.2), ← List.getD_eq_getElem?_getD]
  · rw [if_neg e, if_neg (fun q => e q.1), ← List.getD_eq_getElem?_getD]
/-- a table: nobody beats himself; of two things one beats the other -/
structure IsTb (n : Nat) (t : Tb) : Prop where
  sq : Sq n t
  self : ∀ i, i < n → ent t i i = false
  two : ∀ i j, i < n → j < n → i ≠ j → ent t i j = !ent t j i
theorem sq_of (n : Nat) (f : Nat → Nat → Bool) : Sq n ((List.range n).map fun i => (List.range n).map (f i)) := by
  refine ⟨by simp, fun i hi => ?_⟩
  rw [List.getD_eq_getElem?_getD, List.getElem?_map, List.getElem?_range hi]
  simp
theorem sq_ext {n : Nat} {t u : Tb} (h : Sq n t) (h' : Sq n u) (e : ∀ i j, i < n → j < n → ent t i j = ent u i j) : t = u := by
  apply List.ext_getElem?
  intro i
  by_cases hi : i < n
  · rw [h.get hi, h'.get hi]
    congr 1
    apply List.ext_getElem?
    intro j
    by_cases hj : j < n
    · rw [h.get2 hi hj, h'.get2 hi hj, e i j hi hj]
    · rw [List.getElem?_eq_none (by rw [h.row i hi]; omega), List.getElem?_eq_none (by rw [h'.row i hi]; omega)]
  · rw [List.getElem?_eq_none (by rw [h.len]; omega), List.getElem?_eq_none (by rw [h'.len]; omega)]
/-- a table's rows as cells -/
abbrev rowC (row : List Bool) : Cell := .lst (row.map En.e)
theorem ix_tb {S : Store} {n : Nat} {t : Tb} (h : Sq n t) {i : Nat} (hi : i < n) : ixG S (.lst (t.map En.e)) (.int (i : Nat)) = some (En.e (t.getD i []), S) := ix_en (h.get hi)
theorem ix_tb2 {S : Store} {n : Nat} {t : Tb} (h : Sq n t) {i j : Nat} (hi : i < n) (hj : j < n) : ixG S (.lst ((t.getD i []).map En.e)) (.int (j : Nat)) = some (.bl (ent t i j), S) := ix_en (h.get2 hi hj)
theorem set_cell {S : Store} {n k : Nat} {ds : List D} {d : D} (h : S[n]? = some (.lst ds)) (hk : k < ds.length) : setL S (.loc n) (.int (k : Nat)) d = some (S.set n (.lst (ds.set k d))) := by
  unfold setL
  simp only [h, ixN_nat hk]
theorem app_cell {S : Store} {n : Nat} {ds : List D} {d : D} (h : S[n]? = some (.lst ds)) (hl : ds.length < 100000) : appendG S (.loc n) [d] = some (.non, S.set n (.lst (ds ++ [d]))) := by
  unfold appendG onCell
  simp only [h, hl, if_true]
theorem lst_cell {S : Store} {n : Nat} {ds : List D} (h : S[n]? = some (.lst ds)) : lstOf S (.loc n) = some ds := by
  simp only [lstOf, h]
theorem add_int {S : Store} (i j : Int) : addG S (.int i) (.int j) = some (.int (i + j), S) := Eq.trans rfl rfl
theorem add_one {S : Store} (i : Nat) : addG S (.int (i : Nat)) (.int 1) = some (.int ((i + 1 : Nat) : Int), S) := Eq.trans rfl rfl
theorem add_nat {S : Store} (i j : Nat) : addG S (.int (i : Nat)) (.int (j : Nat)) = some (.int ((i + j : Nat) : Int), S) := Eq.trans rfl rfl
theorem mul_ok {S : Store} {i j : Int} (h : j.natAbs < 18446744073709551616) : mulG S (.int i) (.int j) = some (.int (i * j), S) := by
  unfold mulG orG mulI intG mulOk
  simp only [h, decide_true, Bool.true_or, if_true]
theorem mod_ok {S : Store} {i j : Int} (h : 0 < j) : modI S (.int i) (.int j) = some (.int (i % j), S) := by
  unfold modI intG
  simp only [h, decide_true, if_true]
theorem fdiv_ok {S : Store} {i j : Int} (h : 0 < j) (h2 : j.natAbs.log2 < 9000) : fdivI S (.int i) (.int j) = some (.int (i / j), S) := by
  unfold fdivI intG
  simp only [h, h2, decide_true, Bool.and_self, if_true]
section
variable {α : Type} [DecidableEq α] [En α] {S : Store} {r : Env}
theorem en_list (xs : List α) : En.e xs = D.lst (xs.map En.e) := Eq.trans rfl rfl
theorem len_en (xs : List α) : lenG S [En.e xs] = some (.int (xs.length : Nat), S) := by
  rw [en_list, len_lst, List.length_map]
theorem asSeq_en (xs : List α) : asSeq S (En.e xs) r S = .ok (xs.map En.e) S := Eq.trans rfl rfl
theorem asLst_en (xs : List α) : asLst [En.e xs] r S = .ok (xs.map En.e) S := Eq.trans rfl rfl
theorem lstOf_en (xs : List α) : lstOf S (En.e xs) = some (xs.map En.e) := Eq.trans rfl rfl
theorem seqOf_en (xs : List α) : seqOf S (En.e xs) = some (xs.map En.e) := Eq.trans rfl rfl
theorem ix_enl {xs : List α} {k : Nat} {x : α} (h : xs[k]? = some x) : ixG S (En.e xs) (.int (k : Nat)) = some (En.e x, S) := ix_en h
theorem list_en (xs : List α) : listG S [En.e xs] = some (En.e xs, S) := Eq.trans rfl rfl
theorem en_bl (b : Bool) : En.e b = D.bl b := Eq.trans rfl rfl
theorem en_int (b : Int) : En.e b = D.int b := Eq.trans rfl rfl
theorem en_nat (b : Nat) : En.e b = D.int (b : Nat) := Eq.trans rfl rfl
theorem en_pair {β : Type} [DecidableEq β] [En β] (p : α × β) : En.e p = D.tup [En.e p.1, En.e p.2] := Eq.trans rfl rfl
theorem ix_fst {β : Type} [DecidableEq β] [En β] (p : α × β) : ixG S (En.e p) (.int 0) = some (En.e p.1, S) := by
  rw [en_pair, show (0 : Int) = ((0 : Nat) : Int) from rfl, ix_tup (d := En.e p.1) rfl, en_norm]
theorem ix_snd {β : Type} [DecidableEq β] [En β] (p : α × β) : ixG S (En.e p) (.int 1) = some (En.e p.2, S) := by
  rw [en_pair, show (1 : Int) = ((1 : Nat) : Int) from rfl, ix_tup (d := En.e p.2) rfl, en_norm]
theorem is_lst (xs : List α) : tyD S (En.e xs) = some .list := Eq.trans rfl rfl
end
/-! ### calls, step by step -/
def callV (n : Nat) (f : FSem) (ds : List D) (S : Store) : Out D := match resF S ds with
  | some ds1 => if ds1.length = n then liftP (f ds1) S else .stuck
  | none => match resL (resLoc S 4) ds with
    | some ds1 => if ds1.length = n then liftB (f ds1) S else .stuck
    | none => .stuck
def callRV (n : Nat) (f : RSem) (ds : List D) (S : Store) : Out D := match resF S ds with
  | some ds1 => if ds1.length = n then liftR (f ds1) S else .stuck
  | none => .stuck
section
variable {r : Env} {S : Store}
theorem x_callF (n : Nat) (f : FSem) (fa : Sem (List D)) : callF n f fa r S = (fa r S).bnd fun ds S1 => callV n f ds S1 := by
  unfold callF; rw [x_bind]; rfl
theorem x_callFR (n : Nat) (f : RSem) (fa : Sem (List D)) : callFR n f fa r S = (fa r S).bnd fun ds S1 => callRV n f ds S1 := by
  unfold callFR; rw [x_bind]; rfl
theorem callV_of {n : Nat} {f : FSem} {ds ds1 : List D} (h : resF S ds = some ds1) (hl : ds1.length = n) : callV n f ds S = liftP (f ds1) S := by
  unfold callV; simp only [h, hl, if_true]
theorem callRV_of {n : Nat} {f : RSem} {ds ds1 : List D} (h : resF S ds = some ds1) (hl : ds1.length = n) : callRV n f ds S = liftR (f ds1) S := by
  unfold callRV; simp only [h, hl, if_true]
theorem callV_lent {n : Nat} {f : FSem} {ds ds1 : List D} (h0 : resF S ds = none) (h : resL (resLoc S 4) ds = some ds1) (hl : ds1.length = n) : callV n f ds S = liftB (f ds1) S := by
  unfold callV; simp only [h0, h, hl, if_true]
theorem liftP_ok (d : D) (S : Store) : liftP (.ok d) S = .ok d S := Eq.trans rfl rfl
theorem liftR_ok (d : D) (S' S : Store) : liftR (.ok d S') S = .ok (shD S.length d) (S ++ S'.map (shC S.length)) := Eq.trans rfl rfl
theorem liftB_bl (b : Bool) (S : Store) : liftB (.ok (.bl b)) S = .ok (.bl b) S := Eq.trans rfl rfl
theorem liftB_int (b : Int) (S : Store) : liftB (.ok (.int b)) S = .ok (.int b) S := Eq.trans rfl rfl
theorem callV1 {f : FSem} {a : D} (h : pureD a = true) : callV 1 f [a] S = liftP (f [a]) S := callV_of (resF_pure S _ (by simp only [pureL, h, Bool.and_self])) rfl
theorem callV2 {f : FSem} {a b : D} (h : pureD a = true) (h2 : pureD b = true) : callV 2 f [a, b] S = liftP (f [a, b]) S := callV_of (resF_pure S _ (by simp only [pureL, h, h2, Bool.and_self])) rfl
theorem callV3 {f : FSem} {a b c : D} (h : pureD a = true) (h2 : pureD b = true) (h3 : pureD c = true) : callV 3 f [a, b, c] S = liftP (f [a, b, c]) S := callV_of (resF_pure S _ (by simp only [pureL, h, h2, h3, Bool.and_self])) rfl
theorem callV4 {f : FSem} {a b c d : D} (h : pureD a = true) (h2 : pureD b = true) (h3 : pureD c = true) (h4 : pureD d = true) : callV 4 f [a, b, c, d] S = liftP (f [a, b, c, d]) S := callV_of (resF_pure S _ (by simp only [pureL, h, h2, h3, h4, Bool.and_self])) rfl
theorem callRV1 {f : RSem} {a : D} (h : pureD a = true) : callRV 1 f [a] S = liftR (f [a]) S := callRV_of (resF_pure S _ (by simp only [pureL, h, Bool.and_self])) rfl
theorem callRV2 {f : RSem} {a b : D} (h : pureD a = true) (h2 : pureD b = true) : callRV 2 f [a, b] S = liftR (f [a, b]) S := callRV_of (resF_pure S _ (by simp only [pureL, h, h2, Bool.and_self])) rfl
theorem callRV3 {f : RSem} {a b c : D} (h : pureD a = true) (h2 : pureD b = true) (h3 : pureD c = true) : callRV 3 f [a, b, c] S = liftR (f [a, b, c]) S := callRV_of (resF_pure S _ (by simp only [pureL, h, h2, h3, Bool.and_self])) rfl
theorem callRV4 {f : RSem} {a b c d : D} (h : pureD a = true) (h2 : pureD b = true) (h3 : pureD c = true) (h4 : pureD d = true) : callRV 4 f [a, b, c, d] S = liftR (f [a, b, c, d]) S := callRV_of (resF_pure S _ (by simp only [pureL, h, h2, h3, h4, Bool.and_self])) rfl
theorem p_int (i : Int) : pureD (.int i) = true := Eq.trans rfl rfl
theorem p_bl (i : Bool) : pureD (.bl i) = true := Eq.trans rfl rfl
theorem p_scr (i : List Int) : pureD (.scr i) = true := Eq.trans rfl rfl
theorem p_non : pureD .non = true := Eq.trans rfl rfl
theorem p_str (i : PySem.Str) : pureD (.str i) = true := Eq.trans rfl rfl
theorem p_lst (xs : List D) : pureD (.lst xs) = pureL xs := Eq.trans rfl rfl
theorem p_tup (xs : List D) : pureD (.tup xs) = pureL xs := Eq.trans rfl rfl
theorem p_nil : pureL [] = true := Eq.trans rfl rfl
theorem p_cons (x : D) (xs : List D) : pureL (x :: xs) = (pureD x && pureL xs) := Eq.trans rfl rfl
theorem p_en {α : Type} [DecidableEq α] [En α] (a : α) : pureD (En.e a) = true := En.pu a
theorem p_ens {α : Type} [DecidableEq α] [En α] (xs : List α) : pureL (xs.map En.e) = true := pureL_map _ En.pu xs
end

/-! ### ends of a statement -/
def R.Wd (o : R) (N C B : Env → Store → Prop) (T : D → Store → Prop) (E : Ex → Env → Store → Prop) : Prop := match o with
  | .nx r S => N r S
  | .ct r S => C r S
  | .brk r S => B r S
  | .ret d S => T d S
  | .err c r S => E c r S
  | .stuck => False
/-- held shut, so that nothing reckons it out unasked -/
structure R.W (o : R) (N C B : Env → Store → Prop) (T : D → Store → Prop) (E : Ex → Env → Store → Prop) : Prop where
  run : o.Wd N C B T E
def Out.Pd {α : Type} (o : Out α) (G : α → Store → Prop) : Prop := match o with
  | .ok a S => G a S
  | _ => False
structure Out.P {α : Type} (o : Out α) (G : α → Store → Prop) : Prop where
  run : o.Pd G
theorem P_ok {α : Type} (a : α) (S : Store) (G : α → Store → Prop) : (Out.ok a S).P G = G a S := propext ⟨fun h => h.run, fun h => ⟨h⟩⟩
theorem P_of {α : Type} {o : Out α} {a : α} {S : Store} {G : α → Store → Prop} (h : o = .ok a S) (k : G a S) : o.P G := by rw [h, P_ok]; exact k
section
variable {o : R} {N C B : Env → Store → Prop} {T : D → Store → Prop} {E : Ex → Env → Store → Prop}
theorem W_nx {r : Env} {S : Store} (h : N r S) : (R.nx r S).W N C B T E := ⟨h⟩
theorem W_ct {r : Env} {S : Store} (h : C r S) : (R.ct r S).W N C B T E := ⟨h⟩
theorem W_brk {r : Env} {S : Store} (h : B r S) : (R.brk r S).W N C B T E := ⟨h⟩
theorem W_ret {d : D} {S : Store} (h : T d S) : (R.ret d S).W N C B T E := ⟨h⟩
theorem W_err {c : Ex} {r : Env} {S : Store} (h : E c r S) : (R.err c r S).W N C B T E := ⟨h⟩
theorem W_sq {k : Env → Store → R} (h : o.W (fun r S => (k r S).W N C B T E) C B T E) : (o.sq k).W N C B T E := by
  cases o with
  | nx r S => exact h.run
  | _ => exact ⟨h.run⟩
variable {r : Env} {S S1 : Store} {d : D} {f : Sem D} {g : SemS}
/-- an expression ahead of the rest -/
theorem W_thn {α : Type} {e : Sem α} {k : α → Store → R} (h : ∀ G : α → Store → Prop, (∀ a S1, (k a S1).W N C B T E → G a S1) → (e r S).P G) : ((e r S).thn r k).W N C B T E := by
  have q := (h _ fun a S1 q => q).run
  revert q
  cases e r S with
  | ok d S1 => exact fun q => q
  | err c S1 => exact fun q => q.elim
  | stuck => exact fun q => q.elim
theorem Cs_set {i : Nat} (h : ∀ G : D → Store → Prop, (∀ d S1, (g (r.set i (some d)) S1).W N C B T E → G d S1) → (f r S).P G) : (seqS (setS f (.one i)) g r S).W N C B T E := by
  rw [x_seq, x_setS]
  exact W_sq (W_thn fun G hG => h G fun d S1 q => hG d S1 ⟨q⟩)
theorem Ce_set {i : Nat} (h : ∀ G : D → Store → Prop, (∀ d S1, N (r.set i (some d)) S1 → G d S1) → (f r S).P G) : (setS f (.one i) r S).W N C B T E := by
  rw [x_setS]
  exact W_thn fun G hG => h G fun d S1 q => hG d S1 ⟨q⟩
theorem Cs_drop (h : ∀ G : D → Store → Prop, (∀ d S1, (g r S1).W N C B T E → G d S1) → (f r S).P G) : (seqS (dropS f) g r S).W N C B T E := by
  rw [x_seq, x_dropS]
  exact W_sq (W_thn fun G hG => h G fun d S1 q => hG d S1 ⟨q⟩)
theorem Ce_drop (h : ∀ G : D → Store → Prop, (∀ d S1, N r S1 → G d S1) → (f r S).P G) : (dropS f r S).W N C B T E := by
  rw [x_dropS]
  exact W_thn fun G hG => h G fun d S1 q => hG d S1 ⟨q⟩
theorem Ce_ret (h : ∀ G : D → Store → Prop, (∀ d S1, T d S1 → G d S1) → (f r S).P G) : (retS f r S).W N C B T E := by
  rw [x_retS]
  exact W_thn fun G hG => h G fun d S1 q => hG d S1 ⟨q⟩
theorem Cs_if {c : Sem Bool} {a b : SemS} (h : ∀ G : Bool → Store → Prop, (∀ z S1, ((if z = true then a else b) r S1).W (fun r S => (g r S).W N C B T E) C B T E → G z S1) → (c r S).P G) : (seqS (ifS c a b) g r S).W N C B T E := by
  rw [x_seq]; refine W_sq ?_; rw [x_if]
  refine W_thn fun G hG => h G fun z S1 q => hG z S1 ?_
  cases z <;> exact q
theorem Ce_if {c : Sem Bool} {a b : SemS} (h : ∀ G : Bool → Store → Prop, (∀ z S1, ((if z = true then a else b) r S1).W N C B T E → G z S1) → (c r S).P G) : (ifS c a b r S).W N C B T E := by
  rw [x_if]
  refine W_thn fun G hG => h G fun z S1 q => hG z S1 ?_
  cases z <;> exact q
theorem Cs_for {it : Sem (List D)} {t : Tgt} {b : SemS} (h : ∀ G : List D → Store → Prop, (∀ ds S1, (loopS t b ds r S1).W (fun r S => (g r S).W N C B T E) C B T E → G ds S1) → (it r S).P G) : (seqS (forS it t b) g r S).W N C B T E := by
  rw [x_seq]; refine W_sq ?_; rw [x_for]
  exact W_thn h
theorem Ce_for {it : Sem (List D)} {t : Tgt} {b : SemS} (h : ∀ G : List D → Store → Prop, (∀ ds S1, (loopS t b ds r S1).W N C B T E → G ds S1) → (it r S).P G) : (forS it t b r S).W N C B T E := by
  rw [x_for]
  exact W_thn h
theorem Ce_asg {w : GSet} {fo fi : Sem D} (h : ∀ G : D → Store → Prop, (∀ d S4, N r S4 → G d S4) → (f r S).P fun d S1 => (fo r S1).P fun o S2 => (fi r S2).P fun i S3 => ∃ S4, w S3 o i d = some S4 ∧ G d S4) : (asgS f (subT w fo fi) r S).W N C B T E := by
  rw [x_asg]
  refine W_thn fun G hG => ?_
  have := h (fun _ S4 => N r S4) fun d S1 q => q
  revert this
  cases f r S with
  | ok d S1 =>
    rw [P_ok, P_ok]
    refine fun this => hG d S1 ?_
    refine W_thn fun G hG => ?_
    revert this
    cases fo r S1 with
    | ok o S2 =>
      rw [P_ok, P_ok]
      refine fun this => hG o S2 ?_
      refine W_thn fun G hG => ?_
      revert this
      cases fi r S2 with
      | ok i S3 =>
        rw [P_ok, P_ok]
        rintro ⟨S4, h1, h2⟩
        refine hG i S3 ?_
        rw [h1]; exact ⟨h2⟩
      | err c S1 => exact fun q => q.run.elim
      | stuck => exact fun q => q.run.elim
    | err c S1 => exact fun q => q.run.elim
    | stuck => exact fun q => q.run.elim
  | err c S1 => exact fun q => q.run.elim
  | stuck => exact fun q => q.run.elim
theorem Cs_asg {w : GSet} {fo fi : Sem D} (h : ∀ G : D → Store → Prop, (∀ d S4, (g r S4).W N C B T E → G d S4) → (f r S).P fun d S1 => (fo r S1).P fun o S2 => (fi r S2).P fun i S3 => ∃ S4, w S3 o i d = some S4 ∧ G d S4) : (seqS (asgS f (subT w fo fi)) g r S).W N C B T E := by
  rw [x_seq]
  exact W_sq (Ce_asg h)
theorem Ws_set {i : Nat} (h : f r S = .ok d S1) (k : (g (r.set i (some d)) S1).W N C B T E) : (seqS (setS f (.one i)) g r S).W N C B T E := Cs_set fun G hG => P_of h (hG _ _ k)
theorem We_set {i : Nat} (h : f r S = .ok d S1) (k : N (r.set i (some d)) S1) : (setS f (.one i) r S).W N C B T E := Ce_set fun G hG => P_of h (hG _ _ k)
theorem Ws_drop (h : f r S = .ok d S1) (k : (g r S1).W N C B T E) : (seqS (dropS f) g r S).W N C B T E := Cs_drop fun G hG => P_of h (hG _ _ k)
theorem We_drop (h : f r S = .ok d S1) (k : N r S1) : (dropS f r S).W N C B T E := Ce_drop fun G hG => P_of h (hG _ _ k)
theorem We_ret (h : f r S = .ok d S1) (k : T d S1) : (retS f r S).W N C B T E := Ce_ret fun G hG => P_of h (hG _ _ k)
theorem Ws_if {c : Sem Bool} {z : Bool} {a b : SemS} (h : c r S = .ok z S1) (k : ((if z = true then a else b) r S1).W (fun r S => (g r S).W N C B T E) C B T E) : (seqS (ifS c a b) g r S).W N C B T E := Cs_if fun G hG => P_of h (hG _ _ k)
theorem We_if {c : Sem Bool} {z : Bool} {a b : SemS} (h : c r S = .ok z S1) (k : ((if z = true then a else b) r S1).W N C B T E) : (ifS c a b r S).W N C B T E := Ce_if fun G hG => P_of h (hG _ _ k)
theorem Ws_setX {i : Nat} {c : Ex} (h : f r S = .err c S1) (k : E c r S1) : (seqS (setS f (.one i)) g r S).W N C B T E := by
  rw [x_seq, x_setS, h, thn_err, sq_err]; exact ⟨k⟩
theorem We_setX {i : Nat} {c : Ex} (h : f r S = .err c S1) (k : E c r S1) : (setS f (.one i) r S).W N C B T E := by
  rw [x_setS, h, thn_err]; exact ⟨k⟩
theorem Ws_dropX {c : Ex} (h : f r S = .err c S1) (k : E c r S1) : (seqS (dropS f) g r S).W N C B T E := by
  rw [x_seq, x_dropS, h, thn_err, sq_err]; exact ⟨k⟩
theorem We_dropX {c : Ex} (h : f r S = .err c S1) (k : E c r S1) : (dropS f r S).W N C B T E := by
  rw [x_dropS, h, thn_err]; exact ⟨k⟩
theorem W_mono {N' C' B' : Env → Store → Prop} {T' : D → Store → Prop} {E' : Ex → Env → Store → Prop} (h : o.W N C B T E) (hN : ∀ r S, N r S → N' r S) (hC : ∀ r S, C r S → C' r S) (hB : ∀ r S, B r S → B' r S) (hT : ∀ d S, T d S → T' d S) (hE : ∀ c r S, E c r S → E' c r S) : o.W N' C' B' T' E' := by
  have h := h.run
  revert h
  cases o with
  | nx r S => exact fun h => ⟨hN _ _ h⟩
  | ct r S => exact fun h => ⟨hC _ _ h⟩
  | brk r S => exact fun h => ⟨hB _ _ h⟩
  | ret d S => exact fun h => ⟨hT _ _ h⟩
  | err c r S => exact fun h => ⟨hE _ _ _ h⟩
  | stuck => exact fun h => h.elim
/-- the test fails: the rest -/
theorem Ws_no {c : Sem Bool} {a : SemS} (h : c r S = .ok false S1) (k : (g r S1).W N C B T E) : (seqS (ifS c a skipS) g r S).W N C B T E := Ws_if h ⟨k⟩
theorem We_no {c : Sem Bool} {a : SemS} (h : c r S = .ok false S1) (k : N r S1) : (ifS c a skipS r S).W N C B T E := We_if h ⟨k⟩
theorem Ws_seq {f : SemS} (h : (f r S).W (fun r S => (g r S).W N C B T E) C B T E) : (seqS f g r S).W N C B T E := by
  rw [x_seq]; exact W_sq h
theorem Ws_ghost {q : Env → Store → Option (Env × Store)} {f : SemS} {r' : Env} (h : q r S = some (r', S1)) (k : (seqS f g r' S1).W N C B T E) : (seqS (ghostS q f) g r S).W N C B T E := by
  rw [x_seq, x_ghost q f h, ← x_seq]; exact k
theorem We_ghost {q : Env → Store → Option (Env × Store)} {f : SemS} {r' : Env} (h : q r S = some (r', S1)) (k : (f r' S1).W N C B T E) : (ghostS q f r S).W N C B T E := by
  rw [x_ghost q f h]; exact k
theorem We_asg {w : GSet} {fo fi : Sem D} {o i : D} {S2 S3 S4 : Store} (h : f r S = .ok d S1) (h1 : fo r S1 = .ok o S2) (h2 : fi r S2 = .ok i S3) (h3 : w S3 o i d = some S4) (k : N r S4) : (asgS f (subT w fo fi) r S).W N C B T E :=
  Ce_asg fun G hG => P_of h (P_of h1 (P_of h2 ⟨S4, h3, hG _ _ k⟩))
theorem Ws_asg {w : GSet} {fo fi : Sem D} {o i : D} {S2 S3 S4 : Store} (h : f r S = .ok d S1) (h1 : fo r S1 = .ok o S2) (h2 : fi r S2 = .ok i S3) (h3 : w S3 o i d = some S4) (k : (g r S4).W N C B T E) : (seqS (asgS f (subT w fo fi)) g r S).W N C B T E := Ws_seq (We_asg h h1 h2 h3 k)
theorem W_loop {t : Tgt} {b : SemS} (I : Nat → Env → Store → Prop) : ∀ {ds : List D} {k : Nat} {r : Env} {S : Store}, I k r S →
    (∀ i d r S, ds[i]? = some d → I (k + i) r S → ∃ r1, t.set d r = some r1 ∧ (b r1 S).W (I (k + i + 1)) (I (k + i + 1)) N T E) → (∀ r S, I (k + ds.length) r S → N r S) →
    (loopS t b ds r S).W N C B T E
  | [], k, r, S, h, _, hn => ⟨hn r S h⟩
  | d :: ds, k, r, S, h, hs, hn => by
    obtain ⟨r1, h1, h2⟩ := hs 0 d r S rfl h
    have ih : ∀ r2 S2, I (k + 1) r2 S2 → (loopS t b ds r2 S2).W N C B T E := fun r2 S2 h3 => W_loop I (t := t) (b := b) (ds := ds) (k := k + 1) h3 (fun i e r S he hi => by
      have := hs (i + 1) e r S (by simpa using he) (by rw [show k + (i + 1) = k + 1 + i by omega]; exact hi)
      rw [show k + (i + 1) = k + 1 + i by omega] at this
      exact this) (fun r S h => hn r S (by rw [List.length_cons, show k + (ds.length + 1) = k + 1 + ds.length by omega]; exact h))
    unfold loopS
    simp only [h1]
    have h2 := h2.run
    revert h2
    cases b r1 S with
    | nx r2 S2 => exact fun h2 => ih r2 S2 h2
    | ct r2 S2 => exact fun h2 => ih r2 S2 h2
    | brk r2 S2 => exact fun h2 => ⟨h2⟩
    | ret d2 S2 => exact fun h2 => ⟨h2⟩
    | err c2 r2 S2 => exact fun h2 => ⟨h2⟩
    | stuck => exact fun h2 => ⟨h2⟩
/-- a for loop: I i holds ahead of round i -/
theorem W_for {t : Tgt} {b : SemS} (I : Nat → Env → Store → Prop) {ds : List D} {r : Env} {S : Store} (h0 : I 0 r S)
    (hs : ∀ i d r S, ds[i]? = some d → I i r S → ∃ r1, t.set d r = some r1 ∧ (b r1 S).W (I (i + 1)) (I (i + 1)) N T E) (hn : ∀ r S, I ds.length r S → N r S) : (loopS t b ds r S).W N C B T E :=
  W_loop I (k := 0) h0 (fun i d r S h1 h2 => by rw [Nat.zero_add] at h2 ⊢; exact hs i d r S h1 h2) (fun r S h => hn r S (by rw [Nat.zero_add] at h; exact h))
theorem We_for {it : Sem (List D)} {t : Tgt} {b : SemS} (I : Nat → Env → Store → Prop) {ds : List D} (hi : it r S = .ok ds S1) (h0 : I 0 r S1)
    (hs : ∀ i d r S, ds[i]? = some d → I i r S → ∃ r1, t.set d r = some r1 ∧ (b r1 S).W (I (i + 1)) (I (i + 1)) N T E) (hn : ∀ r S, I ds.length r S → N r S) : (forS it t b r S).W N C B T E := by
  rw [x_for, hi, thn_ok]; exact W_for I h0 hs hn
theorem Ws_for {it : Sem (List D)} {t : Tgt} {b : SemS} (I : Nat → Env → Store → Prop) {ds : List D} (hi : it r S = .ok ds S1) (h0 : I 0 r S1)
    (hs : ∀ i d r S, ds[i]? = some d → I i r S → ∃ r1, t.set d r = some r1 ∧ (b r1 S).W (I (i + 1)) (I (i + 1)) (fun r S => (g r S).W N C B T E) T E) (hn : ∀ r S, I ds.length r S → (g r S).W N C B T E) : (seqS (forS it t b) g r S).W N C B T E :=
  Ws_seq (We_for I hi h0 hs hn)
/-- while: a measure that falls -/
theorem W_while {c : Sem Bool} {b : SemS} (I : Nat → Env → Store → Prop) (hs : ∀ m r S, I m r S → ∃ z S1, c r S = .ok z S1 ∧ if z = true then (b r S1).W (fun r2 S2 => ∃ m', m' < m ∧ I m' r2 S2) (fun r2 S2 => ∃ m', m' < m ∧ I m' r2 S2) N T E else N r S1) :
    ∀ (n m : Nat) {r : Env} {S : Store}, m < n → I m r S → (whileS c b n r S).W N C B T E
  | 0, m, _, _, h, _ => by omega
  | n + 1, m, r, S, h, hi => by
    obtain ⟨z, S1, h1, h2⟩ := hs m r S hi
    unfold whileS
    rw [h1]
    cases z with
    | false => exact ⟨h2⟩
    | true =>
      simp only [if_true] at h2
      have h2 := h2.run
      simp only
      revert h2
      cases b r S1 with
      | nx r2 S2 => exact fun ⟨m', h3, h4⟩ => W_while I hs n m' (by omega) h4
      | ct r2 S2 => exact fun ⟨m', h3, h4⟩ => W_while I hs n m' (by omega) h4
      | brk r2 S2 => exact fun h2 => ⟨h2⟩
      | ret d2 S2 => exact fun h2 => ⟨h2⟩
      | err c2 r2 S2 => exact fun h2 => ⟨h2⟩
      | stuck => exact fun h2 => ⟨h2⟩
end
abbrev noN : Env → Store → Prop := fun _ _ => False
abbrev noE : Ex → Env → Store → Prop := fun _ _ _ => False
theorem out_W {n : Nat} {b : SemS} {ds : List D} {Q : D → Prop} (h : (b (startE n ds) []).W (fun _ _ => Q .non) noN noN (fun d S => ∃ d1, resA S d = some d1 ∧ Q d1) noE) : ∃ d, fnOut n b ds = .ok d ∧ Q d := by
  unfold fnOut
  have h := h.run
  revert h
  cases b (startE n ds) [] with
  | nx r S => exact fun h => ⟨_, rfl, h⟩
  | ret d S => exact fun ⟨d1, h1, h2⟩ => ⟨d1, by simp only [h1], h2⟩
  | ct r S => exact fun h => h.elim
  | brk r S => exact fun h => h.elim
  | err c r S => exact fun h => h.elim
  | stuck => exact fun h => h.elim
theorem raw_W {n : Nat} {b : SemS} {ds : List D} {Q : D → Store → Prop} (h : (b (startE n ds) []).W (fun _ S => Q .non S) noN noN Q noE) : ∃ d S, fnRaw n b ds = .ok d S ∧ Q d S := by
  unfold fnRaw
  have h := h.run
  revert h
  cases b (startE n ds) [] with
  | nx r S => exact fun h => ⟨_, _, rfl, h⟩
  | ret d S => exact fun h => ⟨d, S, rfl, h⟩
  | ct r S => exact fun h => h.elim
  | brk r S => exact fun h => h.elim
  | err c r S => exact fun h => h.elim
  | stuck => exact fun h => h.elim
/-- .. that may let out an exception -/
theorem out_WE {n : Nat} {b : SemS} {ds : List D} {Q : D → Prop} {X : Ex → Prop} (h : (b (startE n ds) []).W (fun _ _ => Q .non) noN noN (fun d S => ∃ d1, resA S d = some d1 ∧ Q d1) (fun c _ _ => X c)) : (∃ d, fnOut n b ds = .ok d ∧ Q d) ∨ ∃ c, fnOut n b ds = .err c ∧ X c := by
  unfold fnOut
  have h := h.run
  revert h
  cases b (startE n ds) [] with
  | nx r S => exact fun h => .inl ⟨_, rfl, h⟩
  | ret d S => exact fun ⟨d1, h1, h2⟩ => .inl ⟨d1, by simp only [h1], h2⟩
  | ct r S => exact fun h => h.elim
  | brk r S => exact fun h => h.elim
  | err c r S => exact fun h => .inr ⟨c, rfl, h⟩
  | stuck => exact fun h => h.elim
theorem raw_WE {n : Nat} {b : SemS} {ds : List D} {Q : D → Store → Prop} {X : Ex → Prop} (h : (b (startE n ds) []).W (fun _ S => Q .non S) noN noN Q (fun c _ _ => X c)) : (∃ d S, fnRaw n b ds = .ok d S ∧ Q d S) ∨ ∃ c, fnRaw n b ds = .err c ∧ X c := by
  unfold fnRaw
  have h := h.run
  revert h
  cases b (startE n ds) [] with
  | nx r S => exact fun h => .inl ⟨_, _, rfl, h⟩
  | ret d S => exact fun h => .inl ⟨d, S, rfl, h⟩
  | ct r S => exact fun h => h.elim
  | brk r S => exact fun h => h.elim
  | err c r S => exact fun h => .inr ⟨c, rfl, h⟩
  | stuck => exact fun h => h.elim
/-- .. of a known answer -/
theorem out_eq {n : Nat} {b : SemS} {ds : List D} {d0 : D} (h : (b (startE n ds) []).W (fun _ _ => d0 = .non) noN noN (fun d S => resA S d = some d0) noE) : fnOut n b ds = .ok d0 := by
  unfold fnOut
  have h := h.run
  revert h
  cases b (startE n ds) [] with
  | nx r S => exact fun h => by rw [show d0 = .non from h]
  | ret d S => exact fun h => by simp only [show resA S d = some d0 from h]
  | ct r S => exact fun h => h.elim
  | brk r S => exact fun h => h.elim
  | err c r S => exact fun h => h.elim
  | stuck => exact fun h => h.elim
theorem resLoc_lst {S : Store} {n : Nat} {ds : List D} (k : Nat) (h : S[n]? = some (.lst ds)) : resLoc S (k + 1) n = (resL (resLoc S k) ds).map .lst := by
  simp only [resLoc, h]
theorem resLoc_fz {S : Store} {n : Nat} {d : D} (k : Nat) (h : S[n]? = some (.fz d)) : resLoc S (k + 1) n = resD (resLoc S k) d := by
  simp only [resLoc, h]
theorem shC_row (n : Nat) (row : List Bool) : shC n (rowC row) = rowC row := by
  show Cell.lst (shL n _) = _
  rw [shL_pure n _ (p_ens row)]
theorem shD_loc (n k : Nat) : shD n (.loc k) = .loc (n + k) := Eq.trans rfl rfl
theorem resA_loc (S : Store) (n : Nat) : resA S (.loc n) = resLoc S (3 + 1) n := rfl
theorem resA_lst {S : Store} {n : Nat} {ds : List D} (h : S[n]? = some (.lst ds)) (hp : pureL ds = true) : resA S (.loc n) = some (.lst ds) := by
  rw [resA_loc, resLoc_lst 3 h, resL_pure _ _ hp]; rfl
theorem resL_locs {f : Nat → Option D} {g : Nat → D} : ∀ {is : List Nat}, (∀ i ∈ is, f i = some (g i)) → resL f (is.map D.loc) = some (is.map g)
  | [], _ => rfl
  | i :: is, h => by
    simp only [List.map_cons, resL, resD, h i List.mem_cons_self, resL_locs fun j hj => h j (List.mem_cons_of_mem _ hj)]
theorem pyLoc_lst {S : Store} {n : Nat} {ds : List D} (k : Nat) (h : S[n]? = some (.lst ds)) : pyLoc S (k + 1) n = (pyL (pyLoc S k) ds).map .list := by
  simp only [pyLoc, h]
theorem pyLoc_fz {S : Store} {n : Nat} {d : D} (k : Nat) (h : S[n]? = some (.fz d)) : pyLoc S (k + 1) n = pyD (pyLoc S k) d := by
  simp only [pyLoc, h]
theorem pyL_locs {f : Nat → Option PySem.PyData} {g : Nat → PySem.PyData} : ∀ {is : List Nat}, (∀ i ∈ is, f i = some (g i)) → pyL f (is.map D.loc) = some (is.map g)
  | [], _ => rfl
  | i :: is, h => by
    simp only [List.map_cons, pyL, pyD, h i List.mem_cons_self, pyL_locs fun j hj => h j (List.mem_cons_of_mem _ hj)]
theorem flat_one {α : Type} (d : α) : ∀ n : Nat, (List.replicate n [d]).flatten = List.replicate n d
  | 0 => rfl
  | n + 1 => by rw [List.replicate_succ, List.replicate_succ, List.flatten_cons, flat_one d n]; rfl
theorem rep_one {S : Store} (b : Bool) {n : Nat} (hn : n ≤ 100000) : mulGC S (.lst [.bl b]) (.int (n : Nat)) = some (.loc S.length, S ++ [rowC (List.replicate n b)]) := by
  unfold mulGC orG mulI intG repLC
  simp only [lstOf]
  rw [if_pos ⟨by simp; omega, by omega, by omega⟩]
  simp only [Int.toNat_natCast, flat_one, rowC, List.map_replicate]
  rfl
theorem fdiv_lit {S : Store} {i j : Int} (h : 0 < j) (h2 : j < 1000000) : fdivI S (.int i) (.int j) = some (.int (i / j), S) := by
  refine fdiv_ok h ?_
  have h3 : j.natAbs < 2 ^ 20 := Nat.lt_of_lt_of_le (show j.natAbs < 1000000 by omega) (by decide)
  exact Nat.lt_trans ((Nat.log2_lt (by omega)).mpr h3) (by decide)
theorem mul_lit {S : Store} {i j : Int} (h : 0 ≤ j) (h2 : j < 1000000) : mulG S (.int i) (.int j) = some (.int (i * j), S) := mul_ok (by omega)
theorem sub_int {S : Store} (i j : Int) : subI S (.int i) (.int j) = some (.int (i - j), S) := Eq.trans rfl rfl
theorem lt_int {S : Store} (i j : Int) : ltI S (.int i) (.int j) = some (.bl (decide (i < j)), S) := Eq.trans rfl rfl
theorem le_int {S : Store} (i j : Int) : leI S (.int i) (.int j) = some (.bl (decide (i ≤ j)), S) := Eq.trans rfl rfl
theorem gt_int {S : Store} (i j : Int) : gtI S (.int i) (.int j) = some (.bl (decide (j < i)), S) := Eq.trans rfl rfl
theorem ge_int {S : Store} (i j : Int) : geI S (.int i) (.int j) = some (.bl (decide (j ≤ i)), S) := Eq.trans rfl rfl
theorem min_int {S : Store} (i j : Int) : min2G S [.int i, .int j] = some (.int (if j < i then j else i), S) := Eq.trans rfl rfl
theorem max_int {S : Store} (i j : Int) : max2G S [.int i, .int j] = some (.int (if j > i then j else i), S) := Eq.trans rfl rfl
theorem neg_int {S : Store} (i : Int) : negG S (.int i) = some (.int (-i)) := Eq.trans rfl rfl
theorem ins_cell {S : Store} {n i : Nat} {ds : List D} {d : D} (h : S[n]? = some (.lst ds)) (hl : ds.length < 100000) (hi : i ≤ ds.length) : insertG S (.loc n) [.int (i : Nat), d] = some (.non, S.set n (.lst (ds.take i ++ d :: ds.drop i))) := by
  unfold insertG onCell
  simp only [h]
  rw [if_pos ⟨hl, by omega, by omega⟩]
  simp only [Int.toNat_natCast]
theorem norm_loc {S : Store} {n : Nat} {ds : List D} (h : S[n]? = some (.lst ds)) : norm S (.loc n) = .loc n := by
  unfold norm normL; simp only [h]
end Aw


/-! Aw15: tables in cells, slices, == of like things, sorted pairs. -/
namespace Aw
open PySem (PyData)
theorem en_dep_tb : En.dep Tb ≤ 60 := by decide
/-- a table whose rows' cells begin at b, the rows' names in the cell F -/
structure TbAt (S : Store) (F b : Nat) (t : Tb) : Prop where
  top : S[F]? = some (.lst ((List.range t.length).map fun i => D.loc (b + i)))
  row : ∀ (i : Nat) (row : List Bool), t[i]? = some row → S[b + i]? = some (rowC row)
theorem locs_eq (b n : Nat) : ((List.range n).map fun i => D.loc (b + i)) = ((List.range n).map fun i => b + i).map D.loc := by
  rw [List.map_map]; rfl
theorem rows_map {β : Type} (f : List Bool → β) (t : Tb) : (List.range t.length).map (fun i => f (t.getD i [])) = t.map f := by
  apply List.ext_getElem?
  intro i
  by_cases hi : i < t.length
  · rw [List.getElem?_map, List.getElem?_range hi, List.getElem?_map, List.getElem?_eq_getElem hi]
    simp [List.getD_eq_getElem?_getD, hi]
  · rw [List.getElem?_eq_none (by simp; omega), List.getElem?_eq_none (by simp; omega)]
section
variable {S : Store} {F b : Nat} {t : Tb}
theorem TbAt.res (h : TbAt S F b t) (k : Nat) : resLoc S (k + 2) F = some (En.e t) := by
  rw [resLoc_lst (k + 1) h.top, locs_eq, resL_locs (g := fun j => En.e (t.getD (j - b) []))]
  · rw [List.map_map]
    have : (List.range t.length).map ((fun j => En.e (t.getD (j - b) [])) ∘ fun i => b + i) = (List.range t.length).map (fun i => (En.e (α := List Bool)) (t.getD i [])) := by
      apply List.map_congr_left
      intro i _
      simp [Function.comp]
    rw [this, rows_map (En.e (α := List Bool))]; rfl
  · intro j hj
    obtain ⟨i, hi, rfl⟩ := List.mem_map.mp hj
    have hi := List.mem_range.mp hi
    have hg : t[i]? = some (t.getD i []) := by rw [List.getD_eq_getElem?_getD, List.getElem?_eq_getElem hi]; rfl
    rw [resLoc_lst k (h.row i _ hg), resL_pure _ _ (p_ens _), Nat.add_sub_cancel_left]; rfl
theorem pyL_drop {f : Nat → Option PyData} {g : Nat → PyData} (is : List Nat) (h : ∀ i ∈ is, f i = some (g i)) : pyL f (is.map D.loc) = some (is.map g) := pyL_locs h
/-- the rows from the c-th on, as they are read -/
theorem TbAt.pyFrom {S : Store} {F b : Nat} {t : Tb} (c : Nat) (h : ∀ (i : Nat) (row : List Bool), c ≤ i → t[i]? = some row → S[b + i]? = some (rowC row)) (k : Nat) : pyL (pyLoc S (k + 1)) (((List.range t.length).map fun i => D.loc (b + i)).drop c) = some ((t.drop c).map En.p) := by
  rw [locs_eq, ← List.map_drop, pyL_locs (g := fun j => En.p (t.getD (j - b) []))]
  · rw [List.map_drop, List.map_drop, List.map_map]
    have : ((List.range t.length).map ((fun j => En.p (t.getD (j - b) [])) ∘ fun i => b + i)) = t.map (En.p (α := List Bool)) := by
      rw [← rows_map (En.p (α := List Bool))]
      apply List.map_congr_left
      intro i _
      simp [Function.comp]
    rw [this]
  · intro j hj
    rw [← List.map_drop] at hj
    obtain ⟨i, hi, rfl⟩ := List.mem_map.mp hj
    obtain ⟨m, hm⟩ := List.getElem?_of_mem hi
    rw [List.getElem?_drop] at hm
    have hlt : c + m < t.length := by
      have := (List.getElem?_eq_some_iff.mp hm).1
      simpa using this
    rw [List.getElem?_range hlt] at hm
    cases hm
    have hg : t[c + m]? = some (t.getD (c + m) []) := by rw [List.getD_eq_getElem?_getD, List.getElem?_eq_getElem hlt]; rfl
    rw [pyLoc_lst k (h _ _ (by omega) hg), py_map, Nat.add_sub_cancel_left]; rfl
theorem TbAt.py (h : TbAt S F b t) : pyS S (.loc F) = some (En.p t) := by
  show pyLoc S (3 + 1) F = _
  rw [pyLoc_lst 3 h.top]
  have := TbAt.pyFrom (S := S) (F := F) (b := b) (t := t) 0 (fun i row _ hr => h.row i row hr) 2
  rw [List.drop_zero, List.drop_zero] at this
  rw [this]; rfl
theorem TbAt.notF (h : TbAt S F b t) (rest : List D) : resF S (.loc F :: rest) = none := by
  show resL (resFz S (3 + 1)) _ = none
  simp only [resL, resD, resFz, h.top]
theorem TbAt.lent (h : TbAt S F b t) (x : D) (hx : pureD x = true) : resL (resLoc S 4) [.loc F, x] = some [En.e t, x] := by
  simp only [resL, resD, h.res 2, resD_pure _ x hx]
theorem TbAt.first (h : TbAt S F b t) (hl : 0 < t.length) : ixG S (.loc F) (.int 0) = some (.loc b, S) := by
  have hg : t[0]? = some t[0] := List.getElem?_eq_getElem hl
  have e := h.row 0 _ hg
  rw [show (0 : Int) = ((0 : Nat) : Int) from rfl, ix_loc h.top (k := 0) (d := .loc b) (by rw [List.getElem?_map, List.getElem?_range hl]; rfl), norm_loc (ds := t[0].map En.e) (by rw [Nat.add_zero] at e; exact e)]
end
/-- the first row emptied: the others stay -/
theorem TbAt.wiped {S : Store} {F b : Nat} {t : Tb} (h : TbAt S F b t) (hF : F ≠ b) : ∀ (i : Nat) (row : List Bool), 1 ≤ i → t[i]? = .some row → (S.set b (.lst []))[b + i]? = .some (rowC row) := by
  intro i row hi hr
  rw [List.getElem?_set_ne (by omega)]
  exact h.row i row hr
theorem clear_cell {S : Store} {n : Nat} {ds : List D} (h : S[n]? = some (.lst ds)) : clearG S (.loc n) [] = some (.non, S.set n (.lst [])) := by
  unfold clearG onCell
  simp only [h]
theorem cutD_one {ds : List D} (c : Nat) : cutD ds (some (c : Nat)) none = ds.drop c := by
  unfold cutD
  rw [HT.sIx_nat, HT.sIx_none]
  by_cases h : c ≤ ds.length
  · rw [Nat.min_eq_left h, List.take_of_length_le (by rw [List.length_drop]; omega)]
  · rw [Nat.min_eq_right (by omega), Nat.sub_self, List.take_zero, List.drop_of_length_le (by omega)]
theorem cutD_to {ds : List D} (c : Nat) : cutD ds none (some (c : Nat)) = ds.take c := by
  unfold cutD
  rw [HT.sIx_nat, HT.sIx_none, List.drop_zero, Nat.sub_zero]
  by_cases h : c ≤ ds.length
  · rw [Nat.min_eq_left h]
  · rw [Nat.min_eq_right (by omega), List.take_of_length_le (Nat.le_refl _), List.take_of_length_le (by omega)]
theorem slL_lst {S : Store} {ds : List D} {i j : Option Int} : slL S (.lst ds) i j = some (.lst (cutD ds i j), S) := rfl
theorem slL_loc {S : Store} {n : Nat} {ds : List D} {i j : Option Int} (h : S[n]? = some (.lst ds)) : slL S (.loc n) i j = some (.lst (cutD ds i j), S) := by
  unfold slL
  simp only [lstOf, h]
theorem cutD_1 {ds : List D} : cutD ds (some 1) none = ds.drop 1 := cutD_one 1
theorem slL_en {α : Type} [DecidableEq α] [En α] {S : Store} {xs : List α} {i j : Option Int} : slL S (En.e xs) i j = some (.lst (cutD (xs.map En.e) i j), S) := rfl
def Out.bnI (o : Out D) (k : Int → Store → Out (Option Int)) : Out (Option Int) := o.bnd fun d S => match d with
  | .int i => k i S
  | _ => .stuck
theorem bnI_ok (i : Int) (S : Store) (k : Int → Store → Out (Option Int)) : (Out.ok (.int i) S).bnI k = k i S := Eq.trans rfl rfl
theorem x_partV (f : Sem D) (r : Env) (S : Store) : partO f r S = (f r S).bnI fun i S1 => .ok (some i) S1 := by
  unfold partO Out.bnI; rw [x_bind]
  cases f r S with
  | ok d S1 => cases d <;> rfl
  | err c S1 => rfl
  | stuck => rfl
theorem pair_shaped {α β : Type} [DecidableEq α] [En α] [DecidableEq β] [En β] (a : α) (b : β) (ha : En.dep α ≤ 60) (hb : En.dep β ≤ 60) : PySem.SeqAt.shaped (.list [En.p a, En.p b]) = true := by
  unfold PySem.SeqAt.shaped
  simp only [PyData.canLay0, PyData.canLayAll0, En.lay, Bool.and_self, Bool.true_and, decide_eq_true_eq]
  have h1 := En.dp a
  have h2 := En.dp b
  show PyData.depth (.list [En.p a, En.p b]) ≤ 64
  simp only [PyData.depth, PyData.depthAll]
  omega
/-- == of things that are read the same -/
theorem eqG_same {S : Store} {a b : D} {p : PyData} (ha : pyS S a = some p) (hb : pyS S b = some p) (h : PySem.SeqAt.shaped p = true) : eqG S a b = some (.bl true, S) := by
  unfold eqG eqB
  simp only [ha, hb, h, Bool.and_self, if_true, Option.map_some, PySem.SeqAt.eqv_refl p (PySem.SeqAt.canLay_of_shaped h)]
theorem neG_same {S : Store} {a b : D} {p : PyData} (ha : pyS S a = some p) (hb : pyS S b = some p) (h : PySem.SeqAt.shaped p = true) : neG S a b = some (.bl false, S) := by
  unfold neG eqB
  simp only [ha, hb, h, Bool.and_self, if_true, Option.map_some, PySem.SeqAt.eqv_refl p (PySem.SeqAt.canLay_of_shaped h), Bool.not_true]
theorem add_lst {S : Store} {xs ys : List D} (h : xs.length + ys.length ≤ 100000) : addG S (.lst xs) (.lst ys) = some (.lst (xs ++ ys), S) := by
  unfold addG orG addI intG addL
  simp only [lstOf, h, if_true]
theorem ix2a {S : Store} {a b : D} (h : pureD a = true) : ixG S (.lst [a, b]) (.int 0) = some (a, S) := by
  rw [show (0 : Int) = ((0 : Nat) : Int) from rfl, ix_lst (d := a) rfl, norm_pure S a h]
theorem ix2b {S : Store} {a b : D} (h : pureD b = true) : ixG S (.lst [a, b]) (.int 1) = some (b, S) := by
  rw [show (1 : Int) = ((1 : Nat) : Int) from rfl, ix_lst (d := b) rfl, norm_pure S b h]
theorem rev_en {α : Type} [DecidableEq α] [En α] (xs : List α) : D.lst (xs.map En.e).reverse = En.e xs.reverse := by
  rw [← List.map_reverse]; rfl
/-- cells moved behind those there are: a table made row by row -/
theorem rows_shift {S : Store} (t : Tb) : liftR (.ok (.loc 0) (.lst ((List.range t.length).map fun i => D.loc (1 + i)) :: t.map rowC)) S = .ok (.loc S.length) (S ++ .lst ((List.range t.length).map fun i => D.loc (S.length + 1 + i)) :: t.map rowC) ∧
    TbAt (S ++ .lst ((List.range t.length).map fun i => D.loc (S.length + 1 + i)) :: t.map rowC) S.length (S.length + 1) t := by
  have q2 : (t.map rowC).map (shC S.length) = t.map rowC := by
    rw [List.map_map]
    apply List.map_congr_left
    intro row _
    exact shC_row _ _
  have q3 : ∀ is : List Nat, shL S.length (is.map fun i => D.loc (1 + i)) = is.map fun i => D.loc (S.length + 1 + i) := by
    intro is
    induction is with
    | nil => rfl
    | cons i is ih => simp only [List.map_cons, shL, shD, ih, Nat.add_assoc]
  have q4 : shC S.length (.lst ((List.range t.length).map fun i => D.loc (1 + i))) = .lst ((List.range t.length).map fun i => D.loc (S.length + 1 + i)) := by
    show Cell.lst (shL S.length _) = _
    rw [q3]
  refine ⟨by rw [liftR_ok, shD_loc, List.map_cons, q2, q4, Nat.add_zero], ?_, fun i row hr => ?_⟩
  · rw [List.getElem?_append_right (Nat.le_refl _), Nat.sub_self]; rfl
  · rw [List.getElem?_append_right (by omega), show S.length + 1 + i - S.length = i + 1 by omega, List.getElem?_cons_succ, List.getElem?_map, hr]; rfl
/-- sorted(pairs) -/
theorem sorted_pairs {S : Store} {xs ys : List (Nat × Nat)} (hp : ys.Perm xs) (hne : xs ≠ []) (hs : ys.Pairwise fun p q => p.1 < q.1 ∨ (p.1 = q.1 ∧ p.2 ≤ q.2)) : orC sortI sortP S [En.e xs] = some (En.e ys, S) := by
  have h1 : sortI S [En.e xs] = none := by
    unfold sortI onInts
    simp only [lstOf_en]
    cases xs with
    | nil => exact absurd rfl hne
    | cons x xs => rfl
  have hall : (xs.map (En.e (α := Nat × Nat))).all isPair = true := by
    rw [List.all_eq_true]
    intro d hd
    obtain ⟨p, _, rfl⟩ := List.mem_map.mp hd
    rfl
  unfold orC
  rw [h1]
  unfold sortP
  simp only [lstOf_en, hall, if_true]
  have O : SrtO.Swo ltPair := ⟨fun x y h => by
    have a := SrtO.lexB_iff.mp h
    refine SrtO.lexB_no.mpr ?_
    omega, fun x y z h1 h2 => by
    have a := SrtO.lexB_no.mp h1
    have b := SrtO.lexB_no.mp h2
    refine SrtO.lexB_no.mpr ?_
    omega⟩
  have hsrt : SrtO.Srtd ltPair (ys.map (En.e (α := Nat × Nat))) := by
    refine List.pairwise_map.mpr (hs.imp fun {p q} h => ?_)
    refine SrtO.lexB_no.mpr ?_
    show ¬ ((q.1 : Int) < p.1 ∨ ((q.1 : Int) = p.1 ∧ (q.2 : Int) < p.2))
    omega
  have hperm := (isort_perm ltPair (xs.map (En.e (α := Nat × Nat)))).trans (hp.map (En.e (α := Nat × Nat))).symm
  have key : isort ltPair (xs.map (En.e (α := Nat × Nat))) = ys.map (En.e (α := Nat × Nat)) := by
    refine List.Perm.eq_of_pairwise (fun a b ha hb h1 h2 => ?_) (isort_srtd O _) hsrt hperm
    obtain ⟨p, _, rfl⟩ := List.mem_map.mp ((isort_perm ltPair _).mem_iff.mp ha)
    obtain ⟨q, _, rfl⟩ := List.mem_map.mp hb
    have h1 := SrtO.lexB_no.mp h1
    have h2 := SrtO.lexB_no.mp h2
    have e1 : (pairK (En.e p)) = ((p.1 : Int), (p.2 : Int)) := rfl
    have e2 : (pairK (En.e q)) = ((q.1 : Int), (q.2 : Int)) := rfl
    rw [e1, e2] at h1 h2
    simp only at h1 h2
    have : p = q := Prod.ext (by omega) (by omega)
    rw [this]
  rw [key]; rfl
end Aw


/-! Aw16: exceptions and ranges, reckoned out. -/
namespace Aw
section
variable {r : Env} {S S1 : Store} {N C B : Env → Store → Prop} {T : D → Store → Prop} {E : Ex → Env → Store → Prop}
theorem x_raise (c : Ex) : raiseS c r S = .err c r S := Eq.trans rfl rfl
theorem W_raise {c : Ex} (h : E c r S) : (raiseS c r S).W N C B T E := ⟨h⟩
theorem Ws_raise {c : Ex} {g : SemS} (h : E c r S) : (seqS (raiseS c) g r S).W N C B T E := by
  rw [x_seq, x_raise, sq_err]; exact ⟨h⟩
theorem W_try {M : ExT} {b : SemS} {hs : List (Ex × SemS)} (h : (b r S).W N C B T (fun c r1 S1 => (hands M c hs r1 S1).W N C B T E)) : (tryS M b hs r S).W N C B T E := by
  unfold tryS
  have h := h.run
  revert h
  cases b r S with
  | err c r1 S1 => exact fun h => h
  | nx r S => exact fun h => ⟨h⟩
  | ct r S => exact fun h => ⟨h⟩
  | brk r S => exact fun h => ⟨h⟩
  | ret d S => exact fun h => ⟨h⟩
  | stuck => exact fun h => ⟨h⟩
theorem W_hand {M : ExT} {c d : Ex} {su : SemS} {hs : List (Ex × SemS)} (hm : M c d = some true) (h : (su r S).W N C B T E) : (hands M c ((d, su) :: hs) r S).W N C B T E := by
  simp only [hands, hm]; exact h
theorem W_pass {M : ExT} {c d : Ex} {su : SemS} {hs : List (Ex × SemS)} (hm : M c d = some false) (h : (hands M c hs r S).W N C B T E) : (hands M c ((d, su) :: hs) r S).W N C B T E := by
  simp only [hands, hm]; exact h
theorem W_tryAs {M : ExT} {b : SemS} {d : Ex} {i : Nat} {su : PySem.Addr → Ex → SemS} (h : (b r S).W N C B T (fun c r1 S1 => M c d = some true ∧ ∃ o : R, (∀ a, unsetR i (su a c (r1.set i (some (.fn a))) S1) = o) ∧ o.W N C B T E)) : (tryAsS M b d i su r S).W N C B T E := by
  unfold tryAsS
  have h := h.run
  revert h
  cases b r S with
  | err c r1 S1 =>
    rintro ⟨h1, o, h2, h3⟩
    simp only [h1]
    rw [uniR_of h2]
    exact h3
  | nx r S => exact fun h => ⟨h⟩
  | ct r S => exact fun h => ⟨h⟩
  | brk r S => exact fun h => ⟨h⟩
  | ret d S => exact fun h => ⟨h⟩
  | stuck => exact fun h => ⟨h⟩
theorem Ws_tryAs {M : ExT} {b g : SemS} {d : Ex} {i : Nat} {su : PySem.Addr → Ex → SemS} (h : (b r S).W (fun r S => (g r S).W N C B T E) C B T (fun c r1 S1 => M c d = some true ∧ ∃ o : R, (∀ a, unsetR i (su a c (r1.set i (some (.fn a))) S1) = o) ∧ o.W (fun r S => (g r S).W N C B T E) C B T E)) : (seqS (tryAsS M b d i su) g r S).W N C B T E :=
  Ws_seq (W_tryAs h)
theorem x_isx {a : PySem.Addr} {c d : Ex} {M : ExT} {i : Nat} {z : Bool} (h : r[i]? = some (some (.fn a))) (hm : M c d = some z) : isxE a c M i d r S = .ok (.bl z) S := by
  unfold isxE; simp only [h, hm, if_true]
theorem x_rgN {f : Sem D} {n : Nat} (h : f r S = .ok (.int (n : Nat)) S1) (hn : n ≤ 100000) : rgLst (ends1 f) r S = .ok (.lst (upto n)) S1 := by
  have hb : rgOkB 0 (n : Nat) = true := by
    unfold rgOkB inR
    simp only [Bool.and_eq_true, decide_eq_true_eq]
    refine ⟨⟨by omega, by omega⟩, ⟨by omega, by omega⟩, by omega⟩
  have e : (((n : Nat) : Int) - 0).toNat = n := by omega
  unfold rgLst ends1
  rw [x_bind, x_bind, h, bnd_ok]
  simp only [x_ret, bnd_ok, hb, if_true, e, rangeD0]
end
end Aw

/-! AwH: from the head's facts to the defs; the law's own call. -/
namespace Aw
open PySem L2 LamX
theorem funD_fun {K : PySem.W.Frag} {x : Str} {st : Stmt} {a : Addr} {fd : FuncData} (F : FunD K x x (defArgs st) (defBody st) (defScope st) [] [] a fd) : Fun K x x st a fd := by
  obtain ⟨⟨oc, od, dV, kV, doc, pm, an, cdv, ct, osl, h1, h2, h3, h4, _⟩, kp⟩ := F
  rcases h4 with ⟨_, rfl⟩ | ⟨e, _⟩
  · exact ⟨⟨oc, od, kV, doc, pm, an, cdv, ct, osl, h1, h2, h3⟩, kp⟩
  · exact absurd rfl e
/-- a def of the top -/
abbrev topD (x : Str) (st : Stmt) : He.DefD := ⟨(x, none), x, x, defArgs st, defBody st, defScope st, [], []⟩
section
variable {K : PySem.W.Frag} {h : Heap} {mg : Str → Option Value} {fa : List He.Fa} {fn : List He.DefD}
theorem txF_of (X : K.In h) (G : h.Ns mainGlobals mg) (c : He.SaysD fa fn K) (i j : Nat) {x : Str} {st : Stmt} (hi : fn[i]? = some (topD x st) := by rfl) (hj : fa[j]? = some (.glo x) := by rfl) : TxF K mg x st := by
  obtain ⟨fd, F⟩ := c.def_ i hi
  exact ⟨_, fd, He.glo_ok X G (c.fact j hj), funD_fun F⟩
theorem free_of (X : K.In h) (G : h.Ns mainGlobals mg) (c : He.SaysD fa fn K) (j : Nat) {x : Str} (hj : fa[j]? = some (.free x) := by rfl) : mg x = none := He.free_ok X G (c.fact j hj)
/-- the law's script -/
theorem law_sp {f : FSem} (hf : ∀ ns : List Int, ns.length ≤ 63 → f [.scr ns] = .ok (.bl true)) (H : Hp) (a : Addr) (ns : List Int) (hl : ns.length ≤ 63) (hS : SqL K H a (ns.map V.int)) : spP K [] 1 f [.ref a] H (fun v _ => v = .bl true) fun _ _ _ => False := by
  refine ⟨H, fun _ => none, [.scr ns], ⟨Le.refl H, fun _ _ e => (by cases e), fun _ _ _ => rfl, fun i j a e => (by simp at e), rfl, fun a ha => (by simp at ha), fun a ha => (by simp at ha), fun a ha => (by simp at ha), fun p hp => (by simp at hp), fun n c e => (by simp at e)⟩, ⟨.ref a, [], rfl, ⟨a, rfl, hS, hl⟩, rfl⟩, rfl, ?_⟩
  rw [hf ns hl]
  exact fun F' H' v _ _ hv => hv
theorem cx_done {P : Program} {w : World} (H : Hp) (s : Shared) (e : Value) (s' : Shared) (h : L2.CX P w [] H s (fun _ _ _ => False) e s') : False := by
  obtain ⟨_, _, _, _, _, _, _, _, _, _, _, _, h⟩ := h
  exact h
end
/-- the walk's goal, from what the law's def does to plain data -/
theorem walk_plain {l : PySem.W.OpenLaw} {lv : Nat} {vw : Program} {lo : List Str} {XP : (Str → Option Value) → Heap → Prop} {YP : World → Heap → Prop} {rec : DefRec} (h1 : l.most = some 63) (h2 : rec.params.defaults = []) (h3 : Room lv callerA)
    (go : ∀ (w : World) (mg : Str → Option Value) (fa : Addr) (hp : Heap), YP w hp → hp.Ns mainGlobals mg → mg rec.name = some (.ref fa) →
      ∃ (K : PySem.W.Frag) (fd : FuncData) (f : FSem), K.In hp ∧ (∀ (s : Shared) (v : Value), BindsTo s fd ⟨[v], []⟩ [("script", v)]) ∧ (∀ ns : List Int, ns.length ≤ 63 → f [.scr ns] = .ok (.bl true)) ∧
        ∀ base : Heap, K.In base → base.Ns mainGlobals mg → FnOk l.prog w K mg base (L2.CX l.prog w) lv fa fd ["script"] (spP K [] 1 f)) :
    PySem.W.WalkO vw lo XP YP l.row.toRowW rec [] fun f vs => PySem.call f vs := by
  refine Att.attach_call h1 h2 fun w st0 st1 mg mb fa ob pm cd doc ad vals ns G Y q1 q2 q3 q4 q5 q6 q7 q8 => ?_
  obtain ⟨K, fd, f, k1, k2, k3, k4⟩ := go w mg fa _ Y G.T.g q4
  exact law_call k1 G.T.g G.T.b G.T.builtins G.T.nolimit q8 q5 q6 (Nat.le_trans q7 (by decide)) h3 k4 k2 (fun H _ hS => law_sp k3 H ad ns q7 hS) fun H e s' => cx_done H st1 e s'
end Aw
namespace Aw
open PySem L2 LamX
/-- the head's Hook, with what the text's exception classes are -/
def hookX (n : Nat) (fa : List He.Fa) (fn : List He.DefD) (ex : List (Ex × Ex × Bool)) : PySem.W.Hook where
  α := Bool × He.AlD
  obs := fun s => (exOk (He.frG s.heap.get? (He.asD s.heap.get? n)) ex, He.obsDG n fa fn s.heap.get?)
  val := fun _ => (true, He.valD fn)
  says := fun _ h => ∃ K : PySem.W.Frag, K.In h ∧ He.SaysD fa fn K ∧ exOk K ex = true
  of := fun _ _ e => ⟨_, He.frG_in, congrArg (fun z : Bool × He.AlD => z.2) e, congrArg (fun z : Bool × He.AlD => z.1) e⟩
  keeps := fun _ _ _ ⟨K, k1, k2, k3⟩ q => ⟨K, PySem.W.Frag.In.keeps k1 q, k2, k3⟩
def obsX (n : Nat) (fa : List He.Fa) (fn : List He.DefD) (ex : List (Ex × Ex × Bool)) (g : Addr → Option Obj) : Bool × He.AlD := (exOk (He.frG g (He.asD g n)) ex, He.obsDG n fa fn g)
theorem obsX_eq {n : Nat} {fa : List He.Fa} {fn : List He.DefD} {ex : List (Ex × Ex × Bool)} {g : Addr → Option Obj} {s : Shared} (h : ∀ a, g a = s.heap.get? a) : obsX n fa fn ex g = (hookX n fa fn ex).obs s := by
  have e : g = s.heap.get? := funext h
  rw [e] <;> rfl
theorem exF_of {K : PySem.W.Frag} {h : Heap} {mg : Str → Option Value} {fa : List He.Fa} {fn : List He.DefD} (X : K.In h) (G : h.Ns mainGlobals mg) (c : He.SaysD fa fn K) (i j : Nat) {x : Str} (hi : fa[i]? = some (.glo x) := by rfl) (hj : fa[j]? = some (.exc x) := by rfl) : ExF K mg x :=
  ⟨He.glo_ok X G (c.fact i hi), c.fact j hj⟩
end Aw

noncomputable section
namespace K75
open PySem L2 LamX Aw
def top (i : Nat) : Stmt := PySem.Challenge.pw_askwide_k75_bad_pieces.main.body.getD i (.Pass ⟨0, 0, 0, 0⟩)
def exL : List (Ex × Ex × Bool) := [(.own "AskError", .own "AskError", true), (.own "AskError", .own "BadBallot", false), (.own "AskError", .own "BadOrder", false), (.own "AskError", .own "BadParts", false), (.own "AskError", .own "NotAlike", false), (.own "AskError", .bt "ValueError", true), (.own "BadBallot", .own "AskError", true), (.own "BadBallot", .own "BadBallot", true), (.own "BadBallot", .own "BadOrder", false), (.own "BadBallot", .own "BadParts", false), (.own "BadBallot", .own "NotAlike", false), (.own "BadBallot", .bt "ValueError", true), (.own "BadOrder", .own "AskError", true), (.own "BadOrder", .own "BadBallot", false), (.own "BadOrder", .own "BadOrder", true), (.own "BadOrder", .own "BadParts", false), (.own "BadOrder", .own "NotAlike", false), (.own "BadOrder", .bt "ValueError", true), (.own "BadParts", .own "AskError", true), (.own "BadParts", .own "BadBallot", false), (.own "BadParts", .own "BadOrder", false), (.own "BadParts", .own "BadParts", true), (.own "BadParts", .own "NotAlike", false), (.own "BadParts", .bt "ValueError", true), (.own "NotAlike", .own "AskError", true), (.own "NotAlike", .own "BadBallot", false), (.own "NotAlike", .own "BadOrder", false), (.own "NotAlike", .own "BadParts", false), (.own "NotAlike", .own "NotAlike", true), (.own "NotAlike", .bt "ValueError", true)]
def exM : ExT := exLook exL
def t_breaker : (st : Stmt) ×' (top 7 = st) := by
  refine ⟨?s, ?h⟩
  case h => (conv => lhs; whnf)
def s_breaker : Stmt := t_breaker.1
abbrev N_breaker : List Str := ["table", "things", "other", "beaten", "one"]
abbrev p_breaker : List Str := ["table", "things"]
theorem sc_breaker : FnScope N_breaker p_breaker (defScope s_breaker) := ⟨rfl, rfl, rfl, by decide +kernel, rfl, by decide +kernel, by decide +kernel⟩
def b_breaker : SemS := (seqS (forS (itRange1 (consA (callB lenG (consA (vE 0) nilA)) nilA)) (.one 2) (ifS (testE (op2 notInG (vE 2) (vE 1))) (seqS (setS (lcE (itSeq (vE 1)) (.one 4) [4] (testE (op2 ixG (op2 ixG (vE 0) (vE 2)) (vE 4))) (vE 4)) (.one 3))
  (ifS (testE (chainE ltI ltI (retO (.int 0)) (callB lenG (consA (vE 3) nilA)) (callB lenG (consA (vE 1) nilA)))) (retS (vE 2)) skipS)) skipS))
  (retS (op1 negG (retO (.int 1)))))
def f_breaker : FSem := fnOut 5 b_breaker
theorem ok_breaker {P : Program} {w : World} {K : PySem.W.Frag} {T : List (Addr × Str)} {mg : Str → Option Value} {base : Heap} (B : Bt mg) {a : Addr} {fd : FuncData} (F : Fun K "breaker" "breaker" s_breaker a fd) : FnOk P w K mg base (L2.CX P w) 1 a fd p_breaker (spP K T 2 f_breaker) :=
  fnP (body := b_breaker) (n := 5) F sc_breaker rfl fun cdv A outer s H E hc => 
  (pdb_cons (pds_for hc (pdi_range1 rfl B.range (pda_cons (pd_callB (x := "len") call_len calld_len rfl B.len boot_len' (pda_cons (pd_var 0) pda_nil)) pda_nil)) (tg_one 2 hc.nd) (pdb_one (pds_if (t_notIn hc (pd_var 2) (pd_var 1)) (pdb_cons (pds_lc 3 hc (sw_true rfl rfl rfl (by decide +kernel)) (pdi_seq (pd_var 1)) (blkOk_by (own := [("one", 4)]) (by rfl)) (by decide) (fun _ _ _ _ _ => (tg_one 4 (hc.blk).nd)) (fun _ _ _ _ _ => (pts_if (pt_of (d_ix (d_ix (pd_var 0) (pd_var 2)) (pd_var 4))))) (fun _ _ _ _ _ => (pd_var 4)))
  (pdb_one (pds_if (t_ltlt pd_int (pd_callB (x := "len") call_len calld_len rfl B.len boot_len' (pda_cons (pd_var 3) pda_nil)) (pd_callB (x := "len") call_len calld_len rfl B.len boot_len' (pda_cons (pd_var 1) pda_nil))) (pdb_one (pds_ret (pd_var 2))) pdb_nil))) pdb_nil)))
  (pdb_one (pds_ret (d_neg pd_int))))
theorem bd_breaker : BindsTx "breaker" s_breaker p_breaker := fun _ _ _ _ _ _ us hl => match us, hl with | [_, _], _ => rfl
theorem d_breaker {P : Program} {w : World} {K : PySem.W.Frag} {T : List (Addr × Str)} {mg : Str → Option Value} {base : Heap} (B : Bt mg) (Tx : TxF K mg "breaker" s_breaker) : FnD P w K T mg base "breaker" 1 2 f_breaker := fnD_mk p_breaker Tx rfl bd_breaker fun a fd F => ok_breaker B F

def t_stands_together : (st : Stmt) ×' (top 8 = st) := by
  refine ⟨?s, ?h⟩
  case h => (conv => lhs; whnf)
def s_stands_together : Stmt := t_stands_together.1
abbrev N_stands_together : List Str := ["table", "things"]
abbrev p_stands_together : List Str := ["table", "things"]
theorem sc_stands_together : FnScope N_stands_together p_stands_together (defScope s_stands_together) := ⟨rfl, rfl, rfl, by decide +kernel, rfl, by decide +kernel, by decide +kernel⟩
def b_stands_together : SemS := (retS (op2 ltI (callF 2 f_breaker (consA (vE 0) (consA (vE 1) nilA))) (retO (.int 0))))
def f_stands_together : FSem := fnOut 2 b_stands_together
theorem ok_stands_together {P : Program} {w : World} {K : PySem.W.Frag} {T : List (Addr × Str)} {mg : Str → Option Value} {base : Heap} (B : Bt mg) (h_breaker : FnD P w K T mg base "breaker" 1 2 f_breaker) {a : Addr} {fd : FuncData} (F : Fun K "stands_together" "stands_together" s_stands_together a fd) : FnOk P w K mg base (L2.CX P w) 2 a fd p_stands_together (spP K T 2 f_stands_together) :=
  fnP (body := b_stands_together) (n := 2) F sc_stands_together rfl fun cdv A outer s H E hc => 
  (pdb_one (pds_ret (d_lt (pd_call (x := "breaker") hc h_breaker (by decide) rfl (pda_cons (pd_var 0) (pda_cons (pd_var 1) pda_nil))) pd_int)))
theorem bd_stands_together : BindsTx "stands_together" s_stands_together p_stands_together := fun _ _ _ _ _ _ us hl => match us, hl with | [_, _], _ => rfl
theorem d_stands_together {P : Program} {w : World} {K : PySem.W.Frag} {T : List (Addr × Str)} {mg : Str → Option Value} {base : Heap} (B : Bt mg) (Tx : TxF K mg "stands_together" s_stands_together) (h_breaker : FnD P w K T mg base "breaker" 1 2 f_breaker) : FnD P w K T mg base "stands_together" 2 2 f_stands_together := fnD_mk p_stands_together Tx rfl bd_stands_together fun a fd F => ok_stands_together B h_breaker F

def t_places_of : (st : Stmt) ×' (top 10 = st) := by
  refine ⟨?s, ?h⟩
  case h => (conv => lhs; whnf)
def s_places_of : Stmt := t_places_of.1
abbrev N_places_of : List Str := ["pieces", "many", "places", "k", "piece", "thing"]
abbrev p_places_of : List Str := ["pieces", "many"]
theorem sc_places_of : FnScope N_places_of p_places_of (defScope s_places_of) := ⟨rfl, rfl, rfl, by decide +kernel, rfl, by decide +kernel, by decide +kernel⟩
def b_places_of : SemS := (seqS (setS (lcC (itRange1 (consA (vE 1) nilA)) (.one 5) [5] yesT (op1 negG (retO (.int 1)))) (.one 2))
  (seqS (forS (itEnum (consA (vE 0) nilA)) (.many [3, 4]) (seqS (ifS (testE (op2 eqG (vE 4) (lstE nilA))) (raiseS (.own "BadParts")) skipS)
  (forS (itSeq (vE 4)) (.one 5) (seqS (ifS (orT (testE (op2 ltI (vE 5) (retO (.int 0)))) (orT (testE (op2 geI (vE 5) (vE 1))) (testE (op2 geI (op2 ixG (vE 2) (vE 5)) (retO (.int 0)))))) (raiseS (.own "BadParts")) skipS)
  (asgS (vE 3) (subT setL (vE 2) (vE 5)))))))
  (seqS (ifS (testE (op2 inG (op1 negG (retO (.int 1))) (vE 2))) (raiseS (.own "BadParts")) skipS)
  (retS (vE 2)))))
def f_places_of : FSem := fnOut 6 b_places_of
theorem ok_places_of {P : Program} {w : World} {K : PySem.W.Frag} {T : List (Addr × Str)} {mg : Str → Option Value} {base : Heap} (B : Bt mg) (X_BadParts : ExF K mg "BadParts") {a : Addr} {fd : FuncData} (F : Fun K "places_of" "places_of" s_places_of a fd) : FnOk P w K mg base (L2.CX P w) 1 a fd p_places_of (spP K T 2 f_places_of) :=
  fnP (body := b_places_of) (n := 6) F sc_places_of rfl fun cdv A outer s H E hc => 
  (pdb_cons (pds_lcC 2 hc (sw_true rfl rfl rfl (by decide +kernel)) (pdi_range1 rfl B.range (pda_cons (pd_var 1) pda_nil)) (blkOk_by (own := [("thing", 5)]) (by rfl)) (by decide) (fun _ _ _ _ _ => (tg_one 5 (hc.blk).nd)) (fun _ _ _ _ _ => pts_yes) (fun _ _ _ _ _ => (d_neg pd_int)))
  (pdb_cons (pds_for hc (pdi_enum rfl B.enumerate (pda_cons (pd_var 0) pda_nil)) (tg_many hc.calm (tgs_cons (tg_one 3 hc.nd) (tgs_cons (tg_one 4 hc.nd) tgs_nil))) (pdb_cons (pds_if (t_eq hc (pd_var 4) (pd_lst pda_nil)) (pdb_one (pds_raise hc X_BadParts rfl)) pdb_nil)
  (pdb_one (pds_for hc (pdi_seq (pd_var 4)) (tg_one 5 hc.nd) (pdb_cons (pds_if (pt_w (pw_or' (t_lt (pd_var 5) pd_int) (pw_or' (t_ge (pd_var 5) (pd_var 1)) (pw_or1' (t_ge (d_ix (pd_var 2) (pd_var 5)) pd_int))))) (pdb_one (pds_raise hc X_BadParts rfl)) pdb_nil)
  (pdb_one (pds_asgG (pd_var 3) (g_sub (pg_sub (pd_var 2) (pd_var 5) set_list)) (subT_nx _ _ _))))))))
  (pdb_cons (pds_if (t_in hc (d_neg pd_int) (pd_var 2)) (pdb_one (pds_raise hc X_BadParts rfl)) pdb_nil)
  (pdb_one (pds_ret (pd_var 2))))))
theorem bd_places_of : BindsTx "places_of" s_places_of p_places_of := fun _ _ _ _ _ _ us hl => match us, hl with | [_, _], _ => rfl
theorem d_places_of {P : Program} {w : World} {K : PySem.W.Frag} {T : List (Addr × Str)} {mg : Str → Option Value} {base : Heap} (B : Bt mg) (Tx : TxF K mg "places_of" s_places_of) (X_BadParts : ExF K mg "BadParts") : FnD P w K T mg base "places_of" 1 2 f_places_of := fnD_mk p_places_of Tx rfl bd_places_of fun a fd F => ok_places_of B X_BadParts F

def t_folded : (st : Stmt) ×' (top 11 = st) := by
  refine ⟨?s, ?h⟩
  case h => (conv => lhs; whnf)
def s_folded : Stmt := t_folded.1
abbrev N_folded : List Str := ["table", "pieces", "piece", "heads", "rows", "one", "other"]
abbrev p_folded : List Str := ["table", "pieces"]
theorem sc_folded : FnScope N_folded p_folded (defScope s_folded) := ⟨rfl, rfl, rfl, by decide +kernel, rfl, by decide +kernel, by decide +kernel⟩
def b_folded : SemS := (seqS (dropS (callF 2 f_places_of (consA (vE 1) (consA (callB lenG (consA (vE 0) nilA)) nilA))))
  (seqS (forS (itSeq (vE 1)) (.one 2) (ifS (notT (testE (callF 2 f_stands_together (consA (vE 0) (consA (vE 2) nilA))))) (raiseS (.own "BadParts")) skipS))
  (seqS (setS (lcE (itSeq (vE 1)) (.one 2) [2] yesT (op2 ixG (vE 2) (retO (.int 0)))) (.one 3))
  (seqS (setS (lstC nilA) (.one 4))
  (seqS (forS (itSeq (vE 3)) (.one 5) (dropS (methL appendG (vE 4) (consA (lcE (itSeq (vE 3)) (.one 6) [6] yesT (op2 ixG (op2 ixG (vE 0) (vE 5)) (vE 6))) nilA))))
  (retS (vE 4)))))))
def f_folded : FSem := fnOut 7 b_folded
theorem ok_folded {P : Program} {w : World} {K : PySem.W.Frag} {T : List (Addr × Str)} {mg : Str → Option Value} {base : Heap} (B : Bt mg) (X_BadParts : ExF K mg "BadParts") (h_places_of : FnD P w K T mg base "places_of" 1 2 f_places_of) (h_stands_together : FnD P w K T mg base "stands_together" 2 2 f_stands_together) {a : Addr} {fd : FuncData} (F : Fun K "folded" "folded" s_folded a fd) : FnOk P w K mg base (L2.CX P w) 3 a fd p_folded (spP K T 2 f_folded) :=
  fnP (body := b_folded) (n := 7) F sc_folded rfl fun cdv A outer s H E hc => 
  (pdb_cons (pds_expr (pd_call (x := "places_of") hc h_places_of (by decide) rfl (pda_cons (pd_var 1) (pda_cons (pd_callB (x := "len") call_len calld_len rfl B.len boot_len' (pda_cons (pd_var 0) pda_nil)) pda_nil))))
  (pdb_cons (pds_for hc (pdi_seq (pd_var 1)) (tg_one 2 hc.nd) (pdb_one (pds_if (pt_not' (pt_of (pd_call (x := "stands_together") hc h_stands_together (by decide) rfl (pda_cons (pd_var 0) (pda_cons (pd_var 2) pda_nil))))) (pdb_one (pds_raise hc X_BadParts rfl)) pdb_nil)))
  (pdb_cons (pds_lc 3 hc (sw_true rfl rfl rfl (by decide +kernel)) (pdi_seq (pd_var 1)) (blkOk_by (own := [("piece", 2)]) (by rfl)) (by decide) (fun _ _ _ _ _ => (tg_one 2 (hc.blk).nd)) (fun _ _ _ _ _ => pts_yes) (fun _ _ _ _ _ => (d_ix (pd_var 2) pd_int)))
  (pdb_cons (pds_set 4 hc (pd_lstC pda_nil))
  (pdb_cons (pds_for hc (pdi_seq (pd_var 3)) (tg_one 5 hc.nd) (pdb_one (pds_expr (pd_ml PySem.F.slot_list_append PySem.F.type_list_append mt_append methd_append (pd_var 4) (pda_cons (pd_lc hc (pdi_seq (pd_var 3)) (blkOk_by (own := [("other", 6)]) (by rfl)) (by decide) (fun _ _ _ _ _ => (tg_one 6 (hc.blk).nd)) (fun _ _ _ _ _ => pts_yes) (fun _ _ _ _ _ => (d_ix (d_ix (pd_var 0) (pd_var 5)) (pd_var 6)))) pda_nil)))))
  (pdb_one (pds_ret (pd_var 4))))))))
theorem bd_folded : BindsTx "folded" s_folded p_folded := fun _ _ _ _ _ _ us hl => match us, hl with | [_, _], _ => rfl
theorem d_folded {P : Program} {w : World} {K : PySem.W.Frag} {T : List (Addr × Str)} {mg : Str → Option Value} {base : Heap} (B : Bt mg) (Tx : TxF K mg "folded" s_folded) (X_BadParts : ExF K mg "BadParts") (h_places_of : FnD P w K T mg base "places_of" 1 2 f_places_of) (h_stands_together : FnD P w K T mg base "stands_together" 2 2 f_stands_together) : FnD P w K T mg base "folded" 3 2 f_folded := fnD_mk p_folded Tx rfl bd_folded fun a fd F => ok_folded B X_BadParts h_places_of h_stands_together F

def t__law_cell_at : (st : Stmt) ×' (top 13 = st) := by
  refine ⟨?s, ?h⟩
  case h => (conv => lhs; whnf)
def s__law_cell_at : Stmt := t__law_cell_at.1
abbrev N__law_cell_at : List Str := ["script", "k"]
abbrev p__law_cell_at : List Str := ["script", "k"]
theorem sc__law_cell_at : FnScope N__law_cell_at p__law_cell_at (defScope s__law_cell_at) := ⟨rfl, rfl, rfl, by decide +kernel, rfl, by decide +kernel, by decide +kernel⟩
def b__law_cell_at : SemS := (seqS (ifS (testE (op2 ltI (vE 1) (callB lenG (consA (vE 0) nilA)))) (retS (op2 ixG (vE 0) (vE 1))) skipS)
  (retS (retO (.int 0))))
def f__law_cell_at : FSem := fnOut 2 b__law_cell_at
theorem ok__law_cell_at {P : Program} {w : World} {K : PySem.W.Frag} {T : List (Addr × Str)} {mg : Str → Option Value} {base : Heap} (B : Bt mg) {a : Addr} {fd : FuncData} (F : Fun K "_law_cell_at" "_law_cell_at" s__law_cell_at a fd) : FnOk P w K mg base (L2.CX P w) 1 a fd p__law_cell_at (spP K T 2 f__law_cell_at) :=
  fnP (body := b__law_cell_at) (n := 2) F sc__law_cell_at rfl fun cdv A outer s H E hc => 
  (pdb_cons (pds_if (t_lt (pd_var 1) (pd_callB (x := "len") call_len calld_len rfl B.len boot_len' (pda_cons (pd_var 0) pda_nil))) (pdb_one (pds_ret (d_ix (pd_var 0) (pd_var 1)))) pdb_nil)
  (pdb_one (pds_ret pd_int)))
theorem bd__law_cell_at : BindsTx "_law_cell_at" s__law_cell_at p__law_cell_at := fun _ _ _ _ _ _ us hl => match us, hl with | [_, _], _ => rfl
theorem d__law_cell_at {P : Program} {w : World} {K : PySem.W.Frag} {T : List (Addr × Str)} {mg : Str → Option Value} {base : Heap} (B : Bt mg) (Tx : TxF K mg "_law_cell_at" s__law_cell_at) : FnD P w K T mg base "_law_cell_at" 1 2 f__law_cell_at := fnD_mk p__law_cell_at Tx rfl bd__law_cell_at fun a fd F => ok__law_cell_at B F

def t__law_table_by : (st : Stmt) ×' (top 14 = st) := by
  refine ⟨?s, ?h⟩
  case h => (conv => lhs; whnf)
def s__law_table_by : Stmt := t__law_table_by.1
abbrev N__law_table_by : List Str := ["cell", "many", "rows", "rest", "one", "other", "k"]
abbrev p__law_table_by : List Str := ["cell", "many"]
theorem sc__law_table_by : FnScope N__law_table_by p__law_table_by (defScope s__law_table_by) := ⟨rfl, rfl, rfl, by decide +kernel, rfl, by decide +kernel, by decide +kernel⟩
def b__law_table_by : SemS := (seqS (setS (lcC (itRange1 (consA (vE 1) nilA)) (.one 6) [6] yesT (op2 mulGC (lstE (consA (retO (.bl false)) nilA)) (vE 1))) (.one 2))
  (seqS (setS (op2 modI (op2 mulG (vE 0) (retO (.int 48271))) (retO (.int 2147483647))) (.one 3))
  (seqS (forS (itRange1 (consA (vE 1) nilA)) (.one 4) (forS (itRange2 (consA (op2 addG (vE 4) (retO (.int 1))) (consA (vE 1) nilA))) (.one 5) (seqS (asgS (op2 eqG (op2 modI (vE 3) (retO (.int 2))) (retO (.int 0))) (subT setL (op2 ixG (vE 2) (vE 4)) (vE 5)))
  (seqS (asgS (op2 eqG (op2 modI (vE 3) (retO (.int 2))) (retO (.int 1))) (subT setL (op2 ixG (vE 2) (vE 5)) (vE 4)))
  (setS (op2 fdivI (vE 3) (retO (.int 2))) (.one 3))))))
  (retS (vE 2)))))
def f__law_table_by : FSem := fnOut 7 b__law_table_by
theorem ok__law_table_by {P : Program} {w : World} {K : PySem.W.Frag} {T : List (Addr × Str)} {mg : Str → Option Value} {base : Heap} (B : Bt mg) {a : Addr} {fd : FuncData} (F : Fun K "_law_table_by" "_law_table_by" s__law_table_by a fd) : FnOk P w K mg base (L2.CX P w) 1 a fd p__law_table_by (spP K T 2 f__law_table_by) :=
  fnP (body := b__law_table_by) (n := 7) F sc__law_table_by rfl fun cdv A outer s H E hc => 
  (pdb_cons (pds_lcC 2 hc (sw_true rfl rfl rfl (by decide +kernel)) (pdi_range1 rfl B.range (pda_cons (pd_var 1) pda_nil)) (blkOk_by (own := [("k", 6)]) (by rfl)) (by decide) (fun _ _ _ _ _ => (tg_one 6 (hc.blk).nd)) (fun _ _ _ _ _ => pts_yes) (fun _ _ _ _ _ => (d_mulC (pd_lst (pda_cons pd_bl pda_nil)) (pd_var 1))))
  (pdb_cons (pds_set 3 hc (d_mod (d_mul (pd_var 0) pd_int) pd_int))
  (pdb_cons (pds_for hc (pdi_range1 rfl B.range (pda_cons (pd_var 1) pda_nil)) (tg_one 4 hc.nd) (pdb_one (pds_for hc (pdi_range2 rfl B.range (pda_cons (d_add (pd_var 4) pd_int) (pda_cons (pd_var 1) pda_nil))) (tg_one 5 hc.nd) (pdb_cons (pds_asgG (d_eq hc (d_mod (pd_var 3) pd_int) pd_int) (g_sub (pg_sub (d_ix (pd_var 2) (pd_var 4)) (pd_var 5) set_list)) (subT_nx _ _ _))
  (pdb_cons (pds_asgG (d_eq hc (d_mod (pd_var 3) pd_int) pd_int) (g_sub (pg_sub (d_ix (pd_var 2) (pd_var 5)) (pd_var 4) set_list)) (subT_nx _ _ _))
  (pdb_one (pds_set 3 hc (d_fdiv (pd_var 3) pd_int))))))))
  (pdb_one (pds_ret (pd_var 2))))))
theorem bd__law_table_by : BindsTx "_law_table_by" s__law_table_by p__law_table_by := fun _ _ _ _ _ _ us hl => match us, hl with | [_, _], _ => rfl
theorem d__law_table_by {P : Program} {w : World} {K : PySem.W.Frag} {T : List (Addr × Str)} {mg : Str → Option Value} {base : Heap} (B : Bt mg) (Tx : TxF K mg "_law_table_by" s__law_table_by) : FnD P w K T mg base "_law_table_by" 1 2 f__law_table_by := fnD_mk p__law_table_by Tx rfl bd__law_table_by fun a fd F => ok__law_table_by B F

def t__law_mixed : (st : Stmt) ×' (top 15 = st) := by
  refine ⟨?s, ?h⟩
  case h => (conv => lhs; whnf)
def s__law_mixed : Stmt := t__law_mixed.1
abbrev N__law_mixed : List Str := ["script", "many", "outer", "inner", "homes", "k", "cell", "most", "size", "at", "turn"]
abbrev p__law_mixed : List Str := ["script"]
theorem sc__law_mixed : FnScope N__law_mixed p__law_mixed (defScope s__law_mixed) := ⟨rfl, rfl, rfl, by decide +kernel, rfl, by decide +kernel, by decide +kernel⟩
def b__law_mixed : SemS := (seqS (setS (op2 addG (retO (.int 1)) (op2 modI (callF 2 f__law_cell_at (consA (vE 0) (consA (retO (.int 0)) nilA))) (retO (.int 4)))) (.one 1))
  (seqS (ifS (testE (op2 eqG (op2 modI (op2 fdivI (callF 2 f__law_cell_at (consA (vE 0) (consA (retO (.int 0)) nilA))) (retO (.int 4))) (retO (.int 4))) (retO (.int 1)))) (setS (op2 addG (vE 1) (retO (.int 4))) (.one 1)) skipS)
  (seqS (setS (callF 2 f__law_table_by (consA (callF 2 f__law_cell_at (consA (vE 0) (consA (retO (.int 1)) nilA))) (consA (vE 1) nilA))) (.one 2))
  (seqS (setS (lstC nilA) (.one 3))
  (seqS (setS (lstC nilA) (.one 4))
  (seqS (forS (itRange1 (consA (callB lenG (consA (vE 2) nilA)) nilA)) (.one 5) (seqS (setS (callF 2 f__law_cell_at (consA (vE 0) (consA (op2 addG (retO (.int 2)) (vE 5)) nilA))) (.one 6))
  (seqS (setS (op2 addG (op2 subI (op2 subI (retO (.int 9)) (callB lenG (consA (vE 4) nilA))) (callB lenG (consA (vE 2) nilA))) (vE 5)) (.one 7))
  (seqS (setS (op2 ixG (lstE (consA (retO (.int 1)) (consA (callB min2G (consA (retO (.int 3)) (consA (vE 7) nilA))) (consA (op2 addG (retO (.int 1)) (op2 modI (op2 fdivI (vE 6) (retO (.int 4))) (vE 7))) nilA)))) (callB min2G (consA (op2 modI (vE 6) (retO (.int 4))) (consA (retO (.int 2)) nilA)))) (.one 8))
  (seqS (dropS (methL appendG (vE 3) (consA (callF 2 f__law_table_by (consA (op2 fdivI (vE 6) (retO (.int 32))) (consA (vE 8) nilA))) nilA)))
  (forS (itRange1 (consA (vE 8) nilA)) (.one 9) (seqS (setS (op2 modI (callF 2 f__law_cell_at (consA (vE 0) (consA (op2 addG (retO (.int 6)) (callB lenG (consA (vE 4) nilA))) nilA))) (op2 addG (callB lenG (consA (vE 4) nilA)) (retO (.int 1)))) (.one 10))
  (dropS (methL insertG (vE 4) (consA (vE 10) (consA (tupE (consA (vE 5) (consA (vE 9) nilA))) nilA)))))))))))
  (retS (lstE (consA (vE 2) (consA (vE 3) (consA (vE 4) nilA)))))))))))
def f__law_mixed : FSem := fnOut 11 b__law_mixed
theorem ok__law_mixed {P : Program} {w : World} {K : PySem.W.Frag} {T : List (Addr × Str)} {mg : Str → Option Value} {base : Heap} (B : Bt mg) (h__law_table_by : FnD P w K T mg base "_law_table_by" 1 2 f__law_table_by) (h__law_cell_at : FnD P w K T mg base "_law_cell_at" 1 2 f__law_cell_at) {a : Addr} {fd : FuncData} (F : Fun K "_law_mixed" "_law_mixed" s__law_mixed a fd) : FnOk P w K mg base (L2.CX P w) 2 a fd p__law_mixed (spP K T 1 f__law_mixed) :=
  fnP (body := b__law_mixed) (n := 11) F sc__law_mixed rfl fun cdv A outer s H E hc => 
  (pdb_cons (pds_set 1 hc (d_add pd_int (d_mod (pd_call (x := "_law_cell_at") hc h__law_cell_at (by decide) rfl (pda_cons (pd_var 0) (pda_cons pd_int pda_nil))) pd_int)))
  (pdb_cons (pds_if (t_eq hc (d_mod (d_fdiv (pd_call (x := "_law_cell_at") hc h__law_cell_at (by decide) rfl (pda_cons (pd_var 0) (pda_cons pd_int pda_nil))) pd_int) pd_int) pd_int) (pdb_one (pds_set 1 hc (d_add (pd_var 1) pd_int))) pdb_nil)
  (pdb_cons (pds_set 2 hc (pd_call (x := "_law_table_by") hc h__law_table_by (by decide) rfl (pda_cons (pd_call (x := "_law_cell_at") hc h__law_cell_at (by decide) rfl (pda_cons (pd_var 0) (pda_cons pd_int pda_nil))) (pda_cons (pd_var 1) pda_nil))))
  (pdb_cons (pds_set 3 hc (pd_lstC pda_nil))
  (pdb_cons (pds_set 4 hc (pd_lstC pda_nil))
  (pdb_cons (pds_for hc (pdi_range1 rfl B.range (pda_cons (pd_callB (x := "len") call_len calld_len rfl B.len boot_len' (pda_cons (pd_var 2) pda_nil)) pda_nil)) (tg_one 5 hc.nd) (pdb_cons (pds_set 6 hc (pd_call (x := "_law_cell_at") hc h__law_cell_at (by decide) rfl (pda_cons (pd_var 0) (pda_cons (d_add pd_int (pd_var 5)) pda_nil))))
  (pdb_cons (pds_set 7 hc (d_add (d_sub (d_sub pd_int (pd_callB (x := "len") call_len calld_len rfl B.len boot_len' (pda_cons (pd_var 4) pda_nil))) (pd_callB (x := "len") call_len calld_len rfl B.len boot_len' (pda_cons (pd_var 2) pda_nil))) (pd_var 5)))
  (pdb_cons (pds_set 8 hc (d_ix (pd_lst (pda_cons pd_int (pda_cons (pd_callB (x := "min") (call_min2 hc.calm) calld_min2 rfl B.min boot_min' (pda_cons pd_int (pda_cons (pd_var 7) pda_nil))) (pda_cons (d_add pd_int (d_mod (d_fdiv (pd_var 6) pd_int) (pd_var 7))) pda_nil)))) (pd_callB (x := "min") (call_min2 hc.calm) calld_min2 rfl B.min boot_min' (pda_cons (d_mod (pd_var 6) pd_int) (pda_cons pd_int pda_nil)))))
  (pdb_cons (pds_expr (pd_ml PySem.F.slot_list_append PySem.F.type_list_append mt_append methd_append (pd_var 3) (pda_cons (pd_call (x := "_law_table_by") hc h__law_table_by (by decide) rfl (pda_cons (d_fdiv (pd_var 6) pd_int) (pda_cons (pd_var 8) pda_nil))) pda_nil)))
  (pdb_one (pds_for hc (pdi_range1 rfl B.range (pda_cons (pd_var 8) pda_nil)) (tg_one 9 hc.nd) (pdb_cons (pds_set 10 hc (d_mod (pd_call (x := "_law_cell_at") hc h__law_cell_at (by decide) rfl (pda_cons (pd_var 0) (pda_cons (d_add pd_int (pd_callB (x := "len") call_len calld_len rfl B.len boot_len' (pda_cons (pd_var 4) pda_nil))) pda_nil))) (d_add (pd_callB (x := "len") call_len calld_len rfl B.len boot_len' (pda_cons (pd_var 4) pda_nil)) pd_int)))
  (pdb_one (pds_expr (pd_ml PySem.F.slot_list_insert PySem.F.type_list_insert mt_insert methd_insert (pd_var 4) (pda_cons (pd_var 10) (pda_cons (pd_tup (pda_cons (pd_var 5) (pda_cons (pd_var 9) pda_nil))) pda_nil)))))))))))))
  (pdb_one (pds_ret (pd_lst (pda_cons (pd_var 2) (pda_cons (pd_var 3) (pda_cons (pd_var 4) pda_nil))))))))))))
theorem bd__law_mixed : BindsTx "_law_mixed" s__law_mixed p__law_mixed := fun _ _ _ _ _ _ us hl => match us, hl with | [_], _ => rfl
theorem d__law_mixed {P : Program} {w : World} {K : PySem.W.Frag} {T : List (Addr × Str)} {mg : Str → Option Value} {base : Heap} (B : Bt mg) (Tx : TxF K mg "_law_mixed" s__law_mixed) (h__law_table_by : FnD P w K T mg base "_law_table_by" 1 2 f__law_table_by) (h__law_cell_at : FnD P w K T mg base "_law_cell_at" 1 2 f__law_cell_at) : FnD P w K T mg base "_law_mixed" 2 1 f__law_mixed := fnD_mk p__law_mixed Tx rfl bd__law_mixed fun a fd F => ok__law_mixed B h__law_table_by h__law_cell_at F

def t__law_beats : (st : Stmt) ×' (top 16 = st) := by
  refine ⟨?s, ?h⟩
  case h => (conv => lhs; whnf)
def s__law_beats : Stmt := t__law_beats.1
abbrev N__law_beats : List Str := ["mixed", "one", "other"]
abbrev p__law_beats : List Str := ["mixed", "one", "other"]
theorem sc__law_beats : FnScope N__law_beats p__law_beats (defScope s__law_beats) := ⟨rfl, rfl, rfl, by decide +kernel, rfl, by decide +kernel, by decide +kernel⟩
def b__law_beats : SemS := (seqS (ifS (testE (op2 eqG (op2 ixG (vE 1) (retO (.int 0))) (op2 ixG (vE 2) (retO (.int 0))))) (retS (op2 ixG (op2 ixG (op2 ixG (op2 ixG (vE 0) (retO (.int 1))) (op2 ixG (vE 1) (retO (.int 0)))) (op2 ixG (vE 1) (retO (.int 1)))) (op2 ixG (vE 2) (retO (.int 1))))) skipS)
  (retS (op2 ixG (op2 ixG (op2 ixG (vE 0) (retO (.int 0))) (op2 ixG (vE 1) (retO (.int 0)))) (op2 ixG (vE 2) (retO (.int 0))))))
def f__law_beats : FSem := fnOut 3 b__law_beats
theorem ok__law_beats {P : Program} {w : World} {K : PySem.W.Frag} {T : List (Addr × Str)} {mg : Str → Option Value} {base : Heap} (B : Bt mg) {a : Addr} {fd : FuncData} (F : Fun K "_law_beats" "_law_beats" s__law_beats a fd) : FnOk P w K mg base (L2.CX P w) 1 a fd p__law_beats (spP K T 3 f__law_beats) :=
  fnP (body := b__law_beats) (n := 3) F sc__law_beats rfl fun cdv A outer s H E hc => 
  (pdb_cons (pds_if (t_eq hc (d_ix (pd_var 1) pd_int) (d_ix (pd_var 2) pd_int)) (pdb_one (pds_ret (d_ix (d_ix (d_ix (d_ix (pd_var 0) pd_int) (d_ix (pd_var 1) pd_int)) (d_ix (pd_var 1) pd_int)) (d_ix (pd_var 2) pd_int)))) pdb_nil)
  (pdb_one (pds_ret (d_ix (d_ix (d_ix (pd_var 0) pd_int) (d_ix (pd_var 1) pd_int)) (d_ix (pd_var 2) pd_int)))))
theorem bd__law_beats : BindsTx "_law_beats" s__law_beats p__law_beats := fun _ _ _ _ _ _ us hl => match us, hl with | [_, _, _], _ => rfl
theorem d__law_beats {P : Program} {w : World} {K : PySem.W.Frag} {T : List (Addr × Str)} {mg : Str → Option Value} {base : Heap} (B : Bt mg) (Tx : TxF K mg "_law_beats" s__law_beats) : FnD P w K T mg base "_law_beats" 1 3 f__law_beats := fnD_mk p__law_beats Tx rfl bd__law_beats fun a fd F => ok__law_beats B F

def t__law_table : (st : Stmt) ×' (top 17 = st) := by
  refine ⟨?s, ?h⟩
  case h => (conv => lhs; whnf)
def s__law_table : Stmt := t__law_table.1
abbrev N__law_table : List Str := ["mixed", "rows", "one", "other"]
abbrev p__law_table : List Str := ["mixed"]
theorem sc__law_table : FnScope N__law_table p__law_table (defScope s__law_table) := ⟨rfl, rfl, rfl, by decide +kernel, rfl, by decide +kernel, by decide +kernel⟩
def b__law_table : SemS := (seqS (setS (lstC nilA) (.one 1))
  (seqS (forS (itSeq (op2 ixG (vE 0) (retO (.int 2)))) (.one 2) (dropS (methL appendG (vE 1) (consA (lcE (itSeq (op2 ixG (vE 0) (retO (.int 2)))) (.one 3) [3] yesT (callF 3 f__law_beats (consA (vE 0) (consA (vE 2) (consA (vE 3) nilA))))) nilA))))
  (retS (vE 1))))
def f__law_table : FSem := fnOut 4 b__law_table
theorem ok__law_table {P : Program} {w : World} {K : PySem.W.Frag} {T : List (Addr × Str)} {mg : Str → Option Value} {base : Heap} (B : Bt mg) (h__law_beats : FnD P w K T mg base "_law_beats" 1 3 f__law_beats) {a : Addr} {fd : FuncData} (F : Fun K "_law_table" "_law_table" s__law_table a fd) : FnOk P w K mg base (L2.CX P w) 2 a fd p__law_table (spP K T 1 f__law_table) :=
  fnP (body := b__law_table) (n := 4) F sc__law_table rfl fun cdv A outer s H E hc => 
  (pdb_cons (pds_set 1 hc (pd_lstC pda_nil))
  (pdb_cons (pds_for hc (pdi_seq (d_ix (pd_var 0) pd_int)) (tg_one 2 hc.nd) (pdb_one (pds_expr (pd_ml PySem.F.slot_list_append PySem.F.type_list_append mt_append methd_append (pd_var 1) (pda_cons (pd_lc hc (pdi_seq (d_ix (pd_var 0) pd_int)) (blkOk_by (own := [("other", 3)]) (by rfl)) (by decide) (fun _ _ _ _ _ => (tg_one 3 (hc.blk).nd)) (fun _ _ _ _ _ => pts_yes) (fun _ _ _ _ _ => (pd_call (x := "_law_beats") (hc.blk) h__law_beats (by decide) rfl (pda_cons (pd_var 0) (pda_cons (pd_var 2) (pda_cons (pd_var 3) pda_nil)))))) pda_nil)))))
  (pdb_one (pds_ret (pd_var 1)))))
theorem bd__law_table : BindsTx "_law_table" s__law_table p__law_table := fun _ _ _ _ _ _ us hl => match us, hl with | [_], _ => rfl
theorem d__law_table {P : Program} {w : World} {K : PySem.W.Frag} {T : List (Addr × Str)} {mg : Str → Option Value} {base : Heap} (B : Bt mg) (Tx : TxF K mg "_law_table" s__law_table) (h__law_beats : FnD P w K T mg base "_law_beats" 1 3 f__law_beats) : FnD P w K T mg base "_law_table" 2 1 f__law_table := fnD_mk p__law_table Tx rfl bd__law_table fun a fd F => ok__law_table B h__law_beats F

def t__law_pieces : (st : Stmt) ×' (top 18 = st) := by
  refine ⟨?s, ?h⟩
  case h => (conv => lhs; whnf)
def s__law_pieces : Stmt := t__law_pieces.1
abbrev N__law_pieces : List Str := ["mixed", "pieces", "k", "thing"]
abbrev p__law_pieces : List Str := ["mixed"]
theorem sc__law_pieces : FnScope N__law_pieces p__law_pieces (defScope s__law_pieces) := ⟨rfl, rfl, rfl, by decide +kernel, rfl, by decide +kernel, by decide +kernel⟩
def b__law_pieces : SemS := (seqS (setS (lstC nilA) (.one 1))
  (seqS (forS (itRange1 (consA (callB lenG (consA (op2 ixG (vE 0) (retO (.int 0))) nilA)) nilA)) (.one 2) (dropS (methL appendG (vE 1) (consA (lcE (itRange1 (consA (callB lenG (consA (op2 ixG (vE 0) (retO (.int 2))) nilA)) nilA)) (.one 3) [3] (testE (op2 eqG (op2 ixG (op2 ixG (op2 ixG (vE 0) (retO (.int 2))) (vE 3)) (retO (.int 0))) (vE 2))) (vE 3)) nilA))))
  (retS (vE 1))))
def f__law_pieces : FSem := fnOut 4 b__law_pieces
theorem ok__law_pieces {P : Program} {w : World} {K : PySem.W.Frag} {T : List (Addr × Str)} {mg : Str → Option Value} {base : Heap} (B : Bt mg) {a : Addr} {fd : FuncData} (F : Fun K "_law_pieces" "_law_pieces" s__law_pieces a fd) : FnOk P w K mg base (L2.CX P w) 1 a fd p__law_pieces (spP K T 1 f__law_pieces) :=
  fnP (body := b__law_pieces) (n := 4) F sc__law_pieces rfl fun cdv A outer s H E hc => 
  (pdb_cons (pds_set 1 hc (pd_lstC pda_nil))
  (pdb_cons (pds_for hc (pdi_range1 rfl B.range (pda_cons (pd_callB (x := "len") call_len calld_len rfl B.len boot_len' (pda_cons (d_ix (pd_var 0) pd_int) pda_nil)) pda_nil)) (tg_one 2 hc.nd) (pdb_one (pds_expr (pd_ml PySem.F.slot_list_append PySem.F.type_list_append mt_append methd_append (pd_var 1) (pda_cons (pd_lc hc (pdi_range1 rfl B.range (pda_cons (pd_callB (x := "len") call_len calld_len rfl B.len boot_len' (pda_cons (d_ix (pd_var 0) pd_int) pda_nil)) pda_nil)) (blkOk_by (own := [("thing", 3)]) (by rfl)) (by decide) (fun _ _ _ _ _ => (tg_one 3 (hc.blk).nd)) (fun _ _ _ _ _ => (pts_if (t_eq (hc.blk) (d_ix (d_ix (d_ix (pd_var 0) pd_int) (pd_var 3)) pd_int) (pd_var 2)))) (fun _ _ _ _ _ => (pd_var 3))) pda_nil)))))
  (pdb_one (pds_ret (pd_var 1)))))
theorem bd__law_pieces : BindsTx "_law_pieces" s__law_pieces p__law_pieces := fun _ _ _ _ _ _ us hl => match us, hl with | [_], _ => rfl
theorem d__law_pieces {P : Program} {w : World} {K : PySem.W.Frag} {T : List (Addr × Str)} {mg : Str → Option Value} {base : Heap} (B : Bt mg) (Tx : TxF K mg "_law_pieces" s__law_pieces) : FnD P w K T mg base "_law_pieces" 1 1 f__law_pieces := fnD_mk p__law_pieces Tx rfl bd__law_pieces fun a fd F => ok__law_pieces B F

def t__law_breaks : (st : Stmt) ×' (top 19 = st) := by
  refine ⟨?s, ?h⟩
  case h => (conv => lhs; whnf)
def s__law_breaks : Stmt := t__law_breaks.1
abbrev N__law_breaks : List Str := ["table", "things", "other", "beaten", "one"]
abbrev p__law_breaks : List Str := ["table", "things", "other"]
theorem sc__law_breaks : FnScope N__law_breaks p__law_breaks (defScope s__law_breaks) := ⟨rfl, rfl, rfl, by decide +kernel, rfl, by decide +kernel, by decide +kernel⟩
def b__law_breaks : SemS := (seqS (ifS (testE (op2 inG (vE 2) (vE 1))) (retS (retO (.bl false))) skipS)
  (seqS (setS (lcE (itSeq (vE 1)) (.one 4) [4] (testE (op2 ixG (op2 ixG (vE 0) (vE 2)) (vE 4))) (vE 4)) (.one 3))
  (retS (andE (op2 gtI (callB lenG (consA (vE 3) nilA)) (retO (.int 0))) (op2 ltI (callB lenG (consA (vE 3) nilA)) (callB lenG (consA (vE 1) nilA)))))))
def f__law_breaks : FSem := fnOut 5 b__law_breaks
theorem ok__law_breaks {P : Program} {w : World} {K : PySem.W.Frag} {T : List (Addr × Str)} {mg : Str → Option Value} {base : Heap} (B : Bt mg) {a : Addr} {fd : FuncData} (F : Fun K "_law_breaks" "_law_breaks" s__law_breaks a fd) : FnOk P w K mg base (L2.CX P w) 1 a fd p__law_breaks (spP K T 3 f__law_breaks) :=
  fnP (body := b__law_breaks) (n := 5) F sc__law_breaks rfl fun cdv A outer s H E hc => 
  (pdb_cons (pds_if (t_in hc (pd_var 2) (pd_var 1)) (pdb_one (pds_ret pd_bl)) pdb_nil)
  (pdb_cons (pds_lc 3 hc (sw_true rfl rfl rfl (by decide +kernel)) (pdi_seq (pd_var 1)) (blkOk_by (own := [("one", 4)]) (by rfl)) (by decide) (fun _ _ _ _ _ => (tg_one 4 (hc.blk).nd)) (fun _ _ _ _ _ => (pts_if (pt_of (d_ix (d_ix (pd_var 0) (pd_var 2)) (pd_var 4))))) (fun _ _ _ _ _ => (pd_var 4)))
  (pdb_one (pds_ret (pd_and (d_gt (pd_callB (x := "len") call_len calld_len rfl B.len boot_len' (pda_cons (pd_var 3) pda_nil)) pd_int) (pd_one (d_lt (pd_callB (x := "len") call_len calld_len rfl B.len boot_len' (pda_cons (pd_var 3) pda_nil)) (pd_callB (x := "len") call_len calld_len rfl B.len boot_len' (pda_cons (pd_var 1) pda_nil)))))))))
theorem bd__law_breaks : BindsTx "_law_breaks" s__law_breaks p__law_breaks := fun _ _ _ _ _ _ us hl => match us, hl with | [_, _, _], _ => rfl
theorem d__law_breaks {P : Program} {w : World} {K : PySem.W.Frag} {T : List (Addr × Str)} {mg : Str → Option Value} {base : Heap} (B : Bt mg) (Tx : TxF K mg "_law_breaks" s__law_breaks) : FnD P w K T mg base "_law_breaks" 1 3 f__law_breaks := fnD_mk p__law_breaks Tx rfl bd__law_breaks fun a fd F => ok__law_breaks B F

def t__law_together : (st : Stmt) ×' (top 20 = st) := by
  refine ⟨?s, ?h⟩
  case h => (conv => lhs; whnf)
def s__law_together : Stmt := t__law_together.1
abbrev N__law_together : List Str := ["table", "things", "other"]
abbrev p__law_together : List Str := ["table", "things"]
theorem sc__law_together : FnScope N__law_together p__law_together (defScope s__law_together) := ⟨rfl, rfl, rfl, by decide +kernel, rfl, by decide +kernel, by decide +kernel⟩
def b__law_together : SemS := (seqS (forS (itRange1 (consA (callB lenG (consA (vE 0) nilA)) nilA)) (.one 2) (ifS (testE (callF 3 f__law_breaks (consA (vE 0) (consA (vE 1) (consA (vE 2) nilA))))) (retS (retO (.bl false))) skipS))
  (retS (retO (.bl true))))
def f__law_together : FSem := fnOut 3 b__law_together
theorem ok__law_together {P : Program} {w : World} {K : PySem.W.Frag} {T : List (Addr × Str)} {mg : Str → Option Value} {base : Heap} (B : Bt mg) (h__law_breaks : FnD P w K T mg base "_law_breaks" 1 3 f__law_breaks) {a : Addr} {fd : FuncData} (F : Fun K "_law_together" "_law_together" s__law_together a fd) : FnOk P w K mg base (L2.CX P w) 2 a fd p__law_together (spP K T 2 f__law_together) :=
  fnP (body := b__law_together) (n := 3) F sc__law_together rfl fun cdv A outer s H E hc => 
  (pdb_cons (pds_for hc (pdi_range1 rfl B.range (pda_cons (pd_callB (x := "len") call_len calld_len rfl B.len boot_len' (pda_cons (pd_var 0) pda_nil)) pda_nil)) (tg_one 2 hc.nd) (pdb_one (pds_if (pt_of (pd_call (x := "_law_breaks") hc h__law_breaks (by decide) rfl (pda_cons (pd_var 0) (pda_cons (pd_var 1) (pda_cons (pd_var 2) pda_nil))))) (pdb_one (pds_ret pd_bl)) pdb_nil)))
  (pdb_one (pds_ret pd_bl)))
theorem bd__law_together : BindsTx "_law_together" s__law_together p__law_together := fun _ _ _ _ _ _ us hl => match us, hl with | [_, _], _ => rfl
theorem d__law_together {P : Program} {w : World} {K : PySem.W.Frag} {T : List (Addr × Str)} {mg : Str → Option Value} {base : Heap} (B : Bt mg) (Tx : TxF K mg "_law_together" s__law_together) (h__law_breaks : FnD P w K T mg base "_law_breaks" 1 3 f__law_breaks) : FnD P w K T mg base "_law_together" 2 2 f__law_together := fnD_mk p__law_together Tx rfl bd__law_together fun a fd F => ok__law_together B h__law_breaks F

def t__law_any : (st : Stmt) ×' (top 21 = st) := by
  refine ⟨?s, ?h⟩
  case h => (conv => lhs; whnf)
def s__law_any : Stmt := t__law_any.1
abbrev N__law_any : List Str := ["cell", "many", "pieces", "k"]
abbrev p__law_any : List Str := ["cell", "many"]
theorem sc__law_any : FnScope N__law_any p__law_any (defScope s__law_any) := ⟨rfl, rfl, rfl, by decide +kernel, rfl, by decide +kernel, by decide +kernel⟩
def b__law_any : SemS := (seqS (setS (lcC (itRange1 (consA (op2 modI (vE 0) (retO (.int 5))) nilA)) (.one 3) [3] yesT (lstC nilA)) (.one 2))
  (seqS (setS (op2 fdivI (vE 0) (retO (.int 5))) (.one 0))
  (seqS (forS (itRange1 (consA (op2 modI (vE 0) (retO (.int 13))) nilA)) (.one 3) (seqS (setS (op2 fdivI (vE 0) (retO (.int 17))) (.one 0))
  (seqS (ifS (testE (op2 gtI (callB lenG (consA (vE 2) nilA)) (retO (.int 0)))) (dropS (methL appendG (op2 ixG (vE 2) (op2 modI (vE 0) (callB lenG (consA (vE 2) nilA)))) (consA (op2 subI (op2 modI (op2 fdivI (vE 0) (retO (.int 5))) (op2 addG (vE 1) (retO (.int 2)))) (retO (.int 1))) nilA))) skipS)
  (setS (op2 fdivI (vE 0) (retO (.int 61))) (.one 0)))))
  (retS (vE 2)))))
def f__law_any : FSem := fnOut 4 b__law_any
theorem ok__law_any {P : Program} {w : World} {K : PySem.W.Frag} {T : List (Addr × Str)} {mg : Str → Option Value} {base : Heap} (B : Bt mg) {a : Addr} {fd : FuncData} (F : Fun K "_law_any" "_law_any" s__law_any a fd) : FnOk P w K mg base (L2.CX P w) 1 a fd p__law_any (spP K T 2 f__law_any) :=
  fnP (body := b__law_any) (n := 4) F sc__law_any rfl fun cdv A outer s H E hc => 
  (pdb_cons (pds_lcC 2 hc (sw_true rfl rfl rfl (by decide +kernel)) (pdi_range1 rfl B.range (pda_cons (d_mod (pd_var 0) pd_int) pda_nil)) (blkOk_by (own := [("k", 3)]) (by rfl)) (by decide) (fun _ _ _ _ _ => (tg_one 3 (hc.blk).nd)) (fun _ _ _ _ _ => pts_yes) (fun _ _ _ _ _ => (pd_lstC pda_nil)))
  (pdb_cons (pds_set 0 hc (d_fdiv (pd_var 0) pd_int))
  (pdb_cons (pds_for hc (pdi_range1 rfl B.range (pda_cons (d_mod (pd_var 0) pd_int) pda_nil)) (tg_one 3 hc.nd) (pdb_cons (pds_set 0 hc (d_fdiv (pd_var 0) pd_int))
  (pdb_cons (pds_if (t_gt (pd_callB (x := "len") call_len calld_len rfl B.len boot_len' (pda_cons (pd_var 2) pda_nil)) pd_int) (pdb_one (pds_expr (pd_ml PySem.F.slot_list_append PySem.F.type_list_append mt_append methd_append (d_ix (pd_var 2) (d_mod (pd_var 0) (pd_callB (x := "len") call_len calld_len rfl B.len boot_len' (pda_cons (pd_var 2) pda_nil)))) (pda_cons (d_sub (d_mod (d_fdiv (pd_var 0) pd_int) (d_add (pd_var 1) pd_int)) pd_int) pda_nil)))) pdb_nil)
  (pdb_one (pds_set 0 hc (d_fdiv (pd_var 0) pd_int))))))
  (pdb_one (pds_ret (pd_var 2))))))
theorem bd__law_any : BindsTx "_law_any" s__law_any p__law_any := fun _ _ _ _ _ _ us hl => match us, hl with | [_, _], _ => rfl
theorem d__law_any {P : Program} {w : World} {K : PySem.W.Frag} {T : List (Addr × Str)} {mg : Str → Option Value} {base : Heap} (B : Bt mg) (Tx : TxF K mg "_law_any" s__law_any) : FnD P w K T mg base "_law_any" 1 2 f__law_any := fnD_mk p__law_any Tx rfl bd__law_any fun a fd F => ok__law_any B F

def t__law_spoiled : (st : Stmt) ×' (top 22 = st) := by
  refine ⟨?s, ?h⟩
  case h => (conv => lhs; whnf)
def s__law_spoiled : Stmt := t__law_spoiled.1
abbrev N__law_spoiled : List Str := ["pieces", "cell", "many", "fault", "at", "piece", "j", "other", "spoiled", "i", "one"]
abbrev p__law_spoiled : List Str := ["pieces", "cell", "many"]
theorem sc__law_spoiled : FnScope N__law_spoiled p__law_spoiled (defScope s__law_spoiled) := ⟨rfl, rfl, rfl, by decide +kernel, rfl, by decide +kernel, by decide +kernel⟩
def b__law_spoiled : SemS := (seqS (setS (op2 modI (vE 1) (retO (.int 12))) (.one 3))
  (seqS (ifS (testE (op2 eqG (vE 3) (retO (.int 11)))) (retS (callF 2 f__law_any (consA (op2 fdivI (vE 1) (retO (.int 12))) (consA (vE 2) nilA)))) skipS)
  (seqS (setS (op2 modI (op2 fdivI (vE 1) (retO (.int 11))) (callB lenG (consA (vE 0) nilA))) (.one 4))
  (seqS (setS (op2 ixG (vE 0) (vE 4)) (.one 5))
  (seqS (setS (op2 modI (op2 fdivI (vE 1) (retO (.int 88))) (callB lenG (consA (vE 5) nilA))) (.one 6))
  (seqS (setS (op2 modI (op2 fdivI (vE 1) (retO (.int 704))) (callB lenG (consA (vE 0) nilA))) (.one 7))
  (seqS (setS (lcC (itSeq (vE 0)) (.one 10) [10] yesT (callB listGC (consA (vE 10) nilA))) (.one 8))
  (seqS (ifS (testE (op2 eqG (vE 3) (retO (.int 1)))) (dropS (methL popAtG (op2 ixG (vE 8) (vE 4)) (consA (vE 6) nilA))) skipS)
  (seqS (ifS (testE (op2 eqG (vE 3) (retO (.int 2)))) (dropS (methL insertG (op2 ixG (vE 8) (vE 4)) (consA (op2 modI (op2 fdivI (vE 1) (retO (.int 704))) (op2 addG (callB lenG (consA (vE 5) nilA)) (retO (.int 1)))) (consA (op2 ixG (vE 5) (vE 6)) nilA)))) skipS)
  (seqS (ifS (testE (op2 eqG (vE 3) (retO (.int 3)))) (dropS (methL appendG (op2 ixG (vE 8) (vE 7)) (consA (op2 ixG (vE 5) (vE 6)) nilA))) skipS)
  (seqS (ifS (testE (op2 eqG (vE 3) (retO (.int 4)))) (asgS (op2 subI (op2 subI (retO (.int 0)) (retO (.int 1))) (op2 ixG (vE 5) (vE 6))) (subT setL (op2 ixG (vE 8) (vE 4)) (vE 6))) skipS)
  (seqS (ifS (testE (op2 eqG (vE 3) (retO (.int 5)))) (dropS (methL appendG (op2 ixG (vE 8) (vE 4)) (consA (op2 addG (vE 2) (op2 modI (op2 fdivI (vE 1) (retO (.int 704))) (retO (.int 3)))) nilA))) skipS)
  (seqS (ifS (testE (op2 eqG (vE 3) (retO (.int 6)))) (dropS (methL insertG (vE 8) (consA (op2 modI (op2 fdivI (vE 1) (retO (.int 704))) (op2 addG (callB lenG (consA (vE 0) nilA)) (retO (.int 1)))) (consA (lstE nilA) nilA)))) skipS)
  (seqS (ifS (testE (op2 eqG (vE 3) (retO (.int 7)))) (dropS (methL popAtG (vE 8) (consA (vE 4) nilA))) skipS)
  (seqS (ifS (andT (testE (op2 eqG (vE 3) (retO (.int 8)))) (testE (op2 neG (vE 7) (vE 4)))) (seqS (asgS (op2 addG (vE 5) (op2 ixG (vE 0) (vE 7))) (subT setL (vE 8) (vE 4)))
  (dropS (methL popAtG (vE 8) (consA (vE 7) nilA)))) skipS)
  (seqS (ifS (testE (op2 eqG (vE 3) (retO (.int 9)))) (setS (op2 addGC (op2 addG (sliceE slL (vE 8) noPartO (partO (vE 4))) (lstE (consA (sliceE slL (vE 5) noPartO (partO (op2 addG (vE 6) (retO (.int 1))))) (consA (sliceE slL (vE 5) (partO (op2 addG (vE 6) (retO (.int 1)))) noPartO) nilA)))) (sliceE slL (vE 8) (partO (op2 addG (vE 4) (retO (.int 1)))) noPartO)) (.one 8)) skipS)
  (seqS (ifS (testE (op2 eqG (vE 3) (retO (.int 10)))) (seqS (setS (op2 modI (op2 fdivI (vE 1) (retO (.int 5632))) (callB lenG (consA (op2 ixG (vE 0) (vE 7)) nilA))) (.one 9))
  (seqS (asgS (op2 ixG (op2 ixG (vE 0) (vE 7)) (vE 9)) (subT setL (op2 ixG (vE 8) (vE 4)) (vE 6)))
  (asgS (op2 ixG (vE 5) (vE 6)) (subT setL (op2 ixG (vE 8) (vE 7)) (vE 9))))) skipS)
  (retS (vE 8)))))))))))))))))))
def f__law_spoiled : FSem := fnOut 11 b__law_spoiled
theorem ok__law_spoiled {P : Program} {w : World} {K : PySem.W.Frag} {T : List (Addr × Str)} {mg : Str → Option Value} {base : Heap} (B : Bt mg) (h__law_any : FnD P w K T mg base "_law_any" 1 2 f__law_any) {a : Addr} {fd : FuncData} (F : Fun K "_law_spoiled" "_law_spoiled" s__law_spoiled a fd) : FnOk P w K mg base (L2.CX P w) 2 a fd p__law_spoiled (spP K T 3 f__law_spoiled) :=
  fnP (body := b__law_spoiled) (n := 11) F sc__law_spoiled rfl fun cdv A outer s H E hc => 
  (pdb_cons (pds_set 3 hc (d_mod (pd_var 1) pd_int))
  (pdb_cons (pds_if (t_eq hc (pd_var 3) pd_int) (pdb_one (pds_ret (pd_call (x := "_law_any") hc h__law_any (by decide) rfl (pda_cons (d_fdiv (pd_var 1) pd_int) (pda_cons (pd_var 2) pda_nil))))) pdb_nil)
  (pdb_cons (pds_set 4 hc (d_mod (d_fdiv (pd_var 1) pd_int) (pd_callB (x := "len") call_len calld_len rfl B.len boot_len' (pda_cons (pd_var 0) pda_nil))))
  (pdb_cons (pds_set 5 hc (d_ix (pd_var 0) (pd_var 4)))
  (pdb_cons (pds_set 6 hc (d_mod (d_fdiv (pd_var 1) pd_int) (pd_callB (x := "len") call_len calld_len rfl B.len boot_len' (pda_cons (pd_var 5) pda_nil))))
  (pdb_cons (pds_set 7 hc (d_mod (d_fdiv (pd_var 1) pd_int) (pd_callB (x := "len") call_len calld_len rfl B.len boot_len' (pda_cons (pd_var 0) pda_nil))))
  (pdb_cons (pds_lcC 8 hc (sw_true rfl rfl rfl (by decide +kernel)) (pdi_seq (pd_var 0)) (blkOk_by (own := [("one", 10)]) (by rfl)) (by decide) (fun _ _ _ _ _ => (tg_one 10 (hc.blk).nd)) (fun _ _ _ _ _ => pts_yes) (fun _ _ _ _ _ => (pd_callTy (x := "list") call_list_of calld_listC rfl B.list boot_list' (pda_cons (pd_var 10) pda_nil))))
  (pdb_cons (pds_if (t_eq hc (pd_var 3) pd_int) (pdb_one (pds_expr (pd_ml PySem.F.slot_list_pop PySem.F.type_list_pop mt_popAt methd_popAt (d_ix (pd_var 8) (pd_var 4)) (pda_cons (pd_var 6) pda_nil)))) pdb_nil)
  (pdb_cons (pds_if (t_eq hc (pd_var 3) pd_int) (pdb_one (pds_expr (pd_ml PySem.F.slot_list_insert PySem.F.type_list_insert mt_insert methd_insert (d_ix (pd_var 8) (pd_var 4)) (pda_cons (d_mod (d_fdiv (pd_var 1) pd_int) (d_add (pd_callB (x := "len") call_len calld_len rfl B.len boot_len' (pda_cons (pd_var 5) pda_nil)) pd_int)) (pda_cons (d_ix (pd_var 5) (pd_var 6)) pda_nil))))) pdb_nil)
  (pdb_cons (pds_if (t_eq hc (pd_var 3) pd_int) (pdb_one (pds_expr (pd_ml PySem.F.slot_list_append PySem.F.type_list_append mt_append methd_append (d_ix (pd_var 8) (pd_var 7)) (pda_cons (d_ix (pd_var 5) (pd_var 6)) pda_nil)))) pdb_nil)
  (pdb_cons (pds_if (t_eq hc (pd_var 3) pd_int) (pdb_one (pds_asgG (d_sub (d_sub pd_int pd_int) (d_ix (pd_var 5) (pd_var 6))) (g_sub (pg_sub (d_ix (pd_var 8) (pd_var 4)) (pd_var 6) set_list)) (subT_nx _ _ _))) pdb_nil)
  (pdb_cons (pds_if (t_eq hc (pd_var 3) pd_int) (pdb_one (pds_expr (pd_ml PySem.F.slot_list_append PySem.F.type_list_append mt_append methd_append (d_ix (pd_var 8) (pd_var 4)) (pda_cons (d_add (pd_var 2) (d_mod (d_fdiv (pd_var 1) pd_int) pd_int)) pda_nil)))) pdb_nil)
  (pdb_cons (pds_if (t_eq hc (pd_var 3) pd_int) (pdb_one (pds_expr (pd_ml PySem.F.slot_list_insert PySem.F.type_list_insert mt_insert methd_insert (pd_var 8) (pda_cons (d_mod (d_fdiv (pd_var 1) pd_int) (d_add (pd_callB (x := "len") call_len calld_len rfl B.len boot_len' (pda_cons (pd_var 0) pda_nil)) pd_int)) (pda_cons (pd_lst pda_nil) pda_nil))))) pdb_nil)
  (pdb_cons (pds_if (t_eq hc (pd_var 3) pd_int) (pdb_one (pds_expr (pd_ml PySem.F.slot_list_pop PySem.F.type_list_pop mt_popAt methd_popAt (pd_var 8) (pda_cons (pd_var 4) pda_nil)))) pdb_nil)
  (pdb_cons (pds_if (pt_w (pw_and' (t_eq hc (pd_var 3) pd_int) (pw_and1' (t_ne hc (pd_var 7) (pd_var 4))))) (pdb_cons (pds_asgG (d_add (pd_var 5) (d_ix (pd_var 0) (pd_var 7))) (g_sub (pg_sub (pd_var 8) (pd_var 4) set_list)) (subT_nx _ _ _))
  (pdb_one (pds_expr (pd_ml PySem.F.slot_list_pop PySem.F.type_list_pop mt_popAt methd_popAt (pd_var 8) (pda_cons (pd_var 7) pda_nil))))) pdb_nil)
  (pdb_cons (pds_if (t_eq hc (pd_var 3) pd_int) (pdb_one (pds_set 8 hc (d_addC (d_add (pd_slice sl_list sld_list (pd_var 8) pdo_none (pdo_some (pd_var 4))) (pd_lst (pda_cons (pd_slice sl_list sld_list (pd_var 5) pdo_none (pdo_some (d_add (pd_var 6) pd_int))) (pda_cons (pd_slice sl_list sld_list (pd_var 5) (pdo_some (d_add (pd_var 6) pd_int)) pdo_none) pda_nil)))) (pd_slice sl_list sld_list (pd_var 8) (pdo_some (d_add (pd_var 4) pd_int)) pdo_none)))) pdb_nil)
  (pdb_cons (pds_if (t_eq hc (pd_var 3) pd_int) (pdb_cons (pds_set 9 hc (d_mod (d_fdiv (pd_var 1) pd_int) (pd_callB (x := "len") call_len calld_len rfl B.len boot_len' (pda_cons (d_ix (pd_var 0) (pd_var 7)) pda_nil))))
  (pdb_cons (pds_asgG (d_ix (d_ix (pd_var 0) (pd_var 7)) (pd_var 9)) (g_sub (pg_sub (d_ix (pd_var 8) (pd_var 4)) (pd_var 6) set_list)) (subT_nx _ _ _))
  (pdb_one (pds_asgG (d_ix (pd_var 5) (pd_var 6)) (g_sub (pg_sub (d_ix (pd_var 8) (pd_var 7)) (pd_var 9) set_list)) (subT_nx _ _ _))))) pdb_nil)
  (pdb_one (pds_ret (pd_var 8))))))))))))))))))))
theorem bd__law_spoiled : BindsTx "_law_spoiled" s__law_spoiled p__law_spoiled := fun _ _ _ _ _ _ us hl => match us, hl with | [_, _, _], _ => rfl
theorem d__law_spoiled {P : Program} {w : World} {K : PySem.W.Frag} {T : List (Addr × Str)} {mg : Str → Option Value} {base : Heap} (B : Bt mg) (Tx : TxF K mg "_law_spoiled" s__law_spoiled) (h__law_any : FnD P w K T mg base "_law_any" 1 2 f__law_any) : FnD P w K T mg base "_law_spoiled" 2 3 f__law_spoiled := fnD_mk p__law_spoiled Tx rfl bd__law_spoiled fun a fd F => ok__law_spoiled B h__law_any F

def t__law_refused : (st : Stmt) ×' (top 23 = st) := by
  refine ⟨?s, ?h⟩
  case h => (conv => lhs; whnf)
def s__law_refused : Stmt := t__law_refused.1
abbrev N__law_refused : List Str := ["table", "pieces", "fold", "names", "found", "e"]
abbrev p__law_refused : List Str := ["table", "pieces", "fold"]
theorem sc__law_refused : FnScope N__law_refused p__law_refused (defScope s__law_refused) := ⟨rfl, rfl, rfl, by decide +kernel, rfl, by decide +kernel, by decide +kernel⟩
def b__law_refused : SemS := (seqS (setS (lstE nilA) (.one 3))
  (seqS (setS (retO .non) (.one 4))
  (seqS (tryAsS exM (ifS (testE (vE 2)) (setS (callF 2 f_folded (consA (vE 0) (consA (vE 1) nilA))) (.one 4)) (dropS (callF 2 f_places_of (consA (vE 1) (consA (callB lenG (consA (vE 0) nilA)) nilA))))) (.own "AskError") 5 (fun a c => (seqS (setS (lstE (consA (isxE a c exM 5 (.own "BadParts")) (consA (isxE a c exM 5 (.bt "ValueError")) (consA (isxE a c exM 5 (.own "BadOrder")) nilA)))) (.one 3))
  (setS (op2 addG (vE 3) (lstE (consA (isxE a c exM 5 (.own "BadBallot")) (consA (isxE a c exM 5 (.own "NotAlike")) nilA)))) (.one 3)))))
  (retS (lstE (consA (vE 3) (consA (vE 4) nilA)))))))
def f__law_refused : FSem := fnOut 6 b__law_refused
theorem ok__law_refused {P : Program} {w : World} {K : PySem.W.Frag} {T : List (Addr × Str)} {mg : Str → Option Value} {base : Heap} (B : Bt mg) (X_AskError : ExF K mg "AskError") (X_BadParts : ExF K mg "BadParts") (X_BadOrder : ExF K mg "BadOrder") (X_BadBallot : ExF K mg "BadBallot") (X_NotAlike : ExF K mg "NotAlike") (M_ValueError : mg "ValueError" = none) (EM : ExOk K exM) (IM : IsOk K exM) (h_folded : FnD P w K T mg base "folded" 3 2 f_folded) (h_places_of : FnD P w K T mg base "places_of" 1 2 f_places_of) {a : Addr} {fd : FuncData} (F : Fun K "_law_refused" "_law_refused" s__law_refused a fd) : FnOk P w K mg base (L2.CX P w) 4 a fd p__law_refused (spP K T 3 f__law_refused) :=
  fnP (body := b__law_refused) (n := 6) F sc__law_refused rfl fun cdv A outer s H E hc => 
  (pdb_cons (pds_set 3 hc (pd_lst pda_nil))
  (pdb_cons (pds_set 4 hc pd_non)
  (pdb_cons (pds_tryAs 5 hc rfl rfl EM rfl rfl ⟨rfl, by decide, .inl X_AskError.gC⟩ (fun a c => noS_seq (noS_set (noE_lst (noE_cons noE_isx (noE_cons noE_isx (noE_cons noE_isx noE_nil))))) (noS_set (noE_op2 (noE_var _) (noE_lst (noE_cons noE_isx (noE_cons noE_isx noE_nil))))))
    (fun W' pn xe hc => (pdb_one (pds_if (pt_of (pd_var 2)) (pdb_one (pds_set 4 hc (pd_call (x := "folded") hc h_folded (by decide) rfl (pda_cons (pd_var 0) (pda_cons (pd_var 1) pda_nil))))) (pdb_one (pds_expr (pd_call (x := "places_of") hc h_places_of (by decide) rfl (pda_cons (pd_var 1) (pda_cons (pd_callB (x := "len") call_len calld_len rfl B.len boot_len' (pda_cons (pd_var 0) pda_nil)) pda_nil))))))))
    (fun a oe c pn hz hf => (pdb_cons (pds_setH 3 hc.nd (pd_lst (pda_cons (pd_isx 5 (cv := .ref _) (d := .own "BadParts") List.mem_cons_self hz hf IM rfl B.isinstance (.own _) (pe_glob rfl X_BadParts.gC rfl) rfl (by first | exact Or.inl rfl | exact Or.inr (Or.inl rfl) | exact Or.inr (Or.inr rfl))) (pda_cons (pd_isx 5 (cv := .ty "ValueError") (d := .bt "ValueError") List.mem_cons_self hz hf IM rfl B.isinstance (.ty _) (pe_bltn rfl M_ValueError (by decide +kernel : bootBuiltins "ValueError" = some (.type "ValueError")) rfl) rfl (by first | exact Or.inl rfl | exact Or.inr (Or.inl rfl) | exact Or.inr (Or.inr rfl))) (pda_cons (pd_isx 5 (cv := .ref _) (d := .own "BadOrder") List.mem_cons_self hz hf IM rfl B.isinstance (.own _) (pe_glob rfl X_BadOrder.gC rfl) rfl (by first | exact Or.inl rfl | exact Or.inr (Or.inl rfl) | exact Or.inr (Or.inr rfl))) pda_nil)))))
  (pdb_one (pds_setH 3 hc.nd (d_add (pd_var 3) (pd_lst (pda_cons (pd_isx 5 (cv := .ref _) (d := .own "BadBallot") List.mem_cons_self hz hf IM rfl B.isinstance (.own _) (pe_glob rfl X_BadBallot.gC rfl) rfl (by first | exact Or.inl rfl | exact Or.inr (Or.inl rfl) | exact Or.inr (Or.inr rfl))) (pda_cons (pd_isx 5 (cv := .ref _) (d := .own "NotAlike") List.mem_cons_self hz hf IM rfl B.isinstance (.own _) (pe_glob rfl X_NotAlike.gC rfl) rfl (by first | exact Or.inl rfl | exact Or.inr (Or.inl rfl) | exact Or.inr (Or.inr rfl))) pda_nil)))))))))
  (pdb_one (pds_ret (pd_lst (pda_cons (pd_var 3) (pda_cons (pd_var 4) pda_nil))))))))
theorem bd__law_refused : BindsTx "_law_refused" s__law_refused p__law_refused := fun _ _ _ _ _ _ us hl => match us, hl with | [_, _, _], _ => rfl
theorem d__law_refused {P : Program} {w : World} {K : PySem.W.Frag} {T : List (Addr × Str)} {mg : Str → Option Value} {base : Heap} (B : Bt mg) (Tx : TxF K mg "_law_refused" s__law_refused) (X_AskError : ExF K mg "AskError") (X_BadParts : ExF K mg "BadParts") (X_BadOrder : ExF K mg "BadOrder") (X_BadBallot : ExF K mg "BadBallot") (X_NotAlike : ExF K mg "NotAlike") (M_ValueError : mg "ValueError" = none) (EM : ExOk K exM) (IM : IsOk K exM) (h_folded : FnD P w K T mg base "folded" 3 2 f_folded) (h_places_of : FnD P w K T mg base "places_of" 1 2 f_places_of) : FnD P w K T mg base "_law_refused" 4 3 f__law_refused := fnD_mk p__law_refused Tx rfl bd__law_refused fun a fd F => ok__law_refused B X_AskError X_BadParts X_BadOrder X_BadBallot X_NotAlike M_ValueError EM IM h_folded h_places_of F

def t__law_due : (st : Stmt) ×' (top 24 = st) := by
  refine ⟨?s, ?h⟩
  case h => (conv => lhs; whnf)
def s__law_due : Stmt := t__law_due.1
abbrev N__law_due : List Str := ["table", "pieces", "good", "fold", "heads", "piece", "one", "other"]
abbrev p__law_due : List Str := ["table", "pieces", "good", "fold"]
theorem sc__law_due : FnScope N__law_due p__law_due (defScope s__law_due) := ⟨rfl, rfl, rfl, by decide +kernel, rfl, by decide +kernel, by decide +kernel⟩
def b__law_due : SemS := (seqS (ifS (notT (testE (vE 2))) (retS (lstE (consA (lstE (consA (retO (.bl true)) (consA (retO (.bl true)) (consA (retO (.bl false)) (consA (retO (.bl false)) (consA (retO (.bl false)) nilA)))))) (consA (retO .non) nilA)))) skipS)
  (seqS (ifS (notT (testE (vE 3))) (retS (lstE (consA (lstE nilA) (consA (retO .non) nilA)))) skipS)
  (seqS (setS (lcE (itSeq (vE 1)) (.one 5) [5] yesT (op2 ixG (vE 5) (retO (.int 0)))) (.one 4))
  (retS (lstE (consA (lstE nilA) (consA (lcE (itSeq (vE 4)) (.one 6) [6] yesT (lcE (itSeq (vE 4)) (.one 7) [7] yesT (op2 ixG (op2 ixG (vE 0) (vE 6)) (vE 7)))) nilA)))))))
def f__law_due : FSem := fnOut 8 b__law_due
theorem ok__law_due {P : Program} {w : World} {K : PySem.W.Frag} {T : List (Addr × Str)} {mg : Str → Option Value} {base : Heap} (B : Bt mg) {a : Addr} {fd : FuncData} (F : Fun K "_law_due" "_law_due" s__law_due a fd) : FnOk P w K mg base (L2.CX P w) 1 a fd p__law_due (spP K T 4 f__law_due) :=
  fnP (body := b__law_due) (n := 8) F sc__law_due rfl fun cdv A outer s H E hc => 
  (pdb_cons (pds_if (pt_not' (pt_of (pd_var 2))) (pdb_one (pds_ret (pd_lst (pda_cons (pd_lst (pda_cons pd_bl (pda_cons pd_bl (pda_cons pd_bl (pda_cons pd_bl (pda_cons pd_bl pda_nil)))))) (pda_cons pd_non pda_nil))))) pdb_nil)
  (pdb_cons (pds_if (pt_not' (pt_of (pd_var 3))) (pdb_one (pds_ret (pd_lst (pda_cons (pd_lst pda_nil) (pda_cons pd_non pda_nil))))) pdb_nil)
  (pdb_cons (pds_set 4 hc (pd_lc hc (pdi_seq (pd_var 1)) (blkOk_by (own := [("piece", 5)]) (by rfl)) (by decide) (fun _ _ _ _ _ => (tg_one 5 (hc.blk).nd)) (fun _ _ _ _ _ => pts_yes) (fun _ _ _ _ _ => (d_ix (pd_var 5) pd_int))))
  (pdb_one (pds_ret (pd_lst (pda_cons (pd_lst pda_nil) (pda_cons (pd_lc hc (pdi_seq (pd_var 4)) (blkOk_by (own := [("one", 6)]) (by rfl)) (by decide) (fun _ _ _ _ _ => (tg_one 6 (hc.blk).nd)) (fun _ _ _ _ _ => pts_yes) (fun _ _ _ _ _ => (pd_lc (hc.blk) (pdi_seq (pd_var 4)) (blkOk_by (own := [("other", 7)]) (by rfl)) (by decide) (fun _ _ _ _ _ => (tg_one 7 ((hc.blk).blk).nd)) (fun _ _ _ _ _ => pts_yes) (fun _ _ _ _ _ => (d_ix (d_ix (pd_var 0) (pd_var 6)) (pd_var 7)))))) pda_nil))))))))
theorem bd__law_due : BindsTx "_law_due" s__law_due p__law_due := fun _ _ _ _ _ _ us hl => match us, hl with | [_, _, _, _], _ => rfl
theorem d__law_due {P : Program} {w : World} {K : PySem.W.Frag} {T : List (Addr × Str)} {mg : Str → Option Value} {base : Heap} (B : Bt mg) (Tx : TxF K mg "_law_due" s__law_due) : FnD P w K T mg base "_law_due" 1 4 f__law_due := fnD_mk p__law_due Tx rfl bd__law_due fun a fd F => ok__law_due B F

def t__law_good : (st : Stmt) ×' (top 25 = st) := by
  refine ⟨?s, ?h⟩
  case h => (conv => lhs; whnf)
def s__law_good : Stmt := t__law_good.1
abbrev N__law_good : List Str := ["pieces", "many", "every", "piece"]
abbrev p__law_good : List Str := ["pieces", "many"]
theorem sc__law_good : FnScope N__law_good p__law_good (defScope s__law_good) := ⟨rfl, rfl, rfl, by decide +kernel, rfl, by decide +kernel, by decide +kernel⟩
def b__law_good : SemS := (seqS (setS (lstE nilA) (.one 2))
  (seqS (forS (itSeq (vE 0)) (.one 3) (seqS (ifS (testE (op2 eqG (vE 3) (lstE nilA))) (retS (retO (.bl false))) skipS)
  (setS (op2 addG (vE 2) (vE 3)) (.one 2))))
  (retS (op2 eqG (callB (orC sortI sortP) (consA (vE 2) nilA)) (rgLst (ends1 (vE 1)))))))
def f__law_good : FSem := fnOut 4 b__law_good
theorem ok__law_good {P : Program} {w : World} {K : PySem.W.Frag} {T : List (Addr × Str)} {mg : Str → Option Value} {base : Heap} (B : Bt mg) {a : Addr} {fd : FuncData} (F : Fun K "_law_good" "_law_good" s__law_good a fd) : FnOk P w K mg base (L2.CX P w) 1 a fd p__law_good (spP K T 2 f__law_good) :=
  fnP (body := b__law_good) (n := 4) F sc__law_good rfl fun cdv A outer s H E hc => 
  (pdb_cons (pds_set 2 hc (pd_lst pda_nil))
  (pdb_cons (pds_for hc (pdi_seq (pd_var 0)) (tg_one 3 hc.nd) (pdb_cons (pds_if (t_eq hc (pd_var 3) (pd_lst pda_nil)) (pdb_one (pds_ret pd_bl)) pdb_nil)
  (pdb_one (pds_set 2 hc (d_add (pd_var 2) (pd_var 3))))))
  (pdb_one (pds_ret (d_eq hc (pd_callB (x := "sorted") (CallR.or cr_sortedI cr_sortedPO) (calld_sortI.or calld_sortP) rfl B.sorted boot_sorted' (pda_cons (pd_var 2) pda_nil)) (pd_rgLst hc rfl B.list (pdr_1 rfl B.range (pd_var 1))))))))
theorem bd__law_good : BindsTx "_law_good" s__law_good p__law_good := fun _ _ _ _ _ _ us hl => match us, hl with | [_, _], _ => rfl
theorem d__law_good {P : Program} {w : World} {K : PySem.W.Frag} {T : List (Addr × Str)} {mg : Str → Option Value} {base : Heap} (B : Bt mg) (Tx : TxF K mg "_law_good" s__law_good) : FnD P w K T mg base "_law_good" 1 2 f__law_good := fnD_mk p__law_good Tx rfl bd__law_good fun a fd F => ok__law_good B F

def t__law_all_together : (st : Stmt) ×' (top 26 = st) := by
  refine ⟨?s, ?h⟩
  case h => (conv => lhs; whnf)
def s__law_all_together : Stmt := t__law_all_together.1
abbrev N__law_all_together : List Str := ["table", "pieces", "piece"]
abbrev p__law_all_together : List Str := ["table", "pieces"]
theorem sc__law_all_together : FnScope N__law_all_together p__law_all_together (defScope s__law_all_together) := ⟨rfl, rfl, rfl, by decide +kernel, rfl, by decide +kernel, by decide +kernel⟩
def b__law_all_together : SemS := (seqS (forS (itSeq (vE 1)) (.one 2) (ifS (notT (testE (callF 2 f__law_together (consA (vE 0) (consA (vE 2) nilA))))) (retS (retO (.bl false))) skipS))
  (retS (retO (.bl true))))
def f__law_all_together : FSem := fnOut 3 b__law_all_together
theorem ok__law_all_together {P : Program} {w : World} {K : PySem.W.Frag} {T : List (Addr × Str)} {mg : Str → Option Value} {base : Heap} (B : Bt mg) (h__law_together : FnD P w K T mg base "_law_together" 2 2 f__law_together) {a : Addr} {fd : FuncData} (F : Fun K "_law_all_together" "_law_all_together" s__law_all_together a fd) : FnOk P w K mg base (L2.CX P w) 3 a fd p__law_all_together (spP K T 2 f__law_all_together) :=
  fnP (body := b__law_all_together) (n := 3) F sc__law_all_together rfl fun cdv A outer s H E hc => 
  (pdb_cons (pds_for hc (pdi_seq (pd_var 1)) (tg_one 2 hc.nd) (pdb_one (pds_if (pt_not' (pt_of (pd_call (x := "_law_together") hc h__law_together (by decide) rfl (pda_cons (pd_var 0) (pda_cons (pd_var 2) pda_nil))))) (pdb_one (pds_ret pd_bl)) pdb_nil)))
  (pdb_one (pds_ret pd_bl)))
theorem bd__law_all_together : BindsTx "_law_all_together" s__law_all_together p__law_all_together := fun _ _ _ _ _ _ us hl => match us, hl with | [_, _], _ => rfl
theorem d__law_all_together {P : Program} {w : World} {K : PySem.W.Frag} {T : List (Addr × Str)} {mg : Str → Option Value} {base : Heap} (B : Bt mg) (Tx : TxF K mg "_law_all_together" s__law_all_together) (h__law_together : FnD P w K T mg base "_law_together" 2 2 f__law_together) : FnD P w K T mg base "_law_all_together" 3 2 f__law_all_together := fnD_mk p__law_all_together Tx rfl bd__law_all_together fun a fd F => ok__law_all_together B h__law_together F

def t_law : (st : Stmt) ×' (top 27 = st) := by
  refine ⟨?s, ?h⟩
  case h => (conv => lhs; whnf)
def s_law : Stmt := t_law.1
abbrev N_law : List Str := ["script", "mixed", "table", "cell", "spoiled", "good", "fold", "handed", "row", "piece"]
abbrev p_law : List Str := ["script"]
theorem sc_law : FnScope N_law p_law (defScope s_law) := ⟨rfl, rfl, rfl, by decide +kernel, rfl, by decide +kernel, by decide +kernel⟩
def b_law : SemS := (seqS (setS (callF 1 f__law_mixed (consA (vE 0) nilA)) (.one 1))
  (seqS (setS (callF 1 f__law_table (consA (vE 1) nilA)) (.one 2))
  (seqS (forS (itSeq (op2 addG (lstE (consA (retO (.int 0)) nilA)) (sliceE slL (vE 0) noPartO (partO (retO (.int 30)))))) (.one 3) (seqS (setS (callF 3 f__law_spoiled (consA (callF 1 f__law_pieces (consA (vE 1) nilA)) (consA (vE 3) (consA (callB lenG (consA (vE 2) nilA)) nilA)))) (.one 4))
  (seqS (setS (callF 2 f__law_good (consA (vE 4) (consA (callB lenG (consA (vE 2) nilA)) nilA))) (.one 5))
  (forS (itSeq (lstE (consA (retO (.bl false)) (consA (retO (.bl true)) nilA)))) (.one 6) (seqS (setS (lstE (consA (lcE (itSeq (vE 2)) (.one 8) [8] yesT (callB listG (consA (vE 8) nilA))) (consA (lcE (itSeq (vE 4)) (.one 9) [9] yesT (callB listG (consA (vE 9) nilA))) nilA))) (.one 7))
  (seqS (setS (andE (vE 5) (orE (notE (vE 6)) (callF 2 f__law_all_together (consA (vE 2) (consA (vE 4) nilA))))) (.one 5))
  (seqS (ifS (testE (op2 neG (callF 3 f__law_refused (consA (op2 ixG (vE 7) (retO (.int 0))) (consA (op2 ixG (vE 7) (retO (.int 1))) (consA (vE 6) nilA)))) (callF 4 f__law_due (consA (vE 2) (consA (vE 4) (consA (vE 5) (consA (vE 6) nilA))))))) (retS (retO (.bl false))) skipS)
  (ifS (testE (op2 neG (vE 7) (lstE (consA (vE 2) (consA (vE 4) nilA))))) (retS (retO (.bl false))) skipS))))))))
  (retS (retO (.bl true))))))
def f_law : FSem := fnOut 10 b_law
theorem ok_law {P : Program} {w : World} {K : PySem.W.Frag} {T : List (Addr × Str)} {mg : Str → Option Value} {base : Heap} (B : Bt mg) (h__law_mixed : FnD P w K T mg base "_law_mixed" 2 1 f__law_mixed) (h__law_table : FnD P w K T mg base "_law_table" 2 1 f__law_table) (h__law_spoiled : FnD P w K T mg base "_law_spoiled" 2 3 f__law_spoiled) (h__law_good : FnD P w K T mg base "_law_good" 1 2 f__law_good) (h__law_pieces : FnD P w K T mg base "_law_pieces" 1 1 f__law_pieces) (h__law_refused : FnD P w K T mg base "_law_refused" 4 3 f__law_refused) (h__law_due : FnD P w K T mg base "_law_due" 1 4 f__law_due) (h__law_all_together : FnD P w K T mg base "_law_all_together" 3 2 f__law_all_together) {a : Addr} {fd : FuncData} (F : Fun K "law" "law" s_law a fd) : FnOk P w K mg base (L2.CX P w) 5 a fd p_law (spP K T 1 f_law) :=
  fnP (body := b_law) (n := 10) F sc_law rfl fun cdv A outer s H E hc => 
  (pdb_cons (pds_set 1 hc (pd_call (x := "_law_mixed") hc h__law_mixed (by decide) rfl (pda_cons (pd_var 0) pda_nil)))
  (pdb_cons (pds_set 2 hc (pd_call (x := "_law_table") hc h__law_table (by decide) rfl (pda_cons (pd_var 1) pda_nil)))
  (pdb_cons (pds_for hc (pdi_seq (d_add (pd_lst (pda_cons pd_int pda_nil)) (pd_slice sl_list sld_list (pd_var 0) pdo_none (pdo_some pd_int)))) (tg_one 3 hc.nd) (pdb_cons (pds_set 4 hc (pd_call (x := "_law_spoiled") hc h__law_spoiled (by decide) rfl (pda_cons (pd_call (x := "_law_pieces") hc h__law_pieces (by decide) rfl (pda_cons (pd_var 1) pda_nil)) (pda_cons (pd_var 3) (pda_cons (pd_callB (x := "len") call_len calld_len rfl B.len boot_len' (pda_cons (pd_var 2) pda_nil)) pda_nil)))))
  (pdb_cons (pds_set 5 hc (pd_call (x := "_law_good") hc h__law_good (by decide) rfl (pda_cons (pd_var 4) (pda_cons (pd_callB (x := "len") call_len calld_len rfl B.len boot_len' (pda_cons (pd_var 2) pda_nil)) pda_nil))))
  (pdb_one (pds_for hc (pdi_seq (pd_lst (pda_cons pd_bl (pda_cons pd_bl pda_nil)))) (tg_one 6 hc.nd) (pdb_cons (pds_set 7 hc (pd_lst (pda_cons (pd_lc hc (pdi_seq (pd_var 2)) (blkOk_by (own := [("row", 8)]) (by rfl)) (by decide) (fun _ _ _ _ _ => (tg_one 8 (hc.blk).nd)) (fun _ _ _ _ _ => pts_yes) (fun _ _ _ _ _ => (pd_callTy (x := "list") call_list_of calld_list rfl B.list boot_list' (pda_cons (pd_var 8) pda_nil)))) (pda_cons (pd_lc hc (pdi_seq (pd_var 4)) (blkOk_by (own := [("piece", 9)]) (by rfl)) (by decide) (fun _ _ _ _ _ => (tg_one 9 (hc.blk).nd)) (fun _ _ _ _ _ => pts_yes) (fun _ _ _ _ _ => (pd_callTy (x := "list") call_list_of calld_list rfl B.list boot_list' (pda_cons (pd_var 9) pda_nil)))) pda_nil))))
  (pdb_cons (pds_set 5 hc (pd_and (pd_var 5) (pd_one (pd_or (pd_not (pd_var 6)) (pd_one (pd_call (x := "_law_all_together") hc h__law_all_together (by decide) rfl (pda_cons (pd_var 2) (pda_cons (pd_var 4) pda_nil))))))))
  (pdb_cons (pds_if (t_ne hc (pd_call (x := "_law_refused") hc h__law_refused (by decide) rfl (pda_cons (d_ix (pd_var 7) pd_int) (pda_cons (d_ix (pd_var 7) pd_int) (pda_cons (pd_var 6) pda_nil)))) (pd_call (x := "_law_due") hc h__law_due (by decide) rfl (pda_cons (pd_var 2) (pda_cons (pd_var 4) (pda_cons (pd_var 5) (pda_cons (pd_var 6) pda_nil)))))) (pdb_one (pds_ret pd_bl)) pdb_nil)
  (pdb_one (pds_if (t_ne hc (pd_var 7) (pd_lst (pda_cons (pd_var 2) (pda_cons (pd_var 4) pda_nil)))) (pdb_one (pds_ret pd_bl)) pdb_nil))))))))))
  (pdb_one (pds_ret pd_bl)))))
theorem bd_law : BindsTx "law" s_law p_law := fun _ _ _ _ _ _ us hl => match us, hl with | [_], _ => rfl
theorem d_law {P : Program} {w : World} {K : PySem.W.Frag} {T : List (Addr × Str)} {mg : Str → Option Value} {base : Heap} (B : Bt mg) (Tx : TxF K mg "law" s_law) (h__law_mixed : FnD P w K T mg base "_law_mixed" 2 1 f__law_mixed) (h__law_table : FnD P w K T mg base "_law_table" 2 1 f__law_table) (h__law_spoiled : FnD P w K T mg base "_law_spoiled" 2 3 f__law_spoiled) (h__law_good : FnD P w K T mg base "_law_good" 1 2 f__law_good) (h__law_pieces : FnD P w K T mg base "_law_pieces" 1 1 f__law_pieces) (h__law_refused : FnD P w K T mg base "_law_refused" 4 3 f__law_refused) (h__law_due : FnD P w K T mg base "_law_due" 1 4 f__law_due) (h__law_all_together : FnD P w K T mg base "_law_all_together" 3 2 f__law_all_together) : FnD P w K T mg base "law" 5 1 f_law := fnD_mk p_law Tx rfl bd_law fun a fd F => ok_law B h__law_mixed h__law_table h__law_spoiled h__law_good h__law_pieces h__law_refused h__law_due h__law_all_together F

end K75


namespace K75
open Aw
theorem r_cell_at (ns : List Int) (k : Nat) : f__law_cell_at [.scr ns, .int (k : Nat)] = .ok (.int (ns.getD k 0)) := by
  refine out_pure (S := []) ?_ rfl
  by_cases h : k < ns.length
  · have e : ns[k]? = some ns[k] := List.getElem?_eq_getElem h
    simp only [b__law_cell_at, x_partV, bnI_ok, cutD_1, len_en, asSeq_en, asLst_en, lstOf_en, x_callF, x_callFR, liftP_ok, liftR_ok, liftB_bl, liftB_int, callV1, callV2, callV3, callV4, callRV1, callRV2, callRV3, callRV4, p_int, p_bl, p_scr, p_non, p_str, p_lst, p_tup, p_nil, p_cons, p_en, p_ens, Bool.and_self, en_norm, mod_ok, fdiv_lit, mul_lit, add_nat, add_one, lt_int, le_int, gt_int, ge_int, min_int, max_int, neg_int, eq_int, ne_int, eq_bl, ne_bl, len_lst, len_tup, len_scr, Int.reduceLT, Int.reduceLE, Nat.reduceLeDiff, x_bind, x_then, x_seq, x_ret, x_op2, x_op1, x_step, x_nilA, x_consA, x_callB, x_testE, x_toB, x_if, x_retS, x_dropS, x_setS, x_skip, x_andT, x_orT, x_notT, x_ifE, x_andE, x_orE, x_notE, x_chain, x_tupE, x_lstE, x_lstC, x_methL, x_for, x_itSeq, x_asSeq, x_asSeqT, x_asSeqS, x_range1, x_range2, x_enum, x_asLst, x_asg, x_isi, x_slice, x_noPart, x_rev, bnd_ok, bnd_err, thn_ok, thn_err, sq_nx, sq_ret, sq_brk, sq_ct, sq_err, bnB_ok, startE, List.map_cons, List.map_nil, List.length_cons, List.length_nil, Nat.reduceAdd, Nat.reduceSub, List.replicate_succ, List.replicate_zero, List.append_nil, List.cons_append, List.nil_append, if_true, if_false, Bool.false_eq_true, x_v0, x_vs, n_int, n_bl, n_str, n_non, n_lst, n_tup, n_scr, List.getElem?_cons_zero, List.getElem?_cons_succ, List.set_cons_zero, List.set_cons_succ, wipeD, Option.map_some, Bool.not_true, Bool.not_false, len_scr, ltI, intG, Int.ofNat_lt, h, decide_true, ix_scr e, List.getD, e, Option.getD_some]
  · have e : ns[k]? = none := List.getElem?_eq_none (by omega)
    simp only [b__law_cell_at, x_partV, bnI_ok, cutD_1, len_en, asSeq_en, asLst_en, lstOf_en, x_callF, x_callFR, liftP_ok, liftR_ok, liftB_bl, liftB_int, callV1, callV2, callV3, callV4, callRV1, callRV2, callRV3, callRV4, p_int, p_bl, p_scr, p_non, p_str, p_lst, p_tup, p_nil, p_cons, p_en, p_ens, Bool.and_self, en_norm, mod_ok, fdiv_lit, mul_lit, add_nat, add_one, lt_int, le_int, gt_int, ge_int, min_int, max_int, neg_int, eq_int, ne_int, eq_bl, ne_bl, len_lst, len_tup, len_scr, Int.reduceLT, Int.reduceLE, Nat.reduceLeDiff, x_bind, x_then, x_seq, x_ret, x_op2, x_op1, x_step, x_nilA, x_consA, x_callB, x_testE, x_toB, x_if, x_retS, x_dropS, x_setS, x_skip, x_andT, x_orT, x_notT, x_ifE, x_andE, x_orE, x_notE, x_chain, x_tupE, x_lstE, x_lstC, x_methL, x_for, x_itSeq, x_asSeq, x_asSeqT, x_asSeqS, x_range1, x_range2, x_enum, x_asLst, x_asg, x_isi, x_slice, x_noPart, x_rev, bnd_ok, bnd_err, thn_ok, thn_err, sq_nx, sq_ret, sq_brk, sq_ct, sq_err, bnB_ok, startE, List.map_cons, List.map_nil, List.length_cons, List.length_nil, Nat.reduceAdd, Nat.reduceSub, List.replicate_succ, List.replicate_zero, List.append_nil, List.cons_append, List.nil_append, if_true, if_false, Bool.false_eq_true, x_v0, x_vs, n_int, n_bl, n_str, n_non, n_lst, n_tup, n_scr, List.getElem?_cons_zero, List.getElem?_cons_succ, List.set_cons_zero, List.set_cons_succ, wipeD, Option.map_some, Bool.not_true, Bool.not_false, len_scr, ltI, intG, Int.ofNat_lt, h, decide_false, List.getD, e, Option.getD_none]
/-- the rows' cells, and the cell of rows -/
abbrev tbS (n : Nat) (t : Tb) : Store := t.map rowC ++ [.lst ((List.range n).map D.loc)]
theorem tbS_row {n : Nat} {t : Tb} (h : Sq n t) {i : Nat} (hi : i < n) : (tbS n t)[i]? = some (rowC (t.getD i [])) := by
  rw [List.getElem?_append_left (by simp [h.len]; exact hi), List.getElem?_map, h.get hi]; rfl
theorem tbS_rows {n : Nat} {t : Tb} (h : Sq n t) : (tbS n t)[n]? = some (.lst ((List.range n).map D.loc)) := by
  rw [List.getElem?_append_right (by simp [h.len])]
  simp [h.len]
theorem tbS_set {n : Nat} {t : Tb} (h : Sq n t) {i j : Nat} (hi : i < n) (b : Bool) : (tbS n t).set i (.lst (((t.getD i []).map En.e).set j (.bl b))) = tbS n (setE t i j b) := by
  unfold tbS setE
  rw [List.set_append_left _ _ (by simp [h.len]; exact hi), List.map_set]
  congr 2
  simp only [rowC, List.map_set]; rfl
theorem resA_tb {n : Nat} {t : Tb} (h : Sq n t) : resA (tbS n t) (.loc n) = some (En.e t) := by
  have hr : ∀ k i, i < n → resLoc (tbS n t) (k + 1) i = some (En.e (t.getD i [])) := by
    intro k i hi
    rw [resLoc_lst k (tbS_row h hi), resL_pure _ _ (pureL_map _ En.pu _)]; rfl
  show resLoc (tbS n t) (3 + 1) n = _
  rw [resLoc_lst 3 (tbS_rows h), resL_locs fun i hi => hr 2 i (List.mem_range.mp hi)]
  show some (D.lst _) = some (D.lst _)
  congr 2
  apply List.ext_getElem?
  intro i
  rw [List.getElem?_map, List.getElem?_map]
  by_cases hi : i < n
  · rw [List.getElem?_range hi, h.get hi]; rfl
  · rw [List.getElem?_eq_none (by simp; omega), List.getElem?_eq_none (by rw [h.len]; omega)]; rfl
theorem r_table_by (c : Int) (n : Nat) (hn : n ≤ 100) : ∃ t, IsTb n t ∧ f__law_table_by [.int c, .int (n : Nat)] = .ok (En.e t) := by
  let t0 : Tb := (List.range n).map fun _ => (List.range n).map fun _ => false
  have hs0 : Sq n t0 := sq_of n fun _ _ => false
  have e0 : ∀ i j, ent t0 i j = false := by
    intro i j
    unfold ent
    rw [List.getD_eq_getElem?_getD (l := t0)]
    cases q : t0[i]? with
    | none => rfl
    | some row =>
      have hm := List.mem_of_getElem? q
      obtain ⟨a, _, rfl⟩ := List.mem_map.mp hm
      rw [Option.getD_some, List.getD_eq_getElem?_getD, List.getElem?_map]
      cases (List.range n)[j]? <;> rfl
  have hn62 : n < 2 ^ 62 := Nat.lt_of_le_of_lt hn (by decide)
  have h1 : lcC (itRange1 (consA (vE 1) nilA)) (.one 6) [6] yesT (op2 mulGC (lstE (consA (retO (.bl false)) nilA)) (vE 1)) [some (.int c), some (.int (n : Nat)), none, none, none, none, none] [] = .ok (.loc n) (tbS n t0) := by
    rw [lcC_new (S0 := []) (enc := fun i : Nat => D.int (i : Nat)) (g := fun _ => rowC (List.replicate n false)) (xs := List.range n)]
    · simp only [List.length_nil, List.length_range, Nat.zero_add, List.nil_append]
      congr 1
      simp [tbS, t0, List.map_map, Function.comp_def, List.map_const']
    · simp only [x_partV, bnI_ok, cutD_1, len_en, asSeq_en, asLst_en, lstOf_en, x_callF, x_callFR, liftP_ok, liftR_ok, liftB_bl, liftB_int, callV1, callV2, callV3, callV4, callRV1, callRV2, callRV3, callRV4, p_int, p_bl, p_scr, p_non, p_str, p_lst, p_tup, p_nil, p_cons, p_en, p_ens, Bool.and_self, en_norm, mod_ok, fdiv_lit, mul_lit, add_nat, add_one, lt_int, le_int, gt_int, ge_int, min_int, max_int, neg_int, eq_int, ne_int, eq_bl, ne_bl, len_lst, len_tup, len_scr, Int.reduceLT, Int.reduceLE, Nat.reduceLeDiff, x_bind, x_then, x_seq, x_ret, x_op2, x_op1, x_step, x_nilA, x_consA, x_callB, x_testE, x_toB, x_if, x_retS, x_dropS, x_setS, x_skip, x_andT, x_orT, x_notT, x_ifE, x_andE, x_orE, x_notE, x_chain, x_tupE, x_lstE, x_lstC, x_methL, x_for, x_itSeq, x_asSeq, x_asSeqT, x_asSeqS, x_range1, x_range2, x_enum, x_asLst, x_asg, x_isi, x_slice, x_noPart, x_rev, bnd_ok, bnd_err, thn_ok, thn_err, sq_nx, sq_ret, sq_brk, sq_ct, sq_err, bnB_ok, startE, List.map_cons, List.map_nil, List.length_cons, List.length_nil, Nat.reduceAdd, Nat.reduceSub, List.replicate_succ, List.replicate_zero, List.append_nil, List.cons_append, List.nil_append, if_true, if_false, Bool.false_eq_true, x_v0, x_vs, n_int, n_bl, n_str, n_non, n_lst, n_tup, n_scr, List.getElem?_cons_zero, List.getElem?_cons_succ, List.set_cons_zero, List.set_cons_succ, wipeD, Option.map_some, Bool.not_true, Bool.not_false, x_rangeI1 hn62]; rfl
    · rw [List.length_range]; omega
    · intro i hi S1
      refine ⟨_, rfl, ?_⟩
      simp only [x_partV, bnI_ok, cutD_1, len_en, asSeq_en, asLst_en, lstOf_en, x_callF, x_callFR, liftP_ok, liftR_ok, liftB_bl, liftB_int, callV1, callV2, callV3, callV4, callRV1, callRV2, callRV3, callRV4, p_int, p_bl, p_scr, p_non, p_str, p_lst, p_tup, p_nil, p_cons, p_en, p_ens, Bool.and_self, en_norm, mod_ok, fdiv_lit, mul_lit, add_nat, add_one, lt_int, le_int, gt_int, ge_int, min_int, max_int, neg_int, eq_int, ne_int, eq_bl, ne_bl, len_lst, len_tup, len_scr, Int.reduceLT, Int.reduceLE, Nat.reduceLeDiff, x_bind, x_then, x_seq, x_ret, x_op2, x_op1, x_step, x_nilA, x_consA, x_callB, x_testE, x_toB, x_if, x_retS, x_dropS, x_setS, x_skip, x_andT, x_orT, x_notT, x_ifE, x_andE, x_orE, x_notE, x_chain, x_tupE, x_lstE, x_lstC, x_methL, x_for, x_itSeq, x_asSeq, x_asSeqT, x_asSeqS, x_range1, x_range2, x_enum, x_asLst, x_asg, x_isi, x_slice, x_noPart, x_rev, bnd_ok, bnd_err, thn_ok, thn_err, sq_nx, sq_ret, sq_brk, sq_ct, sq_err, bnB_ok, startE, List.map_cons, List.map_nil, List.length_cons, List.length_nil, Nat.reduceAdd, Nat.reduceSub, List.replicate_succ, List.replicate_zero, List.append_nil, List.cons_append, List.nil_append, if_true, if_false, Bool.false_eq_true, x_v0, x_vs, n_int, n_bl, n_str, n_non, n_lst, n_tup, n_scr, List.getElem?_cons_zero, List.getElem?_cons_succ, List.set_cons_zero, List.set_cons_succ, wipeD, Option.map_some, Bool.not_true, Bool.not_false, List.length_nil, Nat.zero_add, show (1 : Nat) ≤ 100000 by omega, rep_one false (show n ≤ 100000 by omega)]
  -- the two loops
  let Inv : Nat → Nat → Tb → Prop := fun a b t => Sq n t ∧ (∀ i, i < n → ent t i i = false) ∧ ∀ i j, i < j → j < n → (i < a ∨ (i = a ∧ j < b)) → ent t i j = !ent t j i
  suffices h : ∃ d, f__law_table_by [.int c, .int (n : Nat)] = .ok d ∧ ∃ t, IsTb n t ∧ d = En.e t by
    obtain ⟨d, h1, t, h2, rfl⟩ := h
    exact ⟨t, h2, h1⟩
  refine out_W ?_
  unfold b__law_table_by
  simp only [x_partV, bnI_ok, cutD_1, len_en, asSeq_en, asLst_en, lstOf_en, x_callF, x_callFR, liftP_ok, liftR_ok, liftB_bl, liftB_int, callV1, callV2, callV3, callV4, callRV1, callRV2, callRV3, callRV4, p_int, p_bl, p_scr, p_non, p_str, p_lst, p_tup, p_nil, p_cons, p_en, p_ens, Bool.and_self, en_norm, mod_ok, fdiv_lit, mul_lit, add_nat, add_one, lt_int, le_int, gt_int, ge_int, min_int, max_int, neg_int, eq_int, ne_int, eq_bl, ne_bl, len_lst, len_tup, len_scr, Int.reduceLT, Int.reduceLE, Nat.reduceLeDiff, x_bind, x_then, x_seq, x_ret, x_op2, x_op1, x_step, x_nilA, x_consA, x_callB, x_testE, x_toB, x_if, x_retS, x_dropS, x_setS, x_skip, x_andT, x_orT, x_notT, x_ifE, x_andE, x_orE, x_notE, x_chain, x_tupE, x_lstE, x_lstC, x_methL, x_for, x_itSeq, x_asSeq, x_asSeqT, x_asSeqS, x_range1, x_range2, x_enum, x_asLst, x_asg, x_isi, x_slice, x_noPart, x_rev, bnd_ok, bnd_err, thn_ok, thn_err, sq_nx, sq_ret, sq_brk, sq_ct, sq_err, bnB_ok, startE, List.map_cons, List.map_nil, List.length_cons, List.length_nil, Nat.reduceAdd, Nat.reduceSub, List.replicate_succ, List.replicate_zero, List.append_nil, List.cons_append, List.nil_append, if_true, if_false, Bool.false_eq_true, x_v0, x_vs, n_int, n_bl, n_str, n_non, n_lst, n_tup, n_scr, List.getElem?_cons_zero, List.getElem?_cons_succ, List.set_cons_zero, List.set_cons_succ, wipeD, Option.map_some, Bool.not_true, Bool.not_false, h1, mul_ok (show (48271 : Int).natAbs < 18446744073709551616 by omega), mod_ok (show (0 : Int) < 2147483647 by omega), x_rangeI1 hn62]
  refine W_sq (W_for (fun i r S => ∃ t x o p, r = [some (.int c), some (.int (n : Nat)), some (.loc n), some (.int x), o, p, none] ∧ S = tbS n t ∧ Inv i (i + 1) t) ⟨t0, _, none, none, rfl, rfl, hs0, fun i _ => e0 i i, fun i j h1 h2 h3 => by omega⟩ ?_ ?_)
  · rintro i d r S hd ⟨t, x, o, p, rfl, rfl, hi⟩
    have hin : i < n := by
      have := (List.getElem?_eq_some_iff.mp hd).1
      simpa [upto] using this
    have : d = .int (i : Nat) := by
      rw [upto_get hin] at hd; exact (Option.some.inj hd).symm
    subst this
    refine ⟨_, rfl, ?_⟩
    simp only [x_partV, bnI_ok, cutD_1, len_en, asSeq_en, asLst_en, lstOf_en, x_callF, x_callFR, liftP_ok, liftR_ok, liftB_bl, liftB_int, callV1, callV2, callV3, callV4, callRV1, callRV2, callRV3, callRV4, p_int, p_bl, p_scr, p_non, p_str, p_lst, p_tup, p_nil, p_cons, p_en, p_ens, Bool.and_self, en_norm, mod_ok, fdiv_lit, mul_lit, add_nat, add_one, lt_int, le_int, gt_int, ge_int, min_int, max_int, neg_int, eq_int, ne_int, eq_bl, ne_bl, len_lst, len_tup, len_scr, Int.reduceLT, Int.reduceLE, Nat.reduceLeDiff, x_bind, x_then, x_seq, x_ret, x_op2, x_op1, x_step, x_nilA, x_consA, x_callB, x_testE, x_toB, x_if, x_retS, x_dropS, x_setS, x_skip, x_andT, x_orT, x_notT, x_ifE, x_andE, x_orE, x_notE, x_chain, x_tupE, x_lstE, x_lstC, x_methL, x_for, x_itSeq, x_asSeq, x_asSeqT, x_asSeqS, x_range1, x_range2, x_enum, x_asLst, x_asg, x_isi, x_slice, x_noPart, x_rev, bnd_ok, bnd_err, thn_ok, thn_err, sq_nx, sq_ret, sq_brk, sq_ct, sq_err, bnB_ok, startE, List.map_cons, List.map_nil, List.length_cons, List.length_nil, Nat.reduceAdd, Nat.reduceSub, List.replicate_succ, List.replicate_zero, List.append_nil, List.cons_append, List.nil_append, if_true, if_false, Bool.false_eq_true, x_v0, x_vs, n_int, n_bl, n_str, n_non, n_lst, n_tup, n_scr, List.getElem?_cons_zero, List.getElem?_cons_succ, List.set_cons_zero, List.set_cons_succ, wipeD, Option.map_some, Bool.not_true, Bool.not_false, add_one, x_rangeI2 (show i + 1 < 2 ^ 62 by omega) hn62]
    refine W_for (fun j r S => ∃ t x p, r = [some (.int c), some (.int (n : Nat)), some (.loc n), some (.int x), some (.int (i : Nat)), p, none] ∧ S = tbS n t ∧ Inv i (i + 1 + j) t) ⟨t, x, p, rfl, rfl, hi⟩ ?_ ?_
    · rintro j d r S hd ⟨t, x, p, rfl, rfl, hi⟩
      have hj : j < n - (i + 1) := by
        have := (List.getElem?_eq_some_iff.mp hd).1
        simpa using this
      rw [List.getElem?_map, List.getElem?_range hj] at hd
      cases hd
      refine ⟨_, rfl, ?_⟩
      obtain ⟨hq, hself, hI⟩ := hi
      have hq1 := hq.setE i (i + 1 + j) (decide (x % 2 = 0))
      have hjn : i + 1 + j < n := by omega
      simp only [x_partV, bnI_ok, cutD_1, len_en, asSeq_en, asLst_en, lstOf_en, x_callF, x_callFR, liftP_ok, liftR_ok, liftB_bl, liftB_int, callV1, callV2, callV3, callV4, callRV1, callRV2, callRV3, callRV4, p_int, p_bl, p_scr, p_non, p_str, p_lst, p_tup, p_nil, p_cons, p_en, p_ens, Bool.and_self, en_norm, mod_ok, fdiv_lit, mul_lit, add_nat, add_one, lt_int, le_int, gt_int, ge_int, min_int, max_int, neg_int, eq_int, ne_int, eq_bl, ne_bl, len_lst, len_tup, len_scr, Int.reduceLT, Int.reduceLE, Nat.reduceLeDiff, x_bind, x_then, x_seq, x_ret, x_op2, x_op1, x_step, x_nilA, x_consA, x_callB, x_testE, x_toB, x_if, x_retS, x_dropS, x_setS, x_skip, x_andT, x_orT, x_notT, x_ifE, x_andE, x_orE, x_notE, x_chain, x_tupE, x_lstE, x_lstC, x_methL, x_for, x_itSeq, x_asSeq, x_asSeqT, x_asSeqS, x_range1, x_range2, x_enum, x_asLst, x_asg, x_isi, x_slice, x_noPart, x_rev, bnd_ok, bnd_err, thn_ok, thn_err, sq_nx, sq_ret, sq_brk, sq_ct, sq_err, bnB_ok, startE, List.map_cons, List.map_nil, List.length_cons, List.length_nil, Nat.reduceAdd, Nat.reduceSub, List.replicate_succ, List.replicate_zero, List.append_nil, List.cons_append, List.nil_append, if_true, if_false, Bool.false_eq_true, x_v0, x_vs, n_int, n_bl, n_str, n_non, n_lst, n_tup, n_scr, List.getElem?_cons_zero, List.getElem?_cons_succ, List.set_cons_zero, List.set_cons_succ, wipeD, Option.map_some, Bool.not_true, Bool.not_false, mod_ok (show (0 : Int) < 2 by omega), eq_int, norm_loc (tbS_rows hq), ix_loc (tbS_rows hq) (show ((List.range n).map D.loc)[i]? = some (.loc i) by simp [hin]), norm_loc (tbS_row hq hin), set_cell (tbS_row hq hin) (show i + 1 + j < _ by rw [List.length_map, hq.row i hin]; omega), tbS_set hq hin]
      simp only [x_partV, bnI_ok, cutD_1, len_en, asSeq_en, asLst_en, lstOf_en, x_callF, x_callFR, liftP_ok, liftR_ok, liftB_bl, liftB_int, callV1, callV2, callV3, callV4, callRV1, callRV2, callRV3, callRV4, p_int, p_bl, p_scr, p_non, p_str, p_lst, p_tup, p_nil, p_cons, p_en, p_ens, Bool.and_self, en_norm, mod_ok, fdiv_lit, mul_lit, add_nat, add_one, lt_int, le_int, gt_int, ge_int, min_int, max_int, neg_int, eq_int, ne_int, eq_bl, ne_bl, len_lst, len_tup, len_scr, Int.reduceLT, Int.reduceLE, Nat.reduceLeDiff, x_bind, x_then, x_seq, x_ret, x_op2, x_op1, x_step, x_nilA, x_consA, x_callB, x_testE, x_toB, x_if, x_retS, x_dropS, x_setS, x_skip, x_andT, x_orT, x_notT, x_ifE, x_andE, x_orE, x_notE, x_chain, x_tupE, x_lstE, x_lstC, x_methL, x_for, x_itSeq, x_asSeq, x_asSeqT, x_asSeqS, x_range1, x_range2, x_enum, x_asLst, x_asg, x_isi, x_slice, x_noPart, x_rev, bnd_ok, bnd_err, thn_ok, thn_err, sq_nx, sq_ret, sq_brk, sq_ct, sq_err, bnB_ok, startE, List.map_cons, List.map_nil, List.length_cons, List.length_nil, Nat.reduceAdd, Nat.reduceSub, List.replicate_succ, List.replicate_zero, List.append_nil, List.cons_append, List.nil_append, if_true, if_false, Bool.false_eq_true, x_v0, x_vs, n_int, n_bl, n_str, n_non, n_lst, n_tup, n_scr, List.getElem?_cons_zero, List.getElem?_cons_succ, List.set_cons_zero, List.set_cons_succ, wipeD, Option.map_some, Bool.not_true, Bool.not_false, norm_loc (tbS_rows hq1), ix_loc (tbS_rows hq1) (show ((List.range n).map D.loc)[i + 1 + j]? = some (.loc (i + 1 + j)) by simp [hjn]), norm_loc (tbS_row hq1 hjn), set_cell (tbS_row hq1 hjn) (show i < _ by rw [List.length_map, hq1.row _ hjn]; omega), tbS_set hq1 hjn, fdiv_ok (show (0 : Int) < 2 by omega) (show (2 : Int).natAbs.log2 < 9000 by decide)]
      refine W_nx ⟨_, _, _, rfl, rfl, hq1.setE _ _ _, fun a ha => ?_, fun a b h1 h2 h3 => ?_⟩
      · rw [hq1.ent_setE hjn hin, hq.ent_setE hin hjn, if_neg (by omega), if_neg (by omega)]
        exact hself a ha
      · rw [hq1.ent_setE hjn hin, hq.ent_setE hin hjn, hq1.ent_setE hjn hin, hq.ent_setE hin hjn, if_neg (by omega)]
        by_cases he : i = a ∧ i + 1 + j = b
        · obtain ⟨rfl, rfl⟩ := he
          rw [if_pos ⟨rfl, rfl⟩, if_pos ⟨rfl, rfl⟩, ← decide_not]
          exact decide_eq_decide.mpr (by omega)
        · rw [if_neg he, if_neg (by omega), if_neg (by omega)]
          exact hI a b h1 h2 (by omega)
    · rintro r S ⟨t, x, p, rfl, rfl, hi⟩
      refine ⟨t, x, _, p, rfl, rfl, hi.1, hi.2.1, fun a b h1 h2 h3 => hi.2.2 a b h1 h2 ?_⟩
      simp only [List.length_map, List.length_range]
      omega
  · rintro r S ⟨t, x, o, p, rfl, rfl, hq, hself, hI⟩
    rw [show (upto n).length = n by simp [upto]] at hI
    simp only [x_partV, bnI_ok, cutD_1, len_en, asSeq_en, asLst_en, lstOf_en, x_callF, x_callFR, liftP_ok, liftR_ok, liftB_bl, liftB_int, callV1, callV2, callV3, callV4, callRV1, callRV2, callRV3, callRV4, p_int, p_bl, p_scr, p_non, p_str, p_lst, p_tup, p_nil, p_cons, p_en, p_ens, Bool.and_self, en_norm, mod_ok, fdiv_lit, mul_lit, add_nat, add_one, lt_int, le_int, gt_int, ge_int, min_int, max_int, neg_int, eq_int, ne_int, eq_bl, ne_bl, len_lst, len_tup, len_scr, Int.reduceLT, Int.reduceLE, Nat.reduceLeDiff, x_bind, x_then, x_seq, x_ret, x_op2, x_op1, x_step, x_nilA, x_consA, x_callB, x_testE, x_toB, x_if, x_retS, x_dropS, x_setS, x_skip, x_andT, x_orT, x_notT, x_ifE, x_andE, x_orE, x_notE, x_chain, x_tupE, x_lstE, x_lstC, x_methL, x_for, x_itSeq, x_asSeq, x_asSeqT, x_asSeqS, x_range1, x_range2, x_enum, x_asLst, x_asg, x_isi, x_slice, x_noPart, x_rev, bnd_ok, bnd_err, thn_ok, thn_err, sq_nx, sq_ret, sq_brk, sq_ct, sq_err, bnB_ok, startE, List.map_cons, List.map_nil, List.length_cons, List.length_nil, Nat.reduceAdd, Nat.reduceSub, List.replicate_succ, List.replicate_zero, List.append_nil, List.cons_append, List.nil_append, if_true, if_false, Bool.false_eq_true, x_v0, x_vs, n_int, n_bl, n_str, n_non, n_lst, n_tup, n_scr, List.getElem?_cons_zero, List.getElem?_cons_succ, List.set_cons_zero, List.set_cons_succ, wipeD, Option.map_some, Bool.not_true, Bool.not_false, norm_loc (tbS_rows hq)]
    refine ⟨_, ?_, t, ⟨hq, hself, fun i j hi hj hij => ?_⟩, rfl⟩
    · exact resA_tb hq
    · by_cases h : i < j
      · exact hI i j h hj (.inl hi)
      · have := hI j i (by omega) hi (.inl hj)
        rw [this, Bool.not_not]
end K75


namespace K75
open Aw
/-- the pairs of tables within tables: (k, a) for each thing a of the k-th one -/
def Home (inner : List Tb) (p : Nat × Nat) : Prop := p.1 < inner.length ∧ p.2 < (inner.getD p.1 []).length
structure Part (i : Nat) (n : Nat) (inner : List Tb) (homes : List (Nat × Nat)) : Prop where
  len : inner.length = i
  tb : ∀ (k : Nat) (t : Tb), inner[k]? = some t → ∃ s, 1 ≤ s ∧ IsTb s t
  nd : homes.Nodup
  mem : ∀ p, p ∈ homes ↔ Home inner p
  le : homes.length + n ≤ 8 + i
structure Mix (n : Nat) (outer : Tb) (inner : List Tb) (homes : List (Nat × Nat)) : Prop where
  n1 : 1 ≤ n
  n8 : n ≤ 8
  out : IsTb n outer
  part : Part n n inner homes
theorem home_add {inner : List Tb} {t : Tb} {p : Nat × Nat} : Home (inner ++ [t]) p ↔ Home inner p ∨ (p.1 = inner.length ∧ p.2 < t.length) := by
  unfold Home
  rw [List.length_append, List.getD_eq_getElem?_getD, List.getD_eq_getElem?_getD]
  by_cases h : p.1 < inner.length
  · rw [List.getElem?_append_left h]
    constructor
    · exact fun q => .inl ⟨h, q.2⟩
    · rintro (q | q)
      · exact ⟨by omega, q.2⟩
      · omega
  · rw [List.getElem?_append_right (by omega)]
    by_cases h2 : p.1 = inner.length
    · rw [h2]
      simp
    · constructor
      · intro q; simp at q; omega
      · rintro (q | q)
        · omega
        · exact absurd q.1 h2
theorem r_size (c : Int) (m : Nat) (hm : 1 ≤ m) : ∃ s : Nat, 1 ≤ s ∧ s ≤ m ∧ ∀ (r : Aw.Env) (S : Store), r[6]? = some (some (.int c)) → r[7]? = some (some (.int (m : Nat))) →
    op2 ixG (lstE (consA (retO (.int 1)) (consA (callB min2G (consA (retO (.int 3)) (consA (vE 7) nilA))) (consA (op2 addG (retO (.int 1)) (op2 modI (op2 fdivI (vE 6) (retO (.int 4))) (vE 7))) nilA)))) (callB min2G (consA (op2 modI (vE 6) (retO (.int 4))) (consA (retO (.int 2)) nilA))) r S = .ok (.int (s : Nat)) S := by
  have hpos : (0 : Int) < (m : Nat) := by omega
  have h0 : 0 ≤ c % 4 := Int.emod_nonneg _ (by omega)
  have h4 : c % 4 < 4 := Int.emod_lt_of_pos _ (by omega)
  have g0 : 0 ≤ c / 4 % (m : Nat) := Int.emod_nonneg _ (by omega)
  have g1 : c / 4 % (m : Nat) < (m : Nat) := Int.emod_lt_of_pos _ hpos
  have sz : (3 : Nat) ≤ 100000 := by omega
  have ev : ∀ (s : Nat), (∀ S : Store, stepO (ixG S (.lst [.int 1, .int (if (m : Int) < 3 then (m : Int) else 3), .int (1 + c / 4 % (m : Nat))]) (.int (if (2 : Int) < c % 4 then 2 else c % 4))) = .ok (.int (s : Nat)) S) → ∀ (r : Aw.Env) (S : Store), r[6]? = some (some (.int c)) → r[7]? = some (some (.int (m : Nat))) →
    op2 ixG (lstE (consA (retO (.int 1)) (consA (callB min2G (consA (retO (.int 3)) (consA (vE 7) nilA))) (consA (op2 addG (retO (.int 1)) (op2 modI (op2 fdivI (vE 6) (retO (.int 4))) (vE 7))) nilA)))) (callB min2G (consA (op2 modI (vE 6) (retO (.int 4))) (consA (retO (.int 2)) nilA))) r S = .ok (.int (s : Nat)) S := by
    intro s h r S h6 h7
    have e6 : vE 6 r S = .ok (.int c) S := by rw [x_var h6]; rfl
    have e7 : vE 7 r S = .ok (.int (m : Nat)) S := by rw [x_var h7]; rfl
    simp only [x_partV, bnI_ok, cutD_1, len_en, asSeq_en, asLst_en, lstOf_en, x_callF, x_callFR, liftP_ok, liftR_ok, liftB_bl, liftB_int, callV1, callV2, callV3, callV4, callRV1, callRV2, callRV3, callRV4, p_int, p_bl, p_scr, p_non, p_str, p_lst, p_tup, p_nil, p_cons, p_en, p_ens, Bool.and_self, en_norm, mod_ok, fdiv_lit, mul_lit, add_nat, add_one, lt_int, le_int, gt_int, ge_int, min_int, max_int, neg_int, eq_int, ne_int, eq_bl, ne_bl, len_lst, len_tup, len_scr, Int.reduceLT, Int.reduceLE, Nat.reduceLeDiff, x_bind, x_then, x_seq, x_ret, x_op2, x_op1, x_step, x_nilA, x_consA, x_callB, x_testE, x_toB, x_if, x_retS, x_dropS, x_setS, x_skip, x_andT, x_orT, x_notT, x_ifE, x_andE, x_orE, x_notE, x_chain, x_tupE, x_lstE, x_lstC, x_methL, x_for, x_itSeq, x_asSeq, x_asSeqT, x_asSeqS, x_range1, x_range2, x_enum, x_asLst, x_asg, x_isi, x_slice, x_noPart, x_rev, bnd_ok, bnd_err, thn_ok, thn_err, sq_nx, sq_ret, sq_brk, sq_ct, sq_err, bnB_ok, startE, List.map_cons, List.map_nil, List.length_cons, List.length_nil, Nat.reduceAdd, Nat.reduceSub, List.replicate_succ, List.replicate_zero, List.append_nil, List.cons_append, List.nil_append, if_true, if_false, Bool.false_eq_true, x_v0, x_vs, n_int, n_bl, n_str, n_non, n_lst, n_tup, n_scr, List.getElem?_cons_zero, List.getElem?_cons_succ, List.set_cons_zero, List.set_cons_succ, wipeD, Option.map_some, Bool.not_true, Bool.not_false, e6, e7, mod_ok hpos, add_int, sz, h]
  by_cases q0 : c % 4 = 0
  · refine ⟨1, Nat.le_refl 1, hm, ev 1 fun S => ?_⟩
    rw [q0, if_neg (show ¬ (2 : Int) < 0 by omega)]
    rw [show (0 : Int) = ((0 : Nat) : Int) from rfl, ix_lst (d := .int 1) rfl, n_int, x_step]; rfl
  · by_cases q1 : c % 4 = 1
    · rw [q1, if_neg (show ¬ (2 : Int) < 1 by omega)] at ev
      by_cases q : (m : Nat) < (3 : Int)
      · refine ⟨m, hm, Nat.le_refl m, ev m fun S => ?_⟩
        rw [if_pos q, show (1 : Int) = ((1 : Nat) : Int) from rfl, ix_lst (d := .int (m : Nat)) rfl, n_int, x_step]
      · refine ⟨3, by omega, by omega, ev 3 fun S => ?_⟩
        rw [if_neg q, show (1 : Int) = ((1 : Nat) : Int) from rfl, ix_lst (d := .int 3) rfl, n_int, x_step]; rfl
    · refine ⟨(1 + c / 4 % (m : Nat)).toNat, by omega, by omega, ev _ fun S => ?_⟩
      have e2 : (if (2 : Int) < c % 4 then 2 else c % 4) = ((2 : Nat) : Int) := by split <;> omega
      rw [e2, ix_lst (d := .int (1 + c / 4 % (m : Nat))) rfl, n_int, x_step]
      congr 2
      omega
theorem perm_ins {α : Type} (xs : List α) (x : α) (k : Nat) : (xs.take k ++ x :: xs.drop k).Perm (x :: xs) := by
  refine List.perm_middle.trans ?_
  rw [List.take_append_drop]
theorem map_ins {α β : Type} (f : α → β) (xs : List α) (x : α) (k : Nat) : (xs.map f).take k ++ f x :: (xs.map f).drop k = (xs.take k ++ x :: xs.drop k).map f := by
  simp [List.map_take, List.map_drop]
abbrev mixD (outer : Tb) (inner : List Tb) (homes : List (Nat × Nat)) : D := .lst [en outer, en inner, en homes]
theorem r_mixed (ns : List Int) : ∃ n outer inner homes, Mix n outer inner homes ∧ f__law_mixed [.scr ns] = .ok (mixD outer inner homes) := by
  suffices h : ∃ d, f__law_mixed [.scr ns] = .ok d ∧ ∃ n outer inner homes, Mix n outer inner homes ∧ d = mixD outer inner homes by
    obtain ⟨d, h1, n, o, i, h, h2, rfl⟩ := h
    exact ⟨n, o, i, h, h2, h1⟩
  refine out_W ?_
  unfold b__law_mixed
  -- how many
  let c := ns.getD 0 0
  have q0 : 0 ≤ c % 4 := Int.emod_nonneg _ (by omega)
  have q1 : c % 4 < 4 := Int.emod_lt_of_pos _ (by omega)
  have r0 := r_cell_at ns 0
  have r1 := r_cell_at ns 1
  simp only [Int.natCast_zero, Int.natCast_one] at r0 r1
  have h0 : ∃ n : Nat, 1 ≤ n ∧ n ≤ 8 ∧ ((1 + c % 4) + (if c / 4 % 4 = 1 then 4 else 0)) = (n : Nat) := by
    refine ⟨(1 + c % 4).toNat + if c / 4 % 4 = 1 then 4 else 0, by omega, by split <;> omega, by split <;> omega⟩
  obtain ⟨n, n1, n8, h0⟩ := h0
  obtain ⟨outer, ho, ho'⟩ := r_table_by (ns.getD 1 0) n (by omega)
  have n62 : n < 2 ^ 62 := Nat.lt_of_le_of_lt n8 (by decide)
  have h1' : (setS (op2 addG (retO (.int 1)) (op2 modI (callF 2 f__law_cell_at (consA (vE 0) (consA (retO (.int 0)) nilA))) (retO (.int 4)))) (.one 1)) (startE 11 [.scr ns]) [] = .nx [some (.scr ns), some (.int (1 + ns.getD 0 0 % 4)), none, none, none, none, none, none, none, none, none] [] := by
    simp only [x_partV, bnI_ok, cutD_1, len_en, asSeq_en, asLst_en, lstOf_en, x_callF, x_callFR, liftP_ok, liftR_ok, liftB_bl, liftB_int, callV1, callV2, callV3, callV4, callRV1, callRV2, callRV3, callRV4, p_int, p_bl, p_scr, p_non, p_str, p_lst, p_tup, p_nil, p_cons, p_en, p_ens, Bool.and_self, en_norm, mod_ok, fdiv_lit, mul_lit, add_nat, add_one, lt_int, le_int, gt_int, ge_int, min_int, max_int, neg_int, eq_int, ne_int, eq_bl, ne_bl, len_lst, len_tup, len_scr, Int.reduceLT, Int.reduceLE, Nat.reduceLeDiff, x_bind, x_then, x_seq, x_ret, x_op2, x_op1, x_step, x_nilA, x_consA, x_callB, x_testE, x_toB, x_if, x_retS, x_dropS, x_setS, x_skip, x_andT, x_orT, x_notT, x_ifE, x_andE, x_orE, x_notE, x_chain, x_tupE, x_lstE, x_lstC, x_methL, x_for, x_itSeq, x_asSeq, x_asSeqT, x_asSeqS, x_range1, x_range2, x_enum, x_asLst, x_asg, x_isi, x_slice, x_noPart, x_rev, bnd_ok, bnd_err, thn_ok, thn_err, sq_nx, sq_ret, sq_brk, sq_ct, sq_err, bnB_ok, startE, List.map_cons, List.map_nil, List.length_cons, List.length_nil, Nat.reduceAdd, Nat.reduceSub, List.replicate_succ, List.replicate_zero, List.append_nil, List.cons_append, List.nil_append, if_true, if_false, Bool.false_eq_true, x_v0, x_vs, n_int, n_bl, n_str, n_non, n_lst, n_tup, n_scr, List.getElem?_cons_zero, List.getElem?_cons_succ, List.set_cons_zero, List.set_cons_succ, wipeD, Option.map_some, Bool.not_true, Bool.not_false, add_int, r0]
  have h1 : ((ifS (testE (op2 eqG (op2 modI (op2 fdivI (callF 2 f__law_cell_at (consA (vE 0) (consA (retO (.int 0)) nilA))) (retO (.int 4))) (retO (.int 4))) (retO (.int 1)))) (setS (op2 addG (vE 1) (retO (.int 4))) (.one 1)) skipS) [some (.scr ns), some (.int (1 + ns.getD 0 0 % 4)), none, none, none, none, none, none, none, none, none] []) = .nx [some (.scr ns), some (.int (n : Nat)), none, none, none, none, none, none, none, none, none] [] := by
    simp only [x_partV, bnI_ok, cutD_1, len_en, asSeq_en, asLst_en, lstOf_en, x_callF, x_callFR, liftP_ok, liftR_ok, liftB_bl, liftB_int, callV1, callV2, callV3, callV4, callRV1, callRV2, callRV3, callRV4, p_int, p_bl, p_scr, p_non, p_str, p_lst, p_tup, p_nil, p_cons, p_en, p_ens, Bool.and_self, en_norm, mod_ok, fdiv_lit, mul_lit, add_nat, add_one, lt_int, le_int, gt_int, ge_int, min_int, max_int, neg_int, eq_int, ne_int, eq_bl, ne_bl, len_lst, len_tup, len_scr, Int.reduceLT, Int.reduceLE, Nat.reduceLeDiff, x_bind, x_then, x_seq, x_ret, x_op2, x_op1, x_step, x_nilA, x_consA, x_callB, x_testE, x_toB, x_if, x_retS, x_dropS, x_setS, x_skip, x_andT, x_orT, x_notT, x_ifE, x_andE, x_orE, x_notE, x_chain, x_tupE, x_lstE, x_lstC, x_methL, x_for, x_itSeq, x_asSeq, x_asSeqT, x_asSeqS, x_range1, x_range2, x_enum, x_asLst, x_asg, x_isi, x_slice, x_noPart, x_rev, bnd_ok, bnd_err, thn_ok, thn_err, sq_nx, sq_ret, sq_brk, sq_ct, sq_err, bnB_ok, startE, List.map_cons, List.map_nil, List.length_cons, List.length_nil, Nat.reduceAdd, Nat.reduceSub, List.replicate_succ, List.replicate_zero, List.append_nil, List.cons_append, List.nil_append, if_true, if_false, Bool.false_eq_true, x_v0, x_vs, n_int, n_bl, n_str, n_non, n_lst, n_tup, n_scr, List.getElem?_cons_zero, List.getElem?_cons_succ, List.set_cons_zero, List.set_cons_succ, wipeD, Option.map_some, Bool.not_true, Bool.not_false, r0]
    by_cases hq : c / 4 % 4 = 1
    · rw [if_pos hq] at h0
      simp only [show ns.getD 0 0 = c from rfl, hq, decide_true, x_partV, bnI_ok, cutD_1, len_en, asSeq_en, asLst_en, lstOf_en, x_callF, x_callFR, liftP_ok, liftR_ok, liftB_bl, liftB_int, callV1, callV2, callV3, callV4, callRV1, callRV2, callRV3, callRV4, p_int, p_bl, p_scr, p_non, p_str, p_lst, p_tup, p_nil, p_cons, p_en, p_ens, Bool.and_self, en_norm, mod_ok, fdiv_lit, mul_lit, add_nat, add_one, lt_int, le_int, gt_int, ge_int, min_int, max_int, neg_int, eq_int, ne_int, eq_bl, ne_bl, len_lst, len_tup, len_scr, Int.reduceLT, Int.reduceLE, Nat.reduceLeDiff, x_bind, x_then, x_seq, x_ret, x_op2, x_op1, x_step, x_nilA, x_consA, x_callB, x_testE, x_toB, x_if, x_retS, x_dropS, x_setS, x_skip, x_andT, x_orT, x_notT, x_ifE, x_andE, x_orE, x_notE, x_chain, x_tupE, x_lstE, x_lstC, x_methL, x_for, x_itSeq, x_asSeq, x_asSeqT, x_asSeqS, x_range1, x_range2, x_enum, x_asLst, x_asg, x_isi, x_slice, x_noPart, x_rev, bnd_ok, bnd_err, thn_ok, thn_err, sq_nx, sq_ret, sq_brk, sq_ct, sq_err, bnB_ok, startE, List.map_cons, List.map_nil, List.length_cons, List.length_nil, Nat.reduceAdd, Nat.reduceSub, List.replicate_succ, List.replicate_zero, List.append_nil, List.cons_append, List.nil_append, if_true, if_false, Bool.false_eq_true, x_v0, x_vs, n_int, n_bl, n_str, n_non, n_lst, n_tup, n_scr, List.getElem?_cons_zero, List.getElem?_cons_succ, List.set_cons_zero, List.set_cons_succ, wipeD, Option.map_some, Bool.not_true, Bool.not_false, add_int]
      simp only [h0]
    · rw [if_neg hq] at h0
      simp only [show ns.getD 0 0 = c from rfl, hq, decide_false, x_partV, bnI_ok, cutD_1, len_en, asSeq_en, asLst_en, lstOf_en, x_callF, x_callFR, liftP_ok, liftR_ok, liftB_bl, liftB_int, callV1, callV2, callV3, callV4, callRV1, callRV2, callRV3, callRV4, p_int, p_bl, p_scr, p_non, p_str, p_lst, p_tup, p_nil, p_cons, p_en, p_ens, Bool.and_self, en_norm, mod_ok, fdiv_lit, mul_lit, add_nat, add_one, lt_int, le_int, gt_int, ge_int, min_int, max_int, neg_int, eq_int, ne_int, eq_bl, ne_bl, len_lst, len_tup, len_scr, Int.reduceLT, Int.reduceLE, Nat.reduceLeDiff, x_bind, x_then, x_seq, x_ret, x_op2, x_op1, x_step, x_nilA, x_consA, x_callB, x_testE, x_toB, x_if, x_retS, x_dropS, x_setS, x_skip, x_andT, x_orT, x_notT, x_ifE, x_andE, x_orE, x_notE, x_chain, x_tupE, x_lstE, x_lstC, x_methL, x_for, x_itSeq, x_asSeq, x_asSeqT, x_asSeqS, x_range1, x_range2, x_enum, x_asLst, x_asg, x_isi, x_slice, x_noPart, x_rev, bnd_ok, bnd_err, thn_ok, thn_err, sq_nx, sq_ret, sq_brk, sq_ct, sq_err, bnB_ok, startE, List.map_cons, List.map_nil, List.length_cons, List.length_nil, Nat.reduceAdd, Nat.reduceSub, List.replicate_succ, List.replicate_zero, List.append_nil, List.cons_append, List.nil_append, if_true, if_false, Bool.false_eq_true, x_v0, x_vs, n_int, n_bl, n_str, n_non, n_lst, n_tup, n_scr, List.getElem?_cons_zero, List.getElem?_cons_succ, List.set_cons_zero, List.set_cons_succ, wipeD, Option.map_some, Bool.not_true, Bool.not_false]
      simp only [← h0, Int.add_zero]
  rw [x_seq, h1', sq_nx, x_seq, h1, sq_nx]
  have z0 : (0 : Nat) ≤ 100000 := by omega
  simp only [x_partV, bnI_ok, cutD_1, len_en, asSeq_en, asLst_en, lstOf_en, x_callF, x_callFR, liftP_ok, liftR_ok, liftB_bl, liftB_int, callV1, callV2, callV3, callV4, callRV1, callRV2, callRV3, callRV4, p_int, p_bl, p_scr, p_non, p_str, p_lst, p_tup, p_nil, p_cons, p_en, p_ens, Bool.and_self, en_norm, mod_ok, fdiv_lit, mul_lit, add_nat, add_one, lt_int, le_int, gt_int, ge_int, min_int, max_int, neg_int, eq_int, ne_int, eq_bl, ne_bl, len_lst, len_tup, len_scr, Int.reduceLT, Int.reduceLE, Nat.reduceLeDiff, x_bind, x_then, x_seq, x_ret, x_op2, x_op1, x_step, x_nilA, x_consA, x_callB, x_testE, x_toB, x_if, x_retS, x_dropS, x_setS, x_skip, x_andT, x_orT, x_notT, x_ifE, x_andE, x_orE, x_notE, x_chain, x_tupE, x_lstE, x_lstC, x_methL, x_for, x_itSeq, x_asSeq, x_asSeqT, x_asSeqS, x_range1, x_range2, x_enum, x_asLst, x_asg, x_isi, x_slice, x_noPart, x_rev, bnd_ok, bnd_err, thn_ok, thn_err, sq_nx, sq_ret, sq_brk, sq_ct, sq_err, bnB_ok, startE, List.map_cons, List.map_nil, List.length_cons, List.length_nil, Nat.reduceAdd, Nat.reduceSub, List.replicate_succ, List.replicate_zero, List.append_nil, List.cons_append, List.nil_append, if_true, if_false, Bool.false_eq_true, x_v0, x_vs, n_int, n_bl, n_str, n_non, n_lst, n_tup, n_scr, List.getElem?_cons_zero, List.getElem?_cons_succ, List.set_cons_zero, List.set_cons_succ, wipeD, Option.map_some, Bool.not_true, Bool.not_false, r1, ho', z0, ho.sq.len, x_rangeI1 n62]
  refine W_sq (W_for (fun i r S => ∃ inner homes o5 o6 o7 o8 o9 o10, r = [some (.scr ns), some (.int (n : Nat)), some (En.e outer), some (.loc 0), some (.loc 1), o5, o6, o7, o8, o9, o10] ∧ S = [.lst (inner.map (En.e (α := Tb))), .lst (homes.map (En.e (α := Nat × Nat)))] ∧ Part i n inner homes)
    ⟨[], [], none, none, none, none, none, none, rfl, rfl, rfl, fun k t h => by simp at h, List.nodup_nil, fun p => ⟨fun h => by simp at h, fun h => absurd h.1 (by simp)⟩, by simpa using n8⟩ ?_ ?_)
  · rintro i d r S hd ⟨inner, homes, o5, o6, o7, o8, o9, o10, rfl, rfl, hp⟩
    obtain ⟨hin, rfl⟩ := upto_at hd
    refine ⟨_, rfl, ?_⟩
    have hle := hp.le
    obtain ⟨m, hm⟩ : ∃ m : Nat, m + homes.length + n = 9 + i := ⟨9 + i - homes.length - n, by omega⟩
    have hm1 : 1 ≤ m := by omega
    have e7 : (9 : Int) - (homes.length : Nat) - (n : Nat) + (i : Nat) = (m : Nat) := by omega
    have rk := r_cell_at ns (2 + i)
    have e2i : (2 : Int) + (i : Nat) = ((2 + i : Nat) : Int) := by omega
    obtain ⟨s, s1, s2, hs⟩ := r_size (ns.getD (2 + i) 0) m hm1
    have l0 : ∀ (a b : List D), norm [Cell.lst a, .lst b] (.loc 0) = .loc 0 := fun _ _ => rfl
    have l1 : ∀ (a b : List D), norm [Cell.lst a, .lst b] (.loc 1) = .loc 1 := fun _ _ => rfl
    have l2 : ∀ (a b : List D), lenG [Cell.lst a, .lst b] [.loc 1] = some (.int (b.length : Nat), [Cell.lst a, .lst b]) := fun _ _ => rfl
    refine Cs_set fun G hG => ?_
    simp only [x_partV, bnI_ok, cutD_1, len_en, asSeq_en, asLst_en, lstOf_en, x_callF, x_callFR, liftP_ok, liftR_ok, liftB_bl, liftB_int, callV1, callV2, callV3, callV4, callRV1, callRV2, callRV3, callRV4, p_int, p_bl, p_scr, p_non, p_str, p_lst, p_tup, p_nil, p_cons, p_en, p_ens, Bool.and_self, en_norm, mod_ok, fdiv_lit, mul_lit, add_nat, add_one, lt_int, le_int, gt_int, ge_int, min_int, max_int, neg_int, eq_int, ne_int, eq_bl, ne_bl, len_lst, len_tup, len_scr, Int.reduceLT, Int.reduceLE, Nat.reduceLeDiff, x_bind, x_then, x_seq, x_ret, x_op2, x_op1, x_step, x_nilA, x_consA, x_callB, x_testE, x_toB, x_if, x_retS, x_dropS, x_setS, x_skip, x_andT, x_orT, x_notT, x_ifE, x_andE, x_orE, x_notE, x_chain, x_tupE, x_lstE, x_lstC, x_methL, x_for, x_itSeq, x_asSeq, x_asSeqT, x_asSeqS, x_range1, x_range2, x_enum, x_asLst, x_asg, x_isi, x_slice, x_noPart, x_rev, bnd_ok, bnd_err, thn_ok, thn_err, sq_nx, sq_ret, sq_brk, sq_ct, sq_err, bnB_ok, startE, List.map_cons, List.map_nil, List.length_cons, List.length_nil, Nat.reduceAdd, Nat.reduceSub, List.replicate_succ, List.replicate_zero, List.append_nil, List.cons_append, List.nil_append, if_true, if_false, Bool.false_eq_true, x_v0, x_vs, n_int, n_bl, n_str, n_non, n_lst, n_tup, n_scr, List.getElem?_cons_zero, List.getElem?_cons_succ, List.set_cons_zero, List.set_cons_succ, wipeD, Option.map_some, Bool.not_true, Bool.not_false, P_ok, add_int, e2i, rk]
    refine hG _ _ ?_
    clear hG G
    simp only [List.set_cons_zero, List.set_cons_succ]
    refine Cs_set fun G hG => ?_
    simp only [x_partV, bnI_ok, cutD_1, len_en, asSeq_en, asLst_en, lstOf_en, x_callF, x_callFR, liftP_ok, liftR_ok, liftB_bl, liftB_int, callV1, callV2, callV3, callV4, callRV1, callRV2, callRV3, callRV4, p_int, p_bl, p_scr, p_non, p_str, p_lst, p_tup, p_nil, p_cons, p_en, p_ens, Bool.and_self, en_norm, mod_ok, fdiv_lit, mul_lit, add_nat, add_one, lt_int, le_int, gt_int, ge_int, min_int, max_int, neg_int, eq_int, ne_int, eq_bl, ne_bl, len_lst, len_tup, len_scr, Int.reduceLT, Int.reduceLE, Nat.reduceLeDiff, x_bind, x_then, x_seq, x_ret, x_op2, x_op1, x_step, x_nilA, x_consA, x_callB, x_testE, x_toB, x_if, x_retS, x_dropS, x_setS, x_skip, x_andT, x_orT, x_notT, x_ifE, x_andE, x_orE, x_notE, x_chain, x_tupE, x_lstE, x_lstC, x_methL, x_for, x_itSeq, x_asSeq, x_asSeqT, x_asSeqS, x_range1, x_range2, x_enum, x_asLst, x_asg, x_isi, x_slice, x_noPart, x_rev, bnd_ok, bnd_err, thn_ok, thn_err, sq_nx, sq_ret, sq_brk, sq_ct, sq_err, bnB_ok, startE, List.map_cons, List.map_nil, List.length_cons, List.length_nil, Nat.reduceAdd, Nat.reduceSub, List.replicate_succ, List.replicate_zero, List.append_nil, List.cons_append, List.nil_append, if_true, if_false, Bool.false_eq_true, x_v0, x_vs, n_int, n_bl, n_str, n_non, n_lst, n_tup, n_scr, List.getElem?_cons_zero, List.getElem?_cons_succ, List.set_cons_zero, List.set_cons_succ, wipeD, Option.map_some, Bool.not_true, Bool.not_false, P_ok, add_int, sub_int, l1, l2, List.length_map, ho.sq.len, e7]
    refine hG _ _ ?_
    clear hG G
    simp only [List.set_cons_zero, List.set_cons_succ]
    refine Ws_set (hs _ _ rfl rfl) ?_
    simp only [List.set_cons_zero, List.set_cons_succ]
    have m9 : m ≤ 9 := by omega
    have s9 : s ≤ 9 := Nat.le_trans s2 m9
    obtain ⟨t, ht, ht'⟩ := r_table_by (ns.getD (2 + i) 0 / 32) s (by omega)
    have a1 := app_cell (S := [Cell.lst (inner.map (En.e (α := Tb))), .lst (homes.map (En.e (α := Nat × Nat)))]) (n := 0) (d := En.e t) rfl (by rw [List.length_map, hp.len]; omega)
    have a2 := lst_cell (S := [Cell.lst (inner.map (En.e (α := Tb))), .lst (homes.map (En.e (α := Nat × Nat)))]) (n := 0) rfl
    refine Cs_drop fun G hG => ?_
    simp only [x_partV, bnI_ok, cutD_1, len_en, asSeq_en, asLst_en, lstOf_en, x_callF, x_callFR, liftP_ok, liftR_ok, liftB_bl, liftB_int, callV1, callV2, callV3, callV4, callRV1, callRV2, callRV3, callRV4, p_int, p_bl, p_scr, p_non, p_str, p_lst, p_tup, p_nil, p_cons, p_en, p_ens, Bool.and_self, en_norm, mod_ok, fdiv_lit, mul_lit, add_nat, add_one, lt_int, le_int, gt_int, ge_int, min_int, max_int, neg_int, eq_int, ne_int, eq_bl, ne_bl, len_lst, len_tup, len_scr, Int.reduceLT, Int.reduceLE, Nat.reduceLeDiff, x_bind, x_then, x_seq, x_ret, x_op2, x_op1, x_step, x_nilA, x_consA, x_callB, x_testE, x_toB, x_if, x_retS, x_dropS, x_setS, x_skip, x_andT, x_orT, x_notT, x_ifE, x_andE, x_orE, x_notE, x_chain, x_tupE, x_lstE, x_lstC, x_methL, x_for, x_itSeq, x_asSeq, x_asSeqT, x_asSeqS, x_range1, x_range2, x_enum, x_asLst, x_asg, x_isi, x_slice, x_noPart, x_rev, bnd_ok, bnd_err, thn_ok, thn_err, sq_nx, sq_ret, sq_brk, sq_ct, sq_err, bnB_ok, startE, List.map_cons, List.map_nil, List.length_cons, List.length_nil, Nat.reduceAdd, Nat.reduceSub, List.replicate_succ, List.replicate_zero, List.append_nil, List.cons_append, List.nil_append, if_true, if_false, Bool.false_eq_true, x_v0, x_vs, n_int, n_bl, n_str, n_non, n_lst, n_tup, n_scr, List.getElem?_cons_zero, List.getElem?_cons_succ, List.set_cons_zero, List.set_cons_succ, wipeD, Option.map_some, Bool.not_true, Bool.not_false, P_ok, l0, a1, a2, ht', Option.isSome_some]
    refine hG _ _ ?_
    clear hG G
    rw [show List.map En.e inner ++ [En.e t] = (inner ++ [t]).map En.e by simp]
    have s62 : s < 2 ^ 62 := Nat.lt_of_le_of_lt (show s ≤ 9 by omega) (by decide)
    refine We_for (fun j r S => ∃ homes o9 o10, r = [some (.scr ns), some (.int (n : Nat)), some (En.e outer), some (.loc 0), some (.loc 1), some (.int (i : Nat)), some (.int (ns.getD (2 + i) 0)), some (.int (m : Nat)), some (.int (s : Nat)), o9, o10] ∧ S = [.lst ((inner ++ [t]).map (En.e (α := Tb))), .lst (homes.map (En.e (α := Nat × Nat)))] ∧ homes.Nodup ∧ (∀ p, p ∈ homes ↔ Home inner p ∨ (p.1 = i ∧ p.2 < j)) ∧ homes.length + m + n = 9 + i + j)
      (ds := upto s) (by simp only [x_partV, bnI_ok, cutD_1, len_en, asSeq_en, asLst_en, lstOf_en, x_callF, x_callFR, liftP_ok, liftR_ok, liftB_bl, liftB_int, callV1, callV2, callV3, callV4, callRV1, callRV2, callRV3, callRV4, p_int, p_bl, p_scr, p_non, p_str, p_lst, p_tup, p_nil, p_cons, p_en, p_ens, Bool.and_self, en_norm, mod_ok, fdiv_lit, mul_lit, add_nat, add_one, lt_int, le_int, gt_int, ge_int, min_int, max_int, neg_int, eq_int, ne_int, eq_bl, ne_bl, len_lst, len_tup, len_scr, Int.reduceLT, Int.reduceLE, Nat.reduceLeDiff, x_bind, x_then, x_seq, x_ret, x_op2, x_op1, x_step, x_nilA, x_consA, x_callB, x_testE, x_toB, x_if, x_retS, x_dropS, x_setS, x_skip, x_andT, x_orT, x_notT, x_ifE, x_andE, x_orE, x_notE, x_chain, x_tupE, x_lstE, x_lstC, x_methL, x_for, x_itSeq, x_asSeq, x_asSeqT, x_asSeqS, x_range1, x_range2, x_enum, x_asLst, x_asg, x_isi, x_slice, x_noPart, x_rev, bnd_ok, bnd_err, thn_ok, thn_err, sq_nx, sq_ret, sq_brk, sq_ct, sq_err, bnB_ok, startE, List.map_cons, List.map_nil, List.length_cons, List.length_nil, Nat.reduceAdd, Nat.reduceSub, List.replicate_succ, List.replicate_zero, List.append_nil, List.cons_append, List.nil_append, if_true, if_false, Bool.false_eq_true, x_v0, x_vs, n_int, n_bl, n_str, n_non, n_lst, n_tup, n_scr, List.getElem?_cons_zero, List.getElem?_cons_succ, List.set_cons_zero, List.set_cons_succ, wipeD, Option.map_some, Bool.not_true, Bool.not_false, x_rangeI1 s62]; try exact rfl) ⟨homes, o9, o10, rfl, rfl, hp.nd, fun p => by rw [hp.mem]; exact ⟨.inl, fun h => h.elim id fun q => absurd q.2 (by omega)⟩, by omega⟩ ?_ ?_
    · rintro j d r S hd ⟨homes, o9, o10, rfl, rfl, nd, mem, hl⟩
      obtain ⟨hjs, rfl⟩ := upto_at hd
      refine ⟨_, rfl, ?_⟩
      have r6 := r_cell_at ns (6 + homes.length)
      have e6 : (6 : Int) + (homes.length : Nat) = ((6 + homes.length : Nat) : Int) := by omega
      have hpos : (0 : Int) < (homes.length : Nat) + 1 := by omega
      have g0 := Int.emod_nonneg (ns.getD (6 + homes.length) 0) (show ((homes.length : Nat) : Int) + 1 ≠ 0 by omega)
      have g1 := Int.emod_lt_of_pos (ns.getD (6 + homes.length) 0) hpos
      obtain ⟨u, hu⟩ : ∃ u : Nat, ns.getD (6 + homes.length) 0 % ((homes.length : Nat) + 1) = (u : Nat) := ⟨_, (Int.toNat_of_nonneg g0).symm⟩
      have hul : u ≤ homes.length := by omega
      refine Cs_set fun G hG => ?_
      simp only [x_partV, bnI_ok, cutD_1, len_en, asSeq_en, asLst_en, lstOf_en, x_callF, x_callFR, liftP_ok, liftR_ok, liftB_bl, liftB_int, callV1, callV2, callV3, callV4, callRV1, callRV2, callRV3, callRV4, p_int, p_bl, p_scr, p_non, p_str, p_lst, p_tup, p_nil, p_cons, p_en, p_ens, Bool.and_self, en_norm, mod_ok, fdiv_lit, mul_lit, add_nat, add_one, lt_int, le_int, gt_int, ge_int, min_int, max_int, neg_int, eq_int, ne_int, eq_bl, ne_bl, len_lst, len_tup, len_scr, Int.reduceLT, Int.reduceLE, Nat.reduceLeDiff, x_bind, x_then, x_seq, x_ret, x_op2, x_op1, x_step, x_nilA, x_consA, x_callB, x_testE, x_toB, x_if, x_retS, x_dropS, x_setS, x_skip, x_andT, x_orT, x_notT, x_ifE, x_andE, x_orE, x_notE, x_chain, x_tupE, x_lstE, x_lstC, x_methL, x_for, x_itSeq, x_asSeq, x_asSeqT, x_asSeqS, x_range1, x_range2, x_enum, x_asLst, x_asg, x_isi, x_slice, x_noPart, x_rev, bnd_ok, bnd_err, thn_ok, thn_err, sq_nx, sq_ret, sq_brk, sq_ct, sq_err, bnB_ok, startE, List.map_cons, List.map_nil, List.length_cons, List.length_nil, Nat.reduceAdd, Nat.reduceSub, List.replicate_succ, List.replicate_zero, List.append_nil, List.cons_append, List.nil_append, if_true, if_false, Bool.false_eq_true, x_v0, x_vs, n_int, n_bl, n_str, n_non, n_lst, n_tup, n_scr, List.getElem?_cons_zero, List.getElem?_cons_succ, List.set_cons_zero, List.set_cons_succ, wipeD, Option.map_some, Bool.not_true, Bool.not_false, P_ok, add_int, l1, l2, List.length_map, e6, r6, mod_ok hpos, hu]
      refine hG _ _ ?_
      clear hG G
      simp only [List.set_cons_zero, List.set_cons_succ]
      have a3 := ins_cell (S := [Cell.lst ((inner ++ [t]).map (En.e (α := Tb))), .lst (homes.map (En.e (α := Nat × Nat)))]) (n := 1) (i := u) (d := En.e (i, j)) rfl (by rw [List.length_map]; omega) (by rw [List.length_map]; exact hul)
      rw [map_ins] at a3
      have a4 := lst_cell (S := [Cell.lst ((inner ++ [t]).map (En.e (α := Tb))), .lst (homes.map (En.e (α := Nat × Nat)))]) (n := 1) rfl
      have a5 : D.tup [.int (i : Nat), .int (j : Nat)] = En.e (i, j) := rfl
      refine Ce_drop fun G hG => ?_
      simp only [x_partV, bnI_ok, cutD_1, len_en, asSeq_en, asLst_en, lstOf_en, x_callF, x_callFR, liftP_ok, liftR_ok, liftB_bl, liftB_int, callV1, callV2, callV3, callV4, callRV1, callRV2, callRV3, callRV4, p_int, p_bl, p_scr, p_non, p_str, p_lst, p_tup, p_nil, p_cons, p_en, p_ens, Bool.and_self, en_norm, mod_ok, fdiv_lit, mul_lit, add_nat, add_one, lt_int, le_int, gt_int, ge_int, min_int, max_int, neg_int, eq_int, ne_int, eq_bl, ne_bl, len_lst, len_tup, len_scr, Int.reduceLT, Int.reduceLE, Nat.reduceLeDiff, x_bind, x_then, x_seq, x_ret, x_op2, x_op1, x_step, x_nilA, x_consA, x_callB, x_testE, x_toB, x_if, x_retS, x_dropS, x_setS, x_skip, x_andT, x_orT, x_notT, x_ifE, x_andE, x_orE, x_notE, x_chain, x_tupE, x_lstE, x_lstC, x_methL, x_for, x_itSeq, x_asSeq, x_asSeqT, x_asSeqS, x_range1, x_range2, x_enum, x_asLst, x_asg, x_isi, x_slice, x_noPart, x_rev, bnd_ok, bnd_err, thn_ok, thn_err, sq_nx, sq_ret, sq_brk, sq_ct, sq_err, bnB_ok, startE, List.map_cons, List.map_nil, List.length_cons, List.length_nil, Nat.reduceAdd, Nat.reduceSub, List.replicate_succ, List.replicate_zero, List.append_nil, List.cons_append, List.nil_append, if_true, if_false, Bool.false_eq_true, x_v0, x_vs, n_int, n_bl, n_str, n_non, n_lst, n_tup, n_scr, List.getElem?_cons_zero, List.getElem?_cons_succ, List.set_cons_zero, List.set_cons_succ, wipeD, Option.map_some, Bool.not_true, Bool.not_false, P_ok, l1, a3, a4, a5, Option.isSome_some, z0, show (2 : Nat) ≤ 100000 by omega]
      refine hG _ _ ?_
      clear hG G
      · have pm := perm_ins homes (i, j) u
        refine ⟨_, _, _, rfl, rfl, pm.nodup_iff.mpr (List.nodup_cons.mpr ⟨fun h => ?_, nd⟩), fun p => ?_, by rw [pm.length_eq, List.length_cons]; omega⟩
        · rcases (mem _).mp h with h | h
          · have := h.1; rw [hp.len] at this; exact absurd this (Nat.lt_irrefl i)
          · exact absurd h.2 (Nat.lt_irrefl j)
        · rw [pm.mem_iff, List.mem_cons, mem]
          constructor
          · rintro (rfl | h | h)
            · exact .inr ⟨rfl, Nat.lt_succ_self j⟩
            · exact .inl h
            · exact .inr ⟨h.1, by omega⟩
          · rintro (h | h)
            · exact .inr (.inl h)
            · by_cases q : p.2 = j
              · exact .inl (Prod.ext h.1 q)
              · exact .inr (.inr ⟨h.1, by omega⟩)
    · rintro r S ⟨homes, o9, o10, rfl, rfl, nd, mem, hl⟩
      rw [upto_len] at mem hl
      refine ⟨inner ++ [t], homes, _, _, _, _, _, _, rfl, rfl, by rw [List.length_append, hp.len]; rfl, fun k u h => ?_, nd, fun p => ?_, by omega⟩
      · by_cases hk : k < inner.length
        · rw [List.getElem?_append_left hk] at h
          exact hp.tb k u h
        · rw [List.getElem?_append_right (by omega)] at h
          have : k - inner.length = 0 := by
            have := (List.getElem?_eq_some_iff.mp h).1
            simp at this; omega
          rw [this] at h
          cases h
          exact ⟨s, s1, ht⟩
      · rw [mem, home_add, hp.len, ht.sq.len]
  · rintro r S ⟨inner, homes, o5, o6, o7, o8, o9, o10, rfl, rfl, hp⟩
    rw [upto_len] at hp
    refine We_ret (d := .lst [En.e outer, .loc 0, .loc 1]) (S1 := [.lst (inner.map (En.e (α := Tb))), .lst (homes.map (En.e (α := Nat × Nat)))]) ?_ ⟨mixD outer inner homes, ?_, n, outer, inner, homes, ⟨n1, n8, ho, hp⟩, rfl⟩
    · have l0 : ∀ (a b : List D), norm [Cell.lst a, .lst b] (.loc 0) = .loc 0 := fun _ _ => rfl
      have l1 : ∀ (a b : List D), norm [Cell.lst a, .lst b] (.loc 1) = .loc 1 := fun _ _ => rfl
      simp only [x_partV, bnI_ok, cutD_1, len_en, asSeq_en, asLst_en, lstOf_en, x_callF, x_callFR, liftP_ok, liftR_ok, liftB_bl, liftB_int, callV1, callV2, callV3, callV4, callRV1, callRV2, callRV3, callRV4, p_int, p_bl, p_scr, p_non, p_str, p_lst, p_tup, p_nil, p_cons, p_en, p_ens, Bool.and_self, en_norm, mod_ok, fdiv_lit, mul_lit, add_nat, add_one, lt_int, le_int, gt_int, ge_int, min_int, max_int, neg_int, eq_int, ne_int, eq_bl, ne_bl, len_lst, len_tup, len_scr, Int.reduceLT, Int.reduceLE, Nat.reduceLeDiff, x_bind, x_then, x_seq, x_ret, x_op2, x_op1, x_step, x_nilA, x_consA, x_callB, x_testE, x_toB, x_if, x_retS, x_dropS, x_setS, x_skip, x_andT, x_orT, x_notT, x_ifE, x_andE, x_orE, x_notE, x_chain, x_tupE, x_lstE, x_lstC, x_methL, x_for, x_itSeq, x_asSeq, x_asSeqT, x_asSeqS, x_range1, x_range2, x_enum, x_asLst, x_asg, x_isi, x_slice, x_noPart, x_rev, bnd_ok, bnd_err, thn_ok, thn_err, sq_nx, sq_ret, sq_brk, sq_ct, sq_err, bnB_ok, startE, List.map_cons, List.map_nil, List.length_cons, List.length_nil, Nat.reduceAdd, Nat.reduceSub, List.replicate_succ, List.replicate_zero, List.append_nil, List.cons_append, List.nil_append, if_true, if_false, Bool.false_eq_true, x_v0, x_vs, n_int, n_bl, n_str, n_non, n_lst, n_tup, n_scr, List.getElem?_cons_zero, List.getElem?_cons_succ, List.set_cons_zero, List.set_cons_succ, wipeD, Option.map_some, Bool.not_true, Bool.not_false, l0, l1]
    · have e0 : resLoc [Cell.lst (inner.map (En.e (α := Tb))), .lst (homes.map (En.e (α := Nat × Nat)))] (3 + 1) 0 = some (En.e inner) := by
        rw [resLoc_lst 3 rfl, resL_pure _ _ (p_ens inner)]; rfl
      have e1 : resLoc [Cell.lst (inner.map (En.e (α := Tb))), .lst (homes.map (En.e (α := Nat × Nat)))] (3 + 1) 1 = some (En.e homes) := by
        rw [resLoc_lst 3 rfl, resL_pure _ _ (p_ens homes)]; rfl
      simp only [resA, resD, resL, resD_pure _ _ (En.pu outer), e0, e1, Option.map_some]
end K75


namespace K75
open Aw
def beats (outer : Tb) (inner : List Tb) (p q : Nat × Nat) : Bool := if p.1 = q.1 then ent (inner.getD p.1 []) p.2 q.2 else ent outer p.1 q.1
theorem Part.get {i n : Nat} {inner : List Tb} {homes : List (Nat × Nat)} (h : Part i n inner homes) {k : Nat} (hk : k < inner.length) : inner[k]? = some (inner.getD k []) ∧ IsTb (inner.getD k []).length (inner.getD k []) ∧ 1 ≤ (inner.getD k []).length := by
  have e : inner[k]? = some (inner.getD k []) := by
    rw [List.getD_eq_getElem?_getD, List.getElem?_eq_getElem hk]; rfl
  obtain ⟨s, h1, h2⟩ := h.tb k _ e
  have := h2.sq.len
  exact ⟨e, by rw [this]; exact h2, by omega⟩
theorem pair_fst {S : Store} (p : Nat × Nat) : ixG S (En.e p) (.int 0) = some (.int (p.1 : Nat), S) := ix_fst p
theorem pair_snd {S : Store} (p : Nat × Nat) : ixG S (En.e p) (.int 1) = some (.int (p.2 : Nat), S) := ix_snd p
theorem n_mix {S : Store} (o : Tb) (i : List Tb) (h : List (Nat × Nat)) : norm S (mixD o i h) = mixD o i h := Eq.trans rfl rfl
theorem p_mix (o : Tb) (i : List Tb) (h : List (Nat × Nat)) : pureD (mixD o i h) = true := by
  simp only [x_partV, bnI_ok, cutD_1, len_en, asSeq_en, asLst_en, lstOf_en, x_callF, x_callFR, liftP_ok, liftR_ok, liftB_bl, liftB_int, callV1, callV2, callV3, callV4, callRV1, callRV2, callRV3, callRV4, p_int, p_bl, p_scr, p_non, p_str, p_lst, p_tup, p_nil, p_cons, p_en, p_ens, Bool.and_self, en_norm, mod_ok, fdiv_lit, mul_lit, add_nat, add_one, lt_int, le_int, gt_int, ge_int, min_int, max_int, neg_int, eq_int, ne_int, eq_bl, ne_bl, len_lst, len_tup, len_scr, Int.reduceLT, Int.reduceLE, Nat.reduceLeDiff, x_bind, x_then, x_seq, x_ret, x_op2, x_op1, x_step, x_nilA, x_consA, x_callB, x_testE, x_toB, x_if, x_retS, x_dropS, x_setS, x_skip, x_andT, x_orT, x_notT, x_ifE, x_andE, x_orE, x_notE, x_chain, x_tupE, x_lstE, x_lstC, x_methL, x_for, x_itSeq, x_asSeq, x_asSeqT, x_asSeqS, x_range1, x_range2, x_enum, x_asLst, x_asg, x_isi, x_slice, x_noPart, x_rev, bnd_ok, bnd_err, thn_ok, thn_err, sq_nx, sq_ret, sq_brk, sq_ct, sq_err, bnB_ok, startE, List.map_cons, List.map_nil, List.length_cons, List.length_nil, Nat.reduceAdd, Nat.reduceSub, List.replicate_succ, List.replicate_zero, List.append_nil, List.cons_append, List.nil_append, if_true, if_false, Bool.false_eq_true, x_v0, x_vs, n_int, n_bl, n_str, n_non, n_lst, n_tup, n_scr, List.getElem?_cons_zero, List.getElem?_cons_succ, List.set_cons_zero, List.set_cons_succ, wipeD, Option.map_some, Bool.not_true, Bool.not_false]
theorem mix0 {S : Store} (o : Tb) (i : List Tb) (h : List (Nat × Nat)) : ixG S (mixD o i h) (.int 0) = some (en o, S) := by
  rw [show (0 : Int) = ((0 : Nat) : Int) from rfl, ix_lst (d := en o) rfl, en_norm]
theorem mix1 {S : Store} (o : Tb) (i : List Tb) (h : List (Nat × Nat)) : ixG S (mixD o i h) (.int 1) = some (en i, S) := by
  rw [show (1 : Int) = ((1 : Nat) : Int) from rfl, ix_lst (d := en i) rfl, en_norm]
theorem mix2 {S : Store} (o : Tb) (i : List Tb) (h : List (Nat × Nat)) : ixG S (mixD o i h) (.int 2) = some (en h, S) := by
  rw [show (2 : Int) = ((2 : Nat) : Int) from rfl, ix_lst (d := en h) rfl, en_norm]
theorem ix_row {S : Store} {n : Nat} {t : Tb} (h : Sq n t) {i : Nat} (hi : i < n) : ixG S (en t) (.int (i : Nat)) = some (en (t.getD i []), S) := ix_tb h hi
theorem ix_ent {S : Store} {n : Nat} {t : Tb} (h : Sq n t) {i j : Nat} (hi : i < n) (hj : j < n) : ixG S (en (t.getD i [])) (.int (j : Nat)) = some (.bl (ent t i j), S) := ix_tb2 h hi hj
theorem Mix.fst {n : Nat} {outer : Tb} {inner : List Tb} {homes : List (Nat × Nat)} (M : Mix n outer inner homes) {p : Nat × Nat} (hp : Home inner p) : p.1 < n := by
  have := hp.1; rw [M.part.len] at this; exact this
theorem r_beats {n : Nat} {outer : Tb} {inner : List Tb} {homes : List (Nat × Nat)} (M : Mix n outer inner homes) {p q : Nat × Nat} (hp : Home inner p) (hq : Home inner q) :
    f__law_beats [mixD outer inner homes, En.e p, En.e q] = .ok (.bl (beats outer inner p q)) := by
  refine out_eq ?_
  unfold b__law_beats beats
  obtain ⟨g1, g2, g3⟩ := M.part.get hp.1
  by_cases h : p.1 = q.1
  · have hq2 : q.2 < (inner.getD p.1 []).length := by rw [h]; exact hq.2
    rw [if_pos h]
    refine Cs_if fun G hG => ?_
    simp only [x_partV, bnI_ok, cutD_1, len_en, asSeq_en, asLst_en, lstOf_en, x_callF, x_callFR, liftP_ok, liftR_ok, liftB_bl, liftB_int, callV1, callV2, callV3, callV4, callRV1, callRV2, callRV3, callRV4, p_int, p_bl, p_scr, p_non, p_str, p_lst, p_tup, p_nil, p_cons, p_en, p_ens, Bool.and_self, en_norm, mod_ok, fdiv_lit, mul_lit, add_nat, add_one, lt_int, le_int, gt_int, ge_int, min_int, max_int, neg_int, eq_int, ne_int, eq_bl, ne_bl, len_lst, len_tup, len_scr, Int.reduceLT, Int.reduceLE, Nat.reduceLeDiff, x_bind, x_then, x_seq, x_ret, x_op2, x_op1, x_step, x_nilA, x_consA, x_callB, x_testE, x_toB, x_if, x_retS, x_dropS, x_setS, x_skip, x_andT, x_orT, x_notT, x_ifE, x_andE, x_orE, x_notE, x_chain, x_tupE, x_lstE, x_lstC, x_methL, x_for, x_itSeq, x_asSeq, x_asSeqT, x_asSeqS, x_range1, x_range2, x_enum, x_asLst, x_asg, x_isi, x_slice, x_noPart, x_rev, bnd_ok, bnd_err, thn_ok, thn_err, sq_nx, sq_ret, sq_brk, sq_ct, sq_err, bnB_ok, startE, List.map_cons, List.map_nil, List.length_cons, List.length_nil, Nat.reduceAdd, Nat.reduceSub, List.replicate_succ, List.replicate_zero, List.append_nil, List.cons_append, List.nil_append, if_true, if_false, Bool.false_eq_true, x_v0, x_vs, n_int, n_bl, n_str, n_non, n_lst, n_tup, n_scr, List.getElem?_cons_zero, List.getElem?_cons_succ, List.set_cons_zero, List.set_cons_succ, wipeD, Option.map_some, Bool.not_true, Bool.not_false, P_ok, n_mix, pair_fst, h, decide_true]
    refine hG _ _ ?_
    clear hG G
    try simp only [if_true, if_false, Bool.false_eq_true]
    refine Ce_ret fun G hG => ?_
    simp only [x_partV, bnI_ok, cutD_1, len_en, asSeq_en, asLst_en, lstOf_en, x_callF, x_callFR, liftP_ok, liftR_ok, liftB_bl, liftB_int, callV1, callV2, callV3, callV4, callRV1, callRV2, callRV3, callRV4, p_int, p_bl, p_scr, p_non, p_str, p_lst, p_tup, p_nil, p_cons, p_en, p_ens, Bool.and_self, en_norm, mod_ok, fdiv_lit, mul_lit, add_nat, add_one, lt_int, le_int, gt_int, ge_int, min_int, max_int, neg_int, eq_int, ne_int, eq_bl, ne_bl, len_lst, len_tup, len_scr, Int.reduceLT, Int.reduceLE, Nat.reduceLeDiff, x_bind, x_then, x_seq, x_ret, x_op2, x_op1, x_step, x_nilA, x_consA, x_callB, x_testE, x_toB, x_if, x_retS, x_dropS, x_setS, x_skip, x_andT, x_orT, x_notT, x_ifE, x_andE, x_orE, x_notE, x_chain, x_tupE, x_lstE, x_lstC, x_methL, x_for, x_itSeq, x_asSeq, x_asSeqT, x_asSeqS, x_range1, x_range2, x_enum, x_asLst, x_asg, x_isi, x_slice, x_noPart, x_rev, bnd_ok, bnd_err, thn_ok, thn_err, sq_nx, sq_ret, sq_brk, sq_ct, sq_err, bnB_ok, startE, List.map_cons, List.map_nil, List.length_cons, List.length_nil, Nat.reduceAdd, Nat.reduceSub, List.replicate_succ, List.replicate_zero, List.append_nil, List.cons_append, List.nil_append, if_true, if_false, Bool.false_eq_true, x_v0, x_vs, n_int, n_bl, n_str, n_non, n_lst, n_tup, n_scr, List.getElem?_cons_zero, List.getElem?_cons_succ, List.set_cons_zero, List.set_cons_succ, wipeD, Option.map_some, Bool.not_true, Bool.not_false, P_ok, n_mix, pair_fst, pair_snd, mix1, ix_enl g1, ix_row g2.sq hp.2, ix_ent g2.sq hp.2 hq2]
    refine hG _ _ ?_
    clear hG G
    rfl
  · have h' : ¬ ((p.1 : Nat) : Int) = (q.1 : Nat) := fun e => h (Int.ofNat_inj.mp e)
    rw [if_neg h]
    refine Cs_if fun G hG => ?_
    simp only [x_partV, bnI_ok, cutD_1, len_en, asSeq_en, asLst_en, lstOf_en, x_callF, x_callFR, liftP_ok, liftR_ok, liftB_bl, liftB_int, callV1, callV2, callV3, callV4, callRV1, callRV2, callRV3, callRV4, p_int, p_bl, p_scr, p_non, p_str, p_lst, p_tup, p_nil, p_cons, p_en, p_ens, Bool.and_self, en_norm, mod_ok, fdiv_lit, mul_lit, add_nat, add_one, lt_int, le_int, gt_int, ge_int, min_int, max_int, neg_int, eq_int, ne_int, eq_bl, ne_bl, len_lst, len_tup, len_scr, Int.reduceLT, Int.reduceLE, Nat.reduceLeDiff, x_bind, x_then, x_seq, x_ret, x_op2, x_op1, x_step, x_nilA, x_consA, x_callB, x_testE, x_toB, x_if, x_retS, x_dropS, x_setS, x_skip, x_andT, x_orT, x_notT, x_ifE, x_andE, x_orE, x_notE, x_chain, x_tupE, x_lstE, x_lstC, x_methL, x_for, x_itSeq, x_asSeq, x_asSeqT, x_asSeqS, x_range1, x_range2, x_enum, x_asLst, x_asg, x_isi, x_slice, x_noPart, x_rev, bnd_ok, bnd_err, thn_ok, thn_err, sq_nx, sq_ret, sq_brk, sq_ct, sq_err, bnB_ok, startE, List.map_cons, List.map_nil, List.length_cons, List.length_nil, Nat.reduceAdd, Nat.reduceSub, List.replicate_succ, List.replicate_zero, List.append_nil, List.cons_append, List.nil_append, if_true, if_false, Bool.false_eq_true, x_v0, x_vs, n_int, n_bl, n_str, n_non, n_lst, n_tup, n_scr, List.getElem?_cons_zero, List.getElem?_cons_succ, List.set_cons_zero, List.set_cons_succ, wipeD, Option.map_some, Bool.not_true, Bool.not_false, P_ok, n_mix, pair_fst, h', decide_false]
    refine hG _ _ ?_
    clear hG G
    try simp only [if_true, if_false, Bool.false_eq_true]
    refine W_nx ?_
    refine Ce_ret fun G hG => ?_
    simp only [x_partV, bnI_ok, cutD_1, len_en, asSeq_en, asLst_en, lstOf_en, x_callF, x_callFR, liftP_ok, liftR_ok, liftB_bl, liftB_int, callV1, callV2, callV3, callV4, callRV1, callRV2, callRV3, callRV4, p_int, p_bl, p_scr, p_non, p_str, p_lst, p_tup, p_nil, p_cons, p_en, p_ens, Bool.and_self, en_norm, mod_ok, fdiv_lit, mul_lit, add_nat, add_one, lt_int, le_int, gt_int, ge_int, min_int, max_int, neg_int, eq_int, ne_int, eq_bl, ne_bl, len_lst, len_tup, len_scr, Int.reduceLT, Int.reduceLE, Nat.reduceLeDiff, x_bind, x_then, x_seq, x_ret, x_op2, x_op1, x_step, x_nilA, x_consA, x_callB, x_testE, x_toB, x_if, x_retS, x_dropS, x_setS, x_skip, x_andT, x_orT, x_notT, x_ifE, x_andE, x_orE, x_notE, x_chain, x_tupE, x_lstE, x_lstC, x_methL, x_for, x_itSeq, x_asSeq, x_asSeqT, x_asSeqS, x_range1, x_range2, x_enum, x_asLst, x_asg, x_isi, x_slice, x_noPart, x_rev, bnd_ok, bnd_err, thn_ok, thn_err, sq_nx, sq_ret, sq_brk, sq_ct, sq_err, bnB_ok, startE, List.map_cons, List.map_nil, List.length_cons, List.length_nil, Nat.reduceAdd, Nat.reduceSub, List.replicate_succ, List.replicate_zero, List.append_nil, List.cons_append, List.nil_append, if_true, if_false, Bool.false_eq_true, x_v0, x_vs, n_int, n_bl, n_str, n_non, n_lst, n_tup, n_scr, List.getElem?_cons_zero, List.getElem?_cons_succ, List.set_cons_zero, List.set_cons_succ, wipeD, Option.map_some, Bool.not_true, Bool.not_false, P_ok, n_mix, pair_fst, pair_snd, mix0, ix_row M.out.sq (M.fst hp), ix_ent M.out.sq (M.fst hp) (M.fst hq)]
    refine hG _ _ ?_
    clear hG G
    rfl
/-- the table of all things -/
def tab (outer : Tb) (inner : List Tb) (homes : List (Nat × Nat)) : Tb := homes.map fun p => homes.map (beats outer inner p)
theorem Mix.home {n : Nat} {outer : Tb} {inner : List Tb} {homes : List (Nat × Nat)} (M : Mix n outer inner homes) {p : Nat × Nat} (hp : p ∈ homes) : Home inner p := (M.part.mem p).mp hp
theorem Mix.few {n : Nat} {outer : Tb} {inner : List Tb} {homes : List (Nat × Nat)} (M : Mix n outer inner homes) : homes.length ≤ 8 := by
  have := M.part.le; omega
theorem r_row {n : Nat} {outer : Tb} {inner : List Tb} {homes : List (Nat × Nat)} (M : Mix n outer inner homes) {p : Nat × Nat} (hp : Home inner p) {hs : List (Nat × Nat)} (hh : ∀ q ∈ hs, Home inner q) (hl : hs.length ≤ 100000)
    {it : Sem (List D)} {r : Aw.Env} {S : Store} (hi : it r S = .ok (hs.map En.e) S) (k : Nat) (e1 e2 e3 : Sem D)
    (he : ∀ q ∈ hs, e1 ((wipeD r [k]).set k (some (En.e q))) S = .ok (mixD outer inner homes) S ∧ e2 ((wipeD r [k]).set k (some (En.e q))) S = .ok (En.e p) S ∧ e3 ((wipeD r [k]).set k (some (En.e q))) S = .ok (En.e q) S) :
    lcE it (.one k) [k] yesT (callF 3 f__law_beats (consA e1 (consA e2 (consA e3 nilA)))) r S = .ok (En.e (hs.map (beats outer inner p))) S := by
  rw [lc_all En.e (fun q => D.bl (beats outer inner p q)) hi hl fun q hq => ⟨_, rfl, by
    obtain ⟨h1, h2, h3⟩ := he q hq
    simp only [wipeD] at h1 h2 h3
    simp only [x_partV, bnI_ok, cutD_1, len_en, asSeq_en, asLst_en, lstOf_en, x_callF, x_callFR, liftP_ok, liftR_ok, liftB_bl, liftB_int, callV1, callV2, callV3, callV4, callRV1, callRV2, callRV3, callRV4, p_int, p_bl, p_scr, p_non, p_str, p_lst, p_tup, p_nil, p_cons, p_en, p_ens, Bool.and_self, en_norm, mod_ok, fdiv_lit, mul_lit, add_nat, add_one, lt_int, le_int, gt_int, ge_int, min_int, max_int, neg_int, eq_int, ne_int, eq_bl, ne_bl, len_lst, len_tup, len_scr, Int.reduceLT, Int.reduceLE, Nat.reduceLeDiff, x_bind, x_then, x_seq, x_ret, x_op2, x_op1, x_step, x_nilA, x_consA, x_callB, x_testE, x_toB, x_if, x_retS, x_dropS, x_setS, x_skip, x_andT, x_orT, x_notT, x_ifE, x_andE, x_orE, x_notE, x_chain, x_tupE, x_lstE, x_lstC, x_methL, x_for, x_itSeq, x_asSeq, x_asSeqT, x_asSeqS, x_range1, x_range2, x_enum, x_asLst, x_asg, x_isi, x_slice, x_noPart, x_rev, bnd_ok, bnd_err, thn_ok, thn_err, sq_nx, sq_ret, sq_brk, sq_ct, sq_err, bnB_ok, startE, List.map_cons, List.map_nil, List.length_cons, List.length_nil, Nat.reduceAdd, Nat.reduceSub, List.replicate_succ, List.replicate_zero, List.append_nil, List.cons_append, List.nil_append, if_true, if_false, Bool.false_eq_true, x_v0, x_vs, n_int, n_bl, n_str, n_non, n_lst, n_tup, n_scr, List.getElem?_cons_zero, List.getElem?_cons_succ, List.set_cons_zero, List.set_cons_succ, wipeD, Option.map_some, Bool.not_true, Bool.not_false, h1, h2, h3, p_mix, r_beats M hp (hh q hq)]⟩]
  rw [en_list, List.map_map]; rfl
theorem r_table {n : Nat} {outer : Tb} {inner : List Tb} {homes : List (Nat × Nat)} (M : Mix n outer inner homes) : f__law_table [mixD outer inner homes] = .ok (En.e (tab outer inner homes)) := by
  refine out_eq ?_
  unfold b__law_table
  simp only [startE, List.map_cons, List.map_nil, List.length_cons, List.length_nil, Nat.reduceAdd, Nat.reduceSub, List.replicate_succ, List.replicate_zero, List.append_nil, List.cons_append, List.nil_append]
  have hl : homes.length ≤ 100000 := by have := M.few; omega
  refine Cs_set fun G hG => ?_
  simp only [x_partV, bnI_ok, cutD_1, len_en, asSeq_en, asLst_en, lstOf_en, x_callF, x_callFR, liftP_ok, liftR_ok, liftB_bl, liftB_int, callV1, callV2, callV3, callV4, callRV1, callRV2, callRV3, callRV4, p_int, p_bl, p_scr, p_non, p_str, p_lst, p_tup, p_nil, p_cons, p_en, p_ens, Bool.and_self, en_norm, mod_ok, fdiv_lit, mul_lit, add_nat, add_one, lt_int, le_int, gt_int, ge_int, min_int, max_int, neg_int, eq_int, ne_int, eq_bl, ne_bl, len_lst, len_tup, len_scr, Int.reduceLT, Int.reduceLE, Nat.reduceLeDiff, x_bind, x_then, x_seq, x_ret, x_op2, x_op1, x_step, x_nilA, x_consA, x_callB, x_testE, x_toB, x_if, x_retS, x_dropS, x_setS, x_skip, x_andT, x_orT, x_notT, x_ifE, x_andE, x_orE, x_notE, x_chain, x_tupE, x_lstE, x_lstC, x_methL, x_for, x_itSeq, x_asSeq, x_asSeqT, x_asSeqS, x_range1, x_range2, x_enum, x_asLst, x_asg, x_isi, x_slice, x_noPart, x_rev, bnd_ok, bnd_err, thn_ok, thn_err, sq_nx, sq_ret, sq_brk, sq_ct, sq_err, bnB_ok, startE, List.map_cons, List.map_nil, List.length_cons, List.length_nil, Nat.reduceAdd, Nat.reduceSub, List.replicate_succ, List.replicate_zero, List.append_nil, List.cons_append, List.nil_append, if_true, if_false, Bool.false_eq_true, x_v0, x_vs, n_int, n_bl, n_str, n_non, n_lst, n_tup, n_scr, List.getElem?_cons_zero, List.getElem?_cons_succ, List.set_cons_zero, List.set_cons_succ, wipeD, Option.map_some, Bool.not_true, Bool.not_false, P_ok]
  refine hG _ _ ?_
  clear hG G
  simp only [List.set_cons_zero, List.set_cons_succ]
  refine Cs_for fun G hG => ?_
  simp only [x_partV, bnI_ok, cutD_1, len_en, asSeq_en, asLst_en, lstOf_en, x_callF, x_callFR, liftP_ok, liftR_ok, liftB_bl, liftB_int, callV1, callV2, callV3, callV4, callRV1, callRV2, callRV3, callRV4, p_int, p_bl, p_scr, p_non, p_str, p_lst, p_tup, p_nil, p_cons, p_en, p_ens, Bool.and_self, en_norm, mod_ok, fdiv_lit, mul_lit, add_nat, add_one, lt_int, le_int, gt_int, ge_int, min_int, max_int, neg_int, eq_int, ne_int, eq_bl, ne_bl, len_lst, len_tup, len_scr, Int.reduceLT, Int.reduceLE, Nat.reduceLeDiff, x_bind, x_then, x_seq, x_ret, x_op2, x_op1, x_step, x_nilA, x_consA, x_callB, x_testE, x_toB, x_if, x_retS, x_dropS, x_setS, x_skip, x_andT, x_orT, x_notT, x_ifE, x_andE, x_orE, x_notE, x_chain, x_tupE, x_lstE, x_lstC, x_methL, x_for, x_itSeq, x_asSeq, x_asSeqT, x_asSeqS, x_range1, x_range2, x_enum, x_asLst, x_asg, x_isi, x_slice, x_noPart, x_rev, bnd_ok, bnd_err, thn_ok, thn_err, sq_nx, sq_ret, sq_brk, sq_ct, sq_err, bnB_ok, startE, List.map_cons, List.map_nil, List.length_cons, List.length_nil, Nat.reduceAdd, Nat.reduceSub, List.replicate_succ, List.replicate_zero, List.append_nil, List.cons_append, List.nil_append, if_true, if_false, Bool.false_eq_true, x_v0, x_vs, n_int, n_bl, n_str, n_non, n_lst, n_tup, n_scr, List.getElem?_cons_zero, List.getElem?_cons_succ, List.set_cons_zero, List.set_cons_succ, wipeD, Option.map_some, Bool.not_true, Bool.not_false, P_ok, n_mix, mix2]
  refine hG _ _ ?_
  clear hG G
  refine W_for (fun i r S => ∃ o3, r = [some (mixD outer inner homes), some (.loc 0), o3, none] ∧ S = [.lst ((homes.take i).map fun p => En.e (homes.map (beats outer inner p)))]) ⟨none, rfl, rfl⟩ ?_ ?_
  · rintro i d r S hd ⟨o3, rfl, rfl⟩
    rw [List.getElem?_map] at hd
    cases hp : homes[i]? with
    | none => rw [hp] at hd; cases hd
    | some p =>
      rw [hp] at hd; cases hd
      have hm := M.home (List.mem_of_getElem? hp)
      refine ⟨_, rfl, ?_⟩
      have l0 : ∀ (a : List D), norm [Cell.lst a] (.loc 0) = .loc 0 := fun _ => rfl
      have a2 : ∀ (a : List D), lstOf [Cell.lst a] (.loc 0) = some a := fun _ => rfl
      have hrow : lcE (itSeq (op2 ixG (vE 0) (retO (.int 2)))) (.one 3) [3] yesT (callF 3 f__law_beats (consA (vE 0) (consA (vE 2) (consA (vE 3) nilA)))) [some (mixD outer inner homes), some (.loc 0), some (En.e p), none] [.lst ((homes.take i).map fun p => En.e (homes.map (beats outer inner p)))] = .ok (En.e (homes.map (beats outer inner p))) [.lst ((homes.take i).map fun p => En.e (homes.map (beats outer inner p)))] := by
        refine r_row M hm (fun q hq => M.home hq) hl ?_ 3 _ _ _ fun q hq => ?_
        · simp only [x_partV, bnI_ok, cutD_1, len_en, asSeq_en, asLst_en, lstOf_en, x_callF, x_callFR, liftP_ok, liftR_ok, liftB_bl, liftB_int, callV1, callV2, callV3, callV4, callRV1, callRV2, callRV3, callRV4, p_int, p_bl, p_scr, p_non, p_str, p_lst, p_tup, p_nil, p_cons, p_en, p_ens, Bool.and_self, en_norm, mod_ok, fdiv_lit, mul_lit, add_nat, add_one, lt_int, le_int, gt_int, ge_int, min_int, max_int, neg_int, eq_int, ne_int, eq_bl, ne_bl, len_lst, len_tup, len_scr, Int.reduceLT, Int.reduceLE, Nat.reduceLeDiff, x_bind, x_then, x_seq, x_ret, x_op2, x_op1, x_step, x_nilA, x_consA, x_callB, x_testE, x_toB, x_if, x_retS, x_dropS, x_setS, x_skip, x_andT, x_orT, x_notT, x_ifE, x_andE, x_orE, x_notE, x_chain, x_tupE, x_lstE, x_lstC, x_methL, x_for, x_itSeq, x_asSeq, x_asSeqT, x_asSeqS, x_range1, x_range2, x_enum, x_asLst, x_asg, x_isi, x_slice, x_noPart, x_rev, bnd_ok, bnd_err, thn_ok, thn_err, sq_nx, sq_ret, sq_brk, sq_ct, sq_err, bnB_ok, startE, List.map_cons, List.map_nil, List.length_cons, List.length_nil, Nat.reduceAdd, Nat.reduceSub, List.replicate_succ, List.replicate_zero, List.append_nil, List.cons_append, List.nil_append, if_true, if_false, Bool.false_eq_true, x_v0, x_vs, n_int, n_bl, n_str, n_non, n_lst, n_tup, n_scr, List.getElem?_cons_zero, List.getElem?_cons_succ, List.set_cons_zero, List.set_cons_succ, wipeD, Option.map_some, Bool.not_true, Bool.not_false, n_mix, mix2]
        · simp only [x_partV, bnI_ok, cutD_1, len_en, asSeq_en, asLst_en, lstOf_en, x_callF, x_callFR, liftP_ok, liftR_ok, liftB_bl, liftB_int, callV1, callV2, callV3, callV4, callRV1, callRV2, callRV3, callRV4, p_int, p_bl, p_scr, p_non, p_str, p_lst, p_tup, p_nil, p_cons, p_en, p_ens, Bool.and_self, en_norm, mod_ok, fdiv_lit, mul_lit, add_nat, add_one, lt_int, le_int, gt_int, ge_int, min_int, max_int, neg_int, eq_int, ne_int, eq_bl, ne_bl, len_lst, len_tup, len_scr, Int.reduceLT, Int.reduceLE, Nat.reduceLeDiff, x_bind, x_then, x_seq, x_ret, x_op2, x_op1, x_step, x_nilA, x_consA, x_callB, x_testE, x_toB, x_if, x_retS, x_dropS, x_setS, x_skip, x_andT, x_orT, x_notT, x_ifE, x_andE, x_orE, x_notE, x_chain, x_tupE, x_lstE, x_lstC, x_methL, x_for, x_itSeq, x_asSeq, x_asSeqT, x_asSeqS, x_range1, x_range2, x_enum, x_asLst, x_asg, x_isi, x_slice, x_noPart, x_rev, bnd_ok, bnd_err, thn_ok, thn_err, sq_nx, sq_ret, sq_brk, sq_ct, sq_err, bnB_ok, startE, List.map_cons, List.map_nil, List.length_cons, List.length_nil, Nat.reduceAdd, Nat.reduceSub, List.replicate_succ, List.replicate_zero, List.append_nil, List.cons_append, List.nil_append, if_true, if_false, Bool.false_eq_true, x_v0, x_vs, n_int, n_bl, n_str, n_non, n_lst, n_tup, n_scr, List.getElem?_cons_zero, List.getElem?_cons_succ, List.set_cons_zero, List.set_cons_succ, wipeD, Option.map_some, Bool.not_true, Bool.not_false, n_mix, and_self]
      have a1 := app_cell (S := [Cell.lst ((homes.take i).map fun p => En.e (homes.map (beats outer inner p)))]) (n := 0) (d := En.e (homes.map (beats outer inner p))) rfl (by rw [List.length_map, List.length_take]; have := M.few; omega)
      refine Ce_drop fun G hG => ?_
      simp only [x_partV, bnI_ok, cutD_1, len_en, asSeq_en, asLst_en, lstOf_en, x_callF, x_callFR, liftP_ok, liftR_ok, liftB_bl, liftB_int, callV1, callV2, callV3, callV4, callRV1, callRV2, callRV3, callRV4, p_int, p_bl, p_scr, p_non, p_str, p_lst, p_tup, p_nil, p_cons, p_en, p_ens, Bool.and_self, en_norm, mod_ok, fdiv_lit, mul_lit, add_nat, add_one, lt_int, le_int, gt_int, ge_int, min_int, max_int, neg_int, eq_int, ne_int, eq_bl, ne_bl, len_lst, len_tup, len_scr, Int.reduceLT, Int.reduceLE, Nat.reduceLeDiff, x_bind, x_then, x_seq, x_ret, x_op2, x_op1, x_step, x_nilA, x_consA, x_callB, x_testE, x_toB, x_if, x_retS, x_dropS, x_setS, x_skip, x_andT, x_orT, x_notT, x_ifE, x_andE, x_orE, x_notE, x_chain, x_tupE, x_lstE, x_lstC, x_methL, x_for, x_itSeq, x_asSeq, x_asSeqT, x_asSeqS, x_range1, x_range2, x_enum, x_asLst, x_asg, x_isi, x_slice, x_noPart, x_rev, bnd_ok, bnd_err, thn_ok, thn_err, sq_nx, sq_ret, sq_brk, sq_ct, sq_err, bnB_ok, startE, List.map_cons, List.map_nil, List.length_cons, List.length_nil, Nat.reduceAdd, Nat.reduceSub, List.replicate_succ, List.replicate_zero, List.append_nil, List.cons_append, List.nil_append, if_true, if_false, Bool.false_eq_true, x_v0, x_vs, n_int, n_bl, n_str, n_non, n_lst, n_tup, n_scr, List.getElem?_cons_zero, List.getElem?_cons_succ, List.set_cons_zero, List.set_cons_succ, wipeD, Option.map_some, Bool.not_true, Bool.not_false, P_ok, l0, a2, Option.isSome_some, hrow, a1]
      refine hG _ _ ?_
      clear hG G
      refine ⟨_, rfl, ?_⟩
      have ht : homes.take (i + 1) = homes.take i ++ [p] := by
        rw [List.take_add_one, hp]; rfl
      rw [ht, List.map_append]; rfl
  · rintro r S ⟨o3, rfl, rfl⟩
    rw [List.length_map, List.take_length]
    have l0 : ∀ (a : List D), norm [Cell.lst a] (.loc 0) = .loc 0 := fun _ => rfl
    refine Ce_ret fun G hG => ?_
    simp only [x_partV, bnI_ok, cutD_1, len_en, asSeq_en, asLst_en, lstOf_en, x_callF, x_callFR, liftP_ok, liftR_ok, liftB_bl, liftB_int, callV1, callV2, callV3, callV4, callRV1, callRV2, callRV3, callRV4, p_int, p_bl, p_scr, p_non, p_str, p_lst, p_tup, p_nil, p_cons, p_en, p_ens, Bool.and_self, en_norm, mod_ok, fdiv_lit, mul_lit, add_nat, add_one, lt_int, le_int, gt_int, ge_int, min_int, max_int, neg_int, eq_int, ne_int, eq_bl, ne_bl, len_lst, len_tup, len_scr, Int.reduceLT, Int.reduceLE, Nat.reduceLeDiff, x_bind, x_then, x_seq, x_ret, x_op2, x_op1, x_step, x_nilA, x_consA, x_callB, x_testE, x_toB, x_if, x_retS, x_dropS, x_setS, x_skip, x_andT, x_orT, x_notT, x_ifE, x_andE, x_orE, x_notE, x_chain, x_tupE, x_lstE, x_lstC, x_methL, x_for, x_itSeq, x_asSeq, x_asSeqT, x_asSeqS, x_range1, x_range2, x_enum, x_asLst, x_asg, x_isi, x_slice, x_noPart, x_rev, bnd_ok, bnd_err, thn_ok, thn_err, sq_nx, sq_ret, sq_brk, sq_ct, sq_err, bnB_ok, startE, List.map_cons, List.map_nil, List.length_cons, List.length_nil, Nat.reduceAdd, Nat.reduceSub, List.replicate_succ, List.replicate_zero, List.append_nil, List.cons_append, List.nil_append, if_true, if_false, Bool.false_eq_true, x_v0, x_vs, n_int, n_bl, n_str, n_non, n_lst, n_tup, n_scr, List.getElem?_cons_zero, List.getElem?_cons_succ, List.set_cons_zero, List.set_cons_succ, wipeD, Option.map_some, Bool.not_true, Bool.not_false, P_ok, l0]
    refine hG _ _ ?_
    clear hG G
    rw [resA_lst rfl (pureL_map _ (fun p => En.pu _) _)]
    show some (D.lst _) = some (D.lst _)
    rw [tab, List.map_map]; rfl
/-- the things of the k-th table -/
def piece (homes : List (Nat × Nat)) (k : Nat) : List Nat := (List.range homes.length).filter fun i => decide ((homes.getD i (0, 0)).1 = k)
def pieces (n : Nat) (homes : List (Nat × Nat)) : List (List Nat) := (List.range n).map (piece homes)
theorem r_pieces {n : Nat} {outer : Tb} {inner : List Tb} {homes : List (Nat × Nat)} (M : Mix n outer inner homes) : f__law_pieces [mixD outer inner homes] = .ok (En.e (pieces n homes)) := by
  refine out_eq ?_
  unfold b__law_pieces
  simp only [startE, List.map_cons, List.map_nil, List.length_cons, List.length_nil, Nat.reduceAdd, Nat.reduceSub, List.replicate_succ, List.replicate_zero, List.append_nil, List.cons_append, List.nil_append]
  have n62 : n < 2 ^ 62 := Nat.lt_of_le_of_lt M.n8 (by decide)
  have h62 : homes.length < 2 ^ 62 := Nat.lt_of_le_of_lt M.few (by decide)
  refine Cs_set fun G hG => ?_
  simp only [x_partV, bnI_ok, cutD_1, len_en, asSeq_en, asLst_en, lstOf_en, x_callF, x_callFR, liftP_ok, liftR_ok, liftB_bl, liftB_int, callV1, callV2, callV3, callV4, callRV1, callRV2, callRV3, callRV4, p_int, p_bl, p_scr, p_non, p_str, p_lst, p_tup, p_nil, p_cons, p_en, p_ens, Bool.and_self, en_norm, mod_ok, fdiv_lit, mul_lit, add_nat, add_one, lt_int, le_int, gt_int, ge_int, min_int, max_int, neg_int, eq_int, ne_int, eq_bl, ne_bl, len_lst, len_tup, len_scr, Int.reduceLT, Int.reduceLE, Nat.reduceLeDiff, x_bind, x_then, x_seq, x_ret, x_op2, x_op1, x_step, x_nilA, x_consA, x_callB, x_testE, x_toB, x_if, x_retS, x_dropS, x_setS, x_skip, x_andT, x_orT, x_notT, x_ifE, x_andE, x_orE, x_notE, x_chain, x_tupE, x_lstE, x_lstC, x_methL, x_for, x_itSeq, x_asSeq, x_asSeqT, x_asSeqS, x_range1, x_range2, x_enum, x_asLst, x_asg, x_isi, x_slice, x_noPart, x_rev, bnd_ok, bnd_err, thn_ok, thn_err, sq_nx, sq_ret, sq_brk, sq_ct, sq_err, bnB_ok, startE, List.map_cons, List.map_nil, List.length_cons, List.length_nil, Nat.reduceAdd, Nat.reduceSub, List.replicate_succ, List.replicate_zero, List.append_nil, List.cons_append, List.nil_append, if_true, if_false, Bool.false_eq_true, x_v0, x_vs, n_int, n_bl, n_str, n_non, n_lst, n_tup, n_scr, List.getElem?_cons_zero, List.getElem?_cons_succ, List.set_cons_zero, List.set_cons_succ, wipeD, Option.map_some, Bool.not_true, Bool.not_false, P_ok]
  refine hG _ _ ?_
  clear hG G
  simp only [List.set_cons_zero, List.set_cons_succ]
  refine Cs_for fun G hG => ?_
  simp only [x_partV, bnI_ok, cutD_1, len_en, asSeq_en, asLst_en, lstOf_en, x_callF, x_callFR, liftP_ok, liftR_ok, liftB_bl, liftB_int, callV1, callV2, callV3, callV4, callRV1, callRV2, callRV3, callRV4, p_int, p_bl, p_scr, p_non, p_str, p_lst, p_tup, p_nil, p_cons, p_en, p_ens, Bool.and_self, en_norm, mod_ok, fdiv_lit, mul_lit, add_nat, add_one, lt_int, le_int, gt_int, ge_int, min_int, max_int, neg_int, eq_int, ne_int, eq_bl, ne_bl, len_lst, len_tup, len_scr, Int.reduceLT, Int.reduceLE, Nat.reduceLeDiff, x_bind, x_then, x_seq, x_ret, x_op2, x_op1, x_step, x_nilA, x_consA, x_callB, x_testE, x_toB, x_if, x_retS, x_dropS, x_setS, x_skip, x_andT, x_orT, x_notT, x_ifE, x_andE, x_orE, x_notE, x_chain, x_tupE, x_lstE, x_lstC, x_methL, x_for, x_itSeq, x_asSeq, x_asSeqT, x_asSeqS, x_range1, x_range2, x_enum, x_asLst, x_asg, x_isi, x_slice, x_noPart, x_rev, bnd_ok, bnd_err, thn_ok, thn_err, sq_nx, sq_ret, sq_brk, sq_ct, sq_err, bnB_ok, startE, List.map_cons, List.map_nil, List.length_cons, List.length_nil, Nat.reduceAdd, Nat.reduceSub, List.replicate_succ, List.replicate_zero, List.append_nil, List.cons_append, List.nil_append, if_true, if_false, Bool.false_eq_true, x_v0, x_vs, n_int, n_bl, n_str, n_non, n_lst, n_tup, n_scr, List.getElem?_cons_zero, List.getElem?_cons_succ, List.set_cons_zero, List.set_cons_succ, wipeD, Option.map_some, Bool.not_true, Bool.not_false, P_ok, n_mix, mix0, M.out.sq.len, x_rangeI1 n62]
  refine hG _ _ ?_
  clear hG G
  refine W_for (fun i r S => ∃ o2, r = [some (mixD outer inner homes), some (.loc 0), o2, none] ∧ S = [.lst (((List.range i).map (piece homes)).map En.e)]) ⟨none, rfl, rfl⟩ ?_ ?_
  · rintro i d r S hd ⟨o2, rfl, rfl⟩
    obtain ⟨hin, rfl⟩ := upto_at hd
    refine ⟨_, rfl, ?_⟩
    have l0 : ∀ (a : List D), norm [Cell.lst a] (.loc 0) = .loc 0 := fun _ => rfl
    have a2 : ∀ (a : List D), lstOf [Cell.lst a] (.loc 0) = some a := fun _ => rfl
    have hrow : lcE (itRange1 (consA (callB lenG (consA (op2 ixG (vE 0) (retO (.int 2))) nilA)) nilA)) (.one 3) [3] (testE (op2 eqG (op2 ixG (op2 ixG (op2 ixG (vE 0) (retO (.int 2))) (vE 3)) (retO (.int 0))) (vE 2))) (vE 3) [some (mixD outer inner homes), some (.loc 0), some (.int (i : Nat)), none] [.lst (((List.range i).map (piece homes)).map En.e)] = .ok (En.e (piece homes i)) [.lst (((List.range i).map (piece homes)).map En.e)] := by
      rw [lc_map (fun j : Nat => D.int (j : Nat)) (fun j : Nat => D.int (j : Nat)) (fun j => decide ((homes.getD j (0, 0)).1 = i)) (xs := List.range homes.length) (by simp only [x_partV, bnI_ok, cutD_1, len_en, asSeq_en, asLst_en, lstOf_en, x_callF, x_callFR, liftP_ok, liftR_ok, liftB_bl, liftB_int, callV1, callV2, callV3, callV4, callRV1, callRV2, callRV3, callRV4, p_int, p_bl, p_scr, p_non, p_str, p_lst, p_tup, p_nil, p_cons, p_en, p_ens, Bool.and_self, en_norm, mod_ok, fdiv_lit, mul_lit, add_nat, add_one, lt_int, le_int, gt_int, ge_int, min_int, max_int, neg_int, eq_int, ne_int, eq_bl, ne_bl, len_lst, len_tup, len_scr, Int.reduceLT, Int.reduceLE, Nat.reduceLeDiff, x_bind, x_then, x_seq, x_ret, x_op2, x_op1, x_step, x_nilA, x_consA, x_callB, x_testE, x_toB, x_if, x_retS, x_dropS, x_setS, x_skip, x_andT, x_orT, x_notT, x_ifE, x_andE, x_orE, x_notE, x_chain, x_tupE, x_lstE, x_lstC, x_methL, x_for, x_itSeq, x_asSeq, x_asSeqT, x_asSeqS, x_range1, x_range2, x_enum, x_asLst, x_asg, x_isi, x_slice, x_noPart, x_rev, bnd_ok, bnd_err, thn_ok, thn_err, sq_nx, sq_ret, sq_brk, sq_ct, sq_err, bnB_ok, startE, List.map_cons, List.map_nil, List.length_cons, List.length_nil, Nat.reduceAdd, Nat.reduceSub, List.replicate_succ, List.replicate_zero, List.append_nil, List.cons_append, List.nil_append, if_true, if_false, Bool.false_eq_true, x_v0, x_vs, n_int, n_bl, n_str, n_non, n_lst, n_tup, n_scr, List.getElem?_cons_zero, List.getElem?_cons_succ, List.set_cons_zero, List.set_cons_succ, wipeD, Option.map_some, Bool.not_true, Bool.not_false, n_mix, mix2, x_rangeI1 h62]; rfl) (by rw [List.length_range]; have := M.few; omega) fun j hj => ⟨_, rfl, ?_, fun _ => ?_⟩]
      · rfl
      · have hjl := List.mem_range.mp hj
        have hg : homes[j]? = some (homes.getD j (0, 0)) := by
          rw [List.getD_eq_getElem?_getD, List.getElem?_eq_getElem hjl]; rfl
        simp only [x_partV, bnI_ok, cutD_1, len_en, asSeq_en, asLst_en, lstOf_en, x_callF, x_callFR, liftP_ok, liftR_ok, liftB_bl, liftB_int, callV1, callV2, callV3, callV4, callRV1, callRV2, callRV3, callRV4, p_int, p_bl, p_scr, p_non, p_str, p_lst, p_tup, p_nil, p_cons, p_en, p_ens, Bool.and_self, en_norm, mod_ok, fdiv_lit, mul_lit, add_nat, add_one, lt_int, le_int, gt_int, ge_int, min_int, max_int, neg_int, eq_int, ne_int, eq_bl, ne_bl, len_lst, len_tup, len_scr, Int.reduceLT, Int.reduceLE, Nat.reduceLeDiff, x_bind, x_then, x_seq, x_ret, x_op2, x_op1, x_step, x_nilA, x_consA, x_callB, x_testE, x_toB, x_if, x_retS, x_dropS, x_setS, x_skip, x_andT, x_orT, x_notT, x_ifE, x_andE, x_orE, x_notE, x_chain, x_tupE, x_lstE, x_lstC, x_methL, x_for, x_itSeq, x_asSeq, x_asSeqT, x_asSeqS, x_range1, x_range2, x_enum, x_asLst, x_asg, x_isi, x_slice, x_noPart, x_rev, bnd_ok, bnd_err, thn_ok, thn_err, sq_nx, sq_ret, sq_brk, sq_ct, sq_err, bnB_ok, startE, List.map_cons, List.map_nil, List.length_cons, List.length_nil, Nat.reduceAdd, Nat.reduceSub, List.replicate_succ, List.replicate_zero, List.append_nil, List.cons_append, List.nil_append, if_true, if_false, Bool.false_eq_true, x_v0, x_vs, n_int, n_bl, n_str, n_non, n_lst, n_tup, n_scr, List.getElem?_cons_zero, List.getElem?_cons_succ, List.set_cons_zero, List.set_cons_succ, wipeD, Option.map_some, Bool.not_true, Bool.not_false, n_mix, mix2, ix_enl hg, pair_fst, Int.ofNat_inj]
      · simp only [x_partV, bnI_ok, cutD_1, len_en, asSeq_en, asLst_en, lstOf_en, x_callF, x_callFR, liftP_ok, liftR_ok, liftB_bl, liftB_int, callV1, callV2, callV3, callV4, callRV1, callRV2, callRV3, callRV4, p_int, p_bl, p_scr, p_non, p_str, p_lst, p_tup, p_nil, p_cons, p_en, p_ens, Bool.and_self, en_norm, mod_ok, fdiv_lit, mul_lit, add_nat, add_one, lt_int, le_int, gt_int, ge_int, min_int, max_int, neg_int, eq_int, ne_int, eq_bl, ne_bl, len_lst, len_tup, len_scr, Int.reduceLT, Int.reduceLE, Nat.reduceLeDiff, x_bind, x_then, x_seq, x_ret, x_op2, x_op1, x_step, x_nilA, x_consA, x_callB, x_testE, x_toB, x_if, x_retS, x_dropS, x_setS, x_skip, x_andT, x_orT, x_notT, x_ifE, x_andE, x_orE, x_notE, x_chain, x_tupE, x_lstE, x_lstC, x_methL, x_for, x_itSeq, x_asSeq, x_asSeqT, x_asSeqS, x_range1, x_range2, x_enum, x_asLst, x_asg, x_isi, x_slice, x_noPart, x_rev, bnd_ok, bnd_err, thn_ok, thn_err, sq_nx, sq_ret, sq_brk, sq_ct, sq_err, bnB_ok, startE, List.map_cons, List.map_nil, List.length_cons, List.length_nil, Nat.reduceAdd, Nat.reduceSub, List.replicate_succ, List.replicate_zero, List.append_nil, List.cons_append, List.nil_append, if_true, if_false, Bool.false_eq_true, x_v0, x_vs, n_int, n_bl, n_str, n_non, n_lst, n_tup, n_scr, List.getElem?_cons_zero, List.getElem?_cons_succ, List.set_cons_zero, List.set_cons_succ, wipeD, Option.map_some, Bool.not_true, Bool.not_false]
    have a1 := app_cell (S := [Cell.lst (((List.range i).map (piece homes)).map En.e)]) (n := 0) (d := En.e (piece homes i)) rfl (by rw [List.length_map, List.length_map, List.length_range]; have := M.n8; omega)
    refine Ce_drop fun G hG => ?_
    simp only [x_partV, bnI_ok, cutD_1, len_en, asSeq_en, asLst_en, lstOf_en, x_callF, x_callFR, liftP_ok, liftR_ok, liftB_bl, liftB_int, callV1, callV2, callV3, callV4, callRV1, callRV2, callRV3, callRV4, p_int, p_bl, p_scr, p_non, p_str, p_lst, p_tup, p_nil, p_cons, p_en, p_ens, Bool.and_self, en_norm, mod_ok, fdiv_lit, mul_lit, add_nat, add_one, lt_int, le_int, gt_int, ge_int, min_int, max_int, neg_int, eq_int, ne_int, eq_bl, ne_bl, len_lst, len_tup, len_scr, Int.reduceLT, Int.reduceLE, Nat.reduceLeDiff, x_bind, x_then, x_seq, x_ret, x_op2, x_op1, x_step, x_nilA, x_consA, x_callB, x_testE, x_toB, x_if, x_retS, x_dropS, x_setS, x_skip, x_andT, x_orT, x_notT, x_ifE, x_andE, x_orE, x_notE, x_chain, x_tupE, x_lstE, x_lstC, x_methL, x_for, x_itSeq, x_asSeq, x_asSeqT, x_asSeqS, x_range1, x_range2, x_enum, x_asLst, x_asg, x_isi, x_slice, x_noPart, x_rev, bnd_ok, bnd_err, thn_ok, thn_err, sq_nx, sq_ret, sq_brk, sq_ct, sq_err, bnB_ok, startE, List.map_cons, List.map_nil, List.length_cons, List.length_nil, Nat.reduceAdd, Nat.reduceSub, List.replicate_succ, List.replicate_zero, List.append_nil, List.cons_append, List.nil_append, if_true, if_false, Bool.false_eq_true, x_v0, x_vs, n_int, n_bl, n_str, n_non, n_lst, n_tup, n_scr, List.getElem?_cons_zero, List.getElem?_cons_succ, List.set_cons_zero, List.set_cons_succ, wipeD, Option.map_some, Bool.not_true, Bool.not_false, P_ok, l0, a2, Option.isSome_some, hrow, a1]
    refine hG _ _ ?_
    clear hG G
    refine ⟨_, rfl, ?_⟩
    rw [List.range_succ, List.map_append, List.map_append]; rfl
  · rintro r S ⟨o2, rfl, rfl⟩
    rw [upto_len]
    have l0 : ∀ (a : List D), norm [Cell.lst a] (.loc 0) = .loc 0 := fun _ => rfl
    refine Ce_ret fun G hG => ?_
    simp only [x_partV, bnI_ok, cutD_1, len_en, asSeq_en, asLst_en, lstOf_en, x_callF, x_callFR, liftP_ok, liftR_ok, liftB_bl, liftB_int, callV1, callV2, callV3, callV4, callRV1, callRV2, callRV3, callRV4, p_int, p_bl, p_scr, p_non, p_str, p_lst, p_tup, p_nil, p_cons, p_en, p_ens, Bool.and_self, en_norm, mod_ok, fdiv_lit, mul_lit, add_nat, add_one, lt_int, le_int, gt_int, ge_int, min_int, max_int, neg_int, eq_int, ne_int, eq_bl, ne_bl, len_lst, len_tup, len_scr, Int.reduceLT, Int.reduceLE, Nat.reduceLeDiff, x_bind, x_then, x_seq, x_ret, x_op2, x_op1, x_step, x_nilA, x_consA, x_callB, x_testE, x_toB, x_if, x_retS, x_dropS, x_setS, x_skip, x_andT, x_orT, x_notT, x_ifE, x_andE, x_orE, x_notE, x_chain, x_tupE, x_lstE, x_lstC, x_methL, x_for, x_itSeq, x_asSeq, x_asSeqT, x_asSeqS, x_range1, x_range2, x_enum, x_asLst, x_asg, x_isi, x_slice, x_noPart, x_rev, bnd_ok, bnd_err, thn_ok, thn_err, sq_nx, sq_ret, sq_brk, sq_ct, sq_err, bnB_ok, startE, List.map_cons, List.map_nil, List.length_cons, List.length_nil, Nat.reduceAdd, Nat.reduceSub, List.replicate_succ, List.replicate_zero, List.append_nil, List.cons_append, List.nil_append, if_true, if_false, Bool.false_eq_true, x_v0, x_vs, n_int, n_bl, n_str, n_non, n_lst, n_tup, n_scr, List.getElem?_cons_zero, List.getElem?_cons_succ, List.set_cons_zero, List.set_cons_succ, wipeD, Option.map_some, Bool.not_true, Bool.not_false, P_ok, l0]
    refine hG _ _ ?_
    clear hG G
    exact resA_lst rfl (p_ens _)
end K75


namespace K75
open Aw
/-- the pieces of n things, told right -/
structure Good (n : Nat) (ps : List (List Int)) : Prop where
  ne : ∀ p ∈ ps, p ≠ []
  rg : ∀ t ∈ ps.flatten, 0 ≤ t ∧ t < (n : Nat)
  nd : ps.flatten.Nodup
  all : ∀ t : Nat, t < n → (t : Int) ∈ ps.flatten
/-- what stands in places when those of pre are told -/
def Put (n : Nat) (k : Nat) (pre : List Int) (L : List Int) : Prop := L.length = n ∧ ∀ t : Nat, t < n → ((t : Int) ∈ pre → ∃ a : Nat, L[t]? = some (a : Int) ∧ a < k) ∧ ((t : Int) ∉ pre → L[t]? = some (-1))
theorem r_places_of {n : Nat} {ps : List (List Int)} (hn : n ≤ 100) : (∃ d, f_places_of [En.e ps, .int (n : Nat)] = .ok d ∧ pureD d = true ∧ Good n ps) ∨ (∃ c, f_places_of [En.e ps, .int (n : Nat)] = .err c ∧ c = .own "BadParts" ∧ ¬ Good n ps) := by
  refine (out_WE (Q := fun d => pureD d = true ∧ Good n ps) (X := fun c => c = .own "BadParts" ∧ ¬ Good n ps) ?_).imp id id
  unfold b_places_of
  simp only [startE, List.map_cons, List.map_nil, List.length_cons, List.length_nil, Nat.reduceAdd, Nat.reduceSub, List.replicate_succ, List.replicate_zero, List.append_nil, List.cons_append, List.nil_append]
  have n62 : n < 2 ^ 62 := Nat.lt_of_le_of_lt hn (by decide)
  have h0 : lcC (itRange1 (consA (vE 1) nilA)) (.one 5) [5] yesT (op1 negG (retO (.int 1))) [some (En.e ps), some (.int (n : Nat)), none, none, none, none] [] = .ok (.loc 0) [.lst ((List.replicate n (-1 : Int)).map En.e)] := by
    rw [lcC_all (fun i : Nat => D.int (i : Nat)) (fun _ => D.int (-1)) (xs := List.range n) (S1 := []) (by simp only [x_partV, bnI_ok, cutD_1, len_en, asSeq_en, asLst_en, lstOf_en, x_callF, x_callFR, liftP_ok, liftR_ok, liftB_bl, liftB_int, callV1, callV2, callV3, callV4, callRV1, callRV2, callRV3, callRV4, p_int, p_bl, p_scr, p_non, p_str, p_lst, p_tup, p_nil, p_cons, p_en, p_ens, Bool.and_self, en_norm, mod_ok, fdiv_lit, mul_lit, add_nat, add_one, lt_int, le_int, gt_int, ge_int, min_int, max_int, neg_int, eq_int, ne_int, eq_bl, ne_bl, len_lst, len_tup, len_scr, Int.reduceLT, Int.reduceLE, Nat.reduceLeDiff, x_bind, x_then, x_seq, x_ret, x_op2, x_op1, x_step, x_nilA, x_consA, x_callB, x_testE, x_toB, x_if, x_retS, x_dropS, x_setS, x_skip, x_andT, x_orT, x_notT, x_ifE, x_andE, x_orE, x_notE, x_chain, x_tupE, x_lstE, x_lstC, x_methL, x_for, x_itSeq, x_asSeq, x_asSeqT, x_asSeqS, x_range1, x_range2, x_enum, x_asLst, x_asg, x_isi, x_slice, x_noPart, x_rev, bnd_ok, bnd_err, thn_ok, thn_err, sq_nx, sq_ret, sq_brk, sq_ct, sq_err, bnB_ok, startE, List.map_cons, List.map_nil, List.length_cons, List.length_nil, Nat.reduceAdd, Nat.reduceSub, List.replicate_succ, List.replicate_zero, List.append_nil, List.cons_append, List.nil_append, if_true, if_false, Bool.false_eq_true, x_v0, x_vs, n_int, n_bl, n_str, n_non, n_lst, n_tup, n_scr, List.getElem?_cons_zero, List.getElem?_cons_succ, List.set_cons_zero, List.set_cons_succ, wipeD, Option.map_some, Bool.not_true, Bool.not_false, x_rangeI1 n62]; rfl) (by rw [List.length_range]; omega) fun i hi => ⟨_, rfl, by simp only [x_partV, bnI_ok, cutD_1, len_en, asSeq_en, asLst_en, lstOf_en, x_callF, x_callFR, liftP_ok, liftR_ok, liftB_bl, liftB_int, callV1, callV2, callV3, callV4, callRV1, callRV2, callRV3, callRV4, p_int, p_bl, p_scr, p_non, p_str, p_lst, p_tup, p_nil, p_cons, p_en, p_ens, Bool.and_self, en_norm, mod_ok, fdiv_lit, mul_lit, add_nat, add_one, lt_int, le_int, gt_int, ge_int, min_int, max_int, neg_int, eq_int, ne_int, eq_bl, ne_bl, len_lst, len_tup, len_scr, Int.reduceLT, Int.reduceLE, Nat.reduceLeDiff, x_bind, x_then, x_seq, x_ret, x_op2, x_op1, x_step, x_nilA, x_consA, x_callB, x_testE, x_toB, x_if, x_retS, x_dropS, x_setS, x_skip, x_andT, x_orT, x_notT, x_ifE, x_andE, x_orE, x_notE, x_chain, x_tupE, x_lstE, x_lstC, x_methL, x_for, x_itSeq, x_asSeq, x_asSeqT, x_asSeqS, x_range1, x_range2, x_enum, x_asLst, x_asg, x_isi, x_slice, x_noPart, x_rev, bnd_ok, bnd_err, thn_ok, thn_err, sq_nx, sq_ret, sq_brk, sq_ct, sq_err, bnB_ok, startE, List.map_cons, List.map_nil, List.length_cons, List.length_nil, Nat.reduceAdd, Nat.reduceSub, List.replicate_succ, List.replicate_zero, List.append_nil, List.cons_append, List.nil_append, if_true, if_false, Bool.false_eq_true, x_v0, x_vs, n_int, n_bl, n_str, n_non, n_lst, n_tup, n_scr, List.getElem?_cons_zero, List.getElem?_cons_succ, List.set_cons_zero, List.set_cons_succ, wipeD, Option.map_some, Bool.not_true, Bool.not_false]⟩]
    rw [List.map_const', List.length_range, List.map_replicate]; rfl
  refine Cs_set fun G hG => ?_
  simp only [x_partV, bnI_ok, cutD_1, len_en, asSeq_en, asLst_en, lstOf_en, x_callF, x_callFR, liftP_ok, liftR_ok, liftB_bl, liftB_int, callV1, callV2, callV3, callV4, callRV1, callRV2, callRV3, callRV4, p_int, p_bl, p_scr, p_non, p_str, p_lst, p_tup, p_nil, p_cons, p_en, p_ens, Bool.and_self, en_norm, mod_ok, fdiv_lit, mul_lit, add_nat, add_one, lt_int, le_int, gt_int, ge_int, min_int, max_int, neg_int, eq_int, ne_int, eq_bl, ne_bl, len_lst, len_tup, len_scr, Int.reduceLT, Int.reduceLE, Nat.reduceLeDiff, x_bind, x_then, x_seq, x_ret, x_op2, x_op1, x_step, x_nilA, x_consA, x_callB, x_testE, x_toB, x_if, x_retS, x_dropS, x_setS, x_skip, x_andT, x_orT, x_notT, x_ifE, x_andE, x_orE, x_notE, x_chain, x_tupE, x_lstE, x_lstC, x_methL, x_for, x_itSeq, x_asSeq, x_asSeqT, x_asSeqS, x_range1, x_range2, x_enum, x_asLst, x_asg, x_isi, x_slice, x_noPart, x_rev, bnd_ok, bnd_err, thn_ok, thn_err, sq_nx, sq_ret, sq_brk, sq_ct, sq_err, bnB_ok, startE, List.map_cons, List.map_nil, List.length_cons, List.length_nil, Nat.reduceAdd, Nat.reduceSub, List.replicate_succ, List.replicate_zero, List.append_nil, List.cons_append, List.nil_append, if_true, if_false, Bool.false_eq_true, x_v0, x_vs, n_int, n_bl, n_str, n_non, n_lst, n_tup, n_scr, List.getElem?_cons_zero, List.getElem?_cons_succ, List.set_cons_zero, List.set_cons_succ, wipeD, Option.map_some, Bool.not_true, Bool.not_false, P_ok, h0]
  refine hG _ _ ?_
  clear hG G
  simp only [List.set_cons_zero, List.set_cons_succ]
  refine Cs_for fun G hG => ?_
  simp only [x_partV, bnI_ok, cutD_1, len_en, asSeq_en, asLst_en, lstOf_en, x_callF, x_callFR, liftP_ok, liftR_ok, liftB_bl, liftB_int, callV1, callV2, callV3, callV4, callRV1, callRV2, callRV3, callRV4, p_int, p_bl, p_scr, p_non, p_str, p_lst, p_tup, p_nil, p_cons, p_en, p_ens, Bool.and_self, en_norm, mod_ok, fdiv_lit, mul_lit, add_nat, add_one, lt_int, le_int, gt_int, ge_int, min_int, max_int, neg_int, eq_int, ne_int, eq_bl, ne_bl, len_lst, len_tup, len_scr, Int.reduceLT, Int.reduceLE, Nat.reduceLeDiff, x_bind, x_then, x_seq, x_ret, x_op2, x_op1, x_step, x_nilA, x_consA, x_callB, x_testE, x_toB, x_if, x_retS, x_dropS, x_setS, x_skip, x_andT, x_orT, x_notT, x_ifE, x_andE, x_orE, x_notE, x_chain, x_tupE, x_lstE, x_lstC, x_methL, x_for, x_itSeq, x_asSeq, x_asSeqT, x_asSeqS, x_range1, x_range2, x_enum, x_asLst, x_asg, x_isi, x_slice, x_noPart, x_rev, bnd_ok, bnd_err, thn_ok, thn_err, sq_nx, sq_ret, sq_brk, sq_ct, sq_err, bnB_ok, startE, List.map_cons, List.map_nil, List.length_cons, List.length_nil, Nat.reduceAdd, Nat.reduceSub, List.replicate_succ, List.replicate_zero, List.append_nil, List.cons_append, List.nil_append, if_true, if_false, Bool.false_eq_true, x_v0, x_vs, n_int, n_bl, n_str, n_non, n_lst, n_tup, n_scr, List.getElem?_cons_zero, List.getElem?_cons_succ, List.set_cons_zero, List.set_cons_succ, wipeD, Option.map_some, Bool.not_true, Bool.not_false, P_ok]
  refine hG _ _ ?_
  clear hG G
  have l0 : ∀ (a : List D), norm [Cell.lst a] (.loc 0) = .loc 0 := fun _ => rfl
  refine W_for (fun i r S => ∃ L o3 o4 o5, r = [some (En.e ps), some (.int (n : Nat)), some (.loc 0), o3, o4, o5] ∧ S = [.lst ((L : List Int).map En.e)] ∧ Put n i (ps.take i).flatten L ∧ (∀ p ∈ ps.take i, p ≠ []) ∧ (ps.take i).flatten.Nodup ∧ ∀ t ∈ (ps.take i).flatten, 0 ≤ t ∧ t < (n : Nat))
    ⟨List.replicate n (-1), none, none, none, rfl, rfl, ⟨by simp, fun t ht => ⟨fun h => by simp at h, fun _ => by simp [ht]⟩⟩, by simp, by simp, by simp⟩ ?_ ?_
  · rintro i d r S hd ⟨L, o3, o4, o5, rfl, rfl, hL, hne, hnd, hrg⟩
    have hin : i < ps.length := by
      have := (List.getElem?_eq_some_iff.mp hd).1
      rw [enumFrom_length, List.length_map] at this; exact this
    have hg : ps[i]? = some ps[i] := List.getElem?_eq_getElem hin
    rw [enumFrom_get _ 0 i _ (en_get hg)] at hd
    cases hd
    have hmem := List.getElem_mem hin
    refine ⟨_, rfl, ?_⟩
    simp only [setMany]
    simp only [List.set_cons_zero, List.set_cons_succ]
    have hsplit : ps.flatten = (ps.take i).flatten ++ ps[i] ++ (ps.drop (i + 1)).flatten := by
      conv => lhs; rw [← List.take_append_drop i ps, List.drop_eq_getElem_cons hin]
      rw [List.flatten_append, List.flatten_cons, List.append_assoc]
    have q1 : ∀ S : Store, eqG S (En.e ps[i]) (.lst []) = some (.bl (decide (ps[i] = [])), S) := fun S => eqG_en (by decide) ps[i] []
    by_cases hem : ps[i] = []
    · have q2 : ∀ S : Store, eqG S (En.e ps[i]) (.lst []) = some (.bl true, S) := fun S => by rw [q1, decide_eq_true hem]
      refine Cs_if fun G hG => ?_
      simp only [x_partV, bnI_ok, cutD_1, len_en, asSeq_en, asLst_en, lstOf_en, x_callF, x_callFR, liftP_ok, liftR_ok, liftB_bl, liftB_int, callV1, callV2, callV3, callV4, callRV1, callRV2, callRV3, callRV4, p_int, p_bl, p_scr, p_non, p_str, p_lst, p_tup, p_nil, p_cons, p_en, p_ens, Bool.and_self, en_norm, mod_ok, fdiv_lit, mul_lit, add_nat, add_one, lt_int, le_int, gt_int, ge_int, min_int, max_int, neg_int, eq_int, ne_int, eq_bl, ne_bl, len_lst, len_tup, len_scr, Int.reduceLT, Int.reduceLE, Nat.reduceLeDiff, x_bind, x_then, x_seq, x_ret, x_op2, x_op1, x_step, x_nilA, x_consA, x_callB, x_testE, x_toB, x_if, x_retS, x_dropS, x_setS, x_skip, x_andT, x_orT, x_notT, x_ifE, x_andE, x_orE, x_notE, x_chain, x_tupE, x_lstE, x_lstC, x_methL, x_for, x_itSeq, x_asSeq, x_asSeqT, x_asSeqS, x_range1, x_range2, x_enum, x_asLst, x_asg, x_isi, x_slice, x_noPart, x_rev, bnd_ok, bnd_err, thn_ok, thn_err, sq_nx, sq_ret, sq_brk, sq_ct, sq_err, bnB_ok, startE, List.map_cons, List.map_nil, List.length_cons, List.length_nil, Nat.reduceAdd, Nat.reduceSub, List.replicate_succ, List.replicate_zero, List.append_nil, List.cons_append, List.nil_append, if_true, if_false, Bool.false_eq_true, x_v0, x_vs, n_int, n_bl, n_str, n_non, n_lst, n_tup, n_scr, List.getElem?_cons_zero, List.getElem?_cons_succ, List.set_cons_zero, List.set_cons_succ, wipeD, Option.map_some, Bool.not_true, Bool.not_false, P_ok, q2]
      refine hG _ _ ?_
      clear hG G
      try simp only [if_true, if_false, Bool.false_eq_true]
      exact W_raise ⟨rfl, fun G => G.ne _ hmem hem⟩
    refine Cs_if fun G hG => ?_
    simp only [x_partV, bnI_ok, cutD_1, len_en, asSeq_en, asLst_en, lstOf_en, x_callF, x_callFR, liftP_ok, liftR_ok, liftB_bl, liftB_int, callV1, callV2, callV3, callV4, callRV1, callRV2, callRV3, callRV4, p_int, p_bl, p_scr, p_non, p_str, p_lst, p_tup, p_nil, p_cons, p_en, p_ens, Bool.and_self, en_norm, mod_ok, fdiv_lit, mul_lit, add_nat, add_one, lt_int, le_int, gt_int, ge_int, min_int, max_int, neg_int, eq_int, ne_int, eq_bl, ne_bl, len_lst, len_tup, len_scr, Int.reduceLT, Int.reduceLE, Nat.reduceLeDiff, x_bind, x_then, x_seq, x_ret, x_op2, x_op1, x_step, x_nilA, x_consA, x_callB, x_testE, x_toB, x_if, x_retS, x_dropS, x_setS, x_skip, x_andT, x_orT, x_notT, x_ifE, x_andE, x_orE, x_notE, x_chain, x_tupE, x_lstE, x_lstC, x_methL, x_for, x_itSeq, x_asSeq, x_asSeqT, x_asSeqS, x_range1, x_range2, x_enum, x_asLst, x_asg, x_isi, x_slice, x_noPart, x_rev, bnd_ok, bnd_err, thn_ok, thn_err, sq_nx, sq_ret, sq_brk, sq_ct, sq_err, bnB_ok, startE, List.map_cons, List.map_nil, List.length_cons, List.length_nil, Nat.reduceAdd, Nat.reduceSub, List.replicate_succ, List.replicate_zero, List.append_nil, List.cons_append, List.nil_append, if_true, if_false, Bool.false_eq_true, x_v0, x_vs, n_int, n_bl, n_str, n_non, n_lst, n_tup, n_scr, List.getElem?_cons_zero, List.getElem?_cons_succ, List.set_cons_zero, List.set_cons_succ, wipeD, Option.map_some, Bool.not_true, Bool.not_false, P_ok, q1, hem, decide_false]
    refine hG _ _ ?_
    clear hG G
    try simp only [if_true, if_false, Bool.false_eq_true]
    refine W_nx ?_
    refine Ce_for fun G hG => ?_
    simp only [x_partV, bnI_ok, cutD_1, len_en, asSeq_en, asLst_en, lstOf_en, x_callF, x_callFR, liftP_ok, liftR_ok, liftB_bl, liftB_int, callV1, callV2, callV3, callV4, callRV1, callRV2, callRV3, callRV4, p_int, p_bl, p_scr, p_non, p_str, p_lst, p_tup, p_nil, p_cons, p_en, p_ens, Bool.and_self, en_norm, mod_ok, fdiv_lit, mul_lit, add_nat, add_one, lt_int, le_int, gt_int, ge_int, min_int, max_int, neg_int, eq_int, ne_int, eq_bl, ne_bl, len_lst, len_tup, len_scr, Int.reduceLT, Int.reduceLE, Nat.reduceLeDiff, x_bind, x_then, x_seq, x_ret, x_op2, x_op1, x_step, x_nilA, x_consA, x_callB, x_testE, x_toB, x_if, x_retS, x_dropS, x_setS, x_skip, x_andT, x_orT, x_notT, x_ifE, x_andE, x_orE, x_notE, x_chain, x_tupE, x_lstE, x_lstC, x_methL, x_for, x_itSeq, x_asSeq, x_asSeqT, x_asSeqS, x_range1, x_range2, x_enum, x_asLst, x_asg, x_isi, x_slice, x_noPart, x_rev, bnd_ok, bnd_err, thn_ok, thn_err, sq_nx, sq_ret, sq_brk, sq_ct, sq_err, bnB_ok, startE, List.map_cons, List.map_nil, List.length_cons, List.length_nil, Nat.reduceAdd, Nat.reduceSub, List.replicate_succ, List.replicate_zero, List.append_nil, List.cons_append, List.nil_append, if_true, if_false, Bool.false_eq_true, x_v0, x_vs, n_int, n_bl, n_str, n_non, n_lst, n_tup, n_scr, List.getElem?_cons_zero, List.getElem?_cons_succ, List.set_cons_zero, List.set_cons_succ, wipeD, Option.map_some, Bool.not_true, Bool.not_false, P_ok]
    refine hG _ _ ?_
    clear hG G
    refine W_for (fun j r S => ∃ L o5, r = [some (En.e ps), some (.int (n : Nat)), some (.loc 0), some (.int (i : Nat)), some (En.e ps[i]), o5] ∧ S = [.lst ((L : List Int).map En.e)] ∧ Put n (i + 1) ((ps.take i).flatten ++ ps[i].take j) L ∧ ((ps.take i).flatten ++ ps[i].take j).Nodup ∧ ∀ t ∈ (ps.take i).flatten ++ ps[i].take j, 0 ≤ t ∧ t < (n : Nat))
      ⟨L, o5, by rw [Nat.zero_add], rfl, ?_, by rw [List.take_zero, List.append_nil]; exact hnd, by rw [List.take_zero, List.append_nil]; exact hrg⟩ ?_ ?_
    · rw [List.take_zero, List.append_nil]
      refine ⟨hL.1, fun t ht => ⟨fun h => ?_, (hL.2 t ht).2⟩⟩
      obtain ⟨a, h1, h2⟩ := (hL.2 t ht).1 h
      exact ⟨a, h1, by omega⟩
    · rintro j d r S hd ⟨L, o5, rfl, rfl, hL, hnd, hrg⟩
      have hjn : j < ps[i].length := by
        have := (List.getElem?_eq_some_iff.mp hd).1
        rw [List.length_map] at this; exact this
      have hg2 : ps[i][j]? = some ps[i][j] := List.getElem?_eq_getElem hjn
      rw [en_get hg2] at hd
      cases hd
      refine ⟨_, rfl, ?_⟩
      simp only [List.set_cons_zero, List.set_cons_succ]
      generalize ht : ps[i][j] = t at *
      have htk : ps[i].take (j + 1) = ps[i].take j ++ [t] := by
        rw [List.take_add_one, hg2]; rfl
      have hfl : t ∈ ps.flatten := by
        rw [hsplit, List.mem_append, List.mem_append]
        exact .inl (.inr (ht ▸ List.getElem_mem hjn))
      by_cases h1 : t < 0
      · refine Cs_if fun G hG => ?_
        simp only [x_partV, bnI_ok, cutD_1, len_en, asSeq_en, asLst_en, lstOf_en, x_callF, x_callFR, liftP_ok, liftR_ok, liftB_bl, liftB_int, callV1, callV2, callV3, callV4, callRV1, callRV2, callRV3, callRV4, p_int, p_bl, p_scr, p_non, p_str, p_lst, p_tup, p_nil, p_cons, p_en, p_ens, Bool.and_self, en_norm, mod_ok, fdiv_lit, mul_lit, add_nat, add_one, lt_int, le_int, gt_int, ge_int, min_int, max_int, neg_int, eq_int, ne_int, eq_bl, ne_bl, len_lst, len_tup, len_scr, Int.reduceLT, Int.reduceLE, Nat.reduceLeDiff, x_bind, x_then, x_seq, x_ret, x_op2, x_op1, x_step, x_nilA, x_consA, x_callB, x_testE, x_toB, x_if, x_retS, x_dropS, x_setS, x_skip, x_andT, x_orT, x_notT, x_ifE, x_andE, x_orE, x_notE, x_chain, x_tupE, x_lstE, x_lstC, x_methL, x_for, x_itSeq, x_asSeq, x_asSeqT, x_asSeqS, x_range1, x_range2, x_enum, x_asLst, x_asg, x_isi, x_slice, x_noPart, x_rev, bnd_ok, bnd_err, thn_ok, thn_err, sq_nx, sq_ret, sq_brk, sq_ct, sq_err, bnB_ok, startE, List.map_cons, List.map_nil, List.length_cons, List.length_nil, Nat.reduceAdd, Nat.reduceSub, List.replicate_succ, List.replicate_zero, List.append_nil, List.cons_append, List.nil_append, if_true, if_false, Bool.false_eq_true, x_v0, x_vs, n_int, n_bl, n_str, n_non, n_lst, n_tup, n_scr, List.getElem?_cons_zero, List.getElem?_cons_succ, List.set_cons_zero, List.set_cons_succ, wipeD, Option.map_some, Bool.not_true, Bool.not_false, P_ok, en_int, h1, decide_true]
        refine hG _ _ ?_
        clear hG G
        try simp only [if_true, if_false, Bool.false_eq_true]
        refine W_raise ⟨rfl, fun G => ?_⟩
        have := (G.rg t hfl).1
        omega
      by_cases h2 : (n : Int) ≤ t
      · refine Cs_if fun G hG => ?_
        simp only [x_partV, bnI_ok, cutD_1, len_en, asSeq_en, asLst_en, lstOf_en, x_callF, x_callFR, liftP_ok, liftR_ok, liftB_bl, liftB_int, callV1, callV2, callV3, callV4, callRV1, callRV2, callRV3, callRV4, p_int, p_bl, p_scr, p_non, p_str, p_lst, p_tup, p_nil, p_cons, p_en, p_ens, Bool.and_self, en_norm, mod_ok, fdiv_lit, mul_lit, add_nat, add_one, lt_int, le_int, gt_int, ge_int, min_int, max_int, neg_int, eq_int, ne_int, eq_bl, ne_bl, len_lst, len_tup, len_scr, Int.reduceLT, Int.reduceLE, Nat.reduceLeDiff, x_bind, x_then, x_seq, x_ret, x_op2, x_op1, x_step, x_nilA, x_consA, x_callB, x_testE, x_toB, x_if, x_retS, x_dropS, x_setS, x_skip, x_andT, x_orT, x_notT, x_ifE, x_andE, x_orE, x_notE, x_chain, x_tupE, x_lstE, x_lstC, x_methL, x_for, x_itSeq, x_asSeq, x_asSeqT, x_asSeqS, x_range1, x_range2, x_enum, x_asLst, x_asg, x_isi, x_slice, x_noPart, x_rev, bnd_ok, bnd_err, thn_ok, thn_err, sq_nx, sq_ret, sq_brk, sq_ct, sq_err, bnB_ok, startE, List.map_cons, List.map_nil, List.length_cons, List.length_nil, Nat.reduceAdd, Nat.reduceSub, List.replicate_succ, List.replicate_zero, List.append_nil, List.cons_append, List.nil_append, if_true, if_false, Bool.false_eq_true, x_v0, x_vs, n_int, n_bl, n_str, n_non, n_lst, n_tup, n_scr, List.getElem?_cons_zero, List.getElem?_cons_succ, List.set_cons_zero, List.set_cons_succ, wipeD, Option.map_some, Bool.not_true, Bool.not_false, P_ok, en_int, h1, h2, decide_true, decide_false]
        refine hG _ _ ?_
        clear hG G
        try simp only [if_true, if_false, Bool.false_eq_true]
        refine W_raise ⟨rfl, fun G => ?_⟩
        have := (G.rg t hfl).2
        omega
      obtain ⟨u, rfl⟩ : ∃ u : Nat, t = (u : Nat) := ⟨t.toNat, by omega⟩
      have hu : u < n := by omega
      by_cases h3 : (u : Int) ∈ (ps.take i).flatten ++ ps[i].take j
      · obtain ⟨a, ha, _⟩ := (hL.2 u hu).1 h3
        have g1 : ixG [Cell.lst (L.map En.e)] (.loc 0) (.int (u : Nat)) = some (.int (a : Nat), [Cell.lst (L.map En.e)]) := ix_loc rfl (en_get ha)
        have n3 : (0 : Int) ≤ (a : Nat) := by omega
        refine Cs_if fun G hG => ?_
        simp only [x_partV, bnI_ok, cutD_1, len_en, asSeq_en, asLst_en, lstOf_en, x_callF, x_callFR, liftP_ok, liftR_ok, liftB_bl, liftB_int, callV1, callV2, callV3, callV4, callRV1, callRV2, callRV3, callRV4, p_int, p_bl, p_scr, p_non, p_str, p_lst, p_tup, p_nil, p_cons, p_en, p_ens, Bool.and_self, en_norm, mod_ok, fdiv_lit, mul_lit, add_nat, add_one, lt_int, le_int, gt_int, ge_int, min_int, max_int, neg_int, eq_int, ne_int, eq_bl, ne_bl, len_lst, len_tup, len_scr, Int.reduceLT, Int.reduceLE, Nat.reduceLeDiff, x_bind, x_then, x_seq, x_ret, x_op2, x_op1, x_step, x_nilA, x_consA, x_callB, x_testE, x_toB, x_if, x_retS, x_dropS, x_setS, x_skip, x_andT, x_orT, x_notT, x_ifE, x_andE, x_orE, x_notE, x_chain, x_tupE, x_lstE, x_lstC, x_methL, x_for, x_itSeq, x_asSeq, x_asSeqT, x_asSeqS, x_range1, x_range2, x_enum, x_asLst, x_asg, x_isi, x_slice, x_noPart, x_rev, bnd_ok, bnd_err, thn_ok, thn_err, sq_nx, sq_ret, sq_brk, sq_ct, sq_err, bnB_ok, startE, List.map_cons, List.map_nil, List.length_cons, List.length_nil, Nat.reduceAdd, Nat.reduceSub, List.replicate_succ, List.replicate_zero, List.append_nil, List.cons_append, List.nil_append, if_true, if_false, Bool.false_eq_true, x_v0, x_vs, n_int, n_bl, n_str, n_non, n_lst, n_tup, n_scr, List.getElem?_cons_zero, List.getElem?_cons_succ, List.set_cons_zero, List.set_cons_succ, wipeD, Option.map_some, Bool.not_true, Bool.not_false, P_ok, en_int, h1, h2, n3, l0, g1, decide_true, decide_false]
        refine hG _ _ ?_
        clear hG G
        try simp only [if_true, if_false, Bool.false_eq_true]
        refine W_raise ⟨rfl, fun G => ?_⟩
        have h4 := G.nd
        rw [hsplit] at h4
        have h5 := (List.nodup_append.mp h4).1
        conv at h5 => rw [← List.take_append_drop j ps[i], List.drop_eq_getElem_cons hjn, ht, ← List.append_assoc]
        exact (List.nodup_append.mp h5).2.2 _ h3 _ List.mem_cons_self rfl
      · have hm1 := (hL.2 u hu).2 h3
        have g1 : ixG [Cell.lst (L.map En.e)] (.loc 0) (.int (u : Nat)) = some (.int (-1), [Cell.lst (L.map En.e)]) := ix_loc rfl (en_get hm1)
        have n3 : ¬ (0 : Int) ≤ -1 := by omega
        refine Cs_if fun G hG => ?_
        simp only [x_partV, bnI_ok, cutD_1, len_en, asSeq_en, asLst_en, lstOf_en, x_callF, x_callFR, liftP_ok, liftR_ok, liftB_bl, liftB_int, callV1, callV2, callV3, callV4, callRV1, callRV2, callRV3, callRV4, p_int, p_bl, p_scr, p_non, p_str, p_lst, p_tup, p_nil, p_cons, p_en, p_ens, Bool.and_self, en_norm, mod_ok, fdiv_lit, mul_lit, add_nat, add_one, lt_int, le_int, gt_int, ge_int, min_int, max_int, neg_int, eq_int, ne_int, eq_bl, ne_bl, len_lst, len_tup, len_scr, Int.reduceLT, Int.reduceLE, Nat.reduceLeDiff, x_bind, x_then, x_seq, x_ret, x_op2, x_op1, x_step, x_nilA, x_consA, x_callB, x_testE, x_toB, x_if, x_retS, x_dropS, x_setS, x_skip, x_andT, x_orT, x_notT, x_ifE, x_andE, x_orE, x_notE, x_chain, x_tupE, x_lstE, x_lstC, x_methL, x_for, x_itSeq, x_asSeq, x_asSeqT, x_asSeqS, x_range1, x_range2, x_enum, x_asLst, x_asg, x_isi, x_slice, x_noPart, x_rev, bnd_ok, bnd_err, thn_ok, thn_err, sq_nx, sq_ret, sq_brk, sq_ct, sq_err, bnB_ok, startE, List.map_cons, List.map_nil, List.length_cons, List.length_nil, Nat.reduceAdd, Nat.reduceSub, List.replicate_succ, List.replicate_zero, List.append_nil, List.cons_append, List.nil_append, if_true, if_false, Bool.false_eq_true, x_v0, x_vs, n_int, n_bl, n_str, n_non, n_lst, n_tup, n_scr, List.getElem?_cons_zero, List.getElem?_cons_succ, List.set_cons_zero, List.set_cons_succ, wipeD, Option.map_some, Bool.not_true, Bool.not_false, P_ok, en_int, h1, h2, n3, l0, g1, decide_false]
        refine hG _ _ ?_
        clear hG G
        try simp only [if_true, if_false, Bool.false_eq_true]
        refine W_nx ?_
        have g2 := set_cell (S := [Cell.lst (L.map En.e)]) (n := 0) (k := u) (d := .int (i : Nat)) rfl (by rw [List.length_map, hL.1]; exact hu)
        refine Ce_asg fun G hG => ?_
        simp only [x_partV, bnI_ok, cutD_1, len_en, asSeq_en, asLst_en, lstOf_en, x_callF, x_callFR, liftP_ok, liftR_ok, liftB_bl, liftB_int, callV1, callV2, callV3, callV4, callRV1, callRV2, callRV3, callRV4, p_int, p_bl, p_scr, p_non, p_str, p_lst, p_tup, p_nil, p_cons, p_en, p_ens, Bool.and_self, en_norm, mod_ok, fdiv_lit, mul_lit, add_nat, add_one, lt_int, le_int, gt_int, ge_int, min_int, max_int, neg_int, eq_int, ne_int, eq_bl, ne_bl, len_lst, len_tup, len_scr, Int.reduceLT, Int.reduceLE, Nat.reduceLeDiff, x_bind, x_then, x_seq, x_ret, x_op2, x_op1, x_step, x_nilA, x_consA, x_callB, x_testE, x_toB, x_if, x_retS, x_dropS, x_setS, x_skip, x_andT, x_orT, x_notT, x_ifE, x_andE, x_orE, x_notE, x_chain, x_tupE, x_lstE, x_lstC, x_methL, x_for, x_itSeq, x_asSeq, x_asSeqT, x_asSeqS, x_range1, x_range2, x_enum, x_asLst, x_asg, x_isi, x_slice, x_noPart, x_rev, bnd_ok, bnd_err, thn_ok, thn_err, sq_nx, sq_ret, sq_brk, sq_ct, sq_err, bnB_ok, startE, List.map_cons, List.map_nil, List.length_cons, List.length_nil, Nat.reduceAdd, Nat.reduceSub, List.replicate_succ, List.replicate_zero, List.append_nil, List.cons_append, List.nil_append, if_true, if_false, Bool.false_eq_true, x_v0, x_vs, n_int, n_bl, n_str, n_non, n_lst, n_tup, n_scr, List.getElem?_cons_zero, List.getElem?_cons_succ, List.set_cons_zero, List.set_cons_succ, wipeD, Option.map_some, Bool.not_true, Bool.not_false, P_ok, en_int, l0, g2]
        refine ⟨_, rfl, hG _ _ ?_⟩
        clear hG G
        refine ⟨L.set u (i : Nat), _, rfl, by rw [List.map_set]; rfl, ⟨by rw [List.length_set]; exact hL.1, fun t ht' => ⟨fun h => ?_, fun h => ?_⟩⟩, ?_, fun z hz => ?_⟩
        · rw [htk, ← List.append_assoc] at h
          by_cases e : u = t
          · subst e
            exact ⟨i, List.getElem?_set_self (by rw [hL.1]; exact hu), by omega⟩
          · rw [List.getElem?_set_ne e]
            refine (hL.2 t ht').1 ?_
            rcases List.mem_append.mp h with h | h
            · exact h
            · exact absurd (Int.ofNat_inj.mp (List.mem_singleton.mp h)).symm e
        · rw [htk, ← List.append_assoc] at h
          simp only [List.mem_append, List.mem_singleton, not_or] at h
          rw [List.getElem?_set_ne (fun e => h.2 (by rw [e]))]
          exact (hL.2 t ht').2 (by simp only [List.mem_append, not_or]; exact h.1)
        · rw [htk, ← List.append_assoc]
          refine List.nodup_append.mpr ⟨hnd, by simp, fun a ha b hb e => ?_⟩
          rw [List.mem_singleton.mp hb] at e
          exact h3 (e ▸ ha)
        · rw [htk, ← List.append_assoc] at hz
          rcases List.mem_append.mp hz with hz | hz
          · exact hrg z hz
          · rw [List.mem_singleton.mp hz]; omega
    · rintro r S ⟨L, o5, rfl, rfl, hL, hnd, hrg⟩
      rw [List.length_map, List.take_length] at hL hnd hrg
      have e : ps.take (i + 1) = ps.take i ++ [ps[i]] := by
        rw [List.take_add_one, hg]; rfl
      have e2 : (ps.take (i + 1)).flatten = (ps.take i).flatten ++ ps[i] := by rw [e, List.flatten_append, List.flatten_singleton]
      refine ⟨L, _, _, _, rfl, rfl, by rw [e2]; exact hL, fun p hp => ?_, by rw [e2]; exact hnd, by rw [e2]; exact hrg⟩
      rw [e] at hp
      rcases List.mem_append.mp hp with hp | hp
      · exact hne p hp
      · rw [List.mem_singleton.mp hp]; exact hem
  · rintro r S ⟨L, o3, o4, o5, rfl, rfl, hL, hne, hnd, hrg⟩
    rw [enumFrom_length, List.length_map, List.take_length] at hL hne hnd hrg
    have g1 : inG [Cell.lst (L.map En.e)] (.int (-1)) (.loc 0) = some (.bl (decide ((-1 : Int) ∈ L)), [Cell.lst (L.map En.e)]) := in_int (ns := L) rfl
    by_cases hin : (-1 : Int) ∈ L
    · refine Cs_if fun G hG => ?_
      simp only [x_partV, bnI_ok, cutD_1, len_en, asSeq_en, asLst_en, lstOf_en, x_callF, x_callFR, liftP_ok, liftR_ok, liftB_bl, liftB_int, callV1, callV2, callV3, callV4, callRV1, callRV2, callRV3, callRV4, p_int, p_bl, p_scr, p_non, p_str, p_lst, p_tup, p_nil, p_cons, p_en, p_ens, Bool.and_self, en_norm, mod_ok, fdiv_lit, mul_lit, add_nat, add_one, lt_int, le_int, gt_int, ge_int, min_int, max_int, neg_int, eq_int, ne_int, eq_bl, ne_bl, len_lst, len_tup, len_scr, Int.reduceLT, Int.reduceLE, Nat.reduceLeDiff, x_bind, x_then, x_seq, x_ret, x_op2, x_op1, x_step, x_nilA, x_consA, x_callB, x_testE, x_toB, x_if, x_retS, x_dropS, x_setS, x_skip, x_andT, x_orT, x_notT, x_ifE, x_andE, x_orE, x_notE, x_chain, x_tupE, x_lstE, x_lstC, x_methL, x_for, x_itSeq, x_asSeq, x_asSeqT, x_asSeqS, x_range1, x_range2, x_enum, x_asLst, x_asg, x_isi, x_slice, x_noPart, x_rev, bnd_ok, bnd_err, thn_ok, thn_err, sq_nx, sq_ret, sq_brk, sq_ct, sq_err, bnB_ok, startE, List.map_cons, List.map_nil, List.length_cons, List.length_nil, Nat.reduceAdd, Nat.reduceSub, List.replicate_succ, List.replicate_zero, List.append_nil, List.cons_append, List.nil_append, if_true, if_false, Bool.false_eq_true, x_v0, x_vs, n_int, n_bl, n_str, n_non, n_lst, n_tup, n_scr, List.getElem?_cons_zero, List.getElem?_cons_succ, List.set_cons_zero, List.set_cons_succ, wipeD, Option.map_some, Bool.not_true, Bool.not_false, P_ok, l0, g1, hin, decide_true]
      refine hG _ _ ?_
      clear hG G
      try simp only [if_true, if_false, Bool.false_eq_true]
      refine W_raise ⟨rfl, fun G => ?_⟩
      obtain ⟨t, ht, e⟩ := List.mem_iff_getElem.mp hin
      have ht' : t < n := by rw [← hL.1]; exact ht
      obtain ⟨a, h1, _⟩ := (hL.2 t ht').1 (G.all t ht')
      rw [List.getElem?_eq_getElem ht, e] at h1
      have := Option.some.inj h1
      omega
    · refine Cs_if fun G hG => ?_
      simp only [x_partV, bnI_ok, cutD_1, len_en, asSeq_en, asLst_en, lstOf_en, x_callF, x_callFR, liftP_ok, liftR_ok, liftB_bl, liftB_int, callV1, callV2, callV3, callV4, callRV1, callRV2, callRV3, callRV4, p_int, p_bl, p_scr, p_non, p_str, p_lst, p_tup, p_nil, p_cons, p_en, p_ens, Bool.and_self, en_norm, mod_ok, fdiv_lit, mul_lit, add_nat, add_one, lt_int, le_int, gt_int, ge_int, min_int, max_int, neg_int, eq_int, ne_int, eq_bl, ne_bl, len_lst, len_tup, len_scr, Int.reduceLT, Int.reduceLE, Nat.reduceLeDiff, x_bind, x_then, x_seq, x_ret, x_op2, x_op1, x_step, x_nilA, x_consA, x_callB, x_testE, x_toB, x_if, x_retS, x_dropS, x_setS, x_skip, x_andT, x_orT, x_notT, x_ifE, x_andE, x_orE, x_notE, x_chain, x_tupE, x_lstE, x_lstC, x_methL, x_for, x_itSeq, x_asSeq, x_asSeqT, x_asSeqS, x_range1, x_range2, x_enum, x_asLst, x_asg, x_isi, x_slice, x_noPart, x_rev, bnd_ok, bnd_err, thn_ok, thn_err, sq_nx, sq_ret, sq_brk, sq_ct, sq_err, bnB_ok, startE, List.map_cons, List.map_nil, List.length_cons, List.length_nil, Nat.reduceAdd, Nat.reduceSub, List.replicate_succ, List.replicate_zero, List.append_nil, List.cons_append, List.nil_append, if_true, if_false, Bool.false_eq_true, x_v0, x_vs, n_int, n_bl, n_str, n_non, n_lst, n_tup, n_scr, List.getElem?_cons_zero, List.getElem?_cons_succ, List.set_cons_zero, List.set_cons_succ, wipeD, Option.map_some, Bool.not_true, Bool.not_false, P_ok, l0, g1, hin, decide_false]
      refine hG _ _ ?_
      clear hG G
      try simp only [if_true, if_false, Bool.false_eq_true]
      refine W_nx ?_
      refine Ce_ret fun G hG => ?_
      simp only [x_partV, bnI_ok, cutD_1, len_en, asSeq_en, asLst_en, lstOf_en, x_callF, x_callFR, liftP_ok, liftR_ok, liftB_bl, liftB_int, callV1, callV2, callV3, callV4, callRV1, callRV2, callRV3, callRV4, p_int, p_bl, p_scr, p_non, p_str, p_lst, p_tup, p_nil, p_cons, p_en, p_ens, Bool.and_self, en_norm, mod_ok, fdiv_lit, mul_lit, add_nat, add_one, lt_int, le_int, gt_int, ge_int, min_int, max_int, neg_int, eq_int, ne_int, eq_bl, ne_bl, len_lst, len_tup, len_scr, Int.reduceLT, Int.reduceLE, Nat.reduceLeDiff, x_bind, x_then, x_seq, x_ret, x_op2, x_op1, x_step, x_nilA, x_consA, x_callB, x_testE, x_toB, x_if, x_retS, x_dropS, x_setS, x_skip, x_andT, x_orT, x_notT, x_ifE, x_andE, x_orE, x_notE, x_chain, x_tupE, x_lstE, x_lstC, x_methL, x_for, x_itSeq, x_asSeq, x_asSeqT, x_asSeqS, x_range1, x_range2, x_enum, x_asLst, x_asg, x_isi, x_slice, x_noPart, x_rev, bnd_ok, bnd_err, thn_ok, thn_err, sq_nx, sq_ret, sq_brk, sq_ct, sq_err, bnB_ok, startE, List.map_cons, List.map_nil, List.length_cons, List.length_nil, Nat.reduceAdd, Nat.reduceSub, List.replicate_succ, List.replicate_zero, List.append_nil, List.cons_append, List.nil_append, if_true, if_false, Bool.false_eq_true, x_v0, x_vs, n_int, n_bl, n_str, n_non, n_lst, n_tup, n_scr, List.getElem?_cons_zero, List.getElem?_cons_succ, List.set_cons_zero, List.set_cons_succ, wipeD, Option.map_some, Bool.not_true, Bool.not_false, P_ok, l0]
      refine hG _ _ ?_
      clear hG G
      refine ⟨_, resA_lst rfl (p_ens L), p_ens L, hne, hrg, hnd, fun t ht => ?_⟩
      refine Classical.byContradiction fun h => ?_
      exact hin (List.mem_of_getElem? ((hL.2 t ht).2 h))
end K75


namespace K75
open Aw
/-- o beats some of p and not all -/
def brk (t : Tb) (p : List Nat) (o : Nat) : Bool := decide (o ∉ p) && (decide (0 < (p.filter (ent t o)).length) && decide ((p.filter (ent t o)).length < p.length))
def Whole (n : Nat) (t : Tb) (p : List Nat) : Prop := ∀ o, o < n → brk t p o = false
theorem lc_beaten {n : Nat} {t : Tb} {p : List Nat} (hq : Sq n t) (hp : ∀ a ∈ p, a < n) (hl : p.length ≤ 100000) {i : Nat} (hin : i < n) (k : Nat) {it : Sem (List D)} {e1 e2 e3 : Sem D} {r : Aw.Env} {S : Store} (hi : it r S = .ok (p.map En.e) S)
    (h1 : ∀ a ∈ p, e1 ((wipeD r [k]).set k (some (En.e a))) S = .ok (En.e t) S ∧ e2 ((wipeD r [k]).set k (some (En.e a))) S = .ok (.int (i : Nat)) S ∧ e3 ((wipeD r [k]).set k (some (En.e a))) S = .ok (.int (a : Nat)) S) :
    lcE it (.one k) [k] (testE (op2 ixG (op2 ixG e1 e2) e3)) e3 r S = .ok (En.e (p.filter (ent t i))) S := by
  rw [lc_map (En.e (α := Nat)) (En.e (α := Nat)) (ent t i) (xs := p) hi hl fun a ha => ⟨_, rfl, ?_, fun _ => ?_⟩]
  · rfl
  · obtain ⟨q1, q2, q3⟩ := h1 a ha
    simp only [wipeD] at q1 q2 q3
    simp only [x_partV, bnI_ok, cutD_1, len_en, asSeq_en, asLst_en, lstOf_en, x_callF, x_callFR, liftP_ok, liftR_ok, liftB_bl, liftB_int, callV1, callV2, callV3, callV4, callRV1, callRV2, callRV3, callRV4, p_int, p_bl, p_scr, p_non, p_str, p_lst, p_tup, p_nil, p_cons, p_en, p_ens, Bool.and_self, en_norm, mod_ok, fdiv_lit, mul_lit, add_nat, add_one, lt_int, le_int, gt_int, ge_int, min_int, max_int, neg_int, eq_int, ne_int, eq_bl, ne_bl, len_lst, len_tup, len_scr, Int.reduceLT, Int.reduceLE, Nat.reduceLeDiff, x_bind, x_then, x_seq, x_ret, x_op2, x_op1, x_step, x_nilA, x_consA, x_callB, x_testE, x_toB, x_if, x_retS, x_dropS, x_setS, x_skip, x_andT, x_orT, x_notT, x_ifE, x_andE, x_orE, x_notE, x_chain, x_tupE, x_lstE, x_lstC, x_methL, x_for, x_itSeq, x_asSeq, x_asSeqT, x_asSeqS, x_range1, x_range2, x_enum, x_asLst, x_asg, x_isi, x_slice, x_noPart, x_rev, bnd_ok, bnd_err, thn_ok, thn_err, sq_nx, sq_ret, sq_brk, sq_ct, sq_err, bnB_ok, startE, List.map_cons, List.map_nil, List.length_cons, List.length_nil, Nat.reduceAdd, Nat.reduceSub, List.replicate_succ, List.replicate_zero, List.append_nil, List.cons_append, List.nil_append, if_true, if_false, Bool.false_eq_true, x_v0, x_vs, n_int, n_bl, n_str, n_non, n_lst, n_tup, n_scr, List.getElem?_cons_zero, List.getElem?_cons_succ, List.set_cons_zero, List.set_cons_succ, wipeD, Option.map_some, Bool.not_true, Bool.not_false, q1, q2, q3, ix_row hq hin, ix_ent hq hin (hp a ha)]
  · exact (h1 a ha).2.2
theorem r_breaker {n : Nat} {t : Tb} {p : List Nat} (hq : Sq n t) (hn : n ≤ 100) (hp : ∀ a ∈ p, a < n) (hl : p.length ≤ 100000) : ∃ x : Int, f_breaker [En.e t, En.e p] = .ok (.int x) ∧ (x < 0 ↔ Whole n t p) := by
  suffices h : ∃ d, f_breaker [En.e t, En.e p] = .ok d ∧ ∃ x : Int, d = .int x ∧ (x < 0 ↔ Whole n t p) by
    obtain ⟨d, h1, x, rfl, h2⟩ := h
    exact ⟨x, h1, h2⟩
  refine out_W ?_
  unfold b_breaker
  simp only [startE, List.map_cons, List.map_nil, List.length_cons, List.length_nil, Nat.reduceAdd, Nat.reduceSub, List.replicate_succ, List.replicate_zero, List.append_nil, List.cons_append, List.nil_append]
  have n62 : n < 2 ^ 62 := Nat.lt_of_le_of_lt hn (by decide)
  refine Cs_for fun G hG => ?_
  simp only [x_partV, bnI_ok, cutD_1, len_en, asSeq_en, asLst_en, lstOf_en, x_callF, x_callFR, liftP_ok, liftR_ok, liftB_bl, liftB_int, callV1, callV2, callV3, callV4, callRV1, callRV2, callRV3, callRV4, p_int, p_bl, p_scr, p_non, p_str, p_lst, p_tup, p_nil, p_cons, p_en, p_ens, Bool.and_self, en_norm, mod_ok, fdiv_lit, mul_lit, add_nat, add_one, lt_int, le_int, gt_int, ge_int, min_int, max_int, neg_int, eq_int, ne_int, eq_bl, ne_bl, len_lst, len_tup, len_scr, Int.reduceLT, Int.reduceLE, Nat.reduceLeDiff, x_bind, x_then, x_seq, x_ret, x_op2, x_op1, x_step, x_nilA, x_consA, x_callB, x_testE, x_toB, x_if, x_retS, x_dropS, x_setS, x_skip, x_andT, x_orT, x_notT, x_ifE, x_andE, x_orE, x_notE, x_chain, x_tupE, x_lstE, x_lstC, x_methL, x_for, x_itSeq, x_asSeq, x_asSeqT, x_asSeqS, x_range1, x_range2, x_enum, x_asLst, x_asg, x_isi, x_slice, x_noPart, x_rev, bnd_ok, bnd_err, thn_ok, thn_err, sq_nx, sq_ret, sq_brk, sq_ct, sq_err, bnB_ok, startE, List.map_cons, List.map_nil, List.length_cons, List.length_nil, Nat.reduceAdd, Nat.reduceSub, List.replicate_succ, List.replicate_zero, List.append_nil, List.cons_append, List.nil_append, if_true, if_false, Bool.false_eq_true, x_v0, x_vs, n_int, n_bl, n_str, n_non, n_lst, n_tup, n_scr, List.getElem?_cons_zero, List.getElem?_cons_succ, List.set_cons_zero, List.set_cons_succ, wipeD, Option.map_some, Bool.not_true, Bool.not_false, P_ok, hq.len, x_rangeI1 n62]
  refine hG _ _ ?_
  clear hG G
  refine W_for (fun i r S => ∃ o2 o3 o4, r = [some (En.e t), some (En.e p), o2, o3, o4] ∧ S = [] ∧ ∀ o, o < i → brk t p o = false) ⟨none, none, none, rfl, rfl, fun o h => absurd h (Nat.not_lt_zero o)⟩ ?_ ?_
  · rintro i d r S hd ⟨o2, o3, o4, rfl, rfl, hb⟩
    obtain ⟨hin, rfl⟩ := upto_at hd
    refine ⟨_, rfl, ?_⟩
    simp only [List.set_cons_zero, List.set_cons_succ]
    have next : brk t p i = false → ∀ o, o < i + 1 → brk t p o = false := fun h o ho => by
      by_cases e : o = i
      · rw [e]; exact h
      · exact hb o (by omega)
    have g1 : ∀ S : Store, notInG S (.int (i : Nat)) (En.e p) = some (.bl (!decide (i ∈ p)), S) := fun S => notIn_nat rfl
    by_cases hm : i ∈ p
    · refine Ce_if fun G hG => ?_
      simp only [x_partV, bnI_ok, cutD_1, len_en, asSeq_en, asLst_en, lstOf_en, x_callF, x_callFR, liftP_ok, liftR_ok, liftB_bl, liftB_int, callV1, callV2, callV3, callV4, callRV1, callRV2, callRV3, callRV4, p_int, p_bl, p_scr, p_non, p_str, p_lst, p_tup, p_nil, p_cons, p_en, p_ens, Bool.and_self, en_norm, mod_ok, fdiv_lit, mul_lit, add_nat, add_one, lt_int, le_int, gt_int, ge_int, min_int, max_int, neg_int, eq_int, ne_int, eq_bl, ne_bl, len_lst, len_tup, len_scr, Int.reduceLT, Int.reduceLE, Nat.reduceLeDiff, x_bind, x_then, x_seq, x_ret, x_op2, x_op1, x_step, x_nilA, x_consA, x_callB, x_testE, x_toB, x_if, x_retS, x_dropS, x_setS, x_skip, x_andT, x_orT, x_notT, x_ifE, x_andE, x_orE, x_notE, x_chain, x_tupE, x_lstE, x_lstC, x_methL, x_for, x_itSeq, x_asSeq, x_asSeqT, x_asSeqS, x_range1, x_range2, x_enum, x_asLst, x_asg, x_isi, x_slice, x_noPart, x_rev, bnd_ok, bnd_err, thn_ok, thn_err, sq_nx, sq_ret, sq_brk, sq_ct, sq_err, bnB_ok, startE, List.map_cons, List.map_nil, List.length_cons, List.length_nil, Nat.reduceAdd, Nat.reduceSub, List.replicate_succ, List.replicate_zero, List.append_nil, List.cons_append, List.nil_append, if_true, if_false, Bool.false_eq_true, x_v0, x_vs, n_int, n_bl, n_str, n_non, n_lst, n_tup, n_scr, List.getElem?_cons_zero, List.getElem?_cons_succ, List.set_cons_zero, List.set_cons_succ, wipeD, Option.map_some, Bool.not_true, Bool.not_false, P_ok, g1, hm, decide_true]
      refine hG _ _ ?_
      clear hG G
      try simp only [if_true, if_false, Bool.false_eq_true]
      refine W_nx ⟨_, _, _, rfl, rfl, next ?_⟩
      unfold brk
      rw [decide_eq_false (fun h => h hm), Bool.false_and]
    · refine Ce_if fun G hG => ?_
      simp only [x_partV, bnI_ok, cutD_1, len_en, asSeq_en, asLst_en, lstOf_en, x_callF, x_callFR, liftP_ok, liftR_ok, liftB_bl, liftB_int, callV1, callV2, callV3, callV4, callRV1, callRV2, callRV3, callRV4, p_int, p_bl, p_scr, p_non, p_str, p_lst, p_tup, p_nil, p_cons, p_en, p_ens, Bool.and_self, en_norm, mod_ok, fdiv_lit, mul_lit, add_nat, add_one, lt_int, le_int, gt_int, ge_int, min_int, max_int, neg_int, eq_int, ne_int, eq_bl, ne_bl, len_lst, len_tup, len_scr, Int.reduceLT, Int.reduceLE, Nat.reduceLeDiff, x_bind, x_then, x_seq, x_ret, x_op2, x_op1, x_step, x_nilA, x_consA, x_callB, x_testE, x_toB, x_if, x_retS, x_dropS, x_setS, x_skip, x_andT, x_orT, x_notT, x_ifE, x_andE, x_orE, x_notE, x_chain, x_tupE, x_lstE, x_lstC, x_methL, x_for, x_itSeq, x_asSeq, x_asSeqT, x_asSeqS, x_range1, x_range2, x_enum, x_asLst, x_asg, x_isi, x_slice, x_noPart, x_rev, bnd_ok, bnd_err, thn_ok, thn_err, sq_nx, sq_ret, sq_brk, sq_ct, sq_err, bnB_ok, startE, List.map_cons, List.map_nil, List.length_cons, List.length_nil, Nat.reduceAdd, Nat.reduceSub, List.replicate_succ, List.replicate_zero, List.append_nil, List.cons_append, List.nil_append, if_true, if_false, Bool.false_eq_true, x_v0, x_vs, n_int, n_bl, n_str, n_non, n_lst, n_tup, n_scr, List.getElem?_cons_zero, List.getElem?_cons_succ, List.set_cons_zero, List.set_cons_succ, wipeD, Option.map_some, Bool.not_true, Bool.not_false, P_ok, g1, hm, decide_false]
      refine hG _ _ ?_
      clear hG G
      try simp only [if_true, if_false, Bool.false_eq_true]
      have hlc : ∀ o3, lcE (itSeq (vE 1)) (.one 4) [4] (testE (op2 ixG (op2 ixG (vE 0) (vE 2)) (vE 4))) (vE 4) [some (En.e t), some (En.e p), some (.int (i : Nat)), o3, o4] [] = .ok (En.e (p.filter (ent t i))) [] := by
        intro o3
        refine lc_beaten hq hp hl hin 4 (by simp only [x_partV, bnI_ok, cutD_1, len_en, asSeq_en, asLst_en, lstOf_en, x_callF, x_callFR, liftP_ok, liftR_ok, liftB_bl, liftB_int, callV1, callV2, callV3, callV4, callRV1, callRV2, callRV3, callRV4, p_int, p_bl, p_scr, p_non, p_str, p_lst, p_tup, p_nil, p_cons, p_en, p_ens, Bool.and_self, en_norm, mod_ok, fdiv_lit, mul_lit, add_nat, add_one, lt_int, le_int, gt_int, ge_int, min_int, max_int, neg_int, eq_int, ne_int, eq_bl, ne_bl, len_lst, len_tup, len_scr, Int.reduceLT, Int.reduceLE, Nat.reduceLeDiff, x_bind, x_then, x_seq, x_ret, x_op2, x_op1, x_step, x_nilA, x_consA, x_callB, x_testE, x_toB, x_if, x_retS, x_dropS, x_setS, x_skip, x_andT, x_orT, x_notT, x_ifE, x_andE, x_orE, x_notE, x_chain, x_tupE, x_lstE, x_lstC, x_methL, x_for, x_itSeq, x_asSeq, x_asSeqT, x_asSeqS, x_range1, x_range2, x_enum, x_asLst, x_asg, x_isi, x_slice, x_noPart, x_rev, bnd_ok, bnd_err, thn_ok, thn_err, sq_nx, sq_ret, sq_brk, sq_ct, sq_err, bnB_ok, startE, List.map_cons, List.map_nil, List.length_cons, List.length_nil, Nat.reduceAdd, Nat.reduceSub, List.replicate_succ, List.replicate_zero, List.append_nil, List.cons_append, List.nil_append, if_true, if_false, Bool.false_eq_true, x_v0, x_vs, n_int, n_bl, n_str, n_non, n_lst, n_tup, n_scr, List.getElem?_cons_zero, List.getElem?_cons_succ, List.set_cons_zero, List.set_cons_succ, wipeD, Option.map_some, Bool.not_true, Bool.not_false, ]; try exact rfl) fun a ha => ?_
        simp only [x_partV, bnI_ok, cutD_1, len_en, asSeq_en, asLst_en, lstOf_en, x_callF, x_callFR, liftP_ok, liftR_ok, liftB_bl, liftB_int, callV1, callV2, callV3, callV4, callRV1, callRV2, callRV3, callRV4, p_int, p_bl, p_scr, p_non, p_str, p_lst, p_tup, p_nil, p_cons, p_en, p_ens, Bool.and_self, en_norm, mod_ok, fdiv_lit, mul_lit, add_nat, add_one, lt_int, le_int, gt_int, ge_int, min_int, max_int, neg_int, eq_int, ne_int, eq_bl, ne_bl, len_lst, len_tup, len_scr, Int.reduceLT, Int.reduceLE, Nat.reduceLeDiff, x_bind, x_then, x_seq, x_ret, x_op2, x_op1, x_step, x_nilA, x_consA, x_callB, x_testE, x_toB, x_if, x_retS, x_dropS, x_setS, x_skip, x_andT, x_orT, x_notT, x_ifE, x_andE, x_orE, x_notE, x_chain, x_tupE, x_lstE, x_lstC, x_methL, x_for, x_itSeq, x_asSeq, x_asSeqT, x_asSeqS, x_range1, x_range2, x_enum, x_asLst, x_asg, x_isi, x_slice, x_noPart, x_rev, bnd_ok, bnd_err, thn_ok, thn_err, sq_nx, sq_ret, sq_brk, sq_ct, sq_err, bnB_ok, startE, List.map_cons, List.map_nil, List.length_cons, List.length_nil, Nat.reduceAdd, Nat.reduceSub, List.replicate_succ, List.replicate_zero, List.append_nil, List.cons_append, List.nil_append, if_true, if_false, Bool.false_eq_true, x_v0, x_vs, n_int, n_bl, n_str, n_non, n_lst, n_tup, n_scr, List.getElem?_cons_zero, List.getElem?_cons_succ, List.set_cons_zero, List.set_cons_succ, wipeD, Option.map_some, Bool.not_true, Bool.not_false, en_nat, and_self]
      refine Cs_set fun G hG => ?_
      simp only [x_partV, bnI_ok, cutD_1, len_en, asSeq_en, asLst_en, lstOf_en, x_callF, x_callFR, liftP_ok, liftR_ok, liftB_bl, liftB_int, callV1, callV2, callV3, callV4, callRV1, callRV2, callRV3, callRV4, p_int, p_bl, p_scr, p_non, p_str, p_lst, p_tup, p_nil, p_cons, p_en, p_ens, Bool.and_self, en_norm, mod_ok, fdiv_lit, mul_lit, add_nat, add_one, lt_int, le_int, gt_int, ge_int, min_int, max_int, neg_int, eq_int, ne_int, eq_bl, ne_bl, len_lst, len_tup, len_scr, Int.reduceLT, Int.reduceLE, Nat.reduceLeDiff, x_bind, x_then, x_seq, x_ret, x_op2, x_op1, x_step, x_nilA, x_consA, x_callB, x_testE, x_toB, x_if, x_retS, x_dropS, x_setS, x_skip, x_andT, x_orT, x_notT, x_ifE, x_andE, x_orE, x_notE, x_chain, x_tupE, x_lstE, x_lstC, x_methL, x_for, x_itSeq, x_asSeq, x_asSeqT, x_asSeqS, x_range1, x_range2, x_enum, x_asLst, x_asg, x_isi, x_slice, x_noPart, x_rev, bnd_ok, bnd_err, thn_ok, thn_err, sq_nx, sq_ret, sq_brk, sq_ct, sq_err, bnB_ok, startE, List.map_cons, List.map_nil, List.length_cons, List.length_nil, Nat.reduceAdd, Nat.reduceSub, List.replicate_succ, List.replicate_zero, List.append_nil, List.cons_append, List.nil_append, if_true, if_false, Bool.false_eq_true, x_v0, x_vs, n_int, n_bl, n_str, n_non, n_lst, n_tup, n_scr, List.getElem?_cons_zero, List.getElem?_cons_succ, List.set_cons_zero, List.set_cons_succ, wipeD, Option.map_some, Bool.not_true, Bool.not_false, P_ok, hlc]
      refine hG _ _ ?_
      clear hG G
      simp only [List.set_cons_zero, List.set_cons_succ]
      have eb : brk t p i = (decide (0 < (p.filter (ent t i)).length) && decide ((p.filter (ent t i)).length < p.length)) := by
        unfold brk
        rw [decide_eq_true hm, Bool.true_and]
      have c0 : decide ((0 : Int) < ((p.filter (ent t i)).length : Nat)) = decide (0 < (p.filter (ent t i)).length) := decide_eq_decide.mpr (by omega)
      have c1 : decide (((p.filter (ent t i)).length : Int) < (p.length : Nat)) = decide ((p.filter (ent t i)).length < p.length) := decide_eq_decide.mpr (by omega)
      cases h0 : decide (0 < (p.filter (ent t i)).length) with
      | false =>
        refine Ce_if fun G hG => ?_
        simp only [x_partV, bnI_ok, cutD_1, len_en, asSeq_en, asLst_en, lstOf_en, x_callF, x_callFR, liftP_ok, liftR_ok, liftB_bl, liftB_int, callV1, callV2, callV3, callV4, callRV1, callRV2, callRV3, callRV4, p_int, p_bl, p_scr, p_non, p_str, p_lst, p_tup, p_nil, p_cons, p_en, p_ens, Bool.and_self, en_norm, mod_ok, fdiv_lit, mul_lit, add_nat, add_one, lt_int, le_int, gt_int, ge_int, min_int, max_int, neg_int, eq_int, ne_int, eq_bl, ne_bl, len_lst, len_tup, len_scr, Int.reduceLT, Int.reduceLE, Nat.reduceLeDiff, x_bind, x_then, x_seq, x_ret, x_op2, x_op1, x_step, x_nilA, x_consA, x_callB, x_testE, x_toB, x_if, x_retS, x_dropS, x_setS, x_skip, x_andT, x_orT, x_notT, x_ifE, x_andE, x_orE, x_notE, x_chain, x_tupE, x_lstE, x_lstC, x_methL, x_for, x_itSeq, x_asSeq, x_asSeqT, x_asSeqS, x_range1, x_range2, x_enum, x_asLst, x_asg, x_isi, x_slice, x_noPart, x_rev, bnd_ok, bnd_err, thn_ok, thn_err, sq_nx, sq_ret, sq_brk, sq_ct, sq_err, bnB_ok, startE, List.map_cons, List.map_nil, List.length_cons, List.length_nil, Nat.reduceAdd, Nat.reduceSub, List.replicate_succ, List.replicate_zero, List.append_nil, List.cons_append, List.nil_append, if_true, if_false, Bool.false_eq_true, x_v0, x_vs, n_int, n_bl, n_str, n_non, n_lst, n_tup, n_scr, List.getElem?_cons_zero, List.getElem?_cons_succ, List.set_cons_zero, List.set_cons_succ, wipeD, Option.map_some, Bool.not_true, Bool.not_false, P_ok, c0, h0]
        refine hG _ _ ?_
        clear hG G
        try simp only [if_true, if_false, Bool.false_eq_true]
        exact W_nx ⟨_, _, _, rfl, rfl, next (by rw [eb, h0]; rfl)⟩
      | true =>
        cases h1 : decide ((p.filter (ent t i)).length < p.length) with
        | false =>
          refine Ce_if fun G hG => ?_
          simp only [x_partV, bnI_ok, cutD_1, len_en, asSeq_en, asLst_en, lstOf_en, x_callF, x_callFR, liftP_ok, liftR_ok, liftB_bl, liftB_int, callV1, callV2, callV3, callV4, callRV1, callRV2, callRV3, callRV4, p_int, p_bl, p_scr, p_non, p_str, p_lst, p_tup, p_nil, p_cons, p_en, p_ens, Bool.and_self, en_norm, mod_ok, fdiv_lit, mul_lit, add_nat, add_one, lt_int, le_int, gt_int, ge_int, min_int, max_int, neg_int, eq_int, ne_int, eq_bl, ne_bl, len_lst, len_tup, len_scr, Int.reduceLT, Int.reduceLE, Nat.reduceLeDiff, x_bind, x_then, x_seq, x_ret, x_op2, x_op1, x_step, x_nilA, x_consA, x_callB, x_testE, x_toB, x_if, x_retS, x_dropS, x_setS, x_skip, x_andT, x_orT, x_notT, x_ifE, x_andE, x_orE, x_notE, x_chain, x_tupE, x_lstE, x_lstC, x_methL, x_for, x_itSeq, x_asSeq, x_asSeqT, x_asSeqS, x_range1, x_range2, x_enum, x_asLst, x_asg, x_isi, x_slice, x_noPart, x_rev, bnd_ok, bnd_err, thn_ok, thn_err, sq_nx, sq_ret, sq_brk, sq_ct, sq_err, bnB_ok, startE, List.map_cons, List.map_nil, List.length_cons, List.length_nil, Nat.reduceAdd, Nat.reduceSub, List.replicate_succ, List.replicate_zero, List.append_nil, List.cons_append, List.nil_append, if_true, if_false, Bool.false_eq_true, x_v0, x_vs, n_int, n_bl, n_str, n_non, n_lst, n_tup, n_scr, List.getElem?_cons_zero, List.getElem?_cons_succ, List.set_cons_zero, List.set_cons_succ, wipeD, Option.map_some, Bool.not_true, Bool.not_false, P_ok, c0, h0, c1, h1]
          refine hG _ _ ?_
          clear hG G
          try simp only [if_true, if_false, Bool.false_eq_true]
          exact W_nx ⟨_, _, _, rfl, rfl, next (by rw [eb, h0, h1]; rfl)⟩
        | true =>
          refine Ce_if fun G hG => ?_
          simp only [x_partV, bnI_ok, cutD_1, len_en, asSeq_en, asLst_en, lstOf_en, x_callF, x_callFR, liftP_ok, liftR_ok, liftB_bl, liftB_int, callV1, callV2, callV3, callV4, callRV1, callRV2, callRV3, callRV4, p_int, p_bl, p_scr, p_non, p_str, p_lst, p_tup, p_nil, p_cons, p_en, p_ens, Bool.and_self, en_norm, mod_ok, fdiv_lit, mul_lit, add_nat, add_one, lt_int, le_int, gt_int, ge_int, min_int, max_int, neg_int, eq_int, ne_int, eq_bl, ne_bl, len_lst, len_tup, len_scr, Int.reduceLT, Int.reduceLE, Nat.reduceLeDiff, x_bind, x_then, x_seq, x_ret, x_op2, x_op1, x_step, x_nilA, x_consA, x_callB, x_testE, x_toB, x_if, x_retS, x_dropS, x_setS, x_skip, x_andT, x_orT, x_notT, x_ifE, x_andE, x_orE, x_notE, x_chain, x_tupE, x_lstE, x_lstC, x_methL, x_for, x_itSeq, x_asSeq, x_asSeqT, x_asSeqS, x_range1, x_range2, x_enum, x_asLst, x_asg, x_isi, x_slice, x_noPart, x_rev, bnd_ok, bnd_err, thn_ok, thn_err, sq_nx, sq_ret, sq_brk, sq_ct, sq_err, bnB_ok, startE, List.map_cons, List.map_nil, List.length_cons, List.length_nil, Nat.reduceAdd, Nat.reduceSub, List.replicate_succ, List.replicate_zero, List.append_nil, List.cons_append, List.nil_append, if_true, if_false, Bool.false_eq_true, x_v0, x_vs, n_int, n_bl, n_str, n_non, n_lst, n_tup, n_scr, List.getElem?_cons_zero, List.getElem?_cons_succ, List.set_cons_zero, List.set_cons_succ, wipeD, Option.map_some, Bool.not_true, Bool.not_false, P_ok, c0, h0, c1, h1]
          refine hG _ _ ?_
          clear hG G
          try simp only [if_true, if_false, Bool.false_eq_true]
          refine Ce_ret fun G hG => ?_
          simp only [x_partV, bnI_ok, cutD_1, len_en, asSeq_en, asLst_en, lstOf_en, x_callF, x_callFR, liftP_ok, liftR_ok, liftB_bl, liftB_int, callV1, callV2, callV3, callV4, callRV1, callRV2, callRV3, callRV4, p_int, p_bl, p_scr, p_non, p_str, p_lst, p_tup, p_nil, p_cons, p_en, p_ens, Bool.and_self, en_norm, mod_ok, fdiv_lit, mul_lit, add_nat, add_one, lt_int, le_int, gt_int, ge_int, min_int, max_int, neg_int, eq_int, ne_int, eq_bl, ne_bl, len_lst, len_tup, len_scr, Int.reduceLT, Int.reduceLE, Nat.reduceLeDiff, x_bind, x_then, x_seq, x_ret, x_op2, x_op1, x_step, x_nilA, x_consA, x_callB, x_testE, x_toB, x_if, x_retS, x_dropS, x_setS, x_skip, x_andT, x_orT, x_notT, x_ifE, x_andE, x_orE, x_notE, x_chain, x_tupE, x_lstE, x_lstC, x_methL, x_for, x_itSeq, x_asSeq, x_asSeqT, x_asSeqS, x_range1, x_range2, x_enum, x_asLst, x_asg, x_isi, x_slice, x_noPart, x_rev, bnd_ok, bnd_err, thn_ok, thn_err, sq_nx, sq_ret, sq_brk, sq_ct, sq_err, bnB_ok, startE, List.map_cons, List.map_nil, List.length_cons, List.length_nil, Nat.reduceAdd, Nat.reduceSub, List.replicate_succ, List.replicate_zero, List.append_nil, List.cons_append, List.nil_append, if_true, if_false, Bool.false_eq_true, x_v0, x_vs, n_int, n_bl, n_str, n_non, n_lst, n_tup, n_scr, List.getElem?_cons_zero, List.getElem?_cons_succ, List.set_cons_zero, List.set_cons_succ, wipeD, Option.map_some, Bool.not_true, Bool.not_false, P_ok]
          refine hG _ _ ?_
          clear hG G
          refine ⟨_, rfl, _, rfl, fun h => by omega, fun h => ?_⟩
          have := h i hin
          rw [eb, h0, h1] at this
          cases this
  · rintro r S ⟨o2, o3, o4, rfl, rfl, hb⟩
    rw [upto_len] at hb
    refine Ce_ret fun G hG => ?_
    simp only [x_partV, bnI_ok, cutD_1, len_en, asSeq_en, asLst_en, lstOf_en, x_callF, x_callFR, liftP_ok, liftR_ok, liftB_bl, liftB_int, callV1, callV2, callV3, callV4, callRV1, callRV2, callRV3, callRV4, p_int, p_bl, p_scr, p_non, p_str, p_lst, p_tup, p_nil, p_cons, p_en, p_ens, Bool.and_self, en_norm, mod_ok, fdiv_lit, mul_lit, add_nat, add_one, lt_int, le_int, gt_int, ge_int, min_int, max_int, neg_int, eq_int, ne_int, eq_bl, ne_bl, len_lst, len_tup, len_scr, Int.reduceLT, Int.reduceLE, Nat.reduceLeDiff, x_bind, x_then, x_seq, x_ret, x_op2, x_op1, x_step, x_nilA, x_consA, x_callB, x_testE, x_toB, x_if, x_retS, x_dropS, x_setS, x_skip, x_andT, x_orT, x_notT, x_ifE, x_andE, x_orE, x_notE, x_chain, x_tupE, x_lstE, x_lstC, x_methL, x_for, x_itSeq, x_asSeq, x_asSeqT, x_asSeqS, x_range1, x_range2, x_enum, x_asLst, x_asg, x_isi, x_slice, x_noPart, x_rev, bnd_ok, bnd_err, thn_ok, thn_err, sq_nx, sq_ret, sq_brk, sq_ct, sq_err, bnB_ok, startE, List.map_cons, List.map_nil, List.length_cons, List.length_nil, Nat.reduceAdd, Nat.reduceSub, List.replicate_succ, List.replicate_zero, List.append_nil, List.cons_append, List.nil_append, if_true, if_false, Bool.false_eq_true, x_v0, x_vs, n_int, n_bl, n_str, n_non, n_lst, n_tup, n_scr, List.getElem?_cons_zero, List.getElem?_cons_succ, List.set_cons_zero, List.set_cons_succ, wipeD, Option.map_some, Bool.not_true, Bool.not_false, P_ok]
    refine hG _ _ ?_
    clear hG G
    exact ⟨_, rfl, _, rfl, fun _ => hb, fun _ => by omega⟩
theorem r_stands {n : Nat} {t : Tb} {p : List Nat} (hq : Sq n t) (hn : n ≤ 100) (hp : ∀ a ∈ p, a < n) (hl : p.length ≤ 100000) : ∃ b : Bool, f_stands_together [En.e t, En.e p] = .ok (.bl b) ∧ (b = true ↔ Whole n t p) := by
  obtain ⟨x, h1, h2⟩ := r_breaker hq hn hp hl
  refine ⟨decide (x < 0), ?_, by rw [decide_eq_true_eq]; exact h2⟩
  refine out_eq ?_
  unfold b_stands_together
  simp only [startE, List.map_cons, List.map_nil, List.length_cons, List.length_nil, Nat.reduceAdd, Nat.reduceSub, List.replicate_succ, List.replicate_zero, List.append_nil, List.cons_append, List.nil_append]
  refine Ce_ret fun G hG => ?_
  simp only [x_partV, bnI_ok, cutD_1, len_en, asSeq_en, asLst_en, lstOf_en, x_callF, x_callFR, liftP_ok, liftR_ok, liftB_bl, liftB_int, callV1, callV2, callV3, callV4, callRV1, callRV2, callRV3, callRV4, p_int, p_bl, p_scr, p_non, p_str, p_lst, p_tup, p_nil, p_cons, p_en, p_ens, Bool.and_self, en_norm, mod_ok, fdiv_lit, mul_lit, add_nat, add_one, lt_int, le_int, gt_int, ge_int, min_int, max_int, neg_int, eq_int, ne_int, eq_bl, ne_bl, len_lst, len_tup, len_scr, Int.reduceLT, Int.reduceLE, Nat.reduceLeDiff, x_bind, x_then, x_seq, x_ret, x_op2, x_op1, x_step, x_nilA, x_consA, x_callB, x_testE, x_toB, x_if, x_retS, x_dropS, x_setS, x_skip, x_andT, x_orT, x_notT, x_ifE, x_andE, x_orE, x_notE, x_chain, x_tupE, x_lstE, x_lstC, x_methL, x_for, x_itSeq, x_asSeq, x_asSeqT, x_asSeqS, x_range1, x_range2, x_enum, x_asLst, x_asg, x_isi, x_slice, x_noPart, x_rev, bnd_ok, bnd_err, thn_ok, thn_err, sq_nx, sq_ret, sq_brk, sq_ct, sq_err, bnB_ok, startE, List.map_cons, List.map_nil, List.length_cons, List.length_nil, Nat.reduceAdd, Nat.reduceSub, List.replicate_succ, List.replicate_zero, List.append_nil, List.cons_append, List.nil_append, if_true, if_false, Bool.false_eq_true, x_v0, x_vs, n_int, n_bl, n_str, n_non, n_lst, n_tup, n_scr, List.getElem?_cons_zero, List.getElem?_cons_succ, List.set_cons_zero, List.set_cons_succ, wipeD, Option.map_some, Bool.not_true, Bool.not_false, P_ok, h1]
  refine hG _ _ ?_
  clear hG G
  rfl
theorem r_breaks {n : Nat} {t : Tb} {p : List Nat} (hq : Sq n t) (hp : ∀ a ∈ p, a < n) (hl : p.length ≤ 100000) {o : Nat} (ho : o < n) : f__law_breaks [En.e t, En.e p, .int (o : Nat)] = .ok (.bl (brk t p o)) := by
  refine out_eq ?_
  unfold b__law_breaks
  simp only [startE, List.map_cons, List.map_nil, List.length_cons, List.length_nil, Nat.reduceAdd, Nat.reduceSub, List.replicate_succ, List.replicate_zero, List.append_nil, List.cons_append, List.nil_append]
  have g1 : ∀ S : Store, inG S (.int (o : Nat)) (En.e p) = some (.bl (decide (o ∈ p)), S) := fun S => in_nat rfl
  by_cases hm : o ∈ p
  · refine Cs_if fun G hG => ?_
    simp only [x_partV, bnI_ok, cutD_1, len_en, asSeq_en, asLst_en, lstOf_en, x_callF, x_callFR, liftP_ok, liftR_ok, liftB_bl, liftB_int, callV1, callV2, callV3, callV4, callRV1, callRV2, callRV3, callRV4, p_int, p_bl, p_scr, p_non, p_str, p_lst, p_tup, p_nil, p_cons, p_en, p_ens, Bool.and_self, en_norm, mod_ok, fdiv_lit, mul_lit, add_nat, add_one, lt_int, le_int, gt_int, ge_int, min_int, max_int, neg_int, eq_int, ne_int, eq_bl, ne_bl, len_lst, len_tup, len_scr, Int.reduceLT, Int.reduceLE, Nat.reduceLeDiff, x_bind, x_then, x_seq, x_ret, x_op2, x_op1, x_step, x_nilA, x_consA, x_callB, x_testE, x_toB, x_if, x_retS, x_dropS, x_setS, x_skip, x_andT, x_orT, x_notT, x_ifE, x_andE, x_orE, x_notE, x_chain, x_tupE, x_lstE, x_lstC, x_methL, x_for, x_itSeq, x_asSeq, x_asSeqT, x_asSeqS, x_range1, x_range2, x_enum, x_asLst, x_asg, x_isi, x_slice, x_noPart, x_rev, bnd_ok, bnd_err, thn_ok, thn_err, sq_nx, sq_ret, sq_brk, sq_ct, sq_err, bnB_ok, startE, List.map_cons, List.map_nil, List.length_cons, List.length_nil, Nat.reduceAdd, Nat.reduceSub, List.replicate_succ, List.replicate_zero, List.append_nil, List.cons_append, List.nil_append, if_true, if_false, Bool.false_eq_true, x_v0, x_vs, n_int, n_bl, n_str, n_non, n_lst, n_tup, n_scr, List.getElem?_cons_zero, List.getElem?_cons_succ, List.set_cons_zero, List.set_cons_succ, wipeD, Option.map_some, Bool.not_true, Bool.not_false, P_ok, g1, hm, decide_true]
    refine hG _ _ ?_
    clear hG G
    try simp only [if_true, if_false, Bool.false_eq_true]
    refine Ce_ret fun G hG => ?_
    simp only [x_partV, bnI_ok, cutD_1, len_en, asSeq_en, asLst_en, lstOf_en, x_callF, x_callFR, liftP_ok, liftR_ok, liftB_bl, liftB_int, callV1, callV2, callV3, callV4, callRV1, callRV2, callRV3, callRV4, p_int, p_bl, p_scr, p_non, p_str, p_lst, p_tup, p_nil, p_cons, p_en, p_ens, Bool.and_self, en_norm, mod_ok, fdiv_lit, mul_lit, add_nat, add_one, lt_int, le_int, gt_int, ge_int, min_int, max_int, neg_int, eq_int, ne_int, eq_bl, ne_bl, len_lst, len_tup, len_scr, Int.reduceLT, Int.reduceLE, Nat.reduceLeDiff, x_bind, x_then, x_seq, x_ret, x_op2, x_op1, x_step, x_nilA, x_consA, x_callB, x_testE, x_toB, x_if, x_retS, x_dropS, x_setS, x_skip, x_andT, x_orT, x_notT, x_ifE, x_andE, x_orE, x_notE, x_chain, x_tupE, x_lstE, x_lstC, x_methL, x_for, x_itSeq, x_asSeq, x_asSeqT, x_asSeqS, x_range1, x_range2, x_enum, x_asLst, x_asg, x_isi, x_slice, x_noPart, x_rev, bnd_ok, bnd_err, thn_ok, thn_err, sq_nx, sq_ret, sq_brk, sq_ct, sq_err, bnB_ok, startE, List.map_cons, List.map_nil, List.length_cons, List.length_nil, Nat.reduceAdd, Nat.reduceSub, List.replicate_succ, List.replicate_zero, List.append_nil, List.cons_append, List.nil_append, if_true, if_false, Bool.false_eq_true, x_v0, x_vs, n_int, n_bl, n_str, n_non, n_lst, n_tup, n_scr, List.getElem?_cons_zero, List.getElem?_cons_succ, List.set_cons_zero, List.set_cons_succ, wipeD, Option.map_some, Bool.not_true, Bool.not_false, P_ok]
    refine hG _ _ ?_
    clear hG G
    unfold brk
    rw [decide_eq_false (fun h => h hm), Bool.false_and]; rfl
  · refine Cs_if fun G hG => ?_
    simp only [x_partV, bnI_ok, cutD_1, len_en, asSeq_en, asLst_en, lstOf_en, x_callF, x_callFR, liftP_ok, liftR_ok, liftB_bl, liftB_int, callV1, callV2, callV3, callV4, callRV1, callRV2, callRV3, callRV4, p_int, p_bl, p_scr, p_non, p_str, p_lst, p_tup, p_nil, p_cons, p_en, p_ens, Bool.and_self, en_norm, mod_ok, fdiv_lit, mul_lit, add_nat, add_one, lt_int, le_int, gt_int, ge_int, min_int, max_int, neg_int, eq_int, ne_int, eq_bl, ne_bl, len_lst, len_tup, len_scr, Int.reduceLT, Int.reduceLE, Nat.reduceLeDiff, x_bind, x_then, x_seq, x_ret, x_op2, x_op1, x_step, x_nilA, x_consA, x_callB, x_testE, x_toB, x_if, x_retS, x_dropS, x_setS, x_skip, x_andT, x_orT, x_notT, x_ifE, x_andE, x_orE, x_notE, x_chain, x_tupE, x_lstE, x_lstC, x_methL, x_for, x_itSeq, x_asSeq, x_asSeqT, x_asSeqS, x_range1, x_range2, x_enum, x_asLst, x_asg, x_isi, x_slice, x_noPart, x_rev, bnd_ok, bnd_err, thn_ok, thn_err, sq_nx, sq_ret, sq_brk, sq_ct, sq_err, bnB_ok, startE, List.map_cons, List.map_nil, List.length_cons, List.length_nil, Nat.reduceAdd, Nat.reduceSub, List.replicate_succ, List.replicate_zero, List.append_nil, List.cons_append, List.nil_append, if_true, if_false, Bool.false_eq_true, x_v0, x_vs, n_int, n_bl, n_str, n_non, n_lst, n_tup, n_scr, List.getElem?_cons_zero, List.getElem?_cons_succ, List.set_cons_zero, List.set_cons_succ, wipeD, Option.map_some, Bool.not_true, Bool.not_false, P_ok, g1, hm, decide_false]
    refine hG _ _ ?_
    clear hG G
    try simp only [if_true, if_false, Bool.false_eq_true]
    refine W_nx ?_
    have hlc : lcE (itSeq (vE 1)) (.one 4) [4] (testE (op2 ixG (op2 ixG (vE 0) (vE 2)) (vE 4))) (vE 4) [some (En.e t), some (En.e p), some (.int (o : Nat)), none, none] [] = .ok (En.e (p.filter (ent t o))) [] := by
      refine lc_beaten hq hp hl ho 4 (by simp only [x_partV, bnI_ok, cutD_1, len_en, asSeq_en, asLst_en, lstOf_en, x_callF, x_callFR, liftP_ok, liftR_ok, liftB_bl, liftB_int, callV1, callV2, callV3, callV4, callRV1, callRV2, callRV3, callRV4, p_int, p_bl, p_scr, p_non, p_str, p_lst, p_tup, p_nil, p_cons, p_en, p_ens, Bool.and_self, en_norm, mod_ok, fdiv_lit, mul_lit, add_nat, add_one, lt_int, le_int, gt_int, ge_int, min_int, max_int, neg_int, eq_int, ne_int, eq_bl, ne_bl, len_lst, len_tup, len_scr, Int.reduceLT, Int.reduceLE, Nat.reduceLeDiff, x_bind, x_then, x_seq, x_ret, x_op2, x_op1, x_step, x_nilA, x_consA, x_callB, x_testE, x_toB, x_if, x_retS, x_dropS, x_setS, x_skip, x_andT, x_orT, x_notT, x_ifE, x_andE, x_orE, x_notE, x_chain, x_tupE, x_lstE, x_lstC, x_methL, x_for, x_itSeq, x_asSeq, x_asSeqT, x_asSeqS, x_range1, x_range2, x_enum, x_asLst, x_asg, x_isi, x_slice, x_noPart, x_rev, bnd_ok, bnd_err, thn_ok, thn_err, sq_nx, sq_ret, sq_brk, sq_ct, sq_err, bnB_ok, startE, List.map_cons, List.map_nil, List.length_cons, List.length_nil, Nat.reduceAdd, Nat.reduceSub, List.replicate_succ, List.replicate_zero, List.append_nil, List.cons_append, List.nil_append, if_true, if_false, Bool.false_eq_true, x_v0, x_vs, n_int, n_bl, n_str, n_non, n_lst, n_tup, n_scr, List.getElem?_cons_zero, List.getElem?_cons_succ, List.set_cons_zero, List.set_cons_succ, wipeD, Option.map_some, Bool.not_true, Bool.not_false, ]; try exact rfl) fun a ha => ?_
      simp only [x_partV, bnI_ok, cutD_1, len_en, asSeq_en, asLst_en, lstOf_en, x_callF, x_callFR, liftP_ok, liftR_ok, liftB_bl, liftB_int, callV1, callV2, callV3, callV4, callRV1, callRV2, callRV3, callRV4, p_int, p_bl, p_scr, p_non, p_str, p_lst, p_tup, p_nil, p_cons, p_en, p_ens, Bool.and_self, en_norm, mod_ok, fdiv_lit, mul_lit, add_nat, add_one, lt_int, le_int, gt_int, ge_int, min_int, max_int, neg_int, eq_int, ne_int, eq_bl, ne_bl, len_lst, len_tup, len_scr, Int.reduceLT, Int.reduceLE, Nat.reduceLeDiff, x_bind, x_then, x_seq, x_ret, x_op2, x_op1, x_step, x_nilA, x_consA, x_callB, x_testE, x_toB, x_if, x_retS, x_dropS, x_setS, x_skip, x_andT, x_orT, x_notT, x_ifE, x_andE, x_orE, x_notE, x_chain, x_tupE, x_lstE, x_lstC, x_methL, x_for, x_itSeq, x_asSeq, x_asSeqT, x_asSeqS, x_range1, x_range2, x_enum, x_asLst, x_asg, x_isi, x_slice, x_noPart, x_rev, bnd_ok, bnd_err, thn_ok, thn_err, sq_nx, sq_ret, sq_brk, sq_ct, sq_err, bnB_ok, startE, List.map_cons, List.map_nil, List.length_cons, List.length_nil, Nat.reduceAdd, Nat.reduceSub, List.replicate_succ, List.replicate_zero, List.append_nil, List.cons_append, List.nil_append, if_true, if_false, Bool.false_eq_true, x_v0, x_vs, n_int, n_bl, n_str, n_non, n_lst, n_tup, n_scr, List.getElem?_cons_zero, List.getElem?_cons_succ, List.set_cons_zero, List.set_cons_succ, wipeD, Option.map_some, Bool.not_true, Bool.not_false, en_nat, and_self]
    refine Cs_set fun G hG => ?_
    simp only [x_partV, bnI_ok, cutD_1, len_en, asSeq_en, asLst_en, lstOf_en, x_callF, x_callFR, liftP_ok, liftR_ok, liftB_bl, liftB_int, callV1, callV2, callV3, callV4, callRV1, callRV2, callRV3, callRV4, p_int, p_bl, p_scr, p_non, p_str, p_lst, p_tup, p_nil, p_cons, p_en, p_ens, Bool.and_self, en_norm, mod_ok, fdiv_lit, mul_lit, add_nat, add_one, lt_int, le_int, gt_int, ge_int, min_int, max_int, neg_int, eq_int, ne_int, eq_bl, ne_bl, len_lst, len_tup, len_scr, Int.reduceLT, Int.reduceLE, Nat.reduceLeDiff, x_bind, x_then, x_seq, x_ret, x_op2, x_op1, x_step, x_nilA, x_consA, x_callB, x_testE, x_toB, x_if, x_retS, x_dropS, x_setS, x_skip, x_andT, x_orT, x_notT, x_ifE, x_andE, x_orE, x_notE, x_chain, x_tupE, x_lstE, x_lstC, x_methL, x_for, x_itSeq, x_asSeq, x_asSeqT, x_asSeqS, x_range1, x_range2, x_enum, x_asLst, x_asg, x_isi, x_slice, x_noPart, x_rev, bnd_ok, bnd_err, thn_ok, thn_err, sq_nx, sq_ret, sq_brk, sq_ct, sq_err, bnB_ok, startE, List.map_cons, List.map_nil, List.length_cons, List.length_nil, Nat.reduceAdd, Nat.reduceSub, List.replicate_succ, List.replicate_zero, List.append_nil, List.cons_append, List.nil_append, if_true, if_false, Bool.false_eq_true, x_v0, x_vs, n_int, n_bl, n_str, n_non, n_lst, n_tup, n_scr, List.getElem?_cons_zero, List.getElem?_cons_succ, List.set_cons_zero, List.set_cons_succ, wipeD, Option.map_some, Bool.not_true, Bool.not_false, P_ok, hlc]
    refine hG _ _ ?_
    clear hG G
    simp only [List.set_cons_zero, List.set_cons_succ]
    have c0 : decide ((0 : Int) < ((p.filter (ent t o)).length : Nat)) = decide (0 < (p.filter (ent t o)).length) := decide_eq_decide.mpr (by omega)
    have c1 : decide (((p.filter (ent t o)).length : Int) < (p.length : Nat)) = decide ((p.filter (ent t o)).length < p.length) := decide_eq_decide.mpr (by omega)
    have eb : brk t p o = (decide (0 < (p.filter (ent t o)).length) && decide ((p.filter (ent t o)).length < p.length)) := by
      unfold brk
      rw [decide_eq_true hm, Bool.true_and]
    rw [eb]
    cases h0 : decide (0 < (p.filter (ent t o)).length) with
    | false =>
      refine Ce_ret fun G hG => ?_
      simp only [x_partV, bnI_ok, cutD_1, len_en, asSeq_en, asLst_en, lstOf_en, x_callF, x_callFR, liftP_ok, liftR_ok, liftB_bl, liftB_int, callV1, callV2, callV3, callV4, callRV1, callRV2, callRV3, callRV4, p_int, p_bl, p_scr, p_non, p_str, p_lst, p_tup, p_nil, p_cons, p_en, p_ens, Bool.and_self, en_norm, mod_ok, fdiv_lit, mul_lit, add_nat, add_one, lt_int, le_int, gt_int, ge_int, min_int, max_int, neg_int, eq_int, ne_int, eq_bl, ne_bl, len_lst, len_tup, len_scr, Int.reduceLT, Int.reduceLE, Nat.reduceLeDiff, x_bind, x_then, x_seq, x_ret, x_op2, x_op1, x_step, x_nilA, x_consA, x_callB, x_testE, x_toB, x_if, x_retS, x_dropS, x_setS, x_skip, x_andT, x_orT, x_notT, x_ifE, x_andE, x_orE, x_notE, x_chain, x_tupE, x_lstE, x_lstC, x_methL, x_for, x_itSeq, x_asSeq, x_asSeqT, x_asSeqS, x_range1, x_range2, x_enum, x_asLst, x_asg, x_isi, x_slice, x_noPart, x_rev, bnd_ok, bnd_err, thn_ok, thn_err, sq_nx, sq_ret, sq_brk, sq_ct, sq_err, bnB_ok, startE, List.map_cons, List.map_nil, List.length_cons, List.length_nil, Nat.reduceAdd, Nat.reduceSub, List.replicate_succ, List.replicate_zero, List.append_nil, List.cons_append, List.nil_append, if_true, if_false, Bool.false_eq_true, x_v0, x_vs, n_int, n_bl, n_str, n_non, n_lst, n_tup, n_scr, List.getElem?_cons_zero, List.getElem?_cons_succ, List.set_cons_zero, List.set_cons_succ, wipeD, Option.map_some, Bool.not_true, Bool.not_false, P_ok, c0, h0]
      refine hG _ _ ?_
      clear hG G
      rfl
    | true =>
      refine Ce_ret fun G hG => ?_
      simp only [x_partV, bnI_ok, cutD_1, len_en, asSeq_en, asLst_en, lstOf_en, x_callF, x_callFR, liftP_ok, liftR_ok, liftB_bl, liftB_int, callV1, callV2, callV3, callV4, callRV1, callRV2, callRV3, callRV4, p_int, p_bl, p_scr, p_non, p_str, p_lst, p_tup, p_nil, p_cons, p_en, p_ens, Bool.and_self, en_norm, mod_ok, fdiv_lit, mul_lit, add_nat, add_one, lt_int, le_int, gt_int, ge_int, min_int, max_int, neg_int, eq_int, ne_int, eq_bl, ne_bl, len_lst, len_tup, len_scr, Int.reduceLT, Int.reduceLE, Nat.reduceLeDiff, x_bind, x_then, x_seq, x_ret, x_op2, x_op1, x_step, x_nilA, x_consA, x_callB, x_testE, x_toB, x_if, x_retS, x_dropS, x_setS, x_skip, x_andT, x_orT, x_notT, x_ifE, x_andE, x_orE, x_notE, x_chain, x_tupE, x_lstE, x_lstC, x_methL, x_for, x_itSeq, x_asSeq, x_asSeqT, x_asSeqS, x_range1, x_range2, x_enum, x_asLst, x_asg, x_isi, x_slice, x_noPart, x_rev, bnd_ok, bnd_err, thn_ok, thn_err, sq_nx, sq_ret, sq_brk, sq_ct, sq_err, bnB_ok, startE, List.map_cons, List.map_nil, List.length_cons, List.length_nil, Nat.reduceAdd, Nat.reduceSub, List.replicate_succ, List.replicate_zero, List.append_nil, List.cons_append, List.nil_append, if_true, if_false, Bool.false_eq_true, x_v0, x_vs, n_int, n_bl, n_str, n_non, n_lst, n_tup, n_scr, List.getElem?_cons_zero, List.getElem?_cons_succ, List.set_cons_zero, List.set_cons_succ, wipeD, Option.map_some, Bool.not_true, Bool.not_false, P_ok, c0, h0, c1]
      refine hG _ _ ?_
      clear hG G
      rfl
theorem r_together {n : Nat} {t : Tb} {p : List Nat} (hq : Sq n t) (hn : n ≤ 100) (hp : ∀ a ∈ p, a < n) (hl : p.length ≤ 100000) : ∃ b : Bool, f__law_together [En.e t, En.e p] = .ok (.bl b) ∧ (b = true ↔ Whole n t p) := by
  suffices h : ∃ d, f__law_together [En.e t, En.e p] = .ok d ∧ ∃ b : Bool, d = .bl b ∧ (b = true ↔ Whole n t p) by
    obtain ⟨d, h1, b, rfl, h2⟩ := h
    exact ⟨b, h1, h2⟩
  refine out_W ?_
  unfold b__law_together
  simp only [startE, List.map_cons, List.map_nil, List.length_cons, List.length_nil, Nat.reduceAdd, Nat.reduceSub, List.replicate_succ, List.replicate_zero, List.append_nil, List.cons_append, List.nil_append]
  have n62 : n < 2 ^ 62 := Nat.lt_of_le_of_lt hn (by decide)
  refine Cs_for fun G hG => ?_
  simp only [x_partV, bnI_ok, cutD_1, len_en, asSeq_en, asLst_en, lstOf_en, x_callF, x_callFR, liftP_ok, liftR_ok, liftB_bl, liftB_int, callV1, callV2, callV3, callV4, callRV1, callRV2, callRV3, callRV4, p_int, p_bl, p_scr, p_non, p_str, p_lst, p_tup, p_nil, p_cons, p_en, p_ens, Bool.and_self, en_norm, mod_ok, fdiv_lit, mul_lit, add_nat, add_one, lt_int, le_int, gt_int, ge_int, min_int, max_int, neg_int, eq_int, ne_int, eq_bl, ne_bl, len_lst, len_tup, len_scr, Int.reduceLT, Int.reduceLE, Nat.reduceLeDiff, x_bind, x_then, x_seq, x_ret, x_op2, x_op1, x_step, x_nilA, x_consA, x_callB, x_testE, x_toB, x_if, x_retS, x_dropS, x_setS, x_skip, x_andT, x_orT, x_notT, x_ifE, x_andE, x_orE, x_notE, x_chain, x_tupE, x_lstE, x_lstC, x_methL, x_for, x_itSeq, x_asSeq, x_asSeqT, x_asSeqS, x_range1, x_range2, x_enum, x_asLst, x_asg, x_isi, x_slice, x_noPart, x_rev, bnd_ok, bnd_err, thn_ok, thn_err, sq_nx, sq_ret, sq_brk, sq_ct, sq_err, bnB_ok, startE, List.map_cons, List.map_nil, List.length_cons, List.length_nil, Nat.reduceAdd, Nat.reduceSub, List.replicate_succ, List.replicate_zero, List.append_nil, List.cons_append, List.nil_append, if_true, if_false, Bool.false_eq_true, x_v0, x_vs, n_int, n_bl, n_str, n_non, n_lst, n_tup, n_scr, List.getElem?_cons_zero, List.getElem?_cons_succ, List.set_cons_zero, List.set_cons_succ, wipeD, Option.map_some, Bool.not_true, Bool.not_false, P_ok, hq.len, x_rangeI1 n62]
  refine hG _ _ ?_
  clear hG G
  refine W_for (fun i r S => ∃ o2, r = [some (En.e t), some (En.e p), o2] ∧ S = [] ∧ ∀ o, o < i → brk t p o = false) ⟨none, rfl, rfl, fun o h => absurd h (Nat.not_lt_zero o)⟩ ?_ ?_
  · rintro i d r S hd ⟨o2, rfl, rfl, hb⟩
    obtain ⟨hin, rfl⟩ := upto_at hd
    refine ⟨_, rfl, ?_⟩
    simp only [List.set_cons_zero, List.set_cons_succ]
    cases e : brk t p i with
    | true =>
      refine Ce_if fun G hG => ?_
      simp only [x_partV, bnI_ok, cutD_1, len_en, asSeq_en, asLst_en, lstOf_en, x_callF, x_callFR, liftP_ok, liftR_ok, liftB_bl, liftB_int, callV1, callV2, callV3, callV4, callRV1, callRV2, callRV3, callRV4, p_int, p_bl, p_scr, p_non, p_str, p_lst, p_tup, p_nil, p_cons, p_en, p_ens, Bool.and_self, en_norm, mod_ok, fdiv_lit, mul_lit, add_nat, add_one, lt_int, le_int, gt_int, ge_int, min_int, max_int, neg_int, eq_int, ne_int, eq_bl, ne_bl, len_lst, len_tup, len_scr, Int.reduceLT, Int.reduceLE, Nat.reduceLeDiff, x_bind, x_then, x_seq, x_ret, x_op2, x_op1, x_step, x_nilA, x_consA, x_callB, x_testE, x_toB, x_if, x_retS, x_dropS, x_setS, x_skip, x_andT, x_orT, x_notT, x_ifE, x_andE, x_orE, x_notE, x_chain, x_tupE, x_lstE, x_lstC, x_methL, x_for, x_itSeq, x_asSeq, x_asSeqT, x_asSeqS, x_range1, x_range2, x_enum, x_asLst, x_asg, x_isi, x_slice, x_noPart, x_rev, bnd_ok, bnd_err, thn_ok, thn_err, sq_nx, sq_ret, sq_brk, sq_ct, sq_err, bnB_ok, startE, List.map_cons, List.map_nil, List.length_cons, List.length_nil, Nat.reduceAdd, Nat.reduceSub, List.replicate_succ, List.replicate_zero, List.append_nil, List.cons_append, List.nil_append, if_true, if_false, Bool.false_eq_true, x_v0, x_vs, n_int, n_bl, n_str, n_non, n_lst, n_tup, n_scr, List.getElem?_cons_zero, List.getElem?_cons_succ, List.set_cons_zero, List.set_cons_succ, wipeD, Option.map_some, Bool.not_true, Bool.not_false, P_ok, r_breaks hq hp hl hin, e]
      refine hG _ _ ?_
      clear hG G
      try simp only [if_true, if_false, Bool.false_eq_true]
      refine Ce_ret fun G hG => ?_
      simp only [x_partV, bnI_ok, cutD_1, len_en, asSeq_en, asLst_en, lstOf_en, x_callF, x_callFR, liftP_ok, liftR_ok, liftB_bl, liftB_int, callV1, callV2, callV3, callV4, callRV1, callRV2, callRV3, callRV4, p_int, p_bl, p_scr, p_non, p_str, p_lst, p_tup, p_nil, p_cons, p_en, p_ens, Bool.and_self, en_norm, mod_ok, fdiv_lit, mul_lit, add_nat, add_one, lt_int, le_int, gt_int, ge_int, min_int, max_int, neg_int, eq_int, ne_int, eq_bl, ne_bl, len_lst, len_tup, len_scr, Int.reduceLT, Int.reduceLE, Nat.reduceLeDiff, x_bind, x_then, x_seq, x_ret, x_op2, x_op1, x_step, x_nilA, x_consA, x_callB, x_testE, x_toB, x_if, x_retS, x_dropS, x_setS, x_skip, x_andT, x_orT, x_notT, x_ifE, x_andE, x_orE, x_notE, x_chain, x_tupE, x_lstE, x_lstC, x_methL, x_for, x_itSeq, x_asSeq, x_asSeqT, x_asSeqS, x_range1, x_range2, x_enum, x_asLst, x_asg, x_isi, x_slice, x_noPart, x_rev, bnd_ok, bnd_err, thn_ok, thn_err, sq_nx, sq_ret, sq_brk, sq_ct, sq_err, bnB_ok, startE, List.map_cons, List.map_nil, List.length_cons, List.length_nil, Nat.reduceAdd, Nat.reduceSub, List.replicate_succ, List.replicate_zero, List.append_nil, List.cons_append, List.nil_append, if_true, if_false, Bool.false_eq_true, x_v0, x_vs, n_int, n_bl, n_str, n_non, n_lst, n_tup, n_scr, List.getElem?_cons_zero, List.getElem?_cons_succ, List.set_cons_zero, List.set_cons_succ, wipeD, Option.map_some, Bool.not_true, Bool.not_false, P_ok]
      refine hG _ _ ?_
      clear hG G
      refine ⟨_, rfl, _, rfl, fun h => (by cases h), fun h => ?_⟩
      have := h i hin
      rw [e] at this; cases this
    | false =>
      refine Ce_if fun G hG => ?_
      simp only [x_partV, bnI_ok, cutD_1, len_en, asSeq_en, asLst_en, lstOf_en, x_callF, x_callFR, liftP_ok, liftR_ok, liftB_bl, liftB_int, callV1, callV2, callV3, callV4, callRV1, callRV2, callRV3, callRV4, p_int, p_bl, p_scr, p_non, p_str, p_lst, p_tup, p_nil, p_cons, p_en, p_ens, Bool.and_self, en_norm, mod_ok, fdiv_lit, mul_lit, add_nat, add_one, lt_int, le_int, gt_int, ge_int, min_int, max_int, neg_int, eq_int, ne_int, eq_bl, ne_bl, len_lst, len_tup, len_scr, Int.reduceLT, Int.reduceLE, Nat.reduceLeDiff, x_bind, x_then, x_seq, x_ret, x_op2, x_op1, x_step, x_nilA, x_consA, x_callB, x_testE, x_toB, x_if, x_retS, x_dropS, x_setS, x_skip, x_andT, x_orT, x_notT, x_ifE, x_andE, x_orE, x_notE, x_chain, x_tupE, x_lstE, x_lstC, x_methL, x_for, x_itSeq, x_asSeq, x_asSeqT, x_asSeqS, x_range1, x_range2, x_enum, x_asLst, x_asg, x_isi, x_slice, x_noPart, x_rev, bnd_ok, bnd_err, thn_ok, thn_err, sq_nx, sq_ret, sq_brk, sq_ct, sq_err, bnB_ok, startE, List.map_cons, List.map_nil, List.length_cons, List.length_nil, Nat.reduceAdd, Nat.reduceSub, List.replicate_succ, List.replicate_zero, List.append_nil, List.cons_append, List.nil_append, if_true, if_false, Bool.false_eq_true, x_v0, x_vs, n_int, n_bl, n_str, n_non, n_lst, n_tup, n_scr, List.getElem?_cons_zero, List.getElem?_cons_succ, List.set_cons_zero, List.set_cons_succ, wipeD, Option.map_some, Bool.not_true, Bool.not_false, P_ok, r_breaks hq hp hl hin, e]
      refine hG _ _ ?_
      clear hG G
      try simp only [if_true, if_false, Bool.false_eq_true]
      refine W_nx ⟨_, rfl, rfl, fun o ho => ?_⟩
      by_cases e2 : o = i
      · rw [e2]; exact e
      · exact hb o (by omega)
  · rintro r S ⟨o2, rfl, rfl, hb⟩
    rw [upto_len] at hb
    refine Ce_ret fun G hG => ?_
    simp only [x_partV, bnI_ok, cutD_1, len_en, asSeq_en, asLst_en, lstOf_en, x_callF, x_callFR, liftP_ok, liftR_ok, liftB_bl, liftB_int, callV1, callV2, callV3, callV4, callRV1, callRV2, callRV3, callRV4, p_int, p_bl, p_scr, p_non, p_str, p_lst, p_tup, p_nil, p_cons, p_en, p_ens, Bool.and_self, en_norm, mod_ok, fdiv_lit, mul_lit, add_nat, add_one, lt_int, le_int, gt_int, ge_int, min_int, max_int, neg_int, eq_int, ne_int, eq_bl, ne_bl, len_lst, len_tup, len_scr, Int.reduceLT, Int.reduceLE, Nat.reduceLeDiff, x_bind, x_then, x_seq, x_ret, x_op2, x_op1, x_step, x_nilA, x_consA, x_callB, x_testE, x_toB, x_if, x_retS, x_dropS, x_setS, x_skip, x_andT, x_orT, x_notT, x_ifE, x_andE, x_orE, x_notE, x_chain, x_tupE, x_lstE, x_lstC, x_methL, x_for, x_itSeq, x_asSeq, x_asSeqT, x_asSeqS, x_range1, x_range2, x_enum, x_asLst, x_asg, x_isi, x_slice, x_noPart, x_rev, bnd_ok, bnd_err, thn_ok, thn_err, sq_nx, sq_ret, sq_brk, sq_ct, sq_err, bnB_ok, startE, List.map_cons, List.map_nil, List.length_cons, List.length_nil, Nat.reduceAdd, Nat.reduceSub, List.replicate_succ, List.replicate_zero, List.append_nil, List.cons_append, List.nil_append, if_true, if_false, Bool.false_eq_true, x_v0, x_vs, n_int, n_bl, n_str, n_non, n_lst, n_tup, n_scr, List.getElem?_cons_zero, List.getElem?_cons_succ, List.set_cons_zero, List.set_cons_succ, wipeD, Option.map_some, Bool.not_true, Bool.not_false, P_ok]
    refine hG _ _ ?_
    clear hG G
    exact ⟨_, rfl, _, rfl, fun _ => hb, fun _ => rfl⟩
theorem r_all_together {n : Nat} {t : Tb} {ps : List (List Nat)} (hq : Sq n t) (hn : n ≤ 100) (hp : ∀ p ∈ ps, ∀ a ∈ p, a < n) (hl : ∀ p ∈ ps, p.length ≤ 100000) : ∃ b : Bool, f__law_all_together [En.e t, En.e ps] = .ok (.bl b) ∧ (b = true ↔ ∀ p ∈ ps, Whole n t p) := by
  suffices h : ∃ d, f__law_all_together [En.e t, En.e ps] = .ok d ∧ ∃ b : Bool, d = .bl b ∧ (b = true ↔ ∀ p ∈ ps, Whole n t p) by
    obtain ⟨d, h1, b, rfl, h2⟩ := h
    exact ⟨b, h1, h2⟩
  refine out_W ?_
  unfold b__law_all_together
  simp only [startE, List.map_cons, List.map_nil, List.length_cons, List.length_nil, Nat.reduceAdd, Nat.reduceSub, List.replicate_succ, List.replicate_zero, List.append_nil, List.cons_append, List.nil_append]
  refine Cs_for fun G hG => ?_
  simp only [x_partV, bnI_ok, cutD_1, len_en, asSeq_en, asLst_en, lstOf_en, x_callF, x_callFR, liftP_ok, liftR_ok, liftB_bl, liftB_int, callV1, callV2, callV3, callV4, callRV1, callRV2, callRV3, callRV4, p_int, p_bl, p_scr, p_non, p_str, p_lst, p_tup, p_nil, p_cons, p_en, p_ens, Bool.and_self, en_norm, mod_ok, fdiv_lit, mul_lit, add_nat, add_one, lt_int, le_int, gt_int, ge_int, min_int, max_int, neg_int, eq_int, ne_int, eq_bl, ne_bl, len_lst, len_tup, len_scr, Int.reduceLT, Int.reduceLE, Nat.reduceLeDiff, x_bind, x_then, x_seq, x_ret, x_op2, x_op1, x_step, x_nilA, x_consA, x_callB, x_testE, x_toB, x_if, x_retS, x_dropS, x_setS, x_skip, x_andT, x_orT, x_notT, x_ifE, x_andE, x_orE, x_notE, x_chain, x_tupE, x_lstE, x_lstC, x_methL, x_for, x_itSeq, x_asSeq, x_asSeqT, x_asSeqS, x_range1, x_range2, x_enum, x_asLst, x_asg, x_isi, x_slice, x_noPart, x_rev, bnd_ok, bnd_err, thn_ok, thn_err, sq_nx, sq_ret, sq_brk, sq_ct, sq_err, bnB_ok, startE, List.map_cons, List.map_nil, List.length_cons, List.length_nil, Nat.reduceAdd, Nat.reduceSub, List.replicate_succ, List.replicate_zero, List.append_nil, List.cons_append, List.nil_append, if_true, if_false, Bool.false_eq_true, x_v0, x_vs, n_int, n_bl, n_str, n_non, n_lst, n_tup, n_scr, List.getElem?_cons_zero, List.getElem?_cons_succ, List.set_cons_zero, List.set_cons_succ, wipeD, Option.map_some, Bool.not_true, Bool.not_false, P_ok]
  refine hG _ _ ?_
  clear hG G
  refine W_for (fun i r S => ∃ o2, r = [some (En.e t), some (En.e ps), o2] ∧ S = [] ∧ ∀ p ∈ ps.take i, Whole n t p) ⟨none, rfl, rfl, by simp⟩ ?_ ?_
  · rintro i d r S hd ⟨o2, rfl, rfl, hb⟩
    have hin : i < ps.length := by
      have := (List.getElem?_eq_some_iff.mp hd).1
      rw [List.length_map] at this; exact this
    have hg : ps[i]? = some ps[i] := List.getElem?_eq_getElem hin
    rw [en_get hg] at hd
    cases hd
    have hmem := List.getElem_mem hin
    refine ⟨_, rfl, ?_⟩
    simp only [List.set_cons_zero, List.set_cons_succ]
    obtain ⟨b, h1, h2⟩ := r_together hq hn (hp _ hmem) (hl _ hmem)
    cases b with
    | false =>
      refine Ce_if fun G hG => ?_
      simp only [x_partV, bnI_ok, cutD_1, len_en, asSeq_en, asLst_en, lstOf_en, x_callF, x_callFR, liftP_ok, liftR_ok, liftB_bl, liftB_int, callV1, callV2, callV3, callV4, callRV1, callRV2, callRV3, callRV4, p_int, p_bl, p_scr, p_non, p_str, p_lst, p_tup, p_nil, p_cons, p_en, p_ens, Bool.and_self, en_norm, mod_ok, fdiv_lit, mul_lit, add_nat, add_one, lt_int, le_int, gt_int, ge_int, min_int, max_int, neg_int, eq_int, ne_int, eq_bl, ne_bl, len_lst, len_tup, len_scr, Int.reduceLT, Int.reduceLE, Nat.reduceLeDiff, x_bind, x_then, x_seq, x_ret, x_op2, x_op1, x_step, x_nilA, x_consA, x_callB, x_testE, x_toB, x_if, x_retS, x_dropS, x_setS, x_skip, x_andT, x_orT, x_notT, x_ifE, x_andE, x_orE, x_notE, x_chain, x_tupE, x_lstE, x_lstC, x_methL, x_for, x_itSeq, x_asSeq, x_asSeqT, x_asSeqS, x_range1, x_range2, x_enum, x_asLst, x_asg, x_isi, x_slice, x_noPart, x_rev, bnd_ok, bnd_err, thn_ok, thn_err, sq_nx, sq_ret, sq_brk, sq_ct, sq_err, bnB_ok, startE, List.map_cons, List.map_nil, List.length_cons, List.length_nil, Nat.reduceAdd, Nat.reduceSub, List.replicate_succ, List.replicate_zero, List.append_nil, List.cons_append, List.nil_append, if_true, if_false, Bool.false_eq_true, x_v0, x_vs, n_int, n_bl, n_str, n_non, n_lst, n_tup, n_scr, List.getElem?_cons_zero, List.getElem?_cons_succ, List.set_cons_zero, List.set_cons_succ, wipeD, Option.map_some, Bool.not_true, Bool.not_false, P_ok, h1]
      refine hG _ _ ?_
      clear hG G
      try simp only [if_true, if_false, Bool.false_eq_true]
      refine Ce_ret fun G hG => ?_
      simp only [x_partV, bnI_ok, cutD_1, len_en, asSeq_en, asLst_en, lstOf_en, x_callF, x_callFR, liftP_ok, liftR_ok, liftB_bl, liftB_int, callV1, callV2, callV3, callV4, callRV1, callRV2, callRV3, callRV4, p_int, p_bl, p_scr, p_non, p_str, p_lst, p_tup, p_nil, p_cons, p_en, p_ens, Bool.and_self, en_norm, mod_ok, fdiv_lit, mul_lit, add_nat, add_one, lt_int, le_int, gt_int, ge_int, min_int, max_int, neg_int, eq_int, ne_int, eq_bl, ne_bl, len_lst, len_tup, len_scr, Int.reduceLT, Int.reduceLE, Nat.reduceLeDiff, x_bind, x_then, x_seq, x_ret, x_op2, x_op1, x_step, x_nilA, x_consA, x_callB, x_testE, x_toB, x_if, x_retS, x_dropS, x_setS, x_skip, x_andT, x_orT, x_notT, x_ifE, x_andE, x_orE, x_notE, x_chain, x_tupE, x_lstE, x_lstC, x_methL, x_for, x_itSeq, x_asSeq, x_asSeqT, x_asSeqS, x_range1, x_range2, x_enum, x_asLst, x_asg, x_isi, x_slice, x_noPart, x_rev, bnd_ok, bnd_err, thn_ok, thn_err, sq_nx, sq_ret, sq_brk, sq_ct, sq_err, bnB_ok, startE, List.map_cons, List.map_nil, List.length_cons, List.length_nil, Nat.reduceAdd, Nat.reduceSub, List.replicate_succ, List.replicate_zero, List.append_nil, List.cons_append, List.nil_append, if_true, if_false, Bool.false_eq_true, x_v0, x_vs, n_int, n_bl, n_str, n_non, n_lst, n_tup, n_scr, List.getElem?_cons_zero, List.getElem?_cons_succ, List.set_cons_zero, List.set_cons_succ, wipeD, Option.map_some, Bool.not_true, Bool.not_false, P_ok]
      refine hG _ _ ?_
      clear hG G
      refine ⟨_, rfl, _, rfl, fun h => (by cases h), fun h => ?_⟩
      have := h2.mpr (h _ hmem)
      cases this
    | true =>
      refine Ce_if fun G hG => ?_
      simp only [x_partV, bnI_ok, cutD_1, len_en, asSeq_en, asLst_en, lstOf_en, x_callF, x_callFR, liftP_ok, liftR_ok, liftB_bl, liftB_int, callV1, callV2, callV3, callV4, callRV1, callRV2, callRV3, callRV4, p_int, p_bl, p_scr, p_non, p_str, p_lst, p_tup, p_nil, p_cons, p_en, p_ens, Bool.and_self, en_norm, mod_ok, fdiv_lit, mul_lit, add_nat, add_one, lt_int, le_int, gt_int, ge_int, min_int, max_int, neg_int, eq_int, ne_int, eq_bl, ne_bl, len_lst, len_tup, len_scr, Int.reduceLT, Int.reduceLE, Nat.reduceLeDiff, x_bind, x_then, x_seq, x_ret, x_op2, x_op1, x_step, x_nilA, x_consA, x_callB, x_testE, x_toB, x_if, x_retS, x_dropS, x_setS, x_skip, x_andT, x_orT, x_notT, x_ifE, x_andE, x_orE, x_notE, x_chain, x_tupE, x_lstE, x_lstC, x_methL, x_for, x_itSeq, x_asSeq, x_asSeqT, x_asSeqS, x_range1, x_range2, x_enum, x_asLst, x_asg, x_isi, x_slice, x_noPart, x_rev, bnd_ok, bnd_err, thn_ok, thn_err, sq_nx, sq_ret, sq_brk, sq_ct, sq_err, bnB_ok, startE, List.map_cons, List.map_nil, List.length_cons, List.length_nil, Nat.reduceAdd, Nat.reduceSub, List.replicate_succ, List.replicate_zero, List.append_nil, List.cons_append, List.nil_append, if_true, if_false, Bool.false_eq_true, x_v0, x_vs, n_int, n_bl, n_str, n_non, n_lst, n_tup, n_scr, List.getElem?_cons_zero, List.getElem?_cons_succ, List.set_cons_zero, List.set_cons_succ, wipeD, Option.map_some, Bool.not_true, Bool.not_false, P_ok, h1]
      refine hG _ _ ?_
      clear hG G
      try simp only [if_true, if_false, Bool.false_eq_true]
      refine W_nx ⟨_, rfl, rfl, fun p hp => ?_⟩
      rw [List.take_add_one, hg] at hp
      rcases List.mem_append.mp hp with hp | hp
      · exact hb p hp
      · have e : p = ps[i] := by simpa using hp
        rw [e]; exact h2.mp rfl
  · rintro r S ⟨o2, rfl, rfl, hb⟩
    rw [List.length_map, List.take_length] at hb
    refine Ce_ret fun G hG => ?_
    simp only [x_partV, bnI_ok, cutD_1, len_en, asSeq_en, asLst_en, lstOf_en, x_callF, x_callFR, liftP_ok, liftR_ok, liftB_bl, liftB_int, callV1, callV2, callV3, callV4, callRV1, callRV2, callRV3, callRV4, p_int, p_bl, p_scr, p_non, p_str, p_lst, p_tup, p_nil, p_cons, p_en, p_ens, Bool.and_self, en_norm, mod_ok, fdiv_lit, mul_lit, add_nat, add_one, lt_int, le_int, gt_int, ge_int, min_int, max_int, neg_int, eq_int, ne_int, eq_bl, ne_bl, len_lst, len_tup, len_scr, Int.reduceLT, Int.reduceLE, Nat.reduceLeDiff, x_bind, x_then, x_seq, x_ret, x_op2, x_op1, x_step, x_nilA, x_consA, x_callB, x_testE, x_toB, x_if, x_retS, x_dropS, x_setS, x_skip, x_andT, x_orT, x_notT, x_ifE, x_andE, x_orE, x_notE, x_chain, x_tupE, x_lstE, x_lstC, x_methL, x_for, x_itSeq, x_asSeq, x_asSeqT, x_asSeqS, x_range1, x_range2, x_enum, x_asLst, x_asg, x_isi, x_slice, x_noPart, x_rev, bnd_ok, bnd_err, thn_ok, thn_err, sq_nx, sq_ret, sq_brk, sq_ct, sq_err, bnB_ok, startE, List.map_cons, List.map_nil, List.length_cons, List.length_nil, Nat.reduceAdd, Nat.reduceSub, List.replicate_succ, List.replicate_zero, List.append_nil, List.cons_append, List.nil_append, if_true, if_false, Bool.false_eq_true, x_v0, x_vs, n_int, n_bl, n_str, n_non, n_lst, n_tup, n_scr, List.getElem?_cons_zero, List.getElem?_cons_succ, List.set_cons_zero, List.set_cons_succ, wipeD, Option.map_some, Bool.not_true, Bool.not_false, P_ok]
    refine hG _ _ ?_
    clear hG G
    exact ⟨_, rfl, _, rfl, fun _ => hb, fun _ => rfl⟩
end K75


namespace K75
open Aw
abbrev up (p : List Nat) : List Int := p.map fun a : Nat => (a : Int)
theorem en_up (p : List Nat) : En.e (up p) = En.e p := by
  rw [en_list, en_list, List.map_map]; rfl
theorem en_ups (ps : List (List Nat)) : En.e (ps.map up) = En.e ps := by
  rw [en_list, en_list, List.map_map]
  congr 1
  apply List.map_congr_left
  intro p _
  exact en_up p
theorem Good.nat {n : Nat} {ps : List (List Int)} (G : Good n ps) : ∃ ps' : List (List Nat), ps = ps'.map up := by
  refine ⟨ps.map fun p => p.map Int.toNat, ?_⟩
  rw [List.map_map]
  conv => lhs; rw [← List.map_id ps]
  apply List.map_congr_left
  intro p hp
  show p = up (p.map Int.toNat)
  rw [up, List.map_map]
  conv => lhs; rw [← List.map_id p]
  apply List.map_congr_left
  intro a ha
  have := (G.rg a (List.mem_flatten.mpr ⟨p, hp, ha⟩)).1
  show a = ((a.toNat : Nat) : Int)
  omega
theorem nodup_le : ∀ (n : Nat) (p : List Nat), p.Nodup → (∀ a ∈ p, a < n) → p.length ≤ n
  | 0, p, _, h => by
    cases p with
    | nil => exact Nat.le_refl 0
    | cons a p => exact absurd (h a List.mem_cons_self) (Nat.not_lt_zero a)
  | n + 1, p, h, hp => by
    by_cases hm : n ∈ p
    · have h1 := nodup_le n (p.erase n) (h.erase n) fun a ha => by
        obtain ⟨h2, h3⟩ := (List.Nodup.mem_erase_iff h).mp ha
        have := hp a h3; omega
      rw [List.length_erase_of_mem hm] at h1
      omega
    · have h1 := nodup_le n p h fun a ha => by
        have := hp a ha
        have : a ≠ n := fun e => hm (e ▸ ha)
        omega
      omega
theorem Good.rgN {n : Nat} {ps : List (List Nat)} (G : Good n (ps.map up)) : ∀ p ∈ ps, ∀ a ∈ p, a < n := fun p hp a ha => by
  have := (G.rg (a : Int) (List.mem_flatten.mpr ⟨up p, List.mem_map.mpr ⟨p, hp, rfl⟩, List.mem_map.mpr ⟨a, ha, rfl⟩⟩)).2
  omega
theorem Good.neN {n : Nat} {ps : List (List Nat)} (G : Good n (ps.map up)) : ∀ p ∈ ps, p ≠ [] := fun p hp h => G.ne (up p) (List.mem_map.mpr ⟨p, hp, rfl⟩) (by rw [h]; rfl)
theorem Good.lenN {n : Nat} {ps : List (List Nat)} (G : Good n (ps.map up)) : ∀ p ∈ ps, p.length ≤ n := fun p hp => by
  refine nodup_le n p ?_ (G.rgN p hp)
  have h1 : (up p).Nodup := (List.pairwise_flatten.mp G.nd).1 _ (List.mem_map.mpr ⟨p, hp, rfl⟩)
  exact (List.pairwise_map.mp h1).imp fun {a b} h e => h (by rw [e])
def heads (ps : List (List Nat)) : List Nat := ps.map fun p => p.headD 0
def fold (t : Tb) (hs : List Nat) : Tb := hs.map fun a => hs.map (ent t a)
theorem heads_lt {n : Nat} {ps : List (List Nat)} (ne : ∀ p ∈ ps, p ≠ []) (rg : ∀ p ∈ ps, ∀ a ∈ p, a < n) : ∀ a ∈ heads ps, a < n := by
  intro a ha
  obtain ⟨p, hp, rfl⟩ := List.mem_map.mp ha
  refine rg p hp _ ?_
  cases p with
  | nil => exact absurd rfl (ne _ hp)
  | cons x xs => exact List.mem_cons_self
theorem ix_head {S : Store} {p : List Nat} (h : p ≠ []) : ixG S (En.e p) (.int 0) = some (En.e (p.headD 0), S) := by
  have h0 : p[0]? = some (p.headD 0) := by
    cases p with
    | nil => exact absurd rfl h
    | cons x xs => rfl
  exact ix_enl (k := 0) h0
theorem r_folded_bad {n : Nat} {t : Tb} {ps : List (List Int)} (hq : Sq n t) (hn : n ≤ 100) (hG : ¬ Good n ps) : f_folded [En.e t, En.e ps] = .err (.own "BadParts") := by
  rcases out_WE (n := 7) (b := b_folded) (ds := [En.e t, En.e ps]) (Q := fun _ => False) (X := fun c => c = .own "BadParts") (by
    unfold b_folded
    simp only [startE, List.map_cons, List.map_nil, List.length_cons, List.length_nil, Nat.reduceAdd, Nat.reduceSub, List.replicate_succ, List.replicate_zero, List.append_nil, List.cons_append, List.nil_append]
    rcases r_places_of (ps := ps) hn with ⟨d, _, _, G⟩ | ⟨c, h1, h2, _⟩
    · exact absurd G hG
    · subst h2
      refine Ws_dropX (c := .own "BadParts") (S1 := []) ?_ rfl
      simp only [x_partV, bnI_ok, cutD_1, len_en, asSeq_en, asLst_en, lstOf_en, x_callF, x_callFR, liftP_ok, liftR_ok, liftB_bl, liftB_int, callV1, callV2, callV3, callV4, callRV1, callRV2, callRV3, callRV4, p_int, p_bl, p_scr, p_non, p_str, p_lst, p_tup, p_nil, p_cons, p_en, p_ens, Bool.and_self, en_norm, mod_ok, fdiv_lit, mul_lit, add_nat, add_one, lt_int, le_int, gt_int, ge_int, min_int, max_int, neg_int, eq_int, ne_int, eq_bl, ne_bl, len_lst, len_tup, len_scr, Int.reduceLT, Int.reduceLE, Nat.reduceLeDiff, x_bind, x_then, x_seq, x_ret, x_op2, x_op1, x_step, x_nilA, x_consA, x_callB, x_testE, x_toB, x_if, x_retS, x_dropS, x_setS, x_skip, x_andT, x_orT, x_notT, x_ifE, x_andE, x_orE, x_notE, x_chain, x_tupE, x_lstE, x_lstC, x_methL, x_for, x_itSeq, x_asSeq, x_asSeqT, x_asSeqS, x_range1, x_range2, x_enum, x_asLst, x_asg, x_isi, x_slice, x_noPart, x_rev, bnd_ok, bnd_err, thn_ok, thn_err, sq_nx, sq_ret, sq_brk, sq_ct, sq_err, bnB_ok, startE, List.map_cons, List.map_nil, List.length_cons, List.length_nil, Nat.reduceAdd, Nat.reduceSub, List.replicate_succ, List.replicate_zero, List.append_nil, List.cons_append, List.nil_append, if_true, if_false, Bool.false_eq_true, x_v0, x_vs, n_int, n_bl, n_str, n_non, n_lst, n_tup, n_scr, List.getElem?_cons_zero, List.getElem?_cons_succ, List.set_cons_zero, List.set_cons_succ, wipeD, Option.map_some, Bool.not_true, Bool.not_false, hq.len, h1]
      rfl) with ⟨_, _, h⟩ | ⟨c, h1, h2⟩
  · exact h.elim
  · rw [f_folded, h1, h2]
theorem r_folded {n : Nat} {t : Tb} {ps : List (List Nat)} (hq : Sq n t) (hn : n ≤ 100) (hl : ps.length ≤ 1000) (G : Good n (ps.map up)) :
    ((∀ p ∈ ps, Whole n t p) ∧ f_folded [En.e t, En.e ps] = .ok (En.e (fold t (heads ps)))) ∨ ((¬ ∀ p ∈ ps, Whole n t p) ∧ f_folded [En.e t, En.e ps] = .err (.own "BadParts")) := by
  have key := out_WE (n := 7) (b := b_folded) (ds := [En.e t, En.e ps]) (Q := fun d => (∀ p ∈ ps, Whole n t p) ∧ d = En.e (fold t (heads ps))) (X := fun c => c = .own "BadParts" ∧ ¬ ∀ p ∈ ps, Whole n t p) (by
    unfold b_folded
    simp only [startE, List.map_cons, List.map_nil, List.length_cons, List.length_nil, Nat.reduceAdd, Nat.reduceSub, List.replicate_succ, List.replicate_zero, List.append_nil, List.cons_append, List.nil_append]
    have hpl : ∃ d, f_places_of [En.e ps, .int (n : Nat)] = .ok d := by
      rcases r_places_of (ps := ps.map up) hn with ⟨d, h1, _⟩ | ⟨c, _, _, h⟩
      · rw [en_ups] at h1; exact ⟨d, h1⟩
      · exact absurd G h
    obtain ⟨dP, hP⟩ := hpl
    refine Cs_drop fun G hG => ?_
    simp only [x_partV, bnI_ok, cutD_1, len_en, asSeq_en, asLst_en, lstOf_en, x_callF, x_callFR, liftP_ok, liftR_ok, liftB_bl, liftB_int, callV1, callV2, callV3, callV4, callRV1, callRV2, callRV3, callRV4, p_int, p_bl, p_scr, p_non, p_str, p_lst, p_tup, p_nil, p_cons, p_en, p_ens, Bool.and_self, en_norm, mod_ok, fdiv_lit, mul_lit, add_nat, add_one, lt_int, le_int, gt_int, ge_int, min_int, max_int, neg_int, eq_int, ne_int, eq_bl, ne_bl, len_lst, len_tup, len_scr, Int.reduceLT, Int.reduceLE, Nat.reduceLeDiff, x_bind, x_then, x_seq, x_ret, x_op2, x_op1, x_step, x_nilA, x_consA, x_callB, x_testE, x_toB, x_if, x_retS, x_dropS, x_setS, x_skip, x_andT, x_orT, x_notT, x_ifE, x_andE, x_orE, x_notE, x_chain, x_tupE, x_lstE, x_lstC, x_methL, x_for, x_itSeq, x_asSeq, x_asSeqT, x_asSeqS, x_range1, x_range2, x_enum, x_asLst, x_asg, x_isi, x_slice, x_noPart, x_rev, bnd_ok, bnd_err, thn_ok, thn_err, sq_nx, sq_ret, sq_brk, sq_ct, sq_err, bnB_ok, startE, List.map_cons, List.map_nil, List.length_cons, List.length_nil, Nat.reduceAdd, Nat.reduceSub, List.replicate_succ, List.replicate_zero, List.append_nil, List.cons_append, List.nil_append, if_true, if_false, Bool.false_eq_true, x_v0, x_vs, n_int, n_bl, n_str, n_non, n_lst, n_tup, n_scr, List.getElem?_cons_zero, List.getElem?_cons_succ, List.set_cons_zero, List.set_cons_succ, wipeD, Option.map_some, Bool.not_true, Bool.not_false, P_ok, hq.len, hP]
    refine hG _ _ ?_
    clear hG G
    refine Cs_for fun G hG => ?_
    simp only [x_partV, bnI_ok, cutD_1, len_en, asSeq_en, asLst_en, lstOf_en, x_callF, x_callFR, liftP_ok, liftR_ok, liftB_bl, liftB_int, callV1, callV2, callV3, callV4, callRV1, callRV2, callRV3, callRV4, p_int, p_bl, p_scr, p_non, p_str, p_lst, p_tup, p_nil, p_cons, p_en, p_ens, Bool.and_self, en_norm, mod_ok, fdiv_lit, mul_lit, add_nat, add_one, lt_int, le_int, gt_int, ge_int, min_int, max_int, neg_int, eq_int, ne_int, eq_bl, ne_bl, len_lst, len_tup, len_scr, Int.reduceLT, Int.reduceLE, Nat.reduceLeDiff, x_bind, x_then, x_seq, x_ret, x_op2, x_op1, x_step, x_nilA, x_consA, x_callB, x_testE, x_toB, x_if, x_retS, x_dropS, x_setS, x_skip, x_andT, x_orT, x_notT, x_ifE, x_andE, x_orE, x_notE, x_chain, x_tupE, x_lstE, x_lstC, x_methL, x_for, x_itSeq, x_asSeq, x_asSeqT, x_asSeqS, x_range1, x_range2, x_enum, x_asLst, x_asg, x_isi, x_slice, x_noPart, x_rev, bnd_ok, bnd_err, thn_ok, thn_err, sq_nx, sq_ret, sq_brk, sq_ct, sq_err, bnB_ok, startE, List.map_cons, List.map_nil, List.length_cons, List.length_nil, Nat.reduceAdd, Nat.reduceSub, List.replicate_succ, List.replicate_zero, List.append_nil, List.cons_append, List.nil_append, if_true, if_false, Bool.false_eq_true, x_v0, x_vs, n_int, n_bl, n_str, n_non, n_lst, n_tup, n_scr, List.getElem?_cons_zero, List.getElem?_cons_succ, List.set_cons_zero, List.set_cons_succ, wipeD, Option.map_some, Bool.not_true, Bool.not_false, P_ok]
    refine hG _ _ ?_
    clear hG G
    refine W_for (fun i r S => ∃ o2, r = [some (En.e t), some (En.e ps), o2, none, none, none, none] ∧ S = [] ∧ ∀ p ∈ ps.take i, Whole n t p) ⟨none, rfl, rfl, by simp⟩ ?_ ?_
    · rintro i d r S hd ⟨o2, rfl, rfl, hw⟩
      have hin : i < ps.length := by
        have := (List.getElem?_eq_some_iff.mp hd).1
        rw [List.length_map] at this; exact this
      have hg : ps[i]? = some ps[i] := List.getElem?_eq_getElem hin
      rw [en_get hg] at hd
      cases hd
      have hmem := List.getElem_mem hin
      refine ⟨_, rfl, ?_⟩
      simp only [List.set_cons_zero, List.set_cons_succ]
      obtain ⟨b, h1, h2⟩ := r_stands hq hn (G.rgN _ hmem) (by have := G.lenN _ hmem; omega)
      cases b with
      | false =>
        refine Ce_if fun G hG => ?_
        simp only [x_partV, bnI_ok, cutD_1, len_en, asSeq_en, asLst_en, lstOf_en, x_callF, x_callFR, liftP_ok, liftR_ok, liftB_bl, liftB_int, callV1, callV2, callV3, callV4, callRV1, callRV2, callRV3, callRV4, p_int, p_bl, p_scr, p_non, p_str, p_lst, p_tup, p_nil, p_cons, p_en, p_ens, Bool.and_self, en_norm, mod_ok, fdiv_lit, mul_lit, add_nat, add_one, lt_int, le_int, gt_int, ge_int, min_int, max_int, neg_int, eq_int, ne_int, eq_bl, ne_bl, len_lst, len_tup, len_scr, Int.reduceLT, Int.reduceLE, Nat.reduceLeDiff, x_bind, x_then, x_seq, x_ret, x_op2, x_op1, x_step, x_nilA, x_consA, x_callB, x_testE, x_toB, x_if, x_retS, x_dropS, x_setS, x_skip, x_andT, x_orT, x_notT, x_ifE, x_andE, x_orE, x_notE, x_chain, x_tupE, x_lstE, x_lstC, x_methL, x_for, x_itSeq, x_asSeq, x_asSeqT, x_asSeqS, x_range1, x_range2, x_enum, x_asLst, x_asg, x_isi, x_slice, x_noPart, x_rev, bnd_ok, bnd_err, thn_ok, thn_err, sq_nx, sq_ret, sq_brk, sq_ct, sq_err, bnB_ok, startE, List.map_cons, List.map_nil, List.length_cons, List.length_nil, Nat.reduceAdd, Nat.reduceSub, List.replicate_succ, List.replicate_zero, List.append_nil, List.cons_append, List.nil_append, if_true, if_false, Bool.false_eq_true, x_v0, x_vs, n_int, n_bl, n_str, n_non, n_lst, n_tup, n_scr, List.getElem?_cons_zero, List.getElem?_cons_succ, List.set_cons_zero, List.set_cons_succ, wipeD, Option.map_some, Bool.not_true, Bool.not_false, P_ok, h1]
        refine hG _ _ ?_
        clear hG G
        try simp only [if_true, if_false, Bool.false_eq_true]
        refine W_raise ⟨rfl, fun h => ?_⟩
        have := h2.mpr (h _ hmem)
        cases this
      | true =>
        refine Ce_if fun G hG => ?_
        simp only [x_partV, bnI_ok, cutD_1, len_en, asSeq_en, asLst_en, lstOf_en, x_callF, x_callFR, liftP_ok, liftR_ok, liftB_bl, liftB_int, callV1, callV2, callV3, callV4, callRV1, callRV2, callRV3, callRV4, p_int, p_bl, p_scr, p_non, p_str, p_lst, p_tup, p_nil, p_cons, p_en, p_ens, Bool.and_self, en_norm, mod_ok, fdiv_lit, mul_lit, add_nat, add_one, lt_int, le_int, gt_int, ge_int, min_int, max_int, neg_int, eq_int, ne_int, eq_bl, ne_bl, len_lst, len_tup, len_scr, Int.reduceLT, Int.reduceLE, Nat.reduceLeDiff, x_bind, x_then, x_seq, x_ret, x_op2, x_op1, x_step, x_nilA, x_consA, x_callB, x_testE, x_toB, x_if, x_retS, x_dropS, x_setS, x_skip, x_andT, x_orT, x_notT, x_ifE, x_andE, x_orE, x_notE, x_chain, x_tupE, x_lstE, x_lstC, x_methL, x_for, x_itSeq, x_asSeq, x_asSeqT, x_asSeqS, x_range1, x_range2, x_enum, x_asLst, x_asg, x_isi, x_slice, x_noPart, x_rev, bnd_ok, bnd_err, thn_ok, thn_err, sq_nx, sq_ret, sq_brk, sq_ct, sq_err, bnB_ok, startE, List.map_cons, List.map_nil, List.length_cons, List.length_nil, Nat.reduceAdd, Nat.reduceSub, List.replicate_succ, List.replicate_zero, List.append_nil, List.cons_append, List.nil_append, if_true, if_false, Bool.false_eq_true, x_v0, x_vs, n_int, n_bl, n_str, n_non, n_lst, n_tup, n_scr, List.getElem?_cons_zero, List.getElem?_cons_succ, List.set_cons_zero, List.set_cons_succ, wipeD, Option.map_some, Bool.not_true, Bool.not_false, P_ok, h1]
        refine hG _ _ ?_
        clear hG G
        try simp only [if_true, if_false, Bool.false_eq_true]
        refine W_nx ⟨_, rfl, rfl, fun p hp => ?_⟩
        rw [List.take_add_one, hg] at hp
        rcases List.mem_append.mp hp with hp | hp
        · exact hw p hp
        · have e : p = ps[i] := by simpa using hp
          rw [e]; exact h2.mp rfl
    · rintro r S ⟨o2, rfl, rfl, hw⟩
      rw [List.length_map, List.take_length] at hw
      have hh := heads_lt G.neN G.rgN
      have hlc : lcE (itSeq (vE 1)) (.one 2) [2] yesT (op2 ixG (vE 2) (retO (.int 0))) [some (En.e t), some (En.e ps), o2, none, none, none, none] [] = .ok (En.e (heads ps)) [] := by
        rw [lc_all (En.e (α := List Nat)) (fun p => En.e (α := Nat) (p.headD 0)) (xs := ps) (by simp only [x_partV, bnI_ok, cutD_1, len_en, asSeq_en, asLst_en, lstOf_en, x_callF, x_callFR, liftP_ok, liftR_ok, liftB_bl, liftB_int, callV1, callV2, callV3, callV4, callRV1, callRV2, callRV3, callRV4, p_int, p_bl, p_scr, p_non, p_str, p_lst, p_tup, p_nil, p_cons, p_en, p_ens, Bool.and_self, en_norm, mod_ok, fdiv_lit, mul_lit, add_nat, add_one, lt_int, le_int, gt_int, ge_int, min_int, max_int, neg_int, eq_int, ne_int, eq_bl, ne_bl, len_lst, len_tup, len_scr, Int.reduceLT, Int.reduceLE, Nat.reduceLeDiff, x_bind, x_then, x_seq, x_ret, x_op2, x_op1, x_step, x_nilA, x_consA, x_callB, x_testE, x_toB, x_if, x_retS, x_dropS, x_setS, x_skip, x_andT, x_orT, x_notT, x_ifE, x_andE, x_orE, x_notE, x_chain, x_tupE, x_lstE, x_lstC, x_methL, x_for, x_itSeq, x_asSeq, x_asSeqT, x_asSeqS, x_range1, x_range2, x_enum, x_asLst, x_asg, x_isi, x_slice, x_noPart, x_rev, bnd_ok, bnd_err, thn_ok, thn_err, sq_nx, sq_ret, sq_brk, sq_ct, sq_err, bnB_ok, startE, List.map_cons, List.map_nil, List.length_cons, List.length_nil, Nat.reduceAdd, Nat.reduceSub, List.replicate_succ, List.replicate_zero, List.append_nil, List.cons_append, List.nil_append, if_true, if_false, Bool.false_eq_true, x_v0, x_vs, n_int, n_bl, n_str, n_non, n_lst, n_tup, n_scr, List.getElem?_cons_zero, List.getElem?_cons_succ, List.set_cons_zero, List.set_cons_succ, wipeD, Option.map_some, Bool.not_true, Bool.not_false, ]; try exact rfl) (by omega) fun p hp => ⟨_, rfl, by
          simp only [x_partV, bnI_ok, cutD_1, len_en, asSeq_en, asLst_en, lstOf_en, x_callF, x_callFR, liftP_ok, liftR_ok, liftB_bl, liftB_int, callV1, callV2, callV3, callV4, callRV1, callRV2, callRV3, callRV4, p_int, p_bl, p_scr, p_non, p_str, p_lst, p_tup, p_nil, p_cons, p_en, p_ens, Bool.and_self, en_norm, mod_ok, fdiv_lit, mul_lit, add_nat, add_one, lt_int, le_int, gt_int, ge_int, min_int, max_int, neg_int, eq_int, ne_int, eq_bl, ne_bl, len_lst, len_tup, len_scr, Int.reduceLT, Int.reduceLE, Nat.reduceLeDiff, x_bind, x_then, x_seq, x_ret, x_op2, x_op1, x_step, x_nilA, x_consA, x_callB, x_testE, x_toB, x_if, x_retS, x_dropS, x_setS, x_skip, x_andT, x_orT, x_notT, x_ifE, x_andE, x_orE, x_notE, x_chain, x_tupE, x_lstE, x_lstC, x_methL, x_for, x_itSeq, x_asSeq, x_asSeqT, x_asSeqS, x_range1, x_range2, x_enum, x_asLst, x_asg, x_isi, x_slice, x_noPart, x_rev, bnd_ok, bnd_err, thn_ok, thn_err, sq_nx, sq_ret, sq_brk, sq_ct, sq_err, bnB_ok, startE, List.map_cons, List.map_nil, List.length_cons, List.length_nil, Nat.reduceAdd, Nat.reduceSub, List.replicate_succ, List.replicate_zero, List.append_nil, List.cons_append, List.nil_append, if_true, if_false, Bool.false_eq_true, x_v0, x_vs, n_int, n_bl, n_str, n_non, n_lst, n_tup, n_scr, List.getElem?_cons_zero, List.getElem?_cons_succ, List.set_cons_zero, List.set_cons_succ, wipeD, Option.map_some, Bool.not_true, Bool.not_false, ix_head (G.neN p hp)]⟩]
        rw [heads, en_list, List.map_map]; rfl
      refine Cs_set fun G hG => ?_
      simp only [x_partV, bnI_ok, cutD_1, len_en, asSeq_en, asLst_en, lstOf_en, x_callF, x_callFR, liftP_ok, liftR_ok, liftB_bl, liftB_int, callV1, callV2, callV3, callV4, callRV1, callRV2, callRV3, callRV4, p_int, p_bl, p_scr, p_non, p_str, p_lst, p_tup, p_nil, p_cons, p_en, p_ens, Bool.and_self, en_norm, mod_ok, fdiv_lit, mul_lit, add_nat, add_one, lt_int, le_int, gt_int, ge_int, min_int, max_int, neg_int, eq_int, ne_int, eq_bl, ne_bl, len_lst, len_tup, len_scr, Int.reduceLT, Int.reduceLE, Nat.reduceLeDiff, x_bind, x_then, x_seq, x_ret, x_op2, x_op1, x_step, x_nilA, x_consA, x_callB, x_testE, x_toB, x_if, x_retS, x_dropS, x_setS, x_skip, x_andT, x_orT, x_notT, x_ifE, x_andE, x_orE, x_notE, x_chain, x_tupE, x_lstE, x_lstC, x_methL, x_for, x_itSeq, x_asSeq, x_asSeqT, x_asSeqS, x_range1, x_range2, x_enum, x_asLst, x_asg, x_isi, x_slice, x_noPart, x_rev, bnd_ok, bnd_err, thn_ok, thn_err, sq_nx, sq_ret, sq_brk, sq_ct, sq_err, bnB_ok, startE, List.map_cons, List.map_nil, List.length_cons, List.length_nil, Nat.reduceAdd, Nat.reduceSub, List.replicate_succ, List.replicate_zero, List.append_nil, List.cons_append, List.nil_append, if_true, if_false, Bool.false_eq_true, x_v0, x_vs, n_int, n_bl, n_str, n_non, n_lst, n_tup, n_scr, List.getElem?_cons_zero, List.getElem?_cons_succ, List.set_cons_zero, List.set_cons_succ, wipeD, Option.map_some, Bool.not_true, Bool.not_false, P_ok, hlc]
      refine hG _ _ ?_
      clear hG G
      simp only [List.set_cons_zero, List.set_cons_succ]
      refine Cs_set fun G hG => ?_
      simp only [x_partV, bnI_ok, cutD_1, len_en, asSeq_en, asLst_en, lstOf_en, x_callF, x_callFR, liftP_ok, liftR_ok, liftB_bl, liftB_int, callV1, callV2, callV3, callV4, callRV1, callRV2, callRV3, callRV4, p_int, p_bl, p_scr, p_non, p_str, p_lst, p_tup, p_nil, p_cons, p_en, p_ens, Bool.and_self, en_norm, mod_ok, fdiv_lit, mul_lit, add_nat, add_one, lt_int, le_int, gt_int, ge_int, min_int, max_int, neg_int, eq_int, ne_int, eq_bl, ne_bl, len_lst, len_tup, len_scr, Int.reduceLT, Int.reduceLE, Nat.reduceLeDiff, x_bind, x_then, x_seq, x_ret, x_op2, x_op1, x_step, x_nilA, x_consA, x_callB, x_testE, x_toB, x_if, x_retS, x_dropS, x_setS, x_skip, x_andT, x_orT, x_notT, x_ifE, x_andE, x_orE, x_notE, x_chain, x_tupE, x_lstE, x_lstC, x_methL, x_for, x_itSeq, x_asSeq, x_asSeqT, x_asSeqS, x_range1, x_range2, x_enum, x_asLst, x_asg, x_isi, x_slice, x_noPart, x_rev, bnd_ok, bnd_err, thn_ok, thn_err, sq_nx, sq_ret, sq_brk, sq_ct, sq_err, bnB_ok, startE, List.map_cons, List.map_nil, List.length_cons, List.length_nil, Nat.reduceAdd, Nat.reduceSub, List.replicate_succ, List.replicate_zero, List.append_nil, List.cons_append, List.nil_append, if_true, if_false, Bool.false_eq_true, x_v0, x_vs, n_int, n_bl, n_str, n_non, n_lst, n_tup, n_scr, List.getElem?_cons_zero, List.getElem?_cons_succ, List.set_cons_zero, List.set_cons_succ, wipeD, Option.map_some, Bool.not_true, Bool.not_false, P_ok]
      refine hG _ _ ?_
      clear hG G
      simp only [List.set_cons_zero, List.set_cons_succ]
      refine Cs_for fun G hG => ?_
      simp only [x_partV, bnI_ok, cutD_1, len_en, asSeq_en, asLst_en, lstOf_en, x_callF, x_callFR, liftP_ok, liftR_ok, liftB_bl, liftB_int, callV1, callV2, callV3, callV4, callRV1, callRV2, callRV3, callRV4, p_int, p_bl, p_scr, p_non, p_str, p_lst, p_tup, p_nil, p_cons, p_en, p_ens, Bool.and_self, en_norm, mod_ok, fdiv_lit, mul_lit, add_nat, add_one, lt_int, le_int, gt_int, ge_int, min_int, max_int, neg_int, eq_int, ne_int, eq_bl, ne_bl, len_lst, len_tup, len_scr, Int.reduceLT, Int.reduceLE, Nat.reduceLeDiff, x_bind, x_then, x_seq, x_ret, x_op2, x_op1, x_step, x_nilA, x_consA, x_callB, x_testE, x_toB, x_if, x_retS, x_dropS, x_setS, x_skip, x_andT, x_orT, x_notT, x_ifE, x_andE, x_orE, x_notE, x_chain, x_tupE, x_lstE, x_lstC, x_methL, x_for, x_itSeq, x_asSeq, x_asSeqT, x_asSeqS, x_range1, x_range2, x_enum, x_asLst, x_asg, x_isi, x_slice, x_noPart, x_rev, bnd_ok, bnd_err, thn_ok, thn_err, sq_nx, sq_ret, sq_brk, sq_ct, sq_err, bnB_ok, startE, List.map_cons, List.map_nil, List.length_cons, List.length_nil, Nat.reduceAdd, Nat.reduceSub, List.replicate_succ, List.replicate_zero, List.append_nil, List.cons_append, List.nil_append, if_true, if_false, Bool.false_eq_true, x_v0, x_vs, n_int, n_bl, n_str, n_non, n_lst, n_tup, n_scr, List.getElem?_cons_zero, List.getElem?_cons_succ, List.set_cons_zero, List.set_cons_succ, wipeD, Option.map_some, Bool.not_true, Bool.not_false, P_ok]
      refine hG _ _ ?_
      clear hG G
      have hsl : (heads ps).length ≤ 1000 := by rw [heads, List.length_map]; exact hl
      refine W_for (fun i r S => ∃ o5, r = [some (En.e t), some (En.e ps), o2, some (En.e (heads ps)), some (.loc 0), o5, none] ∧ S = [.lst (((fold t (heads ps)).take i).map En.e)]) ⟨none, rfl, rfl⟩ ?_ ?_
      · rintro i d r S hd ⟨o5, rfl, rfl⟩
        have hin : i < (heads ps).length := by
          have := (List.getElem?_eq_some_iff.mp hd).1
          rw [List.length_map] at this; exact this
        have hg : (heads ps)[i]? = some (heads ps)[i] := List.getElem?_eq_getElem hin
        rw [en_get hg] at hd
        cases hd
        have hmem := List.getElem_mem hin
        refine ⟨_, rfl, ?_⟩
        simp only [List.set_cons_zero, List.set_cons_succ]
        have fl : (fold t (heads ps)).length = (heads ps).length := by rw [fold, List.length_map]
        have hrow : ∀ S, lcE (itSeq (vE 3)) (.one 6) [6] yesT (op2 ixG (op2 ixG (vE 0) (vE 5)) (vE 6)) [some (En.e t), some (En.e ps), o2, some (En.e (heads ps)), some (.loc 0), some (En.e (heads ps)[i]), none] S = .ok (En.e ((heads ps).map (ent t (heads ps)[i]))) S := by
          intro S
          rw [lc_all (En.e (α := Nat)) (fun a => D.bl (ent t (heads ps)[i] a)) (xs := heads ps) (S1 := S) (by simp only [x_partV, bnI_ok, cutD_1, len_en, asSeq_en, asLst_en, lstOf_en, x_callF, x_callFR, liftP_ok, liftR_ok, liftB_bl, liftB_int, callV1, callV2, callV3, callV4, callRV1, callRV2, callRV3, callRV4, p_int, p_bl, p_scr, p_non, p_str, p_lst, p_tup, p_nil, p_cons, p_en, p_ens, Bool.and_self, en_norm, mod_ok, fdiv_lit, mul_lit, add_nat, add_one, lt_int, le_int, gt_int, ge_int, min_int, max_int, neg_int, eq_int, ne_int, eq_bl, ne_bl, len_lst, len_tup, len_scr, Int.reduceLT, Int.reduceLE, Nat.reduceLeDiff, x_bind, x_then, x_seq, x_ret, x_op2, x_op1, x_step, x_nilA, x_consA, x_callB, x_testE, x_toB, x_if, x_retS, x_dropS, x_setS, x_skip, x_andT, x_orT, x_notT, x_ifE, x_andE, x_orE, x_notE, x_chain, x_tupE, x_lstE, x_lstC, x_methL, x_for, x_itSeq, x_asSeq, x_asSeqT, x_asSeqS, x_range1, x_range2, x_enum, x_asLst, x_asg, x_isi, x_slice, x_noPart, x_rev, bnd_ok, bnd_err, thn_ok, thn_err, sq_nx, sq_ret, sq_brk, sq_ct, sq_err, bnB_ok, startE, List.map_cons, List.map_nil, List.length_cons, List.length_nil, Nat.reduceAdd, Nat.reduceSub, List.replicate_succ, List.replicate_zero, List.append_nil, List.cons_append, List.nil_append, if_true, if_false, Bool.false_eq_true, x_v0, x_vs, n_int, n_bl, n_str, n_non, n_lst, n_tup, n_scr, List.getElem?_cons_zero, List.getElem?_cons_succ, List.set_cons_zero, List.set_cons_succ, wipeD, Option.map_some, Bool.not_true, Bool.not_false, ]; try exact rfl) (by omega) fun a ha => ⟨_, rfl, by
            simp only [x_partV, bnI_ok, cutD_1, len_en, asSeq_en, asLst_en, lstOf_en, x_callF, x_callFR, liftP_ok, liftR_ok, liftB_bl, liftB_int, callV1, callV2, callV3, callV4, callRV1, callRV2, callRV3, callRV4, p_int, p_bl, p_scr, p_non, p_str, p_lst, p_tup, p_nil, p_cons, p_en, p_ens, Bool.and_self, en_norm, mod_ok, fdiv_lit, mul_lit, add_nat, add_one, lt_int, le_int, gt_int, ge_int, min_int, max_int, neg_int, eq_int, ne_int, eq_bl, ne_bl, len_lst, len_tup, len_scr, Int.reduceLT, Int.reduceLE, Nat.reduceLeDiff, x_bind, x_then, x_seq, x_ret, x_op2, x_op1, x_step, x_nilA, x_consA, x_callB, x_testE, x_toB, x_if, x_retS, x_dropS, x_setS, x_skip, x_andT, x_orT, x_notT, x_ifE, x_andE, x_orE, x_notE, x_chain, x_tupE, x_lstE, x_lstC, x_methL, x_for, x_itSeq, x_asSeq, x_asSeqT, x_asSeqS, x_range1, x_range2, x_enum, x_asLst, x_asg, x_isi, x_slice, x_noPart, x_rev, bnd_ok, bnd_err, thn_ok, thn_err, sq_nx, sq_ret, sq_brk, sq_ct, sq_err, bnB_ok, startE, List.map_cons, List.map_nil, List.length_cons, List.length_nil, Nat.reduceAdd, Nat.reduceSub, List.replicate_succ, List.replicate_zero, List.append_nil, List.cons_append, List.nil_append, if_true, if_false, Bool.false_eq_true, x_v0, x_vs, n_int, n_bl, n_str, n_non, n_lst, n_tup, n_scr, List.getElem?_cons_zero, List.getElem?_cons_succ, List.set_cons_zero, List.set_cons_succ, wipeD, Option.map_some, Bool.not_true, Bool.not_false, en_nat, ix_row hq (hh _ hmem), ix_ent hq (hh _ hmem) (hh a ha)]⟩]
          rw [en_list, List.map_map]; rfl
        have l0 : ∀ (a : List D), norm [Cell.lst a] (.loc 0) = .loc 0 := fun _ => rfl
        have a2 : ∀ (a : List D), lstOf [Cell.lst a] (.loc 0) = some a := fun _ => rfl
        have a1 := app_cell (S := [Cell.lst (((fold t (heads ps)).take i).map En.e)]) (n := 0) (d := En.e ((heads ps).map (ent t (heads ps)[i]))) rfl (by rw [List.length_map, List.length_take, fl]; omega)
        refine Ce_drop fun G hG => ?_
        simp only [x_partV, bnI_ok, cutD_1, len_en, asSeq_en, asLst_en, lstOf_en, x_callF, x_callFR, liftP_ok, liftR_ok, liftB_bl, liftB_int, callV1, callV2, callV3, callV4, callRV1, callRV2, callRV3, callRV4, p_int, p_bl, p_scr, p_non, p_str, p_lst, p_tup, p_nil, p_cons, p_en, p_ens, Bool.and_self, en_norm, mod_ok, fdiv_lit, mul_lit, add_nat, add_one, lt_int, le_int, gt_int, ge_int, min_int, max_int, neg_int, eq_int, ne_int, eq_bl, ne_bl, len_lst, len_tup, len_scr, Int.reduceLT, Int.reduceLE, Nat.reduceLeDiff, x_bind, x_then, x_seq, x_ret, x_op2, x_op1, x_step, x_nilA, x_consA, x_callB, x_testE, x_toB, x_if, x_retS, x_dropS, x_setS, x_skip, x_andT, x_orT, x_notT, x_ifE, x_andE, x_orE, x_notE, x_chain, x_tupE, x_lstE, x_lstC, x_methL, x_for, x_itSeq, x_asSeq, x_asSeqT, x_asSeqS, x_range1, x_range2, x_enum, x_asLst, x_asg, x_isi, x_slice, x_noPart, x_rev, bnd_ok, bnd_err, thn_ok, thn_err, sq_nx, sq_ret, sq_brk, sq_ct, sq_err, bnB_ok, startE, List.map_cons, List.map_nil, List.length_cons, List.length_nil, Nat.reduceAdd, Nat.reduceSub, List.replicate_succ, List.replicate_zero, List.append_nil, List.cons_append, List.nil_append, if_true, if_false, Bool.false_eq_true, x_v0, x_vs, n_int, n_bl, n_str, n_non, n_lst, n_tup, n_scr, List.getElem?_cons_zero, List.getElem?_cons_succ, List.set_cons_zero, List.set_cons_succ, wipeD, Option.map_some, Bool.not_true, Bool.not_false, P_ok, l0, a2, Option.isSome_some, hrow, a1]
        refine hG _ _ ?_
        clear hG G
        refine ⟨_, rfl, ?_⟩
        have ft : (fold t (heads ps)).take (i + 1) = (fold t (heads ps)).take i ++ [(heads ps).map (ent t (heads ps)[i])] := by
          have e : (fold t (heads ps))[i]? = some ((heads ps).map (ent t (heads ps)[i])) := by rw [fold, List.getElem?_map, hg]; rfl
          rw [List.take_add_one, e]; rfl
        rw [ft, List.map_append]; rfl
      · rintro r S ⟨o5, rfl, rfl⟩
        rw [List.length_map]
        have fl : (fold t (heads ps)).length = (heads ps).length := by rw [fold, List.length_map]
        have l0 : ∀ (a : List D), norm [Cell.lst a] (.loc 0) = .loc 0 := fun _ => rfl
        refine Ce_ret fun G hG => ?_
        simp only [x_partV, bnI_ok, cutD_1, len_en, asSeq_en, asLst_en, lstOf_en, x_callF, x_callFR, liftP_ok, liftR_ok, liftB_bl, liftB_int, callV1, callV2, callV3, callV4, callRV1, callRV2, callRV3, callRV4, p_int, p_bl, p_scr, p_non, p_str, p_lst, p_tup, p_nil, p_cons, p_en, p_ens, Bool.and_self, en_norm, mod_ok, fdiv_lit, mul_lit, add_nat, add_one, lt_int, le_int, gt_int, ge_int, min_int, max_int, neg_int, eq_int, ne_int, eq_bl, ne_bl, len_lst, len_tup, len_scr, Int.reduceLT, Int.reduceLE, Nat.reduceLeDiff, x_bind, x_then, x_seq, x_ret, x_op2, x_op1, x_step, x_nilA, x_consA, x_callB, x_testE, x_toB, x_if, x_retS, x_dropS, x_setS, x_skip, x_andT, x_orT, x_notT, x_ifE, x_andE, x_orE, x_notE, x_chain, x_tupE, x_lstE, x_lstC, x_methL, x_for, x_itSeq, x_asSeq, x_asSeqT, x_asSeqS, x_range1, x_range2, x_enum, x_asLst, x_asg, x_isi, x_slice, x_noPart, x_rev, bnd_ok, bnd_err, thn_ok, thn_err, sq_nx, sq_ret, sq_brk, sq_ct, sq_err, bnB_ok, startE, List.map_cons, List.map_nil, List.length_cons, List.length_nil, Nat.reduceAdd, Nat.reduceSub, List.replicate_succ, List.replicate_zero, List.append_nil, List.cons_append, List.nil_append, if_true, if_false, Bool.false_eq_true, x_v0, x_vs, n_int, n_bl, n_str, n_non, n_lst, n_tup, n_scr, List.getElem?_cons_zero, List.getElem?_cons_succ, List.set_cons_zero, List.set_cons_succ, wipeD, Option.map_some, Bool.not_true, Bool.not_false, P_ok, l0]
        refine hG _ _ ?_
        clear hG G
        refine ⟨_, resA_lst rfl (p_ens _), hw, ?_⟩
        rw [← fl, List.take_length]; rfl)
  rcases key with ⟨d, h1, h2, h3⟩ | ⟨c, h1, h2, h3⟩
  · exact .inl ⟨h2, by rw [f_folded, h1, h3]⟩
  · exact .inr ⟨h3, by rw [f_folded, h1, h2]⟩
end K75


namespace K75
open Aw
theorem isort_range {n : Nat} {xs : List Int} : isort ltInt xs = (List.range n).map (fun i : Nat => (i : Int)) ↔ (∀ t ∈ xs, 0 ≤ t ∧ t < (n : Nat)) ∧ xs.Nodup ∧ ∀ t : Nat, t < n → (t : Int) ∈ xs := by
  have hnd : ((List.range n).map (fun i : Nat => (i : Int))).Nodup := List.pairwise_map.mpr (List.nodup_range.imp fun {a b} h e => h (Int.ofNat_inj.mp e))
  constructor
  · intro h
    have hp : xs.Perm ((List.range n).map (fun i : Nat => (i : Int))) := by rw [← h]; exact (isort_perm ltInt xs).symm
    refine ⟨fun t ht => ?_, hp.nodup_iff.mpr hnd, fun t ht => hp.mem_iff.mpr (List.mem_map.mpr ⟨t, List.mem_range.mpr ht, rfl⟩)⟩
    obtain ⟨a, ha, rfl⟩ := List.mem_map.mp (hp.mem_iff.mp ht)
    have := List.mem_range.mp ha
    omega
  · rintro ⟨h1, h2, h3⟩
    refine (isort_int ?_ ?_).symm
    · refine (List.perm_ext_iff_of_nodup hnd h2).mpr fun t => ⟨fun h => ?_, fun h => ?_⟩
      · obtain ⟨a, ha, rfl⟩ := List.mem_map.mp h
        exact h3 a (List.mem_range.mp ha)
      · obtain ⟨a1, a2⟩ := h1 t h
        exact List.mem_map.mpr ⟨t.toNat, List.mem_range.mpr (by omega), by omega⟩
    · exact List.pairwise_map.mpr (List.pairwise_lt_range.imp fun {a b} h => by omega)
theorem flat_len {k : Nat} : ∀ {ps : List (List Int)}, (∀ p ∈ ps, p.length ≤ k) → ps.flatten.length ≤ ps.length * k
  | [], _ => by simp
  | p :: ps, h => by
    have h1 := h p List.mem_cons_self
    have h2 := flat_len (ps := ps) fun q hq => h q (List.mem_cons_of_mem _ hq)
    rw [List.flatten_cons, List.length_append, List.length_cons, Nat.succ_mul]
    omega
theorem r_good {n : Nat} {ps : List (List Int)} (hn : n ≤ 100) (hl : ps.length ≤ 100) (hk : ∀ p ∈ ps, p.length ≤ 100) : ∃ g : Bool, f__law_good [En.e ps, .int (n : Nat)] = .ok (.bl g) ∧ (g = true ↔ Good n ps) := by
  suffices h : ∃ d, f__law_good [En.e ps, .int (n : Nat)] = .ok d ∧ ∃ g : Bool, d = .bl g ∧ (g = true ↔ Good n ps) by
    obtain ⟨d, h1, g, rfl, h2⟩ := h
    exact ⟨g, h1, h2⟩
  refine out_W ?_
  unfold b__law_good
  simp only [startE, List.map_cons, List.map_nil, List.length_cons, List.length_nil, Nat.reduceAdd, Nat.reduceSub, List.replicate_succ, List.replicate_zero, List.append_nil, List.cons_append, List.nil_append]
  refine Cs_set fun G hG => ?_
  simp only [x_partV, bnI_ok, cutD_1, len_en, asSeq_en, asLst_en, lstOf_en, x_callF, x_callFR, liftP_ok, liftR_ok, liftB_bl, liftB_int, callV1, callV2, callV3, callV4, callRV1, callRV2, callRV3, callRV4, p_int, p_bl, p_scr, p_non, p_str, p_lst, p_tup, p_nil, p_cons, p_en, p_ens, Bool.and_self, en_norm, mod_ok, fdiv_lit, mul_lit, add_nat, add_one, lt_int, le_int, gt_int, ge_int, min_int, max_int, neg_int, eq_int, ne_int, eq_bl, ne_bl, len_lst, len_tup, len_scr, Int.reduceLT, Int.reduceLE, Nat.reduceLeDiff, x_bind, x_then, x_seq, x_ret, x_op2, x_op1, x_step, x_nilA, x_consA, x_callB, x_testE, x_toB, x_if, x_retS, x_dropS, x_setS, x_skip, x_andT, x_orT, x_notT, x_ifE, x_andE, x_orE, x_notE, x_chain, x_tupE, x_lstE, x_lstC, x_methL, x_for, x_itSeq, x_asSeq, x_asSeqT, x_asSeqS, x_range1, x_range2, x_enum, x_asLst, x_asg, x_isi, x_slice, x_noPart, x_rev, bnd_ok, bnd_err, thn_ok, thn_err, sq_nx, sq_ret, sq_brk, sq_ct, sq_err, bnB_ok, startE, List.map_cons, List.map_nil, List.length_cons, List.length_nil, Nat.reduceAdd, Nat.reduceSub, List.replicate_succ, List.replicate_zero, List.append_nil, List.cons_append, List.nil_append, if_true, if_false, Bool.false_eq_true, x_v0, x_vs, n_int, n_bl, n_str, n_non, n_lst, n_tup, n_scr, List.getElem?_cons_zero, List.getElem?_cons_succ, List.set_cons_zero, List.set_cons_succ, wipeD, Option.map_some, Bool.not_true, Bool.not_false, P_ok]
  refine hG _ _ ?_
  clear hG G
  simp only [List.set_cons_zero, List.set_cons_succ]
  refine Cs_for fun G hG => ?_
  simp only [x_partV, bnI_ok, cutD_1, len_en, asSeq_en, asLst_en, lstOf_en, x_callF, x_callFR, liftP_ok, liftR_ok, liftB_bl, liftB_int, callV1, callV2, callV3, callV4, callRV1, callRV2, callRV3, callRV4, p_int, p_bl, p_scr, p_non, p_str, p_lst, p_tup, p_nil, p_cons, p_en, p_ens, Bool.and_self, en_norm, mod_ok, fdiv_lit, mul_lit, add_nat, add_one, lt_int, le_int, gt_int, ge_int, min_int, max_int, neg_int, eq_int, ne_int, eq_bl, ne_bl, len_lst, len_tup, len_scr, Int.reduceLT, Int.reduceLE, Nat.reduceLeDiff, x_bind, x_then, x_seq, x_ret, x_op2, x_op1, x_step, x_nilA, x_consA, x_callB, x_testE, x_toB, x_if, x_retS, x_dropS, x_setS, x_skip, x_andT, x_orT, x_notT, x_ifE, x_andE, x_orE, x_notE, x_chain, x_tupE, x_lstE, x_lstC, x_methL, x_for, x_itSeq, x_asSeq, x_asSeqT, x_asSeqS, x_range1, x_range2, x_enum, x_asLst, x_asg, x_isi, x_slice, x_noPart, x_rev, bnd_ok, bnd_err, thn_ok, thn_err, sq_nx, sq_ret, sq_brk, sq_ct, sq_err, bnB_ok, startE, List.map_cons, List.map_nil, List.length_cons, List.length_nil, Nat.reduceAdd, Nat.reduceSub, List.replicate_succ, List.replicate_zero, List.append_nil, List.cons_append, List.nil_append, if_true, if_false, Bool.false_eq_true, x_v0, x_vs, n_int, n_bl, n_str, n_non, n_lst, n_tup, n_scr, List.getElem?_cons_zero, List.getElem?_cons_succ, List.set_cons_zero, List.set_cons_succ, wipeD, Option.map_some, Bool.not_true, Bool.not_false, P_ok]
  refine hG _ _ ?_
  clear hG G
  refine W_for (fun i r S => ∃ o3, r = [some (En.e ps), some (.int (n : Nat)), some (En.e (ps.take i).flatten), o3] ∧ S = [] ∧ ∀ p ∈ ps.take i, p ≠ []) ⟨none, rfl, rfl, by simp⟩ ?_ ?_
  · rintro i d r S hd ⟨o3, rfl, rfl, hne⟩
    have hin : i < ps.length := by
      have := (List.getElem?_eq_some_iff.mp hd).1
      rw [List.length_map] at this; exact this
    have hg : ps[i]? = some ps[i] := List.getElem?_eq_getElem hin
    rw [en_get hg] at hd
    cases hd
    have hmem := List.getElem_mem hin
    refine ⟨_, rfl, ?_⟩
    simp only [List.set_cons_zero, List.set_cons_succ]
    have q1 : ∀ S : Store, eqG S (En.e ps[i]) (.lst []) = some (.bl (decide (ps[i] = [])), S) := fun S => eqG_en (by decide) ps[i] []
    by_cases hem : ps[i] = []
    · have q2 : ∀ S : Store, eqG S (En.e ps[i]) (.lst []) = some (.bl true, S) := fun S => by rw [q1, decide_eq_true hem]
      refine Cs_if fun G hG => ?_
      simp only [x_partV, bnI_ok, cutD_1, len_en, asSeq_en, asLst_en, lstOf_en, x_callF, x_callFR, liftP_ok, liftR_ok, liftB_bl, liftB_int, callV1, callV2, callV3, callV4, callRV1, callRV2, callRV3, callRV4, p_int, p_bl, p_scr, p_non, p_str, p_lst, p_tup, p_nil, p_cons, p_en, p_ens, Bool.and_self, en_norm, mod_ok, fdiv_lit, mul_lit, add_nat, add_one, lt_int, le_int, gt_int, ge_int, min_int, max_int, neg_int, eq_int, ne_int, eq_bl, ne_bl, len_lst, len_tup, len_scr, Int.reduceLT, Int.reduceLE, Nat.reduceLeDiff, x_bind, x_then, x_seq, x_ret, x_op2, x_op1, x_step, x_nilA, x_consA, x_callB, x_testE, x_toB, x_if, x_retS, x_dropS, x_setS, x_skip, x_andT, x_orT, x_notT, x_ifE, x_andE, x_orE, x_notE, x_chain, x_tupE, x_lstE, x_lstC, x_methL, x_for, x_itSeq, x_asSeq, x_asSeqT, x_asSeqS, x_range1, x_range2, x_enum, x_asLst, x_asg, x_isi, x_slice, x_noPart, x_rev, bnd_ok, bnd_err, thn_ok, thn_err, sq_nx, sq_ret, sq_brk, sq_ct, sq_err, bnB_ok, startE, List.map_cons, List.map_nil, List.length_cons, List.length_nil, Nat.reduceAdd, Nat.reduceSub, List.replicate_succ, List.replicate_zero, List.append_nil, List.cons_append, List.nil_append, if_true, if_false, Bool.false_eq_true, x_v0, x_vs, n_int, n_bl, n_str, n_non, n_lst, n_tup, n_scr, List.getElem?_cons_zero, List.getElem?_cons_succ, List.set_cons_zero, List.set_cons_succ, wipeD, Option.map_some, Bool.not_true, Bool.not_false, P_ok, q2]
      refine hG _ _ ?_
      clear hG G
      try simp only [if_true, if_false, Bool.false_eq_true]
      refine Ce_ret fun G hG => ?_
      simp only [x_partV, bnI_ok, cutD_1, len_en, asSeq_en, asLst_en, lstOf_en, x_callF, x_callFR, liftP_ok, liftR_ok, liftB_bl, liftB_int, callV1, callV2, callV3, callV4, callRV1, callRV2, callRV3, callRV4, p_int, p_bl, p_scr, p_non, p_str, p_lst, p_tup, p_nil, p_cons, p_en, p_ens, Bool.and_self, en_norm, mod_ok, fdiv_lit, mul_lit, add_nat, add_one, lt_int, le_int, gt_int, ge_int, min_int, max_int, neg_int, eq_int, ne_int, eq_bl, ne_bl, len_lst, len_tup, len_scr, Int.reduceLT, Int.reduceLE, Nat.reduceLeDiff, x_bind, x_then, x_seq, x_ret, x_op2, x_op1, x_step, x_nilA, x_consA, x_callB, x_testE, x_toB, x_if, x_retS, x_dropS, x_setS, x_skip, x_andT, x_orT, x_notT, x_ifE, x_andE, x_orE, x_notE, x_chain, x_tupE, x_lstE, x_lstC, x_methL, x_for, x_itSeq, x_asSeq, x_asSeqT, x_asSeqS, x_range1, x_range2, x_enum, x_asLst, x_asg, x_isi, x_slice, x_noPart, x_rev, bnd_ok, bnd_err, thn_ok, thn_err, sq_nx, sq_ret, sq_brk, sq_ct, sq_err, bnB_ok, startE, List.map_cons, List.map_nil, List.length_cons, List.length_nil, Nat.reduceAdd, Nat.reduceSub, List.replicate_succ, List.replicate_zero, List.append_nil, List.cons_append, List.nil_append, if_true, if_false, Bool.false_eq_true, x_v0, x_vs, n_int, n_bl, n_str, n_non, n_lst, n_tup, n_scr, List.getElem?_cons_zero, List.getElem?_cons_succ, List.set_cons_zero, List.set_cons_succ, wipeD, Option.map_some, Bool.not_true, Bool.not_false, P_ok]
      refine hG _ _ ?_
      clear hG G
      exact ⟨_, rfl, _, rfl, fun h => (by cases h), fun G => absurd hem (G.ne _ hmem)⟩
    · refine Cs_if fun G hG => ?_
      simp only [x_partV, bnI_ok, cutD_1, len_en, asSeq_en, asLst_en, lstOf_en, x_callF, x_callFR, liftP_ok, liftR_ok, liftB_bl, liftB_int, callV1, callV2, callV3, callV4, callRV1, callRV2, callRV3, callRV4, p_int, p_bl, p_scr, p_non, p_str, p_lst, p_tup, p_nil, p_cons, p_en, p_ens, Bool.and_self, en_norm, mod_ok, fdiv_lit, mul_lit, add_nat, add_one, lt_int, le_int, gt_int, ge_int, min_int, max_int, neg_int, eq_int, ne_int, eq_bl, ne_bl, len_lst, len_tup, len_scr, Int.reduceLT, Int.reduceLE, Nat.reduceLeDiff, x_bind, x_then, x_seq, x_ret, x_op2, x_op1, x_step, x_nilA, x_consA, x_callB, x_testE, x_toB, x_if, x_retS, x_dropS, x_setS, x_skip, x_andT, x_orT, x_notT, x_ifE, x_andE, x_orE, x_notE, x_chain, x_tupE, x_lstE, x_lstC, x_methL, x_for, x_itSeq, x_asSeq, x_asSeqT, x_asSeqS, x_range1, x_range2, x_enum, x_asLst, x_asg, x_isi, x_slice, x_noPart, x_rev, bnd_ok, bnd_err, thn_ok, thn_err, sq_nx, sq_ret, sq_brk, sq_ct, sq_err, bnB_ok, startE, List.map_cons, List.map_nil, List.length_cons, List.length_nil, Nat.reduceAdd, Nat.reduceSub, List.replicate_succ, List.replicate_zero, List.append_nil, List.cons_append, List.nil_append, if_true, if_false, Bool.false_eq_true, x_v0, x_vs, n_int, n_bl, n_str, n_non, n_lst, n_tup, n_scr, List.getElem?_cons_zero, List.getElem?_cons_succ, List.set_cons_zero, List.set_cons_succ, wipeD, Option.map_some, Bool.not_true, Bool.not_false, P_ok, q1, hem, decide_false]
      refine hG _ _ ?_
      clear hG G
      try simp only [if_true, if_false, Bool.false_eq_true]
      refine W_nx ?_
      have e2 : (ps.take (i + 1)).flatten = (ps.take i).flatten ++ ps[i] := by
        rw [List.take_add_one, hg, List.flatten_append]; simp
      have hb : (ps.take i).flatten.length ≤ i * 100 := by
        have := flat_len (k := 100) (ps := ps.take i) fun p hp => hk p (List.mem_of_mem_take hp)
        rw [List.length_take, Nat.min_eq_left (by omega)] at this
        exact this
      have ha : ∀ S : Store, addG S (En.e (ps.take i).flatten) (En.e ps[i]) = some (En.e (ps.take (i + 1)).flatten, S) := fun S => by
        rw [en_list, en_list, add_lst (by rw [List.length_map, List.length_map]; have := hk _ hmem; omega), e2, en_list, List.map_append]
      refine Ce_set fun G hG => ?_
      simp only [x_partV, bnI_ok, cutD_1, len_en, asSeq_en, asLst_en, lstOf_en, x_callF, x_callFR, liftP_ok, liftR_ok, liftB_bl, liftB_int, callV1, callV2, callV3, callV4, callRV1, callRV2, callRV3, callRV4, p_int, p_bl, p_scr, p_non, p_str, p_lst, p_tup, p_nil, p_cons, p_en, p_ens, Bool.and_self, en_norm, mod_ok, fdiv_lit, mul_lit, add_nat, add_one, lt_int, le_int, gt_int, ge_int, min_int, max_int, neg_int, eq_int, ne_int, eq_bl, ne_bl, len_lst, len_tup, len_scr, Int.reduceLT, Int.reduceLE, Nat.reduceLeDiff, x_bind, x_then, x_seq, x_ret, x_op2, x_op1, x_step, x_nilA, x_consA, x_callB, x_testE, x_toB, x_if, x_retS, x_dropS, x_setS, x_skip, x_andT, x_orT, x_notT, x_ifE, x_andE, x_orE, x_notE, x_chain, x_tupE, x_lstE, x_lstC, x_methL, x_for, x_itSeq, x_asSeq, x_asSeqT, x_asSeqS, x_range1, x_range2, x_enum, x_asLst, x_asg, x_isi, x_slice, x_noPart, x_rev, bnd_ok, bnd_err, thn_ok, thn_err, sq_nx, sq_ret, sq_brk, sq_ct, sq_err, bnB_ok, startE, List.map_cons, List.map_nil, List.length_cons, List.length_nil, Nat.reduceAdd, Nat.reduceSub, List.replicate_succ, List.replicate_zero, List.append_nil, List.cons_append, List.nil_append, if_true, if_false, Bool.false_eq_true, x_v0, x_vs, n_int, n_bl, n_str, n_non, n_lst, n_tup, n_scr, List.getElem?_cons_zero, List.getElem?_cons_succ, List.set_cons_zero, List.set_cons_succ, wipeD, Option.map_some, Bool.not_true, Bool.not_false, P_ok, ha]
      refine hG _ _ ?_
      clear hG G
      simp only [List.set_cons_zero, List.set_cons_succ]
      refine ⟨_, rfl, trivial, fun p hp => ?_⟩
      rw [List.take_add_one, hg] at hp
      rcases List.mem_append.mp hp with hp | hp
      · exact hne p hp
      · have e : p = ps[i] := by simpa using hp
        rw [e]; exact hem
  · rintro r S ⟨o3, rfl, rfl, hne⟩
    rw [List.length_map, List.take_length] at hne ⊢
    have hs : ∀ S : Store, orC sortI sortP S [En.e ps.flatten] = some (En.e (isort ltInt ps.flatten), S) := fun S => by
      unfold orC sortI onInts
      simp only [lstOf_en]
      rw [show ps.flatten.map (En.e (α := Int)) = ps.flatten.map D.int from rfl, intsOf_map]
      rfl
    have hr : ∀ S, rgLst (ends1 (vE 1)) [some (En.e ps), some (.int (n : Nat)), some (En.e ps.flatten), o3] S = .ok (En.e ((List.range n).map (fun i : Nat => (i : Int)))) S := fun S => by
      rw [x_rgN (n := n) (S1 := S) (by simp only [x_partV, bnI_ok, cutD_1, len_en, asSeq_en, asLst_en, lstOf_en, x_callF, x_callFR, liftP_ok, liftR_ok, liftB_bl, liftB_int, callV1, callV2, callV3, callV4, callRV1, callRV2, callRV3, callRV4, p_int, p_bl, p_scr, p_non, p_str, p_lst, p_tup, p_nil, p_cons, p_en, p_ens, Bool.and_self, en_norm, mod_ok, fdiv_lit, mul_lit, add_nat, add_one, lt_int, le_int, gt_int, ge_int, min_int, max_int, neg_int, eq_int, ne_int, eq_bl, ne_bl, len_lst, len_tup, len_scr, Int.reduceLT, Int.reduceLE, Nat.reduceLeDiff, x_bind, x_then, x_seq, x_ret, x_op2, x_op1, x_step, x_nilA, x_consA, x_callB, x_testE, x_toB, x_if, x_retS, x_dropS, x_setS, x_skip, x_andT, x_orT, x_notT, x_ifE, x_andE, x_orE, x_notE, x_chain, x_tupE, x_lstE, x_lstC, x_methL, x_for, x_itSeq, x_asSeq, x_asSeqT, x_asSeqS, x_range1, x_range2, x_enum, x_asLst, x_asg, x_isi, x_slice, x_noPart, x_rev, bnd_ok, bnd_err, thn_ok, thn_err, sq_nx, sq_ret, sq_brk, sq_ct, sq_err, bnB_ok, startE, List.map_cons, List.map_nil, List.length_cons, List.length_nil, Nat.reduceAdd, Nat.reduceSub, List.replicate_succ, List.replicate_zero, List.append_nil, List.cons_append, List.nil_append, if_true, if_false, Bool.false_eq_true, x_v0, x_vs, n_int, n_bl, n_str, n_non, n_lst, n_tup, n_scr, List.getElem?_cons_zero, List.getElem?_cons_succ, List.set_cons_zero, List.set_cons_succ, wipeD, Option.map_some, Bool.not_true, Bool.not_false]) (by omega), en_list, List.map_map]; rfl
    have hc : ∀ S : Store, eqG S (En.e (isort ltInt ps.flatten)) (En.e ((List.range n).map (fun i : Nat => (i : Int)))) = some (.bl (decide (isort ltInt ps.flatten = (List.range n).map (fun i : Nat => (i : Int)))), S) := fun S => eqG_en (by decide) _ _
    refine Ce_ret fun G hG => ?_
    simp only [x_partV, bnI_ok, cutD_1, len_en, asSeq_en, asLst_en, lstOf_en, x_callF, x_callFR, liftP_ok, liftR_ok, liftB_bl, liftB_int, callV1, callV2, callV3, callV4, callRV1, callRV2, callRV3, callRV4, p_int, p_bl, p_scr, p_non, p_str, p_lst, p_tup, p_nil, p_cons, p_en, p_ens, Bool.and_self, en_norm, mod_ok, fdiv_lit, mul_lit, add_nat, add_one, lt_int, le_int, gt_int, ge_int, min_int, max_int, neg_int, eq_int, ne_int, eq_bl, ne_bl, len_lst, len_tup, len_scr, Int.reduceLT, Int.reduceLE, Nat.reduceLeDiff, x_bind, x_then, x_seq, x_ret, x_op2, x_op1, x_step, x_nilA, x_consA, x_callB, x_testE, x_toB, x_if, x_retS, x_dropS, x_setS, x_skip, x_andT, x_orT, x_notT, x_ifE, x_andE, x_orE, x_notE, x_chain, x_tupE, x_lstE, x_lstC, x_methL, x_for, x_itSeq, x_asSeq, x_asSeqT, x_asSeqS, x_range1, x_range2, x_enum, x_asLst, x_asg, x_isi, x_slice, x_noPart, x_rev, bnd_ok, bnd_err, thn_ok, thn_err, sq_nx, sq_ret, sq_brk, sq_ct, sq_err, bnB_ok, startE, List.map_cons, List.map_nil, List.length_cons, List.length_nil, Nat.reduceAdd, Nat.reduceSub, List.replicate_succ, List.replicate_zero, List.append_nil, List.cons_append, List.nil_append, if_true, if_false, Bool.false_eq_true, x_v0, x_vs, n_int, n_bl, n_str, n_non, n_lst, n_tup, n_scr, List.getElem?_cons_zero, List.getElem?_cons_succ, List.set_cons_zero, List.set_cons_succ, wipeD, Option.map_some, Bool.not_true, Bool.not_false, P_ok, hs, hr, hc]
    refine hG _ _ ?_
    clear hG G
    refine ⟨_, rfl, _, rfl, ?_⟩
    rw [decide_eq_true_eq, isort_range]
    exact ⟨fun ⟨h1, h2, h3⟩ => ⟨hne, h1, h2, h3⟩, fun G => ⟨G.rg, G.nd, G.all⟩⟩
end K75


namespace K75
open Aw
theorem x_isx' {r : Aw.Env} {S : Store} {a : PySem.Addr} {c d : Ex} {M : ExT} {i : Nat} (h : r[i]? = some (some (.fn a))) : isxE a c M i d r S = (match M c d with
    | some z => .ok (.bl z) S
    | none => .stuck) := by
  unfold isxE; simp only [h, if_true]
  all_goals (cases M c d <;> rfl)
theorem m_ask : exM (.own "BadParts") (.own "AskError") = some true := by decide +kernel
theorem m_parts : exM (.own "BadParts") (.own "BadParts") = some true := by decide +kernel
theorem m_value : exM (.own "BadParts") (.bt "ValueError") = some true := by decide +kernel
theorem m_order : exM (.own "BadParts") (.own "BadOrder") = some false := by decide +kernel
theorem m_ballot : exM (.own "BadParts") (.own "BadBallot") = some false := by decide +kernel
theorem m_alike : exM (.own "BadParts") (.own "NotAlike") = some false := by decide +kernel
abbrev dBad : D := .lst [.lst [.bl true, .bl true, .bl false, .bl false, .bl false], .non]
abbrev dNone : D := .lst [.lst [], .non]
abbrev dRows (t : Tb) (hs : List Nat) : D := .lst [.lst [], En.e (fold t hs)]
abbrev suite (a : PySem.Addr) (c : Ex) : SemS := (seqS (setS (lstE (consA (isxE a c exM 5 (.own "BadParts")) (consA (isxE a c exM 5 (.bt "ValueError")) (consA (isxE a c exM 5 (.own "BadOrder")) nilA)))) (.one 3))
  (setS (op2 addG (vE 3) (lstE (consA (isxE a c exM 5 (.own "BadBallot")) (consA (isxE a c exM 5 (.own "NotAlike")) nilA)))) (.one 3)))
theorem suite_run (x0 x1 x2 x3 x4 : Option D) (a : PySem.Addr) (S : Store) : unsetR 5 (suite a (.own "BadParts") [x0, x1, x2, x3, x4, some (.fn a)] S) = .nx [x0, x1, x2, some (.lst [.bl true, .bl true, .bl false, .bl false, .bl false]), x4, none] S := by
  have h : ∀ y3 : Option D, [x0, x1, x2, y3, x4, some (.fn a)][5]? = some (some (D.fn a)) := fun _ => rfl
  have z3 : (3 : Nat) ≤ 100000 := by omega
  have z2 : (2 : Nat) ≤ 100000 := by omega
  have ad : ∀ S : Store, addG S (.lst [.bl true, .bl true, .bl false]) (.lst [.bl false, .bl false]) = some (.lst [.bl true, .bl true, .bl false, .bl false, .bl false], S) := fun S => add_lst (by simp)
  simp only [x_partV, bnI_ok, cutD_1, len_en, asSeq_en, asLst_en, lstOf_en, x_callF, x_callFR, liftP_ok, liftR_ok, liftB_bl, liftB_int, callV1, callV2, callV3, callV4, callRV1, callRV2, callRV3, callRV4, p_int, p_bl, p_scr, p_non, p_str, p_lst, p_tup, p_nil, p_cons, p_en, p_ens, Bool.and_self, en_norm, mod_ok, fdiv_lit, mul_lit, add_nat, add_one, lt_int, le_int, gt_int, ge_int, min_int, max_int, neg_int, eq_int, ne_int, eq_bl, ne_bl, len_lst, len_tup, len_scr, Int.reduceLT, Int.reduceLE, Nat.reduceLeDiff, x_bind, x_then, x_seq, x_ret, x_op2, x_op1, x_step, x_nilA, x_consA, x_callB, x_testE, x_toB, x_if, x_retS, x_dropS, x_setS, x_skip, x_andT, x_orT, x_notT, x_ifE, x_andE, x_orE, x_notE, x_chain, x_tupE, x_lstE, x_lstC, x_methL, x_for, x_itSeq, x_asSeq, x_asSeqT, x_asSeqS, x_range1, x_range2, x_enum, x_asLst, x_asg, x_isi, x_slice, x_noPart, x_rev, bnd_ok, bnd_err, thn_ok, thn_err, sq_nx, sq_ret, sq_brk, sq_ct, sq_err, bnB_ok, startE, List.map_cons, List.map_nil, List.length_cons, List.length_nil, Nat.reduceAdd, Nat.reduceSub, List.replicate_succ, List.replicate_zero, List.append_nil, List.cons_append, List.nil_append, if_true, if_false, Bool.false_eq_true, x_v0, x_vs, n_int, n_bl, n_str, n_non, n_lst, n_tup, n_scr, List.getElem?_cons_zero, List.getElem?_cons_succ, List.set_cons_zero, List.set_cons_succ, wipeD, Option.map_some, Bool.not_true, Bool.not_false, x_isx' (h _), m_parts, m_value, m_order, m_ballot, m_alike, z3, z2, ad]
  rfl
theorem r_refused_bad {n : Nat} {t : Tb} {ps : List (List Int)} (hq : Sq n t) (hn : n ≤ 100) (b : Bool) (h : (b = true ∧ f_folded [En.e t, En.e ps] = .err (.own "BadParts")) ∨ (b = false ∧ ¬ Good n ps)) : f__law_refused [En.e t, En.e ps, .bl b] = .ok dBad := by
  refine out_eq ?_
  unfold b__law_refused
  simp only [startE, List.map_cons, List.map_nil, List.length_cons, List.length_nil, Nat.reduceAdd, Nat.reduceSub, List.replicate_succ, List.replicate_zero, List.append_nil, List.cons_append, List.nil_append]
  refine Cs_set fun G hG => ?_
  simp only [x_partV, bnI_ok, cutD_1, len_en, asSeq_en, asLst_en, lstOf_en, x_callF, x_callFR, liftP_ok, liftR_ok, liftB_bl, liftB_int, callV1, callV2, callV3, callV4, callRV1, callRV2, callRV3, callRV4, p_int, p_bl, p_scr, p_non, p_str, p_lst, p_tup, p_nil, p_cons, p_en, p_ens, Bool.and_self, en_norm, mod_ok, fdiv_lit, mul_lit, add_nat, add_one, lt_int, le_int, gt_int, ge_int, min_int, max_int, neg_int, eq_int, ne_int, eq_bl, ne_bl, len_lst, len_tup, len_scr, Int.reduceLT, Int.reduceLE, Nat.reduceLeDiff, x_bind, x_then, x_seq, x_ret, x_op2, x_op1, x_step, x_nilA, x_consA, x_callB, x_testE, x_toB, x_if, x_retS, x_dropS, x_setS, x_skip, x_andT, x_orT, x_notT, x_ifE, x_andE, x_orE, x_notE, x_chain, x_tupE, x_lstE, x_lstC, x_methL, x_for, x_itSeq, x_asSeq, x_asSeqT, x_asSeqS, x_range1, x_range2, x_enum, x_asLst, x_asg, x_isi, x_slice, x_noPart, x_rev, bnd_ok, bnd_err, thn_ok, thn_err, sq_nx, sq_ret, sq_brk, sq_ct, sq_err, bnB_ok, startE, List.map_cons, List.map_nil, List.length_cons, List.length_nil, Nat.reduceAdd, Nat.reduceSub, List.replicate_succ, List.replicate_zero, List.append_nil, List.cons_append, List.nil_append, if_true, if_false, Bool.false_eq_true, x_v0, x_vs, n_int, n_bl, n_str, n_non, n_lst, n_tup, n_scr, List.getElem?_cons_zero, List.getElem?_cons_succ, List.set_cons_zero, List.set_cons_succ, wipeD, Option.map_some, Bool.not_true, Bool.not_false, P_ok]
  refine hG _ _ ?_
  clear hG G
  simp only [List.set_cons_zero, List.set_cons_succ]
  refine Cs_set fun G hG => ?_
  simp only [x_partV, bnI_ok, cutD_1, len_en, asSeq_en, asLst_en, lstOf_en, x_callF, x_callFR, liftP_ok, liftR_ok, liftB_bl, liftB_int, callV1, callV2, callV3, callV4, callRV1, callRV2, callRV3, callRV4, p_int, p_bl, p_scr, p_non, p_str, p_lst, p_tup, p_nil, p_cons, p_en, p_ens, Bool.and_self, en_norm, mod_ok, fdiv_lit, mul_lit, add_nat, add_one, lt_int, le_int, gt_int, ge_int, min_int, max_int, neg_int, eq_int, ne_int, eq_bl, ne_bl, len_lst, len_tup, len_scr, Int.reduceLT, Int.reduceLE, Nat.reduceLeDiff, x_bind, x_then, x_seq, x_ret, x_op2, x_op1, x_step, x_nilA, x_consA, x_callB, x_testE, x_toB, x_if, x_retS, x_dropS, x_setS, x_skip, x_andT, x_orT, x_notT, x_ifE, x_andE, x_orE, x_notE, x_chain, x_tupE, x_lstE, x_lstC, x_methL, x_for, x_itSeq, x_asSeq, x_asSeqT, x_asSeqS, x_range1, x_range2, x_enum, x_asLst, x_asg, x_isi, x_slice, x_noPart, x_rev, bnd_ok, bnd_err, thn_ok, thn_err, sq_nx, sq_ret, sq_brk, sq_ct, sq_err, bnB_ok, startE, List.map_cons, List.map_nil, List.length_cons, List.length_nil, Nat.reduceAdd, Nat.reduceSub, List.replicate_succ, List.replicate_zero, List.append_nil, List.cons_append, List.nil_append, if_true, if_false, Bool.false_eq_true, x_v0, x_vs, n_int, n_bl, n_str, n_non, n_lst, n_tup, n_scr, List.getElem?_cons_zero, List.getElem?_cons_succ, List.set_cons_zero, List.set_cons_succ, wipeD, Option.map_some, Bool.not_true, Bool.not_false, P_ok]
  refine hG _ _ ?_
  clear hG G
  simp only [List.set_cons_zero, List.set_cons_succ]
  refine Ws_tryAs ?_
  have fin : ∀ S : Store, exM (.own "BadParts") (.own "AskError") = some true ∧ ∃ o : R, (∀ a, unsetR 5 (suite a (.own "BadParts") (List.set [some (En.e t), some (En.e ps), some (.bl b), some (.lst []), some .non, none] 5 (some (.fn a))) S) = o) ∧
      o.W (fun r S => (retS (lstE (consA (vE 3) (consA (vE 4) nilA))) r S).W (fun _ _ => dBad = .non) noN noN (fun d S => resA S d = some dBad) noE) noN noN (fun d S => resA S d = some dBad) noE := by
    intro S
    refine ⟨m_ask, _, fun a => suite_run _ _ _ _ _ a S, W_nx ?_⟩
    refine Ce_ret fun G hG => ?_
    simp only [x_partV, bnI_ok, cutD_1, len_en, asSeq_en, asLst_en, lstOf_en, x_callF, x_callFR, liftP_ok, liftR_ok, liftB_bl, liftB_int, callV1, callV2, callV3, callV4, callRV1, callRV2, callRV3, callRV4, p_int, p_bl, p_scr, p_non, p_str, p_lst, p_tup, p_nil, p_cons, p_en, p_ens, Bool.and_self, en_norm, mod_ok, fdiv_lit, mul_lit, add_nat, add_one, lt_int, le_int, gt_int, ge_int, min_int, max_int, neg_int, eq_int, ne_int, eq_bl, ne_bl, len_lst, len_tup, len_scr, Int.reduceLT, Int.reduceLE, Nat.reduceLeDiff, x_bind, x_then, x_seq, x_ret, x_op2, x_op1, x_step, x_nilA, x_consA, x_callB, x_testE, x_toB, x_if, x_retS, x_dropS, x_setS, x_skip, x_andT, x_orT, x_notT, x_ifE, x_andE, x_orE, x_notE, x_chain, x_tupE, x_lstE, x_lstC, x_methL, x_for, x_itSeq, x_asSeq, x_asSeqT, x_asSeqS, x_range1, x_range2, x_enum, x_asLst, x_asg, x_isi, x_slice, x_noPart, x_rev, bnd_ok, bnd_err, thn_ok, thn_err, sq_nx, sq_ret, sq_brk, sq_ct, sq_err, bnB_ok, startE, List.map_cons, List.map_nil, List.length_cons, List.length_nil, Nat.reduceAdd, Nat.reduceSub, List.replicate_succ, List.replicate_zero, List.append_nil, List.cons_append, List.nil_append, if_true, if_false, Bool.false_eq_true, x_v0, x_vs, n_int, n_bl, n_str, n_non, n_lst, n_tup, n_scr, List.getElem?_cons_zero, List.getElem?_cons_succ, List.set_cons_zero, List.set_cons_succ, wipeD, Option.map_some, Bool.not_true, Bool.not_false, P_ok, show (2 : Nat) ≤ 100000 by omega]
    refine hG _ _ ?_
    clear hG G
    rfl
  rcases h with ⟨rfl, h⟩ | ⟨rfl, h⟩
  · refine Ce_if fun G hG => ?_
    simp only [x_partV, bnI_ok, cutD_1, len_en, asSeq_en, asLst_en, lstOf_en, x_callF, x_callFR, liftP_ok, liftR_ok, liftB_bl, liftB_int, callV1, callV2, callV3, callV4, callRV1, callRV2, callRV3, callRV4, p_int, p_bl, p_scr, p_non, p_str, p_lst, p_tup, p_nil, p_cons, p_en, p_ens, Bool.and_self, en_norm, mod_ok, fdiv_lit, mul_lit, add_nat, add_one, lt_int, le_int, gt_int, ge_int, min_int, max_int, neg_int, eq_int, ne_int, eq_bl, ne_bl, len_lst, len_tup, len_scr, Int.reduceLT, Int.reduceLE, Nat.reduceLeDiff, x_bind, x_then, x_seq, x_ret, x_op2, x_op1, x_step, x_nilA, x_consA, x_callB, x_testE, x_toB, x_if, x_retS, x_dropS, x_setS, x_skip, x_andT, x_orT, x_notT, x_ifE, x_andE, x_orE, x_notE, x_chain, x_tupE, x_lstE, x_lstC, x_methL, x_for, x_itSeq, x_asSeq, x_asSeqT, x_asSeqS, x_range1, x_range2, x_enum, x_asLst, x_asg, x_isi, x_slice, x_noPart, x_rev, bnd_ok, bnd_err, thn_ok, thn_err, sq_nx, sq_ret, sq_brk, sq_ct, sq_err, bnB_ok, startE, List.map_cons, List.map_nil, List.length_cons, List.length_nil, Nat.reduceAdd, Nat.reduceSub, List.replicate_succ, List.replicate_zero, List.append_nil, List.cons_append, List.nil_append, if_true, if_false, Bool.false_eq_true, x_v0, x_vs, n_int, n_bl, n_str, n_non, n_lst, n_tup, n_scr, List.getElem?_cons_zero, List.getElem?_cons_succ, List.set_cons_zero, List.set_cons_succ, wipeD, Option.map_some, Bool.not_true, Bool.not_false, P_ok]
    refine hG _ _ ?_
    clear hG G
    try simp only [if_true, if_false, Bool.false_eq_true]
    refine We_setX (c := .own "BadParts") (S1 := []) ?_ (fin [])
    simp only [x_partV, bnI_ok, cutD_1, len_en, asSeq_en, asLst_en, lstOf_en, x_callF, x_callFR, liftP_ok, liftR_ok, liftB_bl, liftB_int, callV1, callV2, callV3, callV4, callRV1, callRV2, callRV3, callRV4, p_int, p_bl, p_scr, p_non, p_str, p_lst, p_tup, p_nil, p_cons, p_en, p_ens, Bool.and_self, en_norm, mod_ok, fdiv_lit, mul_lit, add_nat, add_one, lt_int, le_int, gt_int, ge_int, min_int, max_int, neg_int, eq_int, ne_int, eq_bl, ne_bl, len_lst, len_tup, len_scr, Int.reduceLT, Int.reduceLE, Nat.reduceLeDiff, x_bind, x_then, x_seq, x_ret, x_op2, x_op1, x_step, x_nilA, x_consA, x_callB, x_testE, x_toB, x_if, x_retS, x_dropS, x_setS, x_skip, x_andT, x_orT, x_notT, x_ifE, x_andE, x_orE, x_notE, x_chain, x_tupE, x_lstE, x_lstC, x_methL, x_for, x_itSeq, x_asSeq, x_asSeqT, x_asSeqS, x_range1, x_range2, x_enum, x_asLst, x_asg, x_isi, x_slice, x_noPart, x_rev, bnd_ok, bnd_err, thn_ok, thn_err, sq_nx, sq_ret, sq_brk, sq_ct, sq_err, bnB_ok, startE, List.map_cons, List.map_nil, List.length_cons, List.length_nil, Nat.reduceAdd, Nat.reduceSub, List.replicate_succ, List.replicate_zero, List.append_nil, List.cons_append, List.nil_append, if_true, if_false, Bool.false_eq_true, x_v0, x_vs, n_int, n_bl, n_str, n_non, n_lst, n_tup, n_scr, List.getElem?_cons_zero, List.getElem?_cons_succ, List.set_cons_zero, List.set_cons_succ, wipeD, Option.map_some, Bool.not_true, Bool.not_false, h]
    rfl
  · refine Ce_if fun G hG => ?_
    simp only [x_partV, bnI_ok, cutD_1, len_en, asSeq_en, asLst_en, lstOf_en, x_callF, x_callFR, liftP_ok, liftR_ok, liftB_bl, liftB_int, callV1, callV2, callV3, callV4, callRV1, callRV2, callRV3, callRV4, p_int, p_bl, p_scr, p_non, p_str, p_lst, p_tup, p_nil, p_cons, p_en, p_ens, Bool.and_self, en_norm, mod_ok, fdiv_lit, mul_lit, add_nat, add_one, lt_int, le_int, gt_int, ge_int, min_int, max_int, neg_int, eq_int, ne_int, eq_bl, ne_bl, len_lst, len_tup, len_scr, Int.reduceLT, Int.reduceLE, Nat.reduceLeDiff, x_bind, x_then, x_seq, x_ret, x_op2, x_op1, x_step, x_nilA, x_consA, x_callB, x_testE, x_toB, x_if, x_retS, x_dropS, x_setS, x_skip, x_andT, x_orT, x_notT, x_ifE, x_andE, x_orE, x_notE, x_chain, x_tupE, x_lstE, x_lstC, x_methL, x_for, x_itSeq, x_asSeq, x_asSeqT, x_asSeqS, x_range1, x_range2, x_enum, x_asLst, x_asg, x_isi, x_slice, x_noPart, x_rev, bnd_ok, bnd_err, thn_ok, thn_err, sq_nx, sq_ret, sq_brk, sq_ct, sq_err, bnB_ok, startE, List.map_cons, List.map_nil, List.length_cons, List.length_nil, Nat.reduceAdd, Nat.reduceSub, List.replicate_succ, List.replicate_zero, List.append_nil, List.cons_append, List.nil_append, if_true, if_false, Bool.false_eq_true, x_v0, x_vs, n_int, n_bl, n_str, n_non, n_lst, n_tup, n_scr, List.getElem?_cons_zero, List.getElem?_cons_succ, List.set_cons_zero, List.set_cons_succ, wipeD, Option.map_some, Bool.not_true, Bool.not_false, P_ok]
    refine hG _ _ ?_
    clear hG G
    try simp only [if_true, if_false, Bool.false_eq_true]
    rcases r_places_of (ps := ps) hn with ⟨d, _, _, G⟩ | ⟨c, h1, h2, _⟩
    · exact absurd G h
    · subst h2
      refine We_dropX (c := .own "BadParts") (S1 := []) ?_ (fin [])
      simp only [x_partV, bnI_ok, cutD_1, len_en, asSeq_en, asLst_en, lstOf_en, x_callF, x_callFR, liftP_ok, liftR_ok, liftB_bl, liftB_int, callV1, callV2, callV3, callV4, callRV1, callRV2, callRV3, callRV4, p_int, p_bl, p_scr, p_non, p_str, p_lst, p_tup, p_nil, p_cons, p_en, p_ens, Bool.and_self, en_norm, mod_ok, fdiv_lit, mul_lit, add_nat, add_one, lt_int, le_int, gt_int, ge_int, min_int, max_int, neg_int, eq_int, ne_int, eq_bl, ne_bl, len_lst, len_tup, len_scr, Int.reduceLT, Int.reduceLE, Nat.reduceLeDiff, x_bind, x_then, x_seq, x_ret, x_op2, x_op1, x_step, x_nilA, x_consA, x_callB, x_testE, x_toB, x_if, x_retS, x_dropS, x_setS, x_skip, x_andT, x_orT, x_notT, x_ifE, x_andE, x_orE, x_notE, x_chain, x_tupE, x_lstE, x_lstC, x_methL, x_for, x_itSeq, x_asSeq, x_asSeqT, x_asSeqS, x_range1, x_range2, x_enum, x_asLst, x_asg, x_isi, x_slice, x_noPart, x_rev, bnd_ok, bnd_err, thn_ok, thn_err, sq_nx, sq_ret, sq_brk, sq_ct, sq_err, bnB_ok, startE, List.map_cons, List.map_nil, List.length_cons, List.length_nil, Nat.reduceAdd, Nat.reduceSub, List.replicate_succ, List.replicate_zero, List.append_nil, List.cons_append, List.nil_append, if_true, if_false, Bool.false_eq_true, x_v0, x_vs, n_int, n_bl, n_str, n_non, n_lst, n_tup, n_scr, List.getElem?_cons_zero, List.getElem?_cons_succ, List.set_cons_zero, List.set_cons_succ, wipeD, Option.map_some, Bool.not_true, Bool.not_false, hq.len, h1]
      rfl
theorem r_refused_none {n : Nat} {t : Tb} {ps : List (List Int)} (hq : Sq n t) (hn : n ≤ 100) (h : Good n ps) : f__law_refused [En.e t, En.e ps, .bl false] = .ok dNone := by
  refine out_eq ?_
  unfold b__law_refused
  simp only [startE, List.map_cons, List.map_nil, List.length_cons, List.length_nil, Nat.reduceAdd, Nat.reduceSub, List.replicate_succ, List.replicate_zero, List.append_nil, List.cons_append, List.nil_append]
  refine Cs_set fun G hG => ?_
  simp only [x_partV, bnI_ok, cutD_1, len_en, asSeq_en, asLst_en, lstOf_en, x_callF, x_callFR, liftP_ok, liftR_ok, liftB_bl, liftB_int, callV1, callV2, callV3, callV4, callRV1, callRV2, callRV3, callRV4, p_int, p_bl, p_scr, p_non, p_str, p_lst, p_tup, p_nil, p_cons, p_en, p_ens, Bool.and_self, en_norm, mod_ok, fdiv_lit, mul_lit, add_nat, add_one, lt_int, le_int, gt_int, ge_int, min_int, max_int, neg_int, eq_int, ne_int, eq_bl, ne_bl, len_lst, len_tup, len_scr, Int.reduceLT, Int.reduceLE, Nat.reduceLeDiff, x_bind, x_then, x_seq, x_ret, x_op2, x_op1, x_step, x_nilA, x_consA, x_callB, x_testE, x_toB, x_if, x_retS, x_dropS, x_setS, x_skip, x_andT, x_orT, x_notT, x_ifE, x_andE, x_orE, x_notE, x_chain, x_tupE, x_lstE, x_lstC, x_methL, x_for, x_itSeq, x_asSeq, x_asSeqT, x_asSeqS, x_range1, x_range2, x_enum, x_asLst, x_asg, x_isi, x_slice, x_noPart, x_rev, bnd_ok, bnd_err, thn_ok, thn_err, sq_nx, sq_ret, sq_brk, sq_ct, sq_err, bnB_ok, startE, List.map_cons, List.map_nil, List.length_cons, List.length_nil, Nat.reduceAdd, Nat.reduceSub, List.replicate_succ, List.replicate_zero, List.append_nil, List.cons_append, List.nil_append, if_true, if_false, Bool.false_eq_true, x_v0, x_vs, n_int, n_bl, n_str, n_non, n_lst, n_tup, n_scr, List.getElem?_cons_zero, List.getElem?_cons_succ, List.set_cons_zero, List.set_cons_succ, wipeD, Option.map_some, Bool.not_true, Bool.not_false, P_ok]
  refine hG _ _ ?_
  clear hG G
  simp only [List.set_cons_zero, List.set_cons_succ]
  refine Cs_set fun G hG => ?_
  simp only [x_partV, bnI_ok, cutD_1, len_en, asSeq_en, asLst_en, lstOf_en, x_callF, x_callFR, liftP_ok, liftR_ok, liftB_bl, liftB_int, callV1, callV2, callV3, callV4, callRV1, callRV2, callRV3, callRV4, p_int, p_bl, p_scr, p_non, p_str, p_lst, p_tup, p_nil, p_cons, p_en, p_ens, Bool.and_self, en_norm, mod_ok, fdiv_lit, mul_lit, add_nat, add_one, lt_int, le_int, gt_int, ge_int, min_int, max_int, neg_int, eq_int, ne_int, eq_bl, ne_bl, len_lst, len_tup, len_scr, Int.reduceLT, Int.reduceLE, Nat.reduceLeDiff, x_bind, x_then, x_seq, x_ret, x_op2, x_op1, x_step, x_nilA, x_consA, x_callB, x_testE, x_toB, x_if, x_retS, x_dropS, x_setS, x_skip, x_andT, x_orT, x_notT, x_ifE, x_andE, x_orE, x_notE, x_chain, x_tupE, x_lstE, x_lstC, x_methL, x_for, x_itSeq, x_asSeq, x_asSeqT, x_asSeqS, x_range1, x_range2, x_enum, x_asLst, x_asg, x_isi, x_slice, x_noPart, x_rev, bnd_ok, bnd_err, thn_ok, thn_err, sq_nx, sq_ret, sq_brk, sq_ct, sq_err, bnB_ok, startE, List.map_cons, List.map_nil, List.length_cons, List.length_nil, Nat.reduceAdd, Nat.reduceSub, List.replicate_succ, List.replicate_zero, List.append_nil, List.cons_append, List.nil_append, if_true, if_false, Bool.false_eq_true, x_v0, x_vs, n_int, n_bl, n_str, n_non, n_lst, n_tup, n_scr, List.getElem?_cons_zero, List.getElem?_cons_succ, List.set_cons_zero, List.set_cons_succ, wipeD, Option.map_some, Bool.not_true, Bool.not_false, P_ok]
  refine hG _ _ ?_
  clear hG G
  simp only [List.set_cons_zero, List.set_cons_succ]
  refine Ws_tryAs ?_
  refine Ce_if fun G hG => ?_
  simp only [x_partV, bnI_ok, cutD_1, len_en, asSeq_en, asLst_en, lstOf_en, x_callF, x_callFR, liftP_ok, liftR_ok, liftB_bl, liftB_int, callV1, callV2, callV3, callV4, callRV1, callRV2, callRV3, callRV4, p_int, p_bl, p_scr, p_non, p_str, p_lst, p_tup, p_nil, p_cons, p_en, p_ens, Bool.and_self, en_norm, mod_ok, fdiv_lit, mul_lit, add_nat, add_one, lt_int, le_int, gt_int, ge_int, min_int, max_int, neg_int, eq_int, ne_int, eq_bl, ne_bl, len_lst, len_tup, len_scr, Int.reduceLT, Int.reduceLE, Nat.reduceLeDiff, x_bind, x_then, x_seq, x_ret, x_op2, x_op1, x_step, x_nilA, x_consA, x_callB, x_testE, x_toB, x_if, x_retS, x_dropS, x_setS, x_skip, x_andT, x_orT, x_notT, x_ifE, x_andE, x_orE, x_notE, x_chain, x_tupE, x_lstE, x_lstC, x_methL, x_for, x_itSeq, x_asSeq, x_asSeqT, x_asSeqS, x_range1, x_range2, x_enum, x_asLst, x_asg, x_isi, x_slice, x_noPart, x_rev, bnd_ok, bnd_err, thn_ok, thn_err, sq_nx, sq_ret, sq_brk, sq_ct, sq_err, bnB_ok, startE, List.map_cons, List.map_nil, List.length_cons, List.length_nil, Nat.reduceAdd, Nat.reduceSub, List.replicate_succ, List.replicate_zero, List.append_nil, List.cons_append, List.nil_append, if_true, if_false, Bool.false_eq_true, x_v0, x_vs, n_int, n_bl, n_str, n_non, n_lst, n_tup, n_scr, List.getElem?_cons_zero, List.getElem?_cons_succ, List.set_cons_zero, List.set_cons_succ, wipeD, Option.map_some, Bool.not_true, Bool.not_false, P_ok]
  refine hG _ _ ?_
  clear hG G
  try simp only [if_true, if_false, Bool.false_eq_true]
  rcases r_places_of (ps := ps) hn with ⟨d, h1, _⟩ | ⟨c, _, _, h2⟩
  · refine Ce_drop fun G hG => ?_
    simp only [x_partV, bnI_ok, cutD_1, len_en, asSeq_en, asLst_en, lstOf_en, x_callF, x_callFR, liftP_ok, liftR_ok, liftB_bl, liftB_int, callV1, callV2, callV3, callV4, callRV1, callRV2, callRV3, callRV4, p_int, p_bl, p_scr, p_non, p_str, p_lst, p_tup, p_nil, p_cons, p_en, p_ens, Bool.and_self, en_norm, mod_ok, fdiv_lit, mul_lit, add_nat, add_one, lt_int, le_int, gt_int, ge_int, min_int, max_int, neg_int, eq_int, ne_int, eq_bl, ne_bl, len_lst, len_tup, len_scr, Int.reduceLT, Int.reduceLE, Nat.reduceLeDiff, x_bind, x_then, x_seq, x_ret, x_op2, x_op1, x_step, x_nilA, x_consA, x_callB, x_testE, x_toB, x_if, x_retS, x_dropS, x_setS, x_skip, x_andT, x_orT, x_notT, x_ifE, x_andE, x_orE, x_notE, x_chain, x_tupE, x_lstE, x_lstC, x_methL, x_for, x_itSeq, x_asSeq, x_asSeqT, x_asSeqS, x_range1, x_range2, x_enum, x_asLst, x_asg, x_isi, x_slice, x_noPart, x_rev, bnd_ok, bnd_err, thn_ok, thn_err, sq_nx, sq_ret, sq_brk, sq_ct, sq_err, bnB_ok, startE, List.map_cons, List.map_nil, List.length_cons, List.length_nil, Nat.reduceAdd, Nat.reduceSub, List.replicate_succ, List.replicate_zero, List.append_nil, List.cons_append, List.nil_append, if_true, if_false, Bool.false_eq_true, x_v0, x_vs, n_int, n_bl, n_str, n_non, n_lst, n_tup, n_scr, List.getElem?_cons_zero, List.getElem?_cons_succ, List.set_cons_zero, List.set_cons_succ, wipeD, Option.map_some, Bool.not_true, Bool.not_false, P_ok, hq.len, h1]
    refine hG _ _ ?_
    clear hG G
    refine Ce_ret fun G hG => ?_
    simp only [x_partV, bnI_ok, cutD_1, len_en, asSeq_en, asLst_en, lstOf_en, x_callF, x_callFR, liftP_ok, liftR_ok, liftB_bl, liftB_int, callV1, callV2, callV3, callV4, callRV1, callRV2, callRV3, callRV4, p_int, p_bl, p_scr, p_non, p_str, p_lst, p_tup, p_nil, p_cons, p_en, p_ens, Bool.and_self, en_norm, mod_ok, fdiv_lit, mul_lit, add_nat, add_one, lt_int, le_int, gt_int, ge_int, min_int, max_int, neg_int, eq_int, ne_int, eq_bl, ne_bl, len_lst, len_tup, len_scr, Int.reduceLT, Int.reduceLE, Nat.reduceLeDiff, x_bind, x_then, x_seq, x_ret, x_op2, x_op1, x_step, x_nilA, x_consA, x_callB, x_testE, x_toB, x_if, x_retS, x_dropS, x_setS, x_skip, x_andT, x_orT, x_notT, x_ifE, x_andE, x_orE, x_notE, x_chain, x_tupE, x_lstE, x_lstC, x_methL, x_for, x_itSeq, x_asSeq, x_asSeqT, x_asSeqS, x_range1, x_range2, x_enum, x_asLst, x_asg, x_isi, x_slice, x_noPart, x_rev, bnd_ok, bnd_err, thn_ok, thn_err, sq_nx, sq_ret, sq_brk, sq_ct, sq_err, bnB_ok, startE, List.map_cons, List.map_nil, List.length_cons, List.length_nil, Nat.reduceAdd, Nat.reduceSub, List.replicate_succ, List.replicate_zero, List.append_nil, List.cons_append, List.nil_append, if_true, if_false, Bool.false_eq_true, x_v0, x_vs, n_int, n_bl, n_str, n_non, n_lst, n_tup, n_scr, List.getElem?_cons_zero, List.getElem?_cons_succ, List.set_cons_zero, List.set_cons_succ, wipeD, Option.map_some, Bool.not_true, Bool.not_false, P_ok, show (2 : Nat) ≤ 100000 by omega]
    refine hG _ _ ?_
    clear hG G
    rfl
  · exact absurd h h2
theorem r_refused_rows {t : Tb} {ps : List (List Nat)} (h : f_folded [En.e t, En.e ps] = .ok (En.e (fold t (heads ps)))) : f__law_refused [En.e t, En.e ps, .bl true] = .ok (dRows t (heads ps)) := by
  refine out_eq ?_
  unfold b__law_refused
  simp only [startE, List.map_cons, List.map_nil, List.length_cons, List.length_nil, Nat.reduceAdd, Nat.reduceSub, List.replicate_succ, List.replicate_zero, List.append_nil, List.cons_append, List.nil_append]
  refine Cs_set fun G hG => ?_
  simp only [x_partV, bnI_ok, cutD_1, len_en, asSeq_en, asLst_en, lstOf_en, x_callF, x_callFR, liftP_ok, liftR_ok, liftB_bl, liftB_int, callV1, callV2, callV3, callV4, callRV1, callRV2, callRV3, callRV4, p_int, p_bl, p_scr, p_non, p_str, p_lst, p_tup, p_nil, p_cons, p_en, p_ens, Bool.and_self, en_norm, mod_ok, fdiv_lit, mul_lit, add_nat, add_one, lt_int, le_int, gt_int, ge_int, min_int, max_int, neg_int, eq_int, ne_int, eq_bl, ne_bl, len_lst, len_tup, len_scr, Int.reduceLT, Int.reduceLE, Nat.reduceLeDiff, x_bind, x_then, x_seq, x_ret, x_op2, x_op1, x_step, x_nilA, x_consA, x_callB, x_testE, x_toB, x_if, x_retS, x_dropS, x_setS, x_skip, x_andT, x_orT, x_notT, x_ifE, x_andE, x_orE, x_notE, x_chain, x_tupE, x_lstE, x_lstC, x_methL, x_for, x_itSeq, x_asSeq, x_asSeqT, x_asSeqS, x_range1, x_range2, x_enum, x_asLst, x_asg, x_isi, x_slice, x_noPart, x_rev, bnd_ok, bnd_err, thn_ok, thn_err, sq_nx, sq_ret, sq_brk, sq_ct, sq_err, bnB_ok, startE, List.map_cons, List.map_nil, List.length_cons, List.length_nil, Nat.reduceAdd, Nat.reduceSub, List.replicate_succ, List.replicate_zero, List.append_nil, List.cons_append, List.nil_append, if_true, if_false, Bool.false_eq_true, x_v0, x_vs, n_int, n_bl, n_str, n_non, n_lst, n_tup, n_scr, List.getElem?_cons_zero, List.getElem?_cons_succ, List.set_cons_zero, List.set_cons_succ, wipeD, Option.map_some, Bool.not_true, Bool.not_false, P_ok]
  refine hG _ _ ?_
  clear hG G
  simp only [List.set_cons_zero, List.set_cons_succ]
  refine Cs_set fun G hG => ?_
  simp only [x_partV, bnI_ok, cutD_1, len_en, asSeq_en, asLst_en, lstOf_en, x_callF, x_callFR, liftP_ok, liftR_ok, liftB_bl, liftB_int, callV1, callV2, callV3, callV4, callRV1, callRV2, callRV3, callRV4, p_int, p_bl, p_scr, p_non, p_str, p_lst, p_tup, p_nil, p_cons, p_en, p_ens, Bool.and_self, en_norm, mod_ok, fdiv_lit, mul_lit, add_nat, add_one, lt_int, le_int, gt_int, ge_int, min_int, max_int, neg_int, eq_int, ne_int, eq_bl, ne_bl, len_lst, len_tup, len_scr, Int.reduceLT, Int.reduceLE, Nat.reduceLeDiff, x_bind, x_then, x_seq, x_ret, x_op2, x_op1, x_step, x_nilA, x_consA, x_callB, x_testE, x_toB, x_if, x_retS, x_dropS, x_setS, x_skip, x_andT, x_orT, x_notT, x_ifE, x_andE, x_orE, x_notE, x_chain, x_tupE, x_lstE, x_lstC, x_methL, x_for, x_itSeq, x_asSeq, x_asSeqT, x_asSeqS, x_range1, x_range2, x_enum, x_asLst, x_asg, x_isi, x_slice, x_noPart, x_rev, bnd_ok, bnd_err, thn_ok, thn_err, sq_nx, sq_ret, sq_brk, sq_ct, sq_err, bnB_ok, startE, List.map_cons, List.map_nil, List.length_cons, List.length_nil, Nat.reduceAdd, Nat.reduceSub, List.replicate_succ, List.replicate_zero, List.append_nil, List.cons_append, List.nil_append, if_true, if_false, Bool.false_eq_true, x_v0, x_vs, n_int, n_bl, n_str, n_non, n_lst, n_tup, n_scr, List.getElem?_cons_zero, List.getElem?_cons_succ, List.set_cons_zero, List.set_cons_succ, wipeD, Option.map_some, Bool.not_true, Bool.not_false, P_ok]
  refine hG _ _ ?_
  clear hG G
  simp only [List.set_cons_zero, List.set_cons_succ]
  refine Ws_tryAs ?_
  refine Ce_if fun G hG => ?_
  simp only [x_partV, bnI_ok, cutD_1, len_en, asSeq_en, asLst_en, lstOf_en, x_callF, x_callFR, liftP_ok, liftR_ok, liftB_bl, liftB_int, callV1, callV2, callV3, callV4, callRV1, callRV2, callRV3, callRV4, p_int, p_bl, p_scr, p_non, p_str, p_lst, p_tup, p_nil, p_cons, p_en, p_ens, Bool.and_self, en_norm, mod_ok, fdiv_lit, mul_lit, add_nat, add_one, lt_int, le_int, gt_int, ge_int, min_int, max_int, neg_int, eq_int, ne_int, eq_bl, ne_bl, len_lst, len_tup, len_scr, Int.reduceLT, Int.reduceLE, Nat.reduceLeDiff, x_bind, x_then, x_seq, x_ret, x_op2, x_op1, x_step, x_nilA, x_consA, x_callB, x_testE, x_toB, x_if, x_retS, x_dropS, x_setS, x_skip, x_andT, x_orT, x_notT, x_ifE, x_andE, x_orE, x_notE, x_chain, x_tupE, x_lstE, x_lstC, x_methL, x_for, x_itSeq, x_asSeq, x_asSeqT, x_asSeqS, x_range1, x_range2, x_enum, x_asLst, x_asg, x_isi, x_slice, x_noPart, x_rev, bnd_ok, bnd_err, thn_ok, thn_err, sq_nx, sq_ret, sq_brk, sq_ct, sq_err, bnB_ok, startE, List.map_cons, List.map_nil, List.length_cons, List.length_nil, Nat.reduceAdd, Nat.reduceSub, List.replicate_succ, List.replicate_zero, List.append_nil, List.cons_append, List.nil_append, if_true, if_false, Bool.false_eq_true, x_v0, x_vs, n_int, n_bl, n_str, n_non, n_lst, n_tup, n_scr, List.getElem?_cons_zero, List.getElem?_cons_succ, List.set_cons_zero, List.set_cons_succ, wipeD, Option.map_some, Bool.not_true, Bool.not_false, P_ok]
  refine hG _ _ ?_
  clear hG G
  try simp only [if_true, if_false, Bool.false_eq_true]
  refine Ce_set fun G hG => ?_
  simp only [x_partV, bnI_ok, cutD_1, len_en, asSeq_en, asLst_en, lstOf_en, x_callF, x_callFR, liftP_ok, liftR_ok, liftB_bl, liftB_int, callV1, callV2, callV3, callV4, callRV1, callRV2, callRV3, callRV4, p_int, p_bl, p_scr, p_non, p_str, p_lst, p_tup, p_nil, p_cons, p_en, p_ens, Bool.and_self, en_norm, mod_ok, fdiv_lit, mul_lit, add_nat, add_one, lt_int, le_int, gt_int, ge_int, min_int, max_int, neg_int, eq_int, ne_int, eq_bl, ne_bl, len_lst, len_tup, len_scr, Int.reduceLT, Int.reduceLE, Nat.reduceLeDiff, x_bind, x_then, x_seq, x_ret, x_op2, x_op1, x_step, x_nilA, x_consA, x_callB, x_testE, x_toB, x_if, x_retS, x_dropS, x_setS, x_skip, x_andT, x_orT, x_notT, x_ifE, x_andE, x_orE, x_notE, x_chain, x_tupE, x_lstE, x_lstC, x_methL, x_for, x_itSeq, x_asSeq, x_asSeqT, x_asSeqS, x_range1, x_range2, x_enum, x_asLst, x_asg, x_isi, x_slice, x_noPart, x_rev, bnd_ok, bnd_err, thn_ok, thn_err, sq_nx, sq_ret, sq_brk, sq_ct, sq_err, bnB_ok, startE, List.map_cons, List.map_nil, List.length_cons, List.length_nil, Nat.reduceAdd, Nat.reduceSub, List.replicate_succ, List.replicate_zero, List.append_nil, List.cons_append, List.nil_append, if_true, if_false, Bool.false_eq_true, x_v0, x_vs, n_int, n_bl, n_str, n_non, n_lst, n_tup, n_scr, List.getElem?_cons_zero, List.getElem?_cons_succ, List.set_cons_zero, List.set_cons_succ, wipeD, Option.map_some, Bool.not_true, Bool.not_false, P_ok, h]
  refine hG _ _ ?_
  clear hG G
  simp only [List.set_cons_zero, List.set_cons_succ]
  refine Ce_ret fun G hG => ?_
  simp only [x_partV, bnI_ok, cutD_1, len_en, asSeq_en, asLst_en, lstOf_en, x_callF, x_callFR, liftP_ok, liftR_ok, liftB_bl, liftB_int, callV1, callV2, callV3, callV4, callRV1, callRV2, callRV3, callRV4, p_int, p_bl, p_scr, p_non, p_str, p_lst, p_tup, p_nil, p_cons, p_en, p_ens, Bool.and_self, en_norm, mod_ok, fdiv_lit, mul_lit, add_nat, add_one, lt_int, le_int, gt_int, ge_int, min_int, max_int, neg_int, eq_int, ne_int, eq_bl, ne_bl, len_lst, len_tup, len_scr, Int.reduceLT, Int.reduceLE, Nat.reduceLeDiff, x_bind, x_then, x_seq, x_ret, x_op2, x_op1, x_step, x_nilA, x_consA, x_callB, x_testE, x_toB, x_if, x_retS, x_dropS, x_setS, x_skip, x_andT, x_orT, x_notT, x_ifE, x_andE, x_orE, x_notE, x_chain, x_tupE, x_lstE, x_lstC, x_methL, x_for, x_itSeq, x_asSeq, x_asSeqT, x_asSeqS, x_range1, x_range2, x_enum, x_asLst, x_asg, x_isi, x_slice, x_noPart, x_rev, bnd_ok, bnd_err, thn_ok, thn_err, sq_nx, sq_ret, sq_brk, sq_ct, sq_err, bnB_ok, startE, List.map_cons, List.map_nil, List.length_cons, List.length_nil, Nat.reduceAdd, Nat.reduceSub, List.replicate_succ, List.replicate_zero, List.append_nil, List.cons_append, List.nil_append, if_true, if_false, Bool.false_eq_true, x_v0, x_vs, n_int, n_bl, n_str, n_non, n_lst, n_tup, n_scr, List.getElem?_cons_zero, List.getElem?_cons_succ, List.set_cons_zero, List.set_cons_succ, wipeD, Option.map_some, Bool.not_true, Bool.not_false, P_ok, show (2 : Nat) ≤ 100000 by omega]
  refine hG _ _ ?_
  clear hG G
  exact resA_pure _ _ (by simp only [x_partV, bnI_ok, cutD_1, len_en, asSeq_en, asLst_en, lstOf_en, x_callF, x_callFR, liftP_ok, liftR_ok, liftB_bl, liftB_int, callV1, callV2, callV3, callV4, callRV1, callRV2, callRV3, callRV4, p_int, p_bl, p_scr, p_non, p_str, p_lst, p_tup, p_nil, p_cons, p_en, p_ens, Bool.and_self, en_norm, mod_ok, fdiv_lit, mul_lit, add_nat, add_one, lt_int, le_int, gt_int, ge_int, min_int, max_int, neg_int, eq_int, ne_int, eq_bl, ne_bl, len_lst, len_tup, len_scr, Int.reduceLT, Int.reduceLE, Nat.reduceLeDiff, x_bind, x_then, x_seq, x_ret, x_op2, x_op1, x_step, x_nilA, x_consA, x_callB, x_testE, x_toB, x_if, x_retS, x_dropS, x_setS, x_skip, x_andT, x_orT, x_notT, x_ifE, x_andE, x_orE, x_notE, x_chain, x_tupE, x_lstE, x_lstC, x_methL, x_for, x_itSeq, x_asSeq, x_asSeqT, x_asSeqS, x_range1, x_range2, x_enum, x_asLst, x_asg, x_isi, x_slice, x_noPart, x_rev, bnd_ok, bnd_err, thn_ok, thn_err, sq_nx, sq_ret, sq_brk, sq_ct, sq_err, bnB_ok, startE, List.map_cons, List.map_nil, List.length_cons, List.length_nil, Nat.reduceAdd, Nat.reduceSub, List.replicate_succ, List.replicate_zero, List.append_nil, List.cons_append, List.nil_append, if_true, if_false, Bool.false_eq_true, x_v0, x_vs, n_int, n_bl, n_str, n_non, n_lst, n_tup, n_scr, List.getElem?_cons_zero, List.getElem?_cons_succ, List.set_cons_zero, List.set_cons_succ, wipeD, Option.map_some, Bool.not_true, Bool.not_false])
theorem r_due_bad (a b : D) (f : Bool) : f__law_due [a, b, .bl false, .bl f] = .ok dBad := by
  refine out_eq ?_
  unfold b__law_due
  simp only [startE, List.map_cons, List.map_nil, List.length_cons, List.length_nil, Nat.reduceAdd, Nat.reduceSub, List.replicate_succ, List.replicate_zero, List.append_nil, List.cons_append, List.nil_append]
  refine Cs_if fun G hG => ?_
  simp only [x_partV, bnI_ok, cutD_1, len_en, asSeq_en, asLst_en, lstOf_en, x_callF, x_callFR, liftP_ok, liftR_ok, liftB_bl, liftB_int, callV1, callV2, callV3, callV4, callRV1, callRV2, callRV3, callRV4, p_int, p_bl, p_scr, p_non, p_str, p_lst, p_tup, p_nil, p_cons, p_en, p_ens, Bool.and_self, en_norm, mod_ok, fdiv_lit, mul_lit, add_nat, add_one, lt_int, le_int, gt_int, ge_int, min_int, max_int, neg_int, eq_int, ne_int, eq_bl, ne_bl, len_lst, len_tup, len_scr, Int.reduceLT, Int.reduceLE, Nat.reduceLeDiff, x_bind, x_then, x_seq, x_ret, x_op2, x_op1, x_step, x_nilA, x_consA, x_callB, x_testE, x_toB, x_if, x_retS, x_dropS, x_setS, x_skip, x_andT, x_orT, x_notT, x_ifE, x_andE, x_orE, x_notE, x_chain, x_tupE, x_lstE, x_lstC, x_methL, x_for, x_itSeq, x_asSeq, x_asSeqT, x_asSeqS, x_range1, x_range2, x_enum, x_asLst, x_asg, x_isi, x_slice, x_noPart, x_rev, bnd_ok, bnd_err, thn_ok, thn_err, sq_nx, sq_ret, sq_brk, sq_ct, sq_err, bnB_ok, startE, List.map_cons, List.map_nil, List.length_cons, List.length_nil, Nat.reduceAdd, Nat.reduceSub, List.replicate_succ, List.replicate_zero, List.append_nil, List.cons_append, List.nil_append, if_true, if_false, Bool.false_eq_true, x_v0, x_vs, n_int, n_bl, n_str, n_non, n_lst, n_tup, n_scr, List.getElem?_cons_zero, List.getElem?_cons_succ, List.set_cons_zero, List.set_cons_succ, wipeD, Option.map_some, Bool.not_true, Bool.not_false, P_ok]
  refine hG _ _ ?_
  clear hG G
  try simp only [if_true, if_false, Bool.false_eq_true]
  refine Ce_ret fun G hG => ?_
  simp only [x_partV, bnI_ok, cutD_1, len_en, asSeq_en, asLst_en, lstOf_en, x_callF, x_callFR, liftP_ok, liftR_ok, liftB_bl, liftB_int, callV1, callV2, callV3, callV4, callRV1, callRV2, callRV3, callRV4, p_int, p_bl, p_scr, p_non, p_str, p_lst, p_tup, p_nil, p_cons, p_en, p_ens, Bool.and_self, en_norm, mod_ok, fdiv_lit, mul_lit, add_nat, add_one, lt_int, le_int, gt_int, ge_int, min_int, max_int, neg_int, eq_int, ne_int, eq_bl, ne_bl, len_lst, len_tup, len_scr, Int.reduceLT, Int.reduceLE, Nat.reduceLeDiff, x_bind, x_then, x_seq, x_ret, x_op2, x_op1, x_step, x_nilA, x_consA, x_callB, x_testE, x_toB, x_if, x_retS, x_dropS, x_setS, x_skip, x_andT, x_orT, x_notT, x_ifE, x_andE, x_orE, x_notE, x_chain, x_tupE, x_lstE, x_lstC, x_methL, x_for, x_itSeq, x_asSeq, x_asSeqT, x_asSeqS, x_range1, x_range2, x_enum, x_asLst, x_asg, x_isi, x_slice, x_noPart, x_rev, bnd_ok, bnd_err, thn_ok, thn_err, sq_nx, sq_ret, sq_brk, sq_ct, sq_err, bnB_ok, startE, List.map_cons, List.map_nil, List.length_cons, List.length_nil, Nat.reduceAdd, Nat.reduceSub, List.replicate_succ, List.replicate_zero, List.append_nil, List.cons_append, List.nil_append, if_true, if_false, Bool.false_eq_true, x_v0, x_vs, n_int, n_bl, n_str, n_non, n_lst, n_tup, n_scr, List.getElem?_cons_zero, List.getElem?_cons_succ, List.set_cons_zero, List.set_cons_succ, wipeD, Option.map_some, Bool.not_true, Bool.not_false, P_ok, show (2 : Nat) ≤ 100000 by omega, show (5 : Nat) ≤ 100000 by omega]
  refine hG _ _ ?_
  clear hG G
  rfl
theorem r_due_none (a b : D) : f__law_due [a, b, .bl true, .bl false] = .ok dNone := by
  refine out_eq ?_
  unfold b__law_due
  simp only [startE, List.map_cons, List.map_nil, List.length_cons, List.length_nil, Nat.reduceAdd, Nat.reduceSub, List.replicate_succ, List.replicate_zero, List.append_nil, List.cons_append, List.nil_append]
  refine Cs_if fun G hG => ?_
  simp only [x_partV, bnI_ok, cutD_1, len_en, asSeq_en, asLst_en, lstOf_en, x_callF, x_callFR, liftP_ok, liftR_ok, liftB_bl, liftB_int, callV1, callV2, callV3, callV4, callRV1, callRV2, callRV3, callRV4, p_int, p_bl, p_scr, p_non, p_str, p_lst, p_tup, p_nil, p_cons, p_en, p_ens, Bool.and_self, en_norm, mod_ok, fdiv_lit, mul_lit, add_nat, add_one, lt_int, le_int, gt_int, ge_int, min_int, max_int, neg_int, eq_int, ne_int, eq_bl, ne_bl, len_lst, len_tup, len_scr, Int.reduceLT, Int.reduceLE, Nat.reduceLeDiff, x_bind, x_then, x_seq, x_ret, x_op2, x_op1, x_step, x_nilA, x_consA, x_callB, x_testE, x_toB, x_if, x_retS, x_dropS, x_setS, x_skip, x_andT, x_orT, x_notT, x_ifE, x_andE, x_orE, x_notE, x_chain, x_tupE, x_lstE, x_lstC, x_methL, x_for, x_itSeq, x_asSeq, x_asSeqT, x_asSeqS, x_range1, x_range2, x_enum, x_asLst, x_asg, x_isi, x_slice, x_noPart, x_rev, bnd_ok, bnd_err, thn_ok, thn_err, sq_nx, sq_ret, sq_brk, sq_ct, sq_err, bnB_ok, startE, List.map_cons, List.map_nil, List.length_cons, List.length_nil, Nat.reduceAdd, Nat.reduceSub, List.replicate_succ, List.replicate_zero, List.append_nil, List.cons_append, List.nil_append, if_true, if_false, Bool.false_eq_true, x_v0, x_vs, n_int, n_bl, n_str, n_non, n_lst, n_tup, n_scr, List.getElem?_cons_zero, List.getElem?_cons_succ, List.set_cons_zero, List.set_cons_succ, wipeD, Option.map_some, Bool.not_true, Bool.not_false, P_ok]
  refine hG _ _ ?_
  clear hG G
  try simp only [if_true, if_false, Bool.false_eq_true]
  refine W_nx ?_
  refine Cs_if fun G hG => ?_
  simp only [x_partV, bnI_ok, cutD_1, len_en, asSeq_en, asLst_en, lstOf_en, x_callF, x_callFR, liftP_ok, liftR_ok, liftB_bl, liftB_int, callV1, callV2, callV3, callV4, callRV1, callRV2, callRV3, callRV4, p_int, p_bl, p_scr, p_non, p_str, p_lst, p_tup, p_nil, p_cons, p_en, p_ens, Bool.and_self, en_norm, mod_ok, fdiv_lit, mul_lit, add_nat, add_one, lt_int, le_int, gt_int, ge_int, min_int, max_int, neg_int, eq_int, ne_int, eq_bl, ne_bl, len_lst, len_tup, len_scr, Int.reduceLT, Int.reduceLE, Nat.reduceLeDiff, x_bind, x_then, x_seq, x_ret, x_op2, x_op1, x_step, x_nilA, x_consA, x_callB, x_testE, x_toB, x_if, x_retS, x_dropS, x_setS, x_skip, x_andT, x_orT, x_notT, x_ifE, x_andE, x_orE, x_notE, x_chain, x_tupE, x_lstE, x_lstC, x_methL, x_for, x_itSeq, x_asSeq, x_asSeqT, x_asSeqS, x_range1, x_range2, x_enum, x_asLst, x_asg, x_isi, x_slice, x_noPart, x_rev, bnd_ok, bnd_err, thn_ok, thn_err, sq_nx, sq_ret, sq_brk, sq_ct, sq_err, bnB_ok, startE, List.map_cons, List.map_nil, List.length_cons, List.length_nil, Nat.reduceAdd, Nat.reduceSub, List.replicate_succ, List.replicate_zero, List.append_nil, List.cons_append, List.nil_append, if_true, if_false, Bool.false_eq_true, x_v0, x_vs, n_int, n_bl, n_str, n_non, n_lst, n_tup, n_scr, List.getElem?_cons_zero, List.getElem?_cons_succ, List.set_cons_zero, List.set_cons_succ, wipeD, Option.map_some, Bool.not_true, Bool.not_false, P_ok]
  refine hG _ _ ?_
  clear hG G
  try simp only [if_true, if_false, Bool.false_eq_true]
  refine Ce_ret fun G hG => ?_
  simp only [x_partV, bnI_ok, cutD_1, len_en, asSeq_en, asLst_en, lstOf_en, x_callF, x_callFR, liftP_ok, liftR_ok, liftB_bl, liftB_int, callV1, callV2, callV3, callV4, callRV1, callRV2, callRV3, callRV4, p_int, p_bl, p_scr, p_non, p_str, p_lst, p_tup, p_nil, p_cons, p_en, p_ens, Bool.and_self, en_norm, mod_ok, fdiv_lit, mul_lit, add_nat, add_one, lt_int, le_int, gt_int, ge_int, min_int, max_int, neg_int, eq_int, ne_int, eq_bl, ne_bl, len_lst, len_tup, len_scr, Int.reduceLT, Int.reduceLE, Nat.reduceLeDiff, x_bind, x_then, x_seq, x_ret, x_op2, x_op1, x_step, x_nilA, x_consA, x_callB, x_testE, x_toB, x_if, x_retS, x_dropS, x_setS, x_skip, x_andT, x_orT, x_notT, x_ifE, x_andE, x_orE, x_notE, x_chain, x_tupE, x_lstE, x_lstC, x_methL, x_for, x_itSeq, x_asSeq, x_asSeqT, x_asSeqS, x_range1, x_range2, x_enum, x_asLst, x_asg, x_isi, x_slice, x_noPart, x_rev, bnd_ok, bnd_err, thn_ok, thn_err, sq_nx, sq_ret, sq_brk, sq_ct, sq_err, bnB_ok, startE, List.map_cons, List.map_nil, List.length_cons, List.length_nil, Nat.reduceAdd, Nat.reduceSub, List.replicate_succ, List.replicate_zero, List.append_nil, List.cons_append, List.nil_append, if_true, if_false, Bool.false_eq_true, x_v0, x_vs, n_int, n_bl, n_str, n_non, n_lst, n_tup, n_scr, List.getElem?_cons_zero, List.getElem?_cons_succ, List.set_cons_zero, List.set_cons_succ, wipeD, Option.map_some, Bool.not_true, Bool.not_false, P_ok, show (2 : Nat) ≤ 100000 by omega]
  refine hG _ _ ?_
  clear hG G
  rfl
theorem r_due_rows {n : Nat} {t : Tb} {ps : List (List Nat)} (hq : Sq n t) (hl : ps.length ≤ 1000) (G : Good n (ps.map up)) : f__law_due [En.e t, En.e ps, .bl true, .bl true] = .ok (dRows t (heads ps)) := by
  refine out_eq ?_
  unfold b__law_due
  simp only [startE, List.map_cons, List.map_nil, List.length_cons, List.length_nil, Nat.reduceAdd, Nat.reduceSub, List.replicate_succ, List.replicate_zero, List.append_nil, List.cons_append, List.nil_append]
  refine Cs_if fun G hG => ?_
  simp only [x_partV, bnI_ok, cutD_1, len_en, asSeq_en, asLst_en, lstOf_en, x_callF, x_callFR, liftP_ok, liftR_ok, liftB_bl, liftB_int, callV1, callV2, callV3, callV4, callRV1, callRV2, callRV3, callRV4, p_int, p_bl, p_scr, p_non, p_str, p_lst, p_tup, p_nil, p_cons, p_en, p_ens, Bool.and_self, en_norm, mod_ok, fdiv_lit, mul_lit, add_nat, add_one, lt_int, le_int, gt_int, ge_int, min_int, max_int, neg_int, eq_int, ne_int, eq_bl, ne_bl, len_lst, len_tup, len_scr, Int.reduceLT, Int.reduceLE, Nat.reduceLeDiff, x_bind, x_then, x_seq, x_ret, x_op2, x_op1, x_step, x_nilA, x_consA, x_callB, x_testE, x_toB, x_if, x_retS, x_dropS, x_setS, x_skip, x_andT, x_orT, x_notT, x_ifE, x_andE, x_orE, x_notE, x_chain, x_tupE, x_lstE, x_lstC, x_methL, x_for, x_itSeq, x_asSeq, x_asSeqT, x_asSeqS, x_range1, x_range2, x_enum, x_asLst, x_asg, x_isi, x_slice, x_noPart, x_rev, bnd_ok, bnd_err, thn_ok, thn_err, sq_nx, sq_ret, sq_brk, sq_ct, sq_err, bnB_ok, startE, List.map_cons, List.map_nil, List.length_cons, List.length_nil, Nat.reduceAdd, Nat.reduceSub, List.replicate_succ, List.replicate_zero, List.append_nil, List.cons_append, List.nil_append, if_true, if_false, Bool.false_eq_true, x_v0, x_vs, n_int, n_bl, n_str, n_non, n_lst, n_tup, n_scr, List.getElem?_cons_zero, List.getElem?_cons_succ, List.set_cons_zero, List.set_cons_succ, wipeD, Option.map_some, Bool.not_true, Bool.not_false, P_ok]
  refine hG _ _ ?_
  clear hG G
  try simp only [if_true, if_false, Bool.false_eq_true]
  refine W_nx ?_
  refine Cs_if fun G hG => ?_
  simp only [x_partV, bnI_ok, cutD_1, len_en, asSeq_en, asLst_en, lstOf_en, x_callF, x_callFR, liftP_ok, liftR_ok, liftB_bl, liftB_int, callV1, callV2, callV3, callV4, callRV1, callRV2, callRV3, callRV4, p_int, p_bl, p_scr, p_non, p_str, p_lst, p_tup, p_nil, p_cons, p_en, p_ens, Bool.and_self, en_norm, mod_ok, fdiv_lit, mul_lit, add_nat, add_one, lt_int, le_int, gt_int, ge_int, min_int, max_int, neg_int, eq_int, ne_int, eq_bl, ne_bl, len_lst, len_tup, len_scr, Int.reduceLT, Int.reduceLE, Nat.reduceLeDiff, x_bind, x_then, x_seq, x_ret, x_op2, x_op1, x_step, x_nilA, x_consA, x_callB, x_testE, x_toB, x_if, x_retS, x_dropS, x_setS, x_skip, x_andT, x_orT, x_notT, x_ifE, x_andE, x_orE, x_notE, x_chain, x_tupE, x_lstE, x_lstC, x_methL, x_for, x_itSeq, x_asSeq, x_asSeqT, x_asSeqS, x_range1, x_range2, x_enum, x_asLst, x_asg, x_isi, x_slice, x_noPart, x_rev, bnd_ok, bnd_err, thn_ok, thn_err, sq_nx, sq_ret, sq_brk, sq_ct, sq_err, bnB_ok, startE, List.map_cons, List.map_nil, List.length_cons, List.length_nil, Nat.reduceAdd, Nat.reduceSub, List.replicate_succ, List.replicate_zero, List.append_nil, List.cons_append, List.nil_append, if_true, if_false, Bool.false_eq_true, x_v0, x_vs, n_int, n_bl, n_str, n_non, n_lst, n_tup, n_scr, List.getElem?_cons_zero, List.getElem?_cons_succ, List.set_cons_zero, List.set_cons_succ, wipeD, Option.map_some, Bool.not_true, Bool.not_false, P_ok]
  refine hG _ _ ?_
  clear hG G
  try simp only [if_true, if_false, Bool.false_eq_true]
  refine W_nx ?_
  have hlc : lcE (itSeq (vE 1)) (.one 5) [5] yesT (op2 ixG (vE 5) (retO (.int 0))) [some (En.e t), some (En.e ps), some (.bl true), some (.bl true), none, none, none, none] [] = .ok (En.e (heads ps)) [] := by
    rw [lc_all (En.e (α := List Nat)) (fun p => En.e (α := Nat) (p.headD 0)) (xs := ps) (by simp only [x_partV, bnI_ok, cutD_1, len_en, asSeq_en, asLst_en, lstOf_en, x_callF, x_callFR, liftP_ok, liftR_ok, liftB_bl, liftB_int, callV1, callV2, callV3, callV4, callRV1, callRV2, callRV3, callRV4, p_int, p_bl, p_scr, p_non, p_str, p_lst, p_tup, p_nil, p_cons, p_en, p_ens, Bool.and_self, en_norm, mod_ok, fdiv_lit, mul_lit, add_nat, add_one, lt_int, le_int, gt_int, ge_int, min_int, max_int, neg_int, eq_int, ne_int, eq_bl, ne_bl, len_lst, len_tup, len_scr, Int.reduceLT, Int.reduceLE, Nat.reduceLeDiff, x_bind, x_then, x_seq, x_ret, x_op2, x_op1, x_step, x_nilA, x_consA, x_callB, x_testE, x_toB, x_if, x_retS, x_dropS, x_setS, x_skip, x_andT, x_orT, x_notT, x_ifE, x_andE, x_orE, x_notE, x_chain, x_tupE, x_lstE, x_lstC, x_methL, x_for, x_itSeq, x_asSeq, x_asSeqT, x_asSeqS, x_range1, x_range2, x_enum, x_asLst, x_asg, x_isi, x_slice, x_noPart, x_rev, bnd_ok, bnd_err, thn_ok, thn_err, sq_nx, sq_ret, sq_brk, sq_ct, sq_err, bnB_ok, startE, List.map_cons, List.map_nil, List.length_cons, List.length_nil, Nat.reduceAdd, Nat.reduceSub, List.replicate_succ, List.replicate_zero, List.append_nil, List.cons_append, List.nil_append, if_true, if_false, Bool.false_eq_true, x_v0, x_vs, n_int, n_bl, n_str, n_non, n_lst, n_tup, n_scr, List.getElem?_cons_zero, List.getElem?_cons_succ, List.set_cons_zero, List.set_cons_succ, wipeD, Option.map_some, Bool.not_true, Bool.not_false, ]; try exact rfl) (by omega) fun p hp => ⟨_, rfl, by
      simp only [x_partV, bnI_ok, cutD_1, len_en, asSeq_en, asLst_en, lstOf_en, x_callF, x_callFR, liftP_ok, liftR_ok, liftB_bl, liftB_int, callV1, callV2, callV3, callV4, callRV1, callRV2, callRV3, callRV4, p_int, p_bl, p_scr, p_non, p_str, p_lst, p_tup, p_nil, p_cons, p_en, p_ens, Bool.and_self, en_norm, mod_ok, fdiv_lit, mul_lit, add_nat, add_one, lt_int, le_int, gt_int, ge_int, min_int, max_int, neg_int, eq_int, ne_int, eq_bl, ne_bl, len_lst, len_tup, len_scr, Int.reduceLT, Int.reduceLE, Nat.reduceLeDiff, x_bind, x_then, x_seq, x_ret, x_op2, x_op1, x_step, x_nilA, x_consA, x_callB, x_testE, x_toB, x_if, x_retS, x_dropS, x_setS, x_skip, x_andT, x_orT, x_notT, x_ifE, x_andE, x_orE, x_notE, x_chain, x_tupE, x_lstE, x_lstC, x_methL, x_for, x_itSeq, x_asSeq, x_asSeqT, x_asSeqS, x_range1, x_range2, x_enum, x_asLst, x_asg, x_isi, x_slice, x_noPart, x_rev, bnd_ok, bnd_err, thn_ok, thn_err, sq_nx, sq_ret, sq_brk, sq_ct, sq_err, bnB_ok, startE, List.map_cons, List.map_nil, List.length_cons, List.length_nil, Nat.reduceAdd, Nat.reduceSub, List.replicate_succ, List.replicate_zero, List.append_nil, List.cons_append, List.nil_append, if_true, if_false, Bool.false_eq_true, x_v0, x_vs, n_int, n_bl, n_str, n_non, n_lst, n_tup, n_scr, List.getElem?_cons_zero, List.getElem?_cons_succ, List.set_cons_zero, List.set_cons_succ, wipeD, Option.map_some, Bool.not_true, Bool.not_false, ix_head (G.neN p hp)]⟩]
    rw [heads, en_list, List.map_map]; rfl
  refine Cs_set fun G hG => ?_
  simp only [x_partV, bnI_ok, cutD_1, len_en, asSeq_en, asLst_en, lstOf_en, x_callF, x_callFR, liftP_ok, liftR_ok, liftB_bl, liftB_int, callV1, callV2, callV3, callV4, callRV1, callRV2, callRV3, callRV4, p_int, p_bl, p_scr, p_non, p_str, p_lst, p_tup, p_nil, p_cons, p_en, p_ens, Bool.and_self, en_norm, mod_ok, fdiv_lit, mul_lit, add_nat, add_one, lt_int, le_int, gt_int, ge_int, min_int, max_int, neg_int, eq_int, ne_int, eq_bl, ne_bl, len_lst, len_tup, len_scr, Int.reduceLT, Int.reduceLE, Nat.reduceLeDiff, x_bind, x_then, x_seq, x_ret, x_op2, x_op1, x_step, x_nilA, x_consA, x_callB, x_testE, x_toB, x_if, x_retS, x_dropS, x_setS, x_skip, x_andT, x_orT, x_notT, x_ifE, x_andE, x_orE, x_notE, x_chain, x_tupE, x_lstE, x_lstC, x_methL, x_for, x_itSeq, x_asSeq, x_asSeqT, x_asSeqS, x_range1, x_range2, x_enum, x_asLst, x_asg, x_isi, x_slice, x_noPart, x_rev, bnd_ok, bnd_err, thn_ok, thn_err, sq_nx, sq_ret, sq_brk, sq_ct, sq_err, bnB_ok, startE, List.map_cons, List.map_nil, List.length_cons, List.length_nil, Nat.reduceAdd, Nat.reduceSub, List.replicate_succ, List.replicate_zero, List.append_nil, List.cons_append, List.nil_append, if_true, if_false, Bool.false_eq_true, x_v0, x_vs, n_int, n_bl, n_str, n_non, n_lst, n_tup, n_scr, List.getElem?_cons_zero, List.getElem?_cons_succ, List.set_cons_zero, List.set_cons_succ, wipeD, Option.map_some, Bool.not_true, Bool.not_false, P_ok, hlc]
  refine hG _ _ ?_
  clear hG G
  simp only [List.set_cons_zero, List.set_cons_succ]
  have hh := heads_lt G.neN G.rgN
  have hsl : (heads ps).length ≤ 1000 := by rw [heads, List.length_map]; exact hl
  have h2 : lcE (itSeq (vE 4)) (.one 6) [6] yesT (lcE (itSeq (vE 4)) (.one 7) [7] yesT (op2 ixG (op2 ixG (vE 0) (vE 6)) (vE 7))) [some (En.e t), some (En.e ps), some (.bl true), some (.bl true), some (En.e (heads ps)), none, none, none] [] = .ok (En.e (fold t (heads ps))) [] := by
    rw [lc_all (En.e (α := Nat)) (fun a => En.e ((heads ps).map (ent t a))) (xs := heads ps) (S1 := []) (by simp only [x_partV, bnI_ok, cutD_1, len_en, asSeq_en, asLst_en, lstOf_en, x_callF, x_callFR, liftP_ok, liftR_ok, liftB_bl, liftB_int, callV1, callV2, callV3, callV4, callRV1, callRV2, callRV3, callRV4, p_int, p_bl, p_scr, p_non, p_str, p_lst, p_tup, p_nil, p_cons, p_en, p_ens, Bool.and_self, en_norm, mod_ok, fdiv_lit, mul_lit, add_nat, add_one, lt_int, le_int, gt_int, ge_int, min_int, max_int, neg_int, eq_int, ne_int, eq_bl, ne_bl, len_lst, len_tup, len_scr, Int.reduceLT, Int.reduceLE, Nat.reduceLeDiff, x_bind, x_then, x_seq, x_ret, x_op2, x_op1, x_step, x_nilA, x_consA, x_callB, x_testE, x_toB, x_if, x_retS, x_dropS, x_setS, x_skip, x_andT, x_orT, x_notT, x_ifE, x_andE, x_orE, x_notE, x_chain, x_tupE, x_lstE, x_lstC, x_methL, x_for, x_itSeq, x_asSeq, x_asSeqT, x_asSeqS, x_range1, x_range2, x_enum, x_asLst, x_asg, x_isi, x_slice, x_noPart, x_rev, bnd_ok, bnd_err, thn_ok, thn_err, sq_nx, sq_ret, sq_brk, sq_ct, sq_err, bnB_ok, startE, List.map_cons, List.map_nil, List.length_cons, List.length_nil, Nat.reduceAdd, Nat.reduceSub, List.replicate_succ, List.replicate_zero, List.append_nil, List.cons_append, List.nil_append, if_true, if_false, Bool.false_eq_true, x_v0, x_vs, n_int, n_bl, n_str, n_non, n_lst, n_tup, n_scr, List.getElem?_cons_zero, List.getElem?_cons_succ, List.set_cons_zero, List.set_cons_succ, wipeD, Option.map_some, Bool.not_true, Bool.not_false, ]; try exact rfl) (by omega) fun a ha => ⟨_, rfl, by
      rw [lc_all (En.e (α := Nat)) (fun b => D.bl (ent t a b)) (xs := heads ps) (S1 := []) (by simp only [x_partV, bnI_ok, cutD_1, len_en, asSeq_en, asLst_en, lstOf_en, x_callF, x_callFR, liftP_ok, liftR_ok, liftB_bl, liftB_int, callV1, callV2, callV3, callV4, callRV1, callRV2, callRV3, callRV4, p_int, p_bl, p_scr, p_non, p_str, p_lst, p_tup, p_nil, p_cons, p_en, p_ens, Bool.and_self, en_norm, mod_ok, fdiv_lit, mul_lit, add_nat, add_one, lt_int, le_int, gt_int, ge_int, min_int, max_int, neg_int, eq_int, ne_int, eq_bl, ne_bl, len_lst, len_tup, len_scr, Int.reduceLT, Int.reduceLE, Nat.reduceLeDiff, x_bind, x_then, x_seq, x_ret, x_op2, x_op1, x_step, x_nilA, x_consA, x_callB, x_testE, x_toB, x_if, x_retS, x_dropS, x_setS, x_skip, x_andT, x_orT, x_notT, x_ifE, x_andE, x_orE, x_notE, x_chain, x_tupE, x_lstE, x_lstC, x_methL, x_for, x_itSeq, x_asSeq, x_asSeqT, x_asSeqS, x_range1, x_range2, x_enum, x_asLst, x_asg, x_isi, x_slice, x_noPart, x_rev, bnd_ok, bnd_err, thn_ok, thn_err, sq_nx, sq_ret, sq_brk, sq_ct, sq_err, bnB_ok, startE, List.map_cons, List.map_nil, List.length_cons, List.length_nil, Nat.reduceAdd, Nat.reduceSub, List.replicate_succ, List.replicate_zero, List.append_nil, List.cons_append, List.nil_append, if_true, if_false, Bool.false_eq_true, x_v0, x_vs, n_int, n_bl, n_str, n_non, n_lst, n_tup, n_scr, List.getElem?_cons_zero, List.getElem?_cons_succ, List.set_cons_zero, List.set_cons_succ, wipeD, Option.map_some, Bool.not_true, Bool.not_false, ]; try exact rfl) (by omega) fun b hb => ⟨_, rfl, by
        simp only [x_partV, bnI_ok, cutD_1, len_en, asSeq_en, asLst_en, lstOf_en, x_callF, x_callFR, liftP_ok, liftR_ok, liftB_bl, liftB_int, callV1, callV2, callV3, callV4, callRV1, callRV2, callRV3, callRV4, p_int, p_bl, p_scr, p_non, p_str, p_lst, p_tup, p_nil, p_cons, p_en, p_ens, Bool.and_self, en_norm, mod_ok, fdiv_lit, mul_lit, add_nat, add_one, lt_int, le_int, gt_int, ge_int, min_int, max_int, neg_int, eq_int, ne_int, eq_bl, ne_bl, len_lst, len_tup, len_scr, Int.reduceLT, Int.reduceLE, Nat.reduceLeDiff, x_bind, x_then, x_seq, x_ret, x_op2, x_op1, x_step, x_nilA, x_consA, x_callB, x_testE, x_toB, x_if, x_retS, x_dropS, x_setS, x_skip, x_andT, x_orT, x_notT, x_ifE, x_andE, x_orE, x_notE, x_chain, x_tupE, x_lstE, x_lstC, x_methL, x_for, x_itSeq, x_asSeq, x_asSeqT, x_asSeqS, x_range1, x_range2, x_enum, x_asLst, x_asg, x_isi, x_slice, x_noPart, x_rev, bnd_ok, bnd_err, thn_ok, thn_err, sq_nx, sq_ret, sq_brk, sq_ct, sq_err, bnB_ok, startE, List.map_cons, List.map_nil, List.length_cons, List.length_nil, Nat.reduceAdd, Nat.reduceSub, List.replicate_succ, List.replicate_zero, List.append_nil, List.cons_append, List.nil_append, if_true, if_false, Bool.false_eq_true, x_v0, x_vs, n_int, n_bl, n_str, n_non, n_lst, n_tup, n_scr, List.getElem?_cons_zero, List.getElem?_cons_succ, List.set_cons_zero, List.set_cons_succ, wipeD, Option.map_some, Bool.not_true, Bool.not_false, en_nat, ix_row hq (hh _ ha), ix_ent hq (hh _ ha) (hh b hb)]⟩]
      rw [en_list, List.map_map]; rfl⟩]
    rw [fold, en_list, List.map_map]; rfl
  refine Ce_ret fun G hG => ?_
  simp only [x_partV, bnI_ok, cutD_1, len_en, asSeq_en, asLst_en, lstOf_en, x_callF, x_callFR, liftP_ok, liftR_ok, liftB_bl, liftB_int, callV1, callV2, callV3, callV4, callRV1, callRV2, callRV3, callRV4, p_int, p_bl, p_scr, p_non, p_str, p_lst, p_tup, p_nil, p_cons, p_en, p_ens, Bool.and_self, en_norm, mod_ok, fdiv_lit, mul_lit, add_nat, add_one, lt_int, le_int, gt_int, ge_int, min_int, max_int, neg_int, eq_int, ne_int, eq_bl, ne_bl, len_lst, len_tup, len_scr, Int.reduceLT, Int.reduceLE, Nat.reduceLeDiff, x_bind, x_then, x_seq, x_ret, x_op2, x_op1, x_step, x_nilA, x_consA, x_callB, x_testE, x_toB, x_if, x_retS, x_dropS, x_setS, x_skip, x_andT, x_orT, x_notT, x_ifE, x_andE, x_orE, x_notE, x_chain, x_tupE, x_lstE, x_lstC, x_methL, x_for, x_itSeq, x_asSeq, x_asSeqT, x_asSeqS, x_range1, x_range2, x_enum, x_asLst, x_asg, x_isi, x_slice, x_noPart, x_rev, bnd_ok, bnd_err, thn_ok, thn_err, sq_nx, sq_ret, sq_brk, sq_ct, sq_err, bnB_ok, startE, List.map_cons, List.map_nil, List.length_cons, List.length_nil, Nat.reduceAdd, Nat.reduceSub, List.replicate_succ, List.replicate_zero, List.append_nil, List.cons_append, List.nil_append, if_true, if_false, Bool.false_eq_true, x_v0, x_vs, n_int, n_bl, n_str, n_non, n_lst, n_tup, n_scr, List.getElem?_cons_zero, List.getElem?_cons_succ, List.set_cons_zero, List.set_cons_succ, wipeD, Option.map_some, Bool.not_true, Bool.not_false, P_ok, h2, show (2 : Nat) ≤ 100000 by omega]
  refine hG _ _ ?_
  clear hG G
  exact resA_pure _ _ (by simp only [x_partV, bnI_ok, cutD_1, len_en, asSeq_en, asLst_en, lstOf_en, x_callF, x_callFR, liftP_ok, liftR_ok, liftB_bl, liftB_int, callV1, callV2, callV3, callV4, callRV1, callRV2, callRV3, callRV4, p_int, p_bl, p_scr, p_non, p_str, p_lst, p_tup, p_nil, p_cons, p_en, p_ens, Bool.and_self, en_norm, mod_ok, fdiv_lit, mul_lit, add_nat, add_one, lt_int, le_int, gt_int, ge_int, min_int, max_int, neg_int, eq_int, ne_int, eq_bl, ne_bl, len_lst, len_tup, len_scr, Int.reduceLT, Int.reduceLE, Nat.reduceLeDiff, x_bind, x_then, x_seq, x_ret, x_op2, x_op1, x_step, x_nilA, x_consA, x_callB, x_testE, x_toB, x_if, x_retS, x_dropS, x_setS, x_skip, x_andT, x_orT, x_notT, x_ifE, x_andE, x_orE, x_notE, x_chain, x_tupE, x_lstE, x_lstC, x_methL, x_for, x_itSeq, x_asSeq, x_asSeqT, x_asSeqS, x_range1, x_range2, x_enum, x_asLst, x_asg, x_isi, x_slice, x_noPart, x_rev, bnd_ok, bnd_err, thn_ok, thn_err, sq_nx, sq_ret, sq_brk, sq_ct, sq_err, bnB_ok, startE, List.map_cons, List.map_nil, List.length_cons, List.length_nil, Nat.reduceAdd, Nat.reduceSub, List.replicate_succ, List.replicate_zero, List.append_nil, List.cons_append, List.nil_append, if_true, if_false, Bool.false_eq_true, x_v0, x_vs, n_int, n_bl, n_str, n_non, n_lst, n_tup, n_scr, List.getElem?_cons_zero, List.getElem?_cons_succ, List.set_cons_zero, List.set_cons_succ, wipeD, Option.map_some, Bool.not_true, Bool.not_false])
end K75


namespace K75
open Aw
abbrev icell (p : List Int) : Cell := .lst (p.map En.e)
/-- an item of a list of lists: a cell of its own, or plain -/
def ItemOk (S : Store) (d : D) (x : List Int) : Prop := (∃ i, d = .loc i ∧ S[i]? = some (icell x)) ∨ d = En.e x
def Items (S : Store) : List D → List (List Int) → Prop
  | [], [] => True
  | d :: ds, x :: xs => ItemOk S d x ∧ Items S ds xs
  | _, _ => False
theorem item_res {S : Store} {d : D} {x : List Int} (k : Nat) (h : ItemOk S d x) : resD (resLoc S (k + 1)) d = some (En.e x) := by
  rcases h with ⟨i, rfl, h⟩ | rfl
  · show resLoc S (k + 1) i = _
    rw [resLoc_lst k h, resL_pure _ _ (p_ens x)]; rfl
  · exact resD_pure _ _ (En.pu x)
theorem items_res {S : Store} (k : Nat) : ∀ {ds : List D} {xs : List (List Int)}, Items S ds xs → resL (resLoc S (k + 1)) ds = some (xs.map En.e)
  | [], [], _ => rfl
  | d :: ds, x :: xs, h => by simp only [resL, item_res k h.1, items_res k h.2, List.map_cons]
  | [], _ :: _, h => h.elim
  | _ :: _, [], h => h.elim
theorem Items.len {S : Store} : ∀ {ds : List D} {xs : List (List Int)}, Items S ds xs → ds.length = xs.length
  | [], [], _ => rfl
  | d :: ds, x :: xs, h => by simp [Items.len h.2]
  | [], _ :: _, h => h.elim
  | _ :: _, [], h => h.elim
theorem Items.get {S : Store} : ∀ {ds : List D} {xs : List (List Int)} {i : Nat} {x : List Int}, Items S ds xs → xs[i]? = some x → ∃ d, ds[i]? = some d ∧ ItemOk S d x
  | [], [], i, x, _, h => by simp at h
  | d :: ds, y :: xs, 0, x, h, e => by simp at e; subst e; exact ⟨d, rfl, h.1⟩
  | d :: ds, y :: xs, i + 1, x, h, e => by
    obtain ⟨d', h1, h2⟩ := Items.get (i := i) h.2 (by simpa using e)
    exact ⟨d', by simpa using h1, h2⟩
  | [], _ :: _, _, _, h, _ => h.elim
  | _ :: _, [], _, _, h, _ => h.elim
theorem items_of {S : Store} : ∀ {ds : List D} {xs : List (List Int)}, ds.length = xs.length → (∀ (i : Nat) (d : D) (x : List Int), ds[i]? = some d → xs[i]? = some x → ItemOk S d x) → Items S ds xs
  | [], [], _, _ => True.intro
  | d :: ds, x :: xs, hl, h => ⟨h 0 d x rfl rfl, items_of (by simpa using hl) fun i d' x' h1 h2 => h (i + 1) d' x' (by simpa using h1) (by simpa using h2)⟩
  | [], _ :: _, hl, _ => by simp at hl
  | _ :: _, [], hl, _ => by simp at hl
theorem Items.app {S : Store} {ds es : List D} {xs ys : List (List Int)} (h : Items S ds xs) (h2 : Items S es ys) : Items S (ds ++ es) (xs ++ ys) := by
  induction ds generalizing xs with
  | nil => cases xs with
    | nil => exact h2
    | cons x xs => exact h.elim
  | cons d ds ih => cases xs with
    | nil => exact h.elim
    | cons x xs => exact ⟨h.1, ih h.2⟩
theorem Items.take {S : Store} : ∀ {ds : List D} {xs : List (List Int)} (k : Nat), Items S ds xs → Items S (ds.take k) (xs.take k)
  | _, _, 0, _ => True.intro
  | [], [], k + 1, _ => True.intro
  | d :: ds, x :: xs, k + 1, h => ⟨h.1, Items.take k h.2⟩
  | [], _ :: _, _, h => h.elim
  | _ :: _, [], _, h => h.elim
theorem Items.drop {S : Store} : ∀ {ds : List D} {xs : List (List Int)} (k : Nat), Items S ds xs → Items S (ds.drop k) (xs.drop k)
  | _, _, 0, h => h
  | [], [], k + 1, _ => True.intro
  | d :: ds, x :: xs, k + 1, h => Items.drop k h.2
  | [], _ :: _, _, h => h.elim
  | _ :: _, [], _, h => h.elim
/-- the cells 0 .. m - 1 hold the lists, the cell m their names -/
abbrev nest (P : List (List Int)) : Store := P.map icell ++ [.lst ((List.range P.length).map D.loc)]
theorem nest_at {P : List (List Int)} {i : Nat} {x : List Int} (h : P[i]? = some x) : (nest P)[i]? = some (icell x) := by
  have hi := (List.getElem?_eq_some_iff.mp h).1
  rw [List.getElem?_append_left (by simpa using hi), List.getElem?_map, h]; rfl
theorem nest_top (P : List (List Int)) : (nest P)[P.length]? = some (.lst ((List.range P.length).map D.loc)) := by
  rw [List.getElem?_append_right (by simp)]; simp
theorem nest_items (P : List (List Int)) : Items (nest P) ((List.range P.length).map D.loc) P := by
  refine items_of (by simp) fun i d x h1 h2 => ?_
  have hi := (List.getElem?_eq_some_iff.mp h2).1
  rw [List.getElem?_map, List.getElem?_range hi] at h1
  cases h1
  exact .inl ⟨i, rfl, nest_at h2⟩
theorem nest_set {P : List (List Int)} {i : Nat} (hi : i < P.length) (x : List Int) : (nest P).set i (icell x) = nest (P.set i x) := by
  unfold nest
  rw [List.set_append_left _ _ (by simpa using hi), List.map_set, List.length_set]
theorem nest_res {S : Store} {F : Nat} {ds : List D} {xs : List (List Int)} (h : S[F]? = some (.lst ds)) (hi : Items S ds xs) : resA S (.loc F) = some (En.e xs) := by
  rw [resA_loc, resLoc_lst 3 h, items_res 2 hi]; rfl
def Fits (ps : List (List Int)) : Prop := ps.length ≤ 100 ∧ ∀ p ∈ ps, p.length ≤ 100
theorem ix_nest {P : List (List Int)} {i : Nat} (hi : i < P.length) : ixG (nest P) (.loc P.length) (.int (i : Nat)) = some (.loc i, nest P) := by
  rw [ix_loc (nest_top P) (k := i) (d := .loc i) (by rw [List.getElem?_map, List.getElem?_range hi]; rfl), norm_loc (nest_at (List.getElem?_eq_getElem hi))]
theorem r_any (c : Int) (m : Nat) : ∃ ps : List (List Int), f__law_any [.int c, .int (m : Nat)] = .ok (En.e ps) ∧ Fits ps := by
  suffices h : ∃ d, f__law_any [.int c, .int (m : Nat)] = .ok d ∧ ∃ ps : List (List Int), d = En.e ps ∧ Fits ps by
    obtain ⟨d, h1, ps, rfl, h2⟩ := h
    exact ⟨ps, h1, h2⟩
  refine out_W ?_
  unfold b__law_any
  simp only [startE, List.map_cons, List.map_nil, List.length_cons, List.length_nil, Nat.reduceAdd, Nat.reduceSub, List.replicate_succ, List.replicate_zero, List.append_nil, List.cons_append, List.nil_append]
  have q0 := Int.emod_nonneg c (show (5 : Int) ≠ 0 by omega)
  have q1 := Int.emod_lt_of_pos c (show (0 : Int) < 5 by omega)
  obtain ⟨u, hu⟩ : ∃ u : Nat, c % 5 = (u : Nat) := ⟨_, (Int.toNat_of_nonneg q0).symm⟩
  have hul : u < 5 := by omega
  have u62 : u < 2 ^ 62 := Nat.lt_of_lt_of_le hul (by decide)
  have h0 : lcC (itRange1 (consA (op2 modI (vE 0) (retO (.int 5))) nilA)) (.one 3) [3] yesT (lstC nilA) [some (.int c), some (.int (m : Nat)), none, none] [] = .ok (.loc u) (nest (List.replicate u [])) := by
    rw [lcC_new (S0 := []) (fun i : Nat => D.int (i : Nat)) (fun _ => icell []) (xs := List.range u) (by simp only [x_partV, bnI_ok, cutD_1, len_en, asSeq_en, asLst_en, lstOf_en, x_callF, x_callFR, liftP_ok, liftR_ok, liftB_bl, liftB_int, callV1, callV2, callV3, callV4, callRV1, callRV2, callRV3, callRV4, p_int, p_bl, p_scr, p_non, p_str, p_lst, p_tup, p_nil, p_cons, p_en, p_ens, Bool.and_self, en_norm, mod_ok, fdiv_lit, mul_lit, add_nat, add_one, lt_int, le_int, gt_int, ge_int, min_int, max_int, neg_int, eq_int, ne_int, eq_bl, ne_bl, len_lst, len_tup, len_scr, Int.reduceLT, Int.reduceLE, Nat.reduceLeDiff, x_bind, x_then, x_seq, x_ret, x_op2, x_op1, x_step, x_nilA, x_consA, x_callB, x_testE, x_toB, x_if, x_retS, x_dropS, x_setS, x_skip, x_andT, x_orT, x_notT, x_ifE, x_andE, x_orE, x_notE, x_chain, x_tupE, x_lstE, x_lstC, x_methL, x_for, x_itSeq, x_asSeq, x_asSeqT, x_asSeqS, x_range1, x_range2, x_enum, x_asLst, x_asg, x_isi, x_slice, x_noPart, x_rev, bnd_ok, bnd_err, thn_ok, thn_err, sq_nx, sq_ret, sq_brk, sq_ct, sq_err, bnB_ok, startE, List.map_cons, List.map_nil, List.length_cons, List.length_nil, Nat.reduceAdd, Nat.reduceSub, List.replicate_succ, List.replicate_zero, List.append_nil, List.cons_append, List.nil_append, if_true, if_false, Bool.false_eq_true, x_v0, x_vs, n_int, n_bl, n_str, n_non, n_lst, n_tup, n_scr, List.getElem?_cons_zero, List.getElem?_cons_succ, List.set_cons_zero, List.set_cons_succ, wipeD, Option.map_some, Bool.not_true, Bool.not_false, hu, x_rangeI1 u62]; rfl) (by rw [List.length_range]; omega) fun i hi S1 => ⟨_, rfl, by simp only [x_partV, bnI_ok, cutD_1, len_en, asSeq_en, asLst_en, lstOf_en, x_callF, x_callFR, liftP_ok, liftR_ok, liftB_bl, liftB_int, callV1, callV2, callV3, callV4, callRV1, callRV2, callRV3, callRV4, p_int, p_bl, p_scr, p_non, p_str, p_lst, p_tup, p_nil, p_cons, p_en, p_ens, Bool.and_self, en_norm, mod_ok, fdiv_lit, mul_lit, add_nat, add_one, lt_int, le_int, gt_int, ge_int, min_int, max_int, neg_int, eq_int, ne_int, eq_bl, ne_bl, len_lst, len_tup, len_scr, Int.reduceLT, Int.reduceLE, Nat.reduceLeDiff, x_bind, x_then, x_seq, x_ret, x_op2, x_op1, x_step, x_nilA, x_consA, x_callB, x_testE, x_toB, x_if, x_retS, x_dropS, x_setS, x_skip, x_andT, x_orT, x_notT, x_ifE, x_andE, x_orE, x_notE, x_chain, x_tupE, x_lstE, x_lstC, x_methL, x_for, x_itSeq, x_asSeq, x_asSeqT, x_asSeqS, x_range1, x_range2, x_enum, x_asLst, x_asg, x_isi, x_slice, x_noPart, x_rev, bnd_ok, bnd_err, thn_ok, thn_err, sq_nx, sq_ret, sq_brk, sq_ct, sq_err, bnB_ok, startE, List.map_cons, List.map_nil, List.length_cons, List.length_nil, Nat.reduceAdd, Nat.reduceSub, List.replicate_succ, List.replicate_zero, List.append_nil, List.cons_append, List.nil_append, if_true, if_false, Bool.false_eq_true, x_v0, x_vs, n_int, n_bl, n_str, n_non, n_lst, n_tup, n_scr, List.getElem?_cons_zero, List.getElem?_cons_succ, List.set_cons_zero, List.set_cons_succ, wipeD, Option.map_some, Bool.not_true, Bool.not_false, List.length_nil, Nat.zero_add]; rfl⟩]
    simp [nest, List.map_const']
  refine Cs_set fun G hG => ?_
  simp only [x_partV, bnI_ok, cutD_1, len_en, asSeq_en, asLst_en, lstOf_en, x_callF, x_callFR, liftP_ok, liftR_ok, liftB_bl, liftB_int, callV1, callV2, callV3, callV4, callRV1, callRV2, callRV3, callRV4, p_int, p_bl, p_scr, p_non, p_str, p_lst, p_tup, p_nil, p_cons, p_en, p_ens, Bool.and_self, en_norm, mod_ok, fdiv_lit, mul_lit, add_nat, add_one, lt_int, le_int, gt_int, ge_int, min_int, max_int, neg_int, eq_int, ne_int, eq_bl, ne_bl, len_lst, len_tup, len_scr, Int.reduceLT, Int.reduceLE, Nat.reduceLeDiff, x_bind, x_then, x_seq, x_ret, x_op2, x_op1, x_step, x_nilA, x_consA, x_callB, x_testE, x_toB, x_if, x_retS, x_dropS, x_setS, x_skip, x_andT, x_orT, x_notT, x_ifE, x_andE, x_orE, x_notE, x_chain, x_tupE, x_lstE, x_lstC, x_methL, x_for, x_itSeq, x_asSeq, x_asSeqT, x_asSeqS, x_range1, x_range2, x_enum, x_asLst, x_asg, x_isi, x_slice, x_noPart, x_rev, bnd_ok, bnd_err, thn_ok, thn_err, sq_nx, sq_ret, sq_brk, sq_ct, sq_err, bnB_ok, startE, List.map_cons, List.map_nil, List.length_cons, List.length_nil, Nat.reduceAdd, Nat.reduceSub, List.replicate_succ, List.replicate_zero, List.append_nil, List.cons_append, List.nil_append, if_true, if_false, Bool.false_eq_true, x_v0, x_vs, n_int, n_bl, n_str, n_non, n_lst, n_tup, n_scr, List.getElem?_cons_zero, List.getElem?_cons_succ, List.set_cons_zero, List.set_cons_succ, wipeD, Option.map_some, Bool.not_true, Bool.not_false, P_ok, h0]
  refine hG _ _ ?_
  clear hG G
  simp only [List.set_cons_zero, List.set_cons_succ]
  refine Cs_set fun G hG => ?_
  simp only [x_partV, bnI_ok, cutD_1, len_en, asSeq_en, asLst_en, lstOf_en, x_callF, x_callFR, liftP_ok, liftR_ok, liftB_bl, liftB_int, callV1, callV2, callV3, callV4, callRV1, callRV2, callRV3, callRV4, p_int, p_bl, p_scr, p_non, p_str, p_lst, p_tup, p_nil, p_cons, p_en, p_ens, Bool.and_self, en_norm, mod_ok, fdiv_lit, mul_lit, add_nat, add_one, lt_int, le_int, gt_int, ge_int, min_int, max_int, neg_int, eq_int, ne_int, eq_bl, ne_bl, len_lst, len_tup, len_scr, Int.reduceLT, Int.reduceLE, Nat.reduceLeDiff, x_bind, x_then, x_seq, x_ret, x_op2, x_op1, x_step, x_nilA, x_consA, x_callB, x_testE, x_toB, x_if, x_retS, x_dropS, x_setS, x_skip, x_andT, x_orT, x_notT, x_ifE, x_andE, x_orE, x_notE, x_chain, x_tupE, x_lstE, x_lstC, x_methL, x_for, x_itSeq, x_asSeq, x_asSeqT, x_asSeqS, x_range1, x_range2, x_enum, x_asLst, x_asg, x_isi, x_slice, x_noPart, x_rev, bnd_ok, bnd_err, thn_ok, thn_err, sq_nx, sq_ret, sq_brk, sq_ct, sq_err, bnB_ok, startE, List.map_cons, List.map_nil, List.length_cons, List.length_nil, Nat.reduceAdd, Nat.reduceSub, List.replicate_succ, List.replicate_zero, List.append_nil, List.cons_append, List.nil_append, if_true, if_false, Bool.false_eq_true, x_v0, x_vs, n_int, n_bl, n_str, n_non, n_lst, n_tup, n_scr, List.getElem?_cons_zero, List.getElem?_cons_succ, List.set_cons_zero, List.set_cons_succ, wipeD, Option.map_some, Bool.not_true, Bool.not_false, P_ok]
  refine hG _ _ ?_
  clear hG G
  simp only [List.set_cons_zero, List.set_cons_succ]
  have q2 := Int.emod_nonneg (c / 5) (show (13 : Int) ≠ 0 by omega)
  have q3 := Int.emod_lt_of_pos (c / 5) (show (0 : Int) < 13 by omega)
  obtain ⟨v, hv⟩ : ∃ v : Nat, c / 5 % 13 = (v : Nat) := ⟨_, (Int.toNat_of_nonneg q2).symm⟩
  have hvl : v < 13 := by omega
  have v62 : v < 2 ^ 62 := Nat.lt_of_lt_of_le hvl (by decide)
  refine Cs_for fun G hG => ?_
  simp only [x_partV, bnI_ok, cutD_1, len_en, asSeq_en, asLst_en, lstOf_en, x_callF, x_callFR, liftP_ok, liftR_ok, liftB_bl, liftB_int, callV1, callV2, callV3, callV4, callRV1, callRV2, callRV3, callRV4, p_int, p_bl, p_scr, p_non, p_str, p_lst, p_tup, p_nil, p_cons, p_en, p_ens, Bool.and_self, en_norm, mod_ok, fdiv_lit, mul_lit, add_nat, add_one, lt_int, le_int, gt_int, ge_int, min_int, max_int, neg_int, eq_int, ne_int, eq_bl, ne_bl, len_lst, len_tup, len_scr, Int.reduceLT, Int.reduceLE, Nat.reduceLeDiff, x_bind, x_then, x_seq, x_ret, x_op2, x_op1, x_step, x_nilA, x_consA, x_callB, x_testE, x_toB, x_if, x_retS, x_dropS, x_setS, x_skip, x_andT, x_orT, x_notT, x_ifE, x_andE, x_orE, x_notE, x_chain, x_tupE, x_lstE, x_lstC, x_methL, x_for, x_itSeq, x_asSeq, x_asSeqT, x_asSeqS, x_range1, x_range2, x_enum, x_asLst, x_asg, x_isi, x_slice, x_noPart, x_rev, bnd_ok, bnd_err, thn_ok, thn_err, sq_nx, sq_ret, sq_brk, sq_ct, sq_err, bnB_ok, startE, List.map_cons, List.map_nil, List.length_cons, List.length_nil, Nat.reduceAdd, Nat.reduceSub, List.replicate_succ, List.replicate_zero, List.append_nil, List.cons_append, List.nil_append, if_true, if_false, Bool.false_eq_true, x_v0, x_vs, n_int, n_bl, n_str, n_non, n_lst, n_tup, n_scr, List.getElem?_cons_zero, List.getElem?_cons_succ, List.set_cons_zero, List.set_cons_succ, wipeD, Option.map_some, Bool.not_true, Bool.not_false, P_ok, hv, x_rangeI1 v62]
  refine hG _ _ ?_
  clear hG G
  refine W_for (fun i r S => ∃ (c' : Int) (P : List (List Int)) (o3 : Option D), r = [some (.int c'), some (.int (m : Nat)), some (.loc u), o3] ∧ S = nest P ∧ P.length = u ∧ ∀ p ∈ P, p.length ≤ i) ⟨_, _, none, rfl, rfl, by simp, fun p hp => by rw [(List.mem_replicate.mp hp).2]; exact Nat.le_refl 0⟩ ?_ ?_
  · rintro i d r S hd ⟨c', P, o3, rfl, rfl, hP, hb⟩
    obtain ⟨hin, rfl⟩ := upto_at hd
    refine ⟨_, rfl, ?_⟩
    simp only [List.set_cons_zero, List.set_cons_succ]
    refine Cs_set fun G hG => ?_
    simp only [x_partV, bnI_ok, cutD_1, len_en, asSeq_en, asLst_en, lstOf_en, x_callF, x_callFR, liftP_ok, liftR_ok, liftB_bl, liftB_int, callV1, callV2, callV3, callV4, callRV1, callRV2, callRV3, callRV4, p_int, p_bl, p_scr, p_non, p_str, p_lst, p_tup, p_nil, p_cons, p_en, p_ens, Bool.and_self, en_norm, mod_ok, fdiv_lit, mul_lit, add_nat, add_one, lt_int, le_int, gt_int, ge_int, min_int, max_int, neg_int, eq_int, ne_int, eq_bl, ne_bl, len_lst, len_tup, len_scr, Int.reduceLT, Int.reduceLE, Nat.reduceLeDiff, x_bind, x_then, x_seq, x_ret, x_op2, x_op1, x_step, x_nilA, x_consA, x_callB, x_testE, x_toB, x_if, x_retS, x_dropS, x_setS, x_skip, x_andT, x_orT, x_notT, x_ifE, x_andE, x_orE, x_notE, x_chain, x_tupE, x_lstE, x_lstC, x_methL, x_for, x_itSeq, x_asSeq, x_asSeqT, x_asSeqS, x_range1, x_range2, x_enum, x_asLst, x_asg, x_isi, x_slice, x_noPart, x_rev, bnd_ok, bnd_err, thn_ok, thn_err, sq_nx, sq_ret, sq_brk, sq_ct, sq_err, bnB_ok, startE, List.map_cons, List.map_nil, List.length_cons, List.length_nil, Nat.reduceAdd, Nat.reduceSub, List.replicate_succ, List.replicate_zero, List.append_nil, List.cons_append, List.nil_append, if_true, if_false, Bool.false_eq_true, x_v0, x_vs, n_int, n_bl, n_str, n_non, n_lst, n_tup, n_scr, List.getElem?_cons_zero, List.getElem?_cons_succ, List.set_cons_zero, List.set_cons_succ, wipeD, Option.map_some, Bool.not_true, Bool.not_false, P_ok]
    refine hG _ _ ?_
    clear hG G
    simp only [List.set_cons_zero, List.set_cons_succ]
    have nt : norm (nest P) (.loc u) = .loc u := norm_loc (by rw [← hP]; exact nest_top P)
    have ln : lenG (nest P) [.loc u] = some (.int (u : Nat), nest P) := by
      rw [len_loc (by rw [← hP]; exact nest_top P), List.length_map, List.length_range, hP]
    by_cases hz : 0 < u
    · have hz' : (0 : Int) < (u : Nat) := by omega
      refine Cs_if fun G hG => ?_
      simp only [x_partV, bnI_ok, cutD_1, len_en, asSeq_en, asLst_en, lstOf_en, x_callF, x_callFR, liftP_ok, liftR_ok, liftB_bl, liftB_int, callV1, callV2, callV3, callV4, callRV1, callRV2, callRV3, callRV4, p_int, p_bl, p_scr, p_non, p_str, p_lst, p_tup, p_nil, p_cons, p_en, p_ens, Bool.and_self, en_norm, mod_ok, fdiv_lit, mul_lit, add_nat, add_one, lt_int, le_int, gt_int, ge_int, min_int, max_int, neg_int, eq_int, ne_int, eq_bl, ne_bl, len_lst, len_tup, len_scr, Int.reduceLT, Int.reduceLE, Nat.reduceLeDiff, x_bind, x_then, x_seq, x_ret, x_op2, x_op1, x_step, x_nilA, x_consA, x_callB, x_testE, x_toB, x_if, x_retS, x_dropS, x_setS, x_skip, x_andT, x_orT, x_notT, x_ifE, x_andE, x_orE, x_notE, x_chain, x_tupE, x_lstE, x_lstC, x_methL, x_for, x_itSeq, x_asSeq, x_asSeqT, x_asSeqS, x_range1, x_range2, x_enum, x_asLst, x_asg, x_isi, x_slice, x_noPart, x_rev, bnd_ok, bnd_err, thn_ok, thn_err, sq_nx, sq_ret, sq_brk, sq_ct, sq_err, bnB_ok, startE, List.map_cons, List.map_nil, List.length_cons, List.length_nil, Nat.reduceAdd, Nat.reduceSub, List.replicate_succ, List.replicate_zero, List.append_nil, List.cons_append, List.nil_append, if_true, if_false, Bool.false_eq_true, x_v0, x_vs, n_int, n_bl, n_str, n_non, n_lst, n_tup, n_scr, List.getElem?_cons_zero, List.getElem?_cons_succ, List.set_cons_zero, List.set_cons_succ, wipeD, Option.map_some, Bool.not_true, Bool.not_false, P_ok, nt, ln, hz', decide_true]
      refine hG _ _ ?_
      clear hG G
      try simp only [if_true, if_false, Bool.false_eq_true]
      have p0 := Int.emod_nonneg (c' / 17) (show ((u : Nat) : Int) ≠ 0 by omega)
      have p1 := Int.emod_lt_of_pos (c' / 17) (show (0 : Int) < (u : Nat) by omega)
      obtain ⟨w, hw⟩ : ∃ w : Nat, c' / 17 % (u : Nat) = (w : Nat) := ⟨_, (Int.toNat_of_nonneg p0).symm⟩
      have hwl : w < P.length := by omega
      have g1 : ixG (nest P) (.loc u) (.int (w : Nat)) = some (.loc w, nest P) := by rw [← hP]; exact ix_nest hwl
      have hg : P[w]? = some P[w] := List.getElem?_eq_getElem hwl
      have a2 := lst_cell (nest_at hg)
      have hl : P[w].length ≤ i := hb _ (List.getElem_mem hwl)
      have a1 := fun z : Int => app_cell (d := .int z) (nest_at hg) (by rw [List.length_map]; omega)
      refine Ce_drop fun G hG => ?_
      simp only [x_partV, bnI_ok, cutD_1, len_en, asSeq_en, asLst_en, lstOf_en, x_callF, x_callFR, liftP_ok, liftR_ok, liftB_bl, liftB_int, callV1, callV2, callV3, callV4, callRV1, callRV2, callRV3, callRV4, p_int, p_bl, p_scr, p_non, p_str, p_lst, p_tup, p_nil, p_cons, p_en, p_ens, Bool.and_self, en_norm, mod_ok, fdiv_lit, mul_lit, add_nat, add_one, lt_int, le_int, gt_int, ge_int, min_int, max_int, neg_int, eq_int, ne_int, eq_bl, ne_bl, len_lst, len_tup, len_scr, Int.reduceLT, Int.reduceLE, Nat.reduceLeDiff, x_bind, x_then, x_seq, x_ret, x_op2, x_op1, x_step, x_nilA, x_consA, x_callB, x_testE, x_toB, x_if, x_retS, x_dropS, x_setS, x_skip, x_andT, x_orT, x_notT, x_ifE, x_andE, x_orE, x_notE, x_chain, x_tupE, x_lstE, x_lstC, x_methL, x_for, x_itSeq, x_asSeq, x_asSeqT, x_asSeqS, x_range1, x_range2, x_enum, x_asLst, x_asg, x_isi, x_slice, x_noPart, x_rev, bnd_ok, bnd_err, thn_ok, thn_err, sq_nx, sq_ret, sq_brk, sq_ct, sq_err, bnB_ok, startE, List.map_cons, List.map_nil, List.length_cons, List.length_nil, Nat.reduceAdd, Nat.reduceSub, List.replicate_succ, List.replicate_zero, List.append_nil, List.cons_append, List.nil_append, if_true, if_false, Bool.false_eq_true, x_v0, x_vs, n_int, n_bl, n_str, n_non, n_lst, n_tup, n_scr, List.getElem?_cons_zero, List.getElem?_cons_succ, List.set_cons_zero, List.set_cons_succ, wipeD, Option.map_some, Bool.not_true, Bool.not_false, P_ok, nt, ln, mod_ok (show (0 : Int) < (u : Nat) by omega), mod_ok (show (0 : Int) < (m : Nat) + 2 by omega), add_int, sub_int, hw, g1, a2, a1, Option.isSome_some]
      refine hG _ _ ?_
      clear hG G
      refine Ce_set fun G hG => ?_
      simp only [x_partV, bnI_ok, cutD_1, len_en, asSeq_en, asLst_en, lstOf_en, x_callF, x_callFR, liftP_ok, liftR_ok, liftB_bl, liftB_int, callV1, callV2, callV3, callV4, callRV1, callRV2, callRV3, callRV4, p_int, p_bl, p_scr, p_non, p_str, p_lst, p_tup, p_nil, p_cons, p_en, p_ens, Bool.and_self, en_norm, mod_ok, fdiv_lit, mul_lit, add_nat, add_one, lt_int, le_int, gt_int, ge_int, min_int, max_int, neg_int, eq_int, ne_int, eq_bl, ne_bl, len_lst, len_tup, len_scr, Int.reduceLT, Int.reduceLE, Nat.reduceLeDiff, x_bind, x_then, x_seq, x_ret, x_op2, x_op1, x_step, x_nilA, x_consA, x_callB, x_testE, x_toB, x_if, x_retS, x_dropS, x_setS, x_skip, x_andT, x_orT, x_notT, x_ifE, x_andE, x_orE, x_notE, x_chain, x_tupE, x_lstE, x_lstC, x_methL, x_for, x_itSeq, x_asSeq, x_asSeqT, x_asSeqS, x_range1, x_range2, x_enum, x_asLst, x_asg, x_isi, x_slice, x_noPart, x_rev, bnd_ok, bnd_err, thn_ok, thn_err, sq_nx, sq_ret, sq_brk, sq_ct, sq_err, bnB_ok, startE, List.map_cons, List.map_nil, List.length_cons, List.length_nil, Nat.reduceAdd, Nat.reduceSub, List.replicate_succ, List.replicate_zero, List.append_nil, List.cons_append, List.nil_append, if_true, if_false, Bool.false_eq_true, x_v0, x_vs, n_int, n_bl, n_str, n_non, n_lst, n_tup, n_scr, List.getElem?_cons_zero, List.getElem?_cons_succ, List.set_cons_zero, List.set_cons_succ, wipeD, Option.map_some, Bool.not_true, Bool.not_false, P_ok]
      refine hG _ _ ?_
      clear hG G
      simp only [List.set_cons_zero, List.set_cons_succ]
      refine ⟨_, P.set w (P[w] ++ [c' / 17 / 5 % ((m : Nat) + 2) - 1]), _, rfl, ?_, by rw [List.length_set]; exact hP, fun p hp => ?_⟩
      · rw [← nest_set hwl]
        simp only [icell, List.map_append]; rfl
      · rcases List.mem_or_eq_of_mem_set hp with hp | rfl
        · have := hb p hp; omega
        · rw [List.length_append]; simp; omega
    · have hz' : ¬ (0 : Int) < (u : Nat) := by omega
      refine Cs_if fun G hG => ?_
      simp only [x_partV, bnI_ok, cutD_1, len_en, asSeq_en, asLst_en, lstOf_en, x_callF, x_callFR, liftP_ok, liftR_ok, liftB_bl, liftB_int, callV1, callV2, callV3, callV4, callRV1, callRV2, callRV3, callRV4, p_int, p_bl, p_scr, p_non, p_str, p_lst, p_tup, p_nil, p_cons, p_en, p_ens, Bool.and_self, en_norm, mod_ok, fdiv_lit, mul_lit, add_nat, add_one, lt_int, le_int, gt_int, ge_int, min_int, max_int, neg_int, eq_int, ne_int, eq_bl, ne_bl, len_lst, len_tup, len_scr, Int.reduceLT, Int.reduceLE, Nat.reduceLeDiff, x_bind, x_then, x_seq, x_ret, x_op2, x_op1, x_step, x_nilA, x_consA, x_callB, x_testE, x_toB, x_if, x_retS, x_dropS, x_setS, x_skip, x_andT, x_orT, x_notT, x_ifE, x_andE, x_orE, x_notE, x_chain, x_tupE, x_lstE, x_lstC, x_methL, x_for, x_itSeq, x_asSeq, x_asSeqT, x_asSeqS, x_range1, x_range2, x_enum, x_asLst, x_asg, x_isi, x_slice, x_noPart, x_rev, bnd_ok, bnd_err, thn_ok, thn_err, sq_nx, sq_ret, sq_brk, sq_ct, sq_err, bnB_ok, startE, List.map_cons, List.map_nil, List.length_cons, List.length_nil, Nat.reduceAdd, Nat.reduceSub, List.replicate_succ, List.replicate_zero, List.append_nil, List.cons_append, List.nil_append, if_true, if_false, Bool.false_eq_true, x_v0, x_vs, n_int, n_bl, n_str, n_non, n_lst, n_tup, n_scr, List.getElem?_cons_zero, List.getElem?_cons_succ, List.set_cons_zero, List.set_cons_succ, wipeD, Option.map_some, Bool.not_true, Bool.not_false, P_ok, nt, ln, hz', decide_false]
      refine hG _ _ ?_
      clear hG G
      try simp only [if_true, if_false, Bool.false_eq_true]
      refine W_nx ?_
      refine Ce_set fun G hG => ?_
      simp only [x_partV, bnI_ok, cutD_1, len_en, asSeq_en, asLst_en, lstOf_en, x_callF, x_callFR, liftP_ok, liftR_ok, liftB_bl, liftB_int, callV1, callV2, callV3, callV4, callRV1, callRV2, callRV3, callRV4, p_int, p_bl, p_scr, p_non, p_str, p_lst, p_tup, p_nil, p_cons, p_en, p_ens, Bool.and_self, en_norm, mod_ok, fdiv_lit, mul_lit, add_nat, add_one, lt_int, le_int, gt_int, ge_int, min_int, max_int, neg_int, eq_int, ne_int, eq_bl, ne_bl, len_lst, len_tup, len_scr, Int.reduceLT, Int.reduceLE, Nat.reduceLeDiff, x_bind, x_then, x_seq, x_ret, x_op2, x_op1, x_step, x_nilA, x_consA, x_callB, x_testE, x_toB, x_if, x_retS, x_dropS, x_setS, x_skip, x_andT, x_orT, x_notT, x_ifE, x_andE, x_orE, x_notE, x_chain, x_tupE, x_lstE, x_lstC, x_methL, x_for, x_itSeq, x_asSeq, x_asSeqT, x_asSeqS, x_range1, x_range2, x_enum, x_asLst, x_asg, x_isi, x_slice, x_noPart, x_rev, bnd_ok, bnd_err, thn_ok, thn_err, sq_nx, sq_ret, sq_brk, sq_ct, sq_err, bnB_ok, startE, List.map_cons, List.map_nil, List.length_cons, List.length_nil, Nat.reduceAdd, Nat.reduceSub, List.replicate_succ, List.replicate_zero, List.append_nil, List.cons_append, List.nil_append, if_true, if_false, Bool.false_eq_true, x_v0, x_vs, n_int, n_bl, n_str, n_non, n_lst, n_tup, n_scr, List.getElem?_cons_zero, List.getElem?_cons_succ, List.set_cons_zero, List.set_cons_succ, wipeD, Option.map_some, Bool.not_true, Bool.not_false, P_ok]
      refine hG _ _ ?_
      clear hG G
      simp only [List.set_cons_zero, List.set_cons_succ]
      exact ⟨_, P, _, rfl, rfl, hP, fun p hp => by have := hb p hp; omega⟩
  · rintro r S ⟨c', P, o3, rfl, rfl, hP, hb⟩
    rw [upto_len] at hb
    have nt : norm (nest P) (.loc u) = .loc u := norm_loc (by rw [← hP]; exact nest_top P)
    refine Ce_ret fun G hG => ?_
    simp only [x_partV, bnI_ok, cutD_1, len_en, asSeq_en, asLst_en, lstOf_en, x_callF, x_callFR, liftP_ok, liftR_ok, liftB_bl, liftB_int, callV1, callV2, callV3, callV4, callRV1, callRV2, callRV3, callRV4, p_int, p_bl, p_scr, p_non, p_str, p_lst, p_tup, p_nil, p_cons, p_en, p_ens, Bool.and_self, en_norm, mod_ok, fdiv_lit, mul_lit, add_nat, add_one, lt_int, le_int, gt_int, ge_int, min_int, max_int, neg_int, eq_int, ne_int, eq_bl, ne_bl, len_lst, len_tup, len_scr, Int.reduceLT, Int.reduceLE, Nat.reduceLeDiff, x_bind, x_then, x_seq, x_ret, x_op2, x_op1, x_step, x_nilA, x_consA, x_callB, x_testE, x_toB, x_if, x_retS, x_dropS, x_setS, x_skip, x_andT, x_orT, x_notT, x_ifE, x_andE, x_orE, x_notE, x_chain, x_tupE, x_lstE, x_lstC, x_methL, x_for, x_itSeq, x_asSeq, x_asSeqT, x_asSeqS, x_range1, x_range2, x_enum, x_asLst, x_asg, x_isi, x_slice, x_noPart, x_rev, bnd_ok, bnd_err, thn_ok, thn_err, sq_nx, sq_ret, sq_brk, sq_ct, sq_err, bnB_ok, startE, List.map_cons, List.map_nil, List.length_cons, List.length_nil, Nat.reduceAdd, Nat.reduceSub, List.replicate_succ, List.replicate_zero, List.append_nil, List.cons_append, List.nil_append, if_true, if_false, Bool.false_eq_true, x_v0, x_vs, n_int, n_bl, n_str, n_non, n_lst, n_tup, n_scr, List.getElem?_cons_zero, List.getElem?_cons_succ, List.set_cons_zero, List.set_cons_succ, wipeD, Option.map_some, Bool.not_true, Bool.not_false, P_ok, nt]
    refine hG _ _ ?_
    clear hG G
    exact ⟨_, nest_res (by rw [← hP]; exact nest_top P) (nest_items P), P, rfl, by omega, fun p hp => by have := hb p hp; omega⟩
end K75


namespace K75
open Aw
theorem items_keep {S S' : Store} : ∀ {ds : List D} {xs : List (List Int)}, Items S ds xs → (∀ (i : Nat) (x : List Int), D.loc i ∈ ds → S[i]? = some (icell x) → S'[i]? = some (icell x)) → Items S' ds xs
  | [], [], _, _ => True.intro
  | d :: ds, x :: xs, h, hk => by
    refine ⟨?_, items_keep h.2 fun i x hm => hk i x (List.mem_cons_of_mem _ hm)⟩
    rcases h.1 with ⟨i, rfl, h1⟩ | h1
    · exact .inl ⟨i, rfl, hk i x List.mem_cons_self h1⟩
    · exact .inr h1
  | [], _ :: _, h, _ => h.elim
  | _ :: _, [], h, _ => h.elim
theorem seqIx {j n : Nat} (h : j < n) : PySem.seqIndex? ((j : Nat) : Int) n = some j := by
  unfold PySem.seqIndex?
  have h1 : ¬ ((j : Nat) : Int) < 0 := by omega
  have h2 : (0 : Int) ≤ (j : Nat) := by omega
  have h3 : ((j : Nat) : Int) < (n : Nat) := by omega
  simp only [h1, if_false, h2, h3, decide_true, Bool.and_self, if_true, Int.toNat_natCast]
theorem pop_i {S : Store} {n k : Nat} {ds : List D} {d : D} (i : Int) (h : S[n]? = some (.lst ds)) (hk : PySem.seqIndex? i ds.length = some k) (hj : ds[k]? = some d) (b : -(2 ^ 63) ≤ i ∧ i < 2 ^ 63) : popAtG S (.loc n) [.int i] = some (d, S.set n (.lst (ds.eraseIdx k))) := by
  unfold popAtG onCell
  simp only [h]
  rw [if_pos b]
  simp only [hk, hj]
theorem pop_cell {S : Store} {n j : Nat} {ds : List D} {d : D} (h : S[n]? = some (.lst ds)) (hj : ds[j]? = some d) (hl : j < 1000) : popAtG S (.loc n) [.int (j : Nat)] = some (d, S.set n (.lst (ds.eraseIdx j))) :=
  pop_i _ h (seqIx (List.getElem?_eq_some_iff.mp hj).1) hj ⟨by omega, by omega⟩
theorem map_erase {α β : Type} (f : α → β) : ∀ (xs : List α) (k : Nat), (xs.map f).eraseIdx k = (xs.eraseIdx k).map f
  | [], k => by simp
  | x :: xs, 0 => rfl
  | x :: xs, k + 1 => by simp [map_erase f xs k]
theorem listC_en {S : Store} (p : List Int) : listGC S [En.e p] = some (.loc S.length, S ++ [icell p]) := rfl
section
variable {r : Aw.Env} {S : Store} {N C B : Aw.Env → Store → Prop} {T : D → Store → Prop} {E : Ex → Aw.Env → Store → Prop} {f k : Int} {X g : SemS}
theorem sk (h3 : r[3]? = some (some (.int f))) (hne : f ≠ k) (h : (g r S).W N C B T E) : (seqS (ifS (testE (op2 eqG (vE 3) (retO (.int k)))) X skipS) g r S).W N C B T E :=
  Ws_no (S1 := S) (by simp only [x_partV, bnI_ok, cutD_1, len_en, asSeq_en, asLst_en, lstOf_en, x_callF, x_callFR, liftP_ok, liftR_ok, liftB_bl, liftB_int, callV1, callV2, callV3, callV4, callRV1, callRV2, callRV3, callRV4, p_int, p_bl, p_scr, p_non, p_str, p_lst, p_tup, p_nil, p_cons, p_en, p_ens, Bool.and_self, en_norm, mod_ok, fdiv_lit, mul_lit, add_nat, add_one, lt_int, le_int, gt_int, ge_int, min_int, max_int, neg_int, eq_int, ne_int, eq_bl, ne_bl, len_lst, len_tup, len_scr, Int.reduceLT, Int.reduceLE, Nat.reduceLeDiff, x_bind, x_then, x_seq, x_ret, x_op2, x_op1, x_step, x_nilA, x_consA, x_callB, x_testE, x_toB, x_if, x_retS, x_dropS, x_setS, x_skip, x_andT, x_orT, x_notT, x_ifE, x_andE, x_orE, x_notE, x_chain, x_tupE, x_lstE, x_lstC, x_methL, x_for, x_itSeq, x_asSeq, x_asSeqT, x_asSeqS, x_range1, x_range2, x_enum, x_asLst, x_asg, x_isi, x_slice, x_noPart, x_rev, bnd_ok, bnd_err, thn_ok, thn_err, sq_nx, sq_ret, sq_brk, sq_ct, sq_err, bnB_ok, startE, List.map_cons, List.map_nil, List.length_cons, List.length_nil, Nat.reduceAdd, Nat.reduceSub, List.replicate_succ, List.replicate_zero, List.append_nil, List.cons_append, List.nil_append, if_true, if_false, Bool.false_eq_true, x_v0, x_vs, n_int, n_bl, n_str, n_non, n_lst, n_tup, n_scr, List.getElem?_cons_zero, List.getElem?_cons_succ, List.set_cons_zero, List.set_cons_succ, wipeD, Option.map_some, Bool.not_true, Bool.not_false, x_var h3, hne, decide_false]) h
theorem sk8 {Y : Sem Bool} (h3 : r[3]? = some (some (.int f))) (hne : f ≠ k) (h : (g r S).W N C B T E) : (seqS (ifS (andT (testE (op2 eqG (vE 3) (retO (.int k)))) Y) X skipS) g r S).W N C B T E :=
  Ws_no (S1 := S) (by simp only [x_partV, bnI_ok, cutD_1, len_en, asSeq_en, asLst_en, lstOf_en, x_callF, x_callFR, liftP_ok, liftR_ok, liftB_bl, liftB_int, callV1, callV2, callV3, callV4, callRV1, callRV2, callRV3, callRV4, p_int, p_bl, p_scr, p_non, p_str, p_lst, p_tup, p_nil, p_cons, p_en, p_ens, Bool.and_self, en_norm, mod_ok, fdiv_lit, mul_lit, add_nat, add_one, lt_int, le_int, gt_int, ge_int, min_int, max_int, neg_int, eq_int, ne_int, eq_bl, ne_bl, len_lst, len_tup, len_scr, Int.reduceLT, Int.reduceLE, Nat.reduceLeDiff, x_bind, x_then, x_seq, x_ret, x_op2, x_op1, x_step, x_nilA, x_consA, x_callB, x_testE, x_toB, x_if, x_retS, x_dropS, x_setS, x_skip, x_andT, x_orT, x_notT, x_ifE, x_andE, x_orE, x_notE, x_chain, x_tupE, x_lstE, x_lstC, x_methL, x_for, x_itSeq, x_asSeq, x_asSeqT, x_asSeqS, x_range1, x_range2, x_enum, x_asLst, x_asg, x_isi, x_slice, x_noPart, x_rev, bnd_ok, bnd_err, thn_ok, thn_err, sq_nx, sq_ret, sq_brk, sq_ct, sq_err, bnB_ok, startE, List.map_cons, List.map_nil, List.length_cons, List.length_nil, Nat.reduceAdd, Nat.reduceSub, List.replicate_succ, List.replicate_zero, List.append_nil, List.cons_append, List.nil_append, if_true, if_false, Bool.false_eq_true, x_v0, x_vs, n_int, n_bl, n_str, n_non, n_lst, n_tup, n_scr, List.getElem?_cons_zero, List.getElem?_cons_succ, List.set_cons_zero, List.set_cons_succ, wipeD, Option.map_some, Bool.not_true, Bool.not_false, x_var h3, hne, decide_false]) h
theorem tk (h3 : r[3]? = some (some (.int k))) (h : (X r S).W (fun r S => (g r S).W N C B T E) C B T E) : (seqS (ifS (testE (op2 eqG (vE 3) (retO (.int k)))) X skipS) g r S).W N C B T E :=
  Ws_if (z := true) (S1 := S) (by simp only [x_partV, bnI_ok, cutD_1, len_en, asSeq_en, asLst_en, lstOf_en, x_callF, x_callFR, liftP_ok, liftR_ok, liftB_bl, liftB_int, callV1, callV2, callV3, callV4, callRV1, callRV2, callRV3, callRV4, p_int, p_bl, p_scr, p_non, p_str, p_lst, p_tup, p_nil, p_cons, p_en, p_ens, Bool.and_self, en_norm, mod_ok, fdiv_lit, mul_lit, add_nat, add_one, lt_int, le_int, gt_int, ge_int, min_int, max_int, neg_int, eq_int, ne_int, eq_bl, ne_bl, len_lst, len_tup, len_scr, Int.reduceLT, Int.reduceLE, Nat.reduceLeDiff, x_bind, x_then, x_seq, x_ret, x_op2, x_op1, x_step, x_nilA, x_consA, x_callB, x_testE, x_toB, x_if, x_retS, x_dropS, x_setS, x_skip, x_andT, x_orT, x_notT, x_ifE, x_andE, x_orE, x_notE, x_chain, x_tupE, x_lstE, x_lstC, x_methL, x_for, x_itSeq, x_asSeq, x_asSeqT, x_asSeqS, x_range1, x_range2, x_enum, x_asLst, x_asg, x_isi, x_slice, x_noPart, x_rev, bnd_ok, bnd_err, thn_ok, thn_err, sq_nx, sq_ret, sq_brk, sq_ct, sq_err, bnB_ok, startE, List.map_cons, List.map_nil, List.length_cons, List.length_nil, Nat.reduceAdd, Nat.reduceSub, List.replicate_succ, List.replicate_zero, List.append_nil, List.cons_append, List.nil_append, if_true, if_false, Bool.false_eq_true, x_v0, x_vs, n_int, n_bl, n_str, n_non, n_lst, n_tup, n_scr, List.getElem?_cons_zero, List.getElem?_cons_succ, List.set_cons_zero, List.set_cons_succ, wipeD, Option.map_some, Bool.not_true, Bool.not_false, x_var h3, decide_true]) h
end
theorem fin {r : Aw.Env} {S : Store} {F : Nat} {ds : List D} {xs : List (List Int)} {N C B : Aw.Env → Store → Prop} {E : Ex → Aw.Env → Store → Prop} (h8 : r[8]? = some (some (.loc F))) (ht : S[F]? = some (.lst ds)) (hi : Items S ds xs) (hf : Fits xs) :
    (retS (vE 8) r S).W N C B (fun d S => ∃ d1, resA S d = some d1 ∧ ∃ ps : List (List Int), d1 = En.e ps ∧ Fits ps) E :=
  We_ret (d := .loc F) (S1 := S) (by rw [x_var h8, norm_loc ht]) ⟨_, nest_res ht hi, xs, rfl, hf⟩
theorem fin_nest {r : Aw.Env} {P : List (List Int)} {N C B : Aw.Env → Store → Prop} {E : Ex → Aw.Env → Store → Prop} (h8 : r[8]? = some (some (.loc P.length))) (hf : Fits P) :
    (retS (vE 8) r (nest P)).W N C B (fun d S => ∃ d1, resA S d = some d1 ∧ ∃ ps : List (List Int), d1 = En.e ps ∧ Fits ps) E := fin h8 (nest_top P) (nest_items P) hf
theorem fits_set {P : List (List Int)} {k : Nat} {x : List Int} (h : P.length ≤ 8 ∧ ∀ p ∈ P, p.length ≤ 8) (hx : x.length ≤ 100) : Fits (P.set k x) := by
  refine ⟨by rw [List.length_set]; omega, fun p hp => ?_⟩
  rcases List.mem_or_eq_of_mem_set hp with hp | rfl
  · have := h.2 p hp; omega
  · exact hx
theorem r_spoiled {P : List (List Int)} (c : Int) (m : Nat) (hP : 0 < P.length) (hne : ∀ p ∈ P, p ≠ []) (h8 : P.length ≤ 8 ∧ ∀ p ∈ P, p.length ≤ 8) : ∃ ps : List (List Int), f__law_spoiled [En.e P, .int c, .int (m : Nat)] = .ok (En.e ps) ∧ Fits ps := by
  suffices h : ∃ d, f__law_spoiled [En.e P, .int c, .int (m : Nat)] = .ok d ∧ ∃ ps : List (List Int), d = En.e ps ∧ Fits ps by
    obtain ⟨d, h1, ps, rfl, h2⟩ := h
    exact ⟨ps, h1, h2⟩
  refine out_W ?_
  unfold b__law_spoiled
  simp only [startE, List.map_cons, List.map_nil, List.length_cons, List.length_nil, Nat.reduceAdd, Nat.reduceSub, List.replicate_succ, List.replicate_zero, List.append_nil, List.cons_append, List.nil_append]
  have q0 := Int.emod_nonneg c (show (12 : Int) ≠ 0 by omega)
  have q1 := Int.emod_lt_of_pos c (show (0 : Int) < 12 by omega)
  refine Cs_set fun G hG => ?_
  simp only [x_partV, bnI_ok, cutD_1, len_en, asSeq_en, asLst_en, lstOf_en, x_callF, x_callFR, liftP_ok, liftR_ok, liftB_bl, liftB_int, callV1, callV2, callV3, callV4, callRV1, callRV2, callRV3, callRV4, p_int, p_bl, p_scr, p_non, p_str, p_lst, p_tup, p_nil, p_cons, p_en, p_ens, Bool.and_self, en_norm, mod_ok, fdiv_lit, mul_lit, add_nat, add_one, lt_int, le_int, gt_int, ge_int, min_int, max_int, neg_int, eq_int, ne_int, eq_bl, ne_bl, len_lst, len_tup, len_scr, Int.reduceLT, Int.reduceLE, Nat.reduceLeDiff, x_bind, x_then, x_seq, x_ret, x_op2, x_op1, x_step, x_nilA, x_consA, x_callB, x_testE, x_toB, x_if, x_retS, x_dropS, x_setS, x_skip, x_andT, x_orT, x_notT, x_ifE, x_andE, x_orE, x_notE, x_chain, x_tupE, x_lstE, x_lstC, x_methL, x_for, x_itSeq, x_asSeq, x_asSeqT, x_asSeqS, x_range1, x_range2, x_enum, x_asLst, x_asg, x_isi, x_slice, x_noPart, x_rev, bnd_ok, bnd_err, thn_ok, thn_err, sq_nx, sq_ret, sq_brk, sq_ct, sq_err, bnB_ok, startE, List.map_cons, List.map_nil, List.length_cons, List.length_nil, Nat.reduceAdd, Nat.reduceSub, List.replicate_succ, List.replicate_zero, List.append_nil, List.cons_append, List.nil_append, if_true, if_false, Bool.false_eq_true, x_v0, x_vs, n_int, n_bl, n_str, n_non, n_lst, n_tup, n_scr, List.getElem?_cons_zero, List.getElem?_cons_succ, List.set_cons_zero, List.set_cons_succ, wipeD, Option.map_some, Bool.not_true, Bool.not_false, P_ok]
  refine hG _ _ ?_
  clear hG G
  simp only [List.set_cons_zero, List.set_cons_succ]
  by_cases h11 : c % 12 = 11
  · refine tk (by rw [h11]; rfl) ?_
    obtain ⟨ps, h1, h2⟩ := r_any (c / 12) m
    refine Ce_ret fun G hG => ?_
    simp only [x_partV, bnI_ok, cutD_1, len_en, asSeq_en, asLst_en, lstOf_en, x_callF, x_callFR, liftP_ok, liftR_ok, liftB_bl, liftB_int, callV1, callV2, callV3, callV4, callRV1, callRV2, callRV3, callRV4, p_int, p_bl, p_scr, p_non, p_str, p_lst, p_tup, p_nil, p_cons, p_en, p_ens, Bool.and_self, en_norm, mod_ok, fdiv_lit, mul_lit, add_nat, add_one, lt_int, le_int, gt_int, ge_int, min_int, max_int, neg_int, eq_int, ne_int, eq_bl, ne_bl, len_lst, len_tup, len_scr, Int.reduceLT, Int.reduceLE, Nat.reduceLeDiff, x_bind, x_then, x_seq, x_ret, x_op2, x_op1, x_step, x_nilA, x_consA, x_callB, x_testE, x_toB, x_if, x_retS, x_dropS, x_setS, x_skip, x_andT, x_orT, x_notT, x_ifE, x_andE, x_orE, x_notE, x_chain, x_tupE, x_lstE, x_lstC, x_methL, x_for, x_itSeq, x_asSeq, x_asSeqT, x_asSeqS, x_range1, x_range2, x_enum, x_asLst, x_asg, x_isi, x_slice, x_noPart, x_rev, bnd_ok, bnd_err, thn_ok, thn_err, sq_nx, sq_ret, sq_brk, sq_ct, sq_err, bnB_ok, startE, List.map_cons, List.map_nil, List.length_cons, List.length_nil, Nat.reduceAdd, Nat.reduceSub, List.replicate_succ, List.replicate_zero, List.append_nil, List.cons_append, List.nil_append, if_true, if_false, Bool.false_eq_true, x_v0, x_vs, n_int, n_bl, n_str, n_non, n_lst, n_tup, n_scr, List.getElem?_cons_zero, List.getElem?_cons_succ, List.set_cons_zero, List.set_cons_succ, wipeD, Option.map_some, Bool.not_true, Bool.not_false, P_ok, h1]
    refine hG _ _ ?_
    clear hG G
    exact ⟨_, resA_pure _ _ (En.pu ps), ps, rfl, h2⟩
  refine sk rfl h11 ?_
  generalize hf : c % 12 = f at *
  have pos : (0 : Int) < (P.length : Nat) := by omega
  obtain ⟨a, ha⟩ : ∃ a : Nat, c / 11 % (P.length : Nat) = (a : Nat) := ⟨_, (Int.toNat_of_nonneg (Int.emod_nonneg _ (by omega))).symm⟩
  have hal : a < P.length := by have := Int.emod_lt_of_pos (c / 11) pos; rw [ha] at this; omega
  have hga : P[a]? = some P[a] := List.getElem?_eq_getElem hal
  have hma := List.getElem_mem hal
  have pos2 : (0 : Int) < (P[a].length : Nat) := by have := List.length_pos_iff.mpr (hne _ hma); omega
  obtain ⟨j, hj⟩ : ∃ j : Nat, c / 88 % (P[a].length : Nat) = (j : Nat) := ⟨_, (Int.toNat_of_nonneg (Int.emod_nonneg _ (Int.ne_of_gt pos2))).symm⟩
  have hjl : j < P[a].length := by have := Int.emod_lt_of_pos (c / 88) pos2; rw [hj] at this; omega
  have hgj : P[a][j]? = some P[a][j] := List.getElem?_eq_getElem hjl
  obtain ⟨o, ho⟩ : ∃ o : Nat, c / 704 % (P.length : Nat) = (o : Nat) := ⟨_, (Int.toNat_of_nonneg (Int.emod_nonneg _ (by omega))).symm⟩
  have hol : o < P.length := by have := Int.emod_lt_of_pos (c / 704) pos; rw [ho] at this; omega
  have hgo : P[o]? = some P[o] := List.getElem?_eq_getElem hol
  have hmo := List.getElem_mem hol
  have la := h8.2 _ hma
  have lo := h8.2 _ hmo
  refine Cs_set fun G hG => ?_
  simp only [x_partV, bnI_ok, cutD_1, len_en, asSeq_en, asLst_en, lstOf_en, x_callF, x_callFR, liftP_ok, liftR_ok, liftB_bl, liftB_int, callV1, callV2, callV3, callV4, callRV1, callRV2, callRV3, callRV4, p_int, p_bl, p_scr, p_non, p_str, p_lst, p_tup, p_nil, p_cons, p_en, p_ens, Bool.and_self, en_norm, mod_ok, fdiv_lit, mul_lit, add_nat, add_one, lt_int, le_int, gt_int, ge_int, min_int, max_int, neg_int, eq_int, ne_int, eq_bl, ne_bl, len_lst, len_tup, len_scr, Int.reduceLT, Int.reduceLE, Nat.reduceLeDiff, x_bind, x_then, x_seq, x_ret, x_op2, x_op1, x_step, x_nilA, x_consA, x_callB, x_testE, x_toB, x_if, x_retS, x_dropS, x_setS, x_skip, x_andT, x_orT, x_notT, x_ifE, x_andE, x_orE, x_notE, x_chain, x_tupE, x_lstE, x_lstC, x_methL, x_for, x_itSeq, x_asSeq, x_asSeqT, x_asSeqS, x_range1, x_range2, x_enum, x_asLst, x_asg, x_isi, x_slice, x_noPart, x_rev, bnd_ok, bnd_err, thn_ok, thn_err, sq_nx, sq_ret, sq_brk, sq_ct, sq_err, bnB_ok, startE, List.map_cons, List.map_nil, List.length_cons, List.length_nil, Nat.reduceAdd, Nat.reduceSub, List.replicate_succ, List.replicate_zero, List.append_nil, List.cons_append, List.nil_append, if_true, if_false, Bool.false_eq_true, x_v0, x_vs, n_int, n_bl, n_str, n_non, n_lst, n_tup, n_scr, List.getElem?_cons_zero, List.getElem?_cons_succ, List.set_cons_zero, List.set_cons_succ, wipeD, Option.map_some, Bool.not_true, Bool.not_false, P_ok, mod_ok pos, ha]
  refine hG _ _ ?_
  clear hG G
  simp only [List.set_cons_zero, List.set_cons_succ]
  refine Cs_set fun G hG => ?_
  simp only [x_partV, bnI_ok, cutD_1, len_en, asSeq_en, asLst_en, lstOf_en, x_callF, x_callFR, liftP_ok, liftR_ok, liftB_bl, liftB_int, callV1, callV2, callV3, callV4, callRV1, callRV2, callRV3, callRV4, p_int, p_bl, p_scr, p_non, p_str, p_lst, p_tup, p_nil, p_cons, p_en, p_ens, Bool.and_self, en_norm, mod_ok, fdiv_lit, mul_lit, add_nat, add_one, lt_int, le_int, gt_int, ge_int, min_int, max_int, neg_int, eq_int, ne_int, eq_bl, ne_bl, len_lst, len_tup, len_scr, Int.reduceLT, Int.reduceLE, Nat.reduceLeDiff, x_bind, x_then, x_seq, x_ret, x_op2, x_op1, x_step, x_nilA, x_consA, x_callB, x_testE, x_toB, x_if, x_retS, x_dropS, x_setS, x_skip, x_andT, x_orT, x_notT, x_ifE, x_andE, x_orE, x_notE, x_chain, x_tupE, x_lstE, x_lstC, x_methL, x_for, x_itSeq, x_asSeq, x_asSeqT, x_asSeqS, x_range1, x_range2, x_enum, x_asLst, x_asg, x_isi, x_slice, x_noPart, x_rev, bnd_ok, bnd_err, thn_ok, thn_err, sq_nx, sq_ret, sq_brk, sq_ct, sq_err, bnB_ok, startE, List.map_cons, List.map_nil, List.length_cons, List.length_nil, Nat.reduceAdd, Nat.reduceSub, List.replicate_succ, List.replicate_zero, List.append_nil, List.cons_append, List.nil_append, if_true, if_false, Bool.false_eq_true, x_v0, x_vs, n_int, n_bl, n_str, n_non, n_lst, n_tup, n_scr, List.getElem?_cons_zero, List.getElem?_cons_succ, List.set_cons_zero, List.set_cons_succ, wipeD, Option.map_some, Bool.not_true, Bool.not_false, P_ok, ix_enl hga]
  refine hG _ _ ?_
  clear hG G
  simp only [List.set_cons_zero, List.set_cons_succ]
  refine Cs_set fun G hG => ?_
  simp only [x_partV, bnI_ok, cutD_1, len_en, asSeq_en, asLst_en, lstOf_en, x_callF, x_callFR, liftP_ok, liftR_ok, liftB_bl, liftB_int, callV1, callV2, callV3, callV4, callRV1, callRV2, callRV3, callRV4, p_int, p_bl, p_scr, p_non, p_str, p_lst, p_tup, p_nil, p_cons, p_en, p_ens, Bool.and_self, en_norm, mod_ok, fdiv_lit, mul_lit, add_nat, add_one, lt_int, le_int, gt_int, ge_int, min_int, max_int, neg_int, eq_int, ne_int, eq_bl, ne_bl, len_lst, len_tup, len_scr, Int.reduceLT, Int.reduceLE, Nat.reduceLeDiff, x_bind, x_then, x_seq, x_ret, x_op2, x_op1, x_step, x_nilA, x_consA, x_callB, x_testE, x_toB, x_if, x_retS, x_dropS, x_setS, x_skip, x_andT, x_orT, x_notT, x_ifE, x_andE, x_orE, x_notE, x_chain, x_tupE, x_lstE, x_lstC, x_methL, x_for, x_itSeq, x_asSeq, x_asSeqT, x_asSeqS, x_range1, x_range2, x_enum, x_asLst, x_asg, x_isi, x_slice, x_noPart, x_rev, bnd_ok, bnd_err, thn_ok, thn_err, sq_nx, sq_ret, sq_brk, sq_ct, sq_err, bnB_ok, startE, List.map_cons, List.map_nil, List.length_cons, List.length_nil, Nat.reduceAdd, Nat.reduceSub, List.replicate_succ, List.replicate_zero, List.append_nil, List.cons_append, List.nil_append, if_true, if_false, Bool.false_eq_true, x_v0, x_vs, n_int, n_bl, n_str, n_non, n_lst, n_tup, n_scr, List.getElem?_cons_zero, List.getElem?_cons_succ, List.set_cons_zero, List.set_cons_succ, wipeD, Option.map_some, Bool.not_true, Bool.not_false, P_ok, mod_ok pos2, hj]
  refine hG _ _ ?_
  clear hG G
  simp only [List.set_cons_zero, List.set_cons_succ]
  refine Cs_set fun G hG => ?_
  simp only [x_partV, bnI_ok, cutD_1, len_en, asSeq_en, asLst_en, lstOf_en, x_callF, x_callFR, liftP_ok, liftR_ok, liftB_bl, liftB_int, callV1, callV2, callV3, callV4, callRV1, callRV2, callRV3, callRV4, p_int, p_bl, p_scr, p_non, p_str, p_lst, p_tup, p_nil, p_cons, p_en, p_ens, Bool.and_self, en_norm, mod_ok, fdiv_lit, mul_lit, add_nat, add_one, lt_int, le_int, gt_int, ge_int, min_int, max_int, neg_int, eq_int, ne_int, eq_bl, ne_bl, len_lst, len_tup, len_scr, Int.reduceLT, Int.reduceLE, Nat.reduceLeDiff, x_bind, x_then, x_seq, x_ret, x_op2, x_op1, x_step, x_nilA, x_consA, x_callB, x_testE, x_toB, x_if, x_retS, x_dropS, x_setS, x_skip, x_andT, x_orT, x_notT, x_ifE, x_andE, x_orE, x_notE, x_chain, x_tupE, x_lstE, x_lstC, x_methL, x_for, x_itSeq, x_asSeq, x_asSeqT, x_asSeqS, x_range1, x_range2, x_enum, x_asLst, x_asg, x_isi, x_slice, x_noPart, x_rev, bnd_ok, bnd_err, thn_ok, thn_err, sq_nx, sq_ret, sq_brk, sq_ct, sq_err, bnB_ok, startE, List.map_cons, List.map_nil, List.length_cons, List.length_nil, Nat.reduceAdd, Nat.reduceSub, List.replicate_succ, List.replicate_zero, List.append_nil, List.cons_append, List.nil_append, if_true, if_false, Bool.false_eq_true, x_v0, x_vs, n_int, n_bl, n_str, n_non, n_lst, n_tup, n_scr, List.getElem?_cons_zero, List.getElem?_cons_succ, List.set_cons_zero, List.set_cons_succ, wipeD, Option.map_some, Bool.not_true, Bool.not_false, P_ok, mod_ok pos, ho]
  refine hG _ _ ?_
  clear hG G
  simp only [List.set_cons_zero, List.set_cons_succ]
  have h0 : lcC (itSeq (vE 0)) (.one 10) [10] yesT (callB listGC (consA (vE 10) nilA)) [some (En.e P), some (.int c), some (.int (m : Nat)), some (.int f), some (.int (a : Nat)), some (En.e P[a]), some (.int (j : Nat)), some (.int (o : Nat)), none, none, none] [] = .ok (.loc P.length) (nest P) := by
    rw [lcC_new (S0 := []) (En.e (α := List Int)) icell (xs := P) (by simp only [x_partV, bnI_ok, cutD_1, len_en, asSeq_en, asLst_en, lstOf_en, x_callF, x_callFR, liftP_ok, liftR_ok, liftB_bl, liftB_int, callV1, callV2, callV3, callV4, callRV1, callRV2, callRV3, callRV4, p_int, p_bl, p_scr, p_non, p_str, p_lst, p_tup, p_nil, p_cons, p_en, p_ens, Bool.and_self, en_norm, mod_ok, fdiv_lit, mul_lit, add_nat, add_one, lt_int, le_int, gt_int, ge_int, min_int, max_int, neg_int, eq_int, ne_int, eq_bl, ne_bl, len_lst, len_tup, len_scr, Int.reduceLT, Int.reduceLE, Nat.reduceLeDiff, x_bind, x_then, x_seq, x_ret, x_op2, x_op1, x_step, x_nilA, x_consA, x_callB, x_testE, x_toB, x_if, x_retS, x_dropS, x_setS, x_skip, x_andT, x_orT, x_notT, x_ifE, x_andE, x_orE, x_notE, x_chain, x_tupE, x_lstE, x_lstC, x_methL, x_for, x_itSeq, x_asSeq, x_asSeqT, x_asSeqS, x_range1, x_range2, x_enum, x_asLst, x_asg, x_isi, x_slice, x_noPart, x_rev, bnd_ok, bnd_err, thn_ok, thn_err, sq_nx, sq_ret, sq_brk, sq_ct, sq_err, bnB_ok, startE, List.map_cons, List.map_nil, List.length_cons, List.length_nil, Nat.reduceAdd, Nat.reduceSub, List.replicate_succ, List.replicate_zero, List.append_nil, List.cons_append, List.nil_append, if_true, if_false, Bool.false_eq_true, x_v0, x_vs, n_int, n_bl, n_str, n_non, n_lst, n_tup, n_scr, List.getElem?_cons_zero, List.getElem?_cons_succ, List.set_cons_zero, List.set_cons_succ, wipeD, Option.map_some, Bool.not_true, Bool.not_false]; try exact rfl) (by omega) fun p hp S1 => ⟨_, rfl, by simp only [x_partV, bnI_ok, cutD_1, len_en, asSeq_en, asLst_en, lstOf_en, x_callF, x_callFR, liftP_ok, liftR_ok, liftB_bl, liftB_int, callV1, callV2, callV3, callV4, callRV1, callRV2, callRV3, callRV4, p_int, p_bl, p_scr, p_non, p_str, p_lst, p_tup, p_nil, p_cons, p_en, p_ens, Bool.and_self, en_norm, mod_ok, fdiv_lit, mul_lit, add_nat, add_one, lt_int, le_int, gt_int, ge_int, min_int, max_int, neg_int, eq_int, ne_int, eq_bl, ne_bl, len_lst, len_tup, len_scr, Int.reduceLT, Int.reduceLE, Nat.reduceLeDiff, x_bind, x_then, x_seq, x_ret, x_op2, x_op1, x_step, x_nilA, x_consA, x_callB, x_testE, x_toB, x_if, x_retS, x_dropS, x_setS, x_skip, x_andT, x_orT, x_notT, x_ifE, x_andE, x_orE, x_notE, x_chain, x_tupE, x_lstE, x_lstC, x_methL, x_for, x_itSeq, x_asSeq, x_asSeqT, x_asSeqS, x_range1, x_range2, x_enum, x_asLst, x_asg, x_isi, x_slice, x_noPart, x_rev, bnd_ok, bnd_err, thn_ok, thn_err, sq_nx, sq_ret, sq_brk, sq_ct, sq_err, bnB_ok, startE, List.map_cons, List.map_nil, List.length_cons, List.length_nil, Nat.reduceAdd, Nat.reduceSub, List.replicate_succ, List.replicate_zero, List.append_nil, List.cons_append, List.nil_append, if_true, if_false, Bool.false_eq_true, x_v0, x_vs, n_int, n_bl, n_str, n_non, n_lst, n_tup, n_scr, List.getElem?_cons_zero, List.getElem?_cons_succ, List.set_cons_zero, List.set_cons_succ, wipeD, Option.map_some, Bool.not_true, Bool.not_false, listC_en, List.length_nil, Nat.zero_add]⟩]
    simp [nest]
  refine Cs_set fun G hG => ?_
  simp only [x_partV, bnI_ok, cutD_1, len_en, asSeq_en, asLst_en, lstOf_en, x_callF, x_callFR, liftP_ok, liftR_ok, liftB_bl, liftB_int, callV1, callV2, callV3, callV4, callRV1, callRV2, callRV3, callRV4, p_int, p_bl, p_scr, p_non, p_str, p_lst, p_tup, p_nil, p_cons, p_en, p_ens, Bool.and_self, en_norm, mod_ok, fdiv_lit, mul_lit, add_nat, add_one, lt_int, le_int, gt_int, ge_int, min_int, max_int, neg_int, eq_int, ne_int, eq_bl, ne_bl, len_lst, len_tup, len_scr, Int.reduceLT, Int.reduceLE, Nat.reduceLeDiff, x_bind, x_then, x_seq, x_ret, x_op2, x_op1, x_step, x_nilA, x_consA, x_callB, x_testE, x_toB, x_if, x_retS, x_dropS, x_setS, x_skip, x_andT, x_orT, x_notT, x_ifE, x_andE, x_orE, x_notE, x_chain, x_tupE, x_lstE, x_lstC, x_methL, x_for, x_itSeq, x_asSeq, x_asSeqT, x_asSeqS, x_range1, x_range2, x_enum, x_asLst, x_asg, x_isi, x_slice, x_noPart, x_rev, bnd_ok, bnd_err, thn_ok, thn_err, sq_nx, sq_ret, sq_brk, sq_ct, sq_err, bnB_ok, startE, List.map_cons, List.map_nil, List.length_cons, List.length_nil, Nat.reduceAdd, Nat.reduceSub, List.replicate_succ, List.replicate_zero, List.append_nil, List.cons_append, List.nil_append, if_true, if_false, Bool.false_eq_true, x_v0, x_vs, n_int, n_bl, n_str, n_non, n_lst, n_tup, n_scr, List.getElem?_cons_zero, List.getElem?_cons_succ, List.set_cons_zero, List.set_cons_succ, wipeD, Option.map_some, Bool.not_true, Bool.not_false, P_ok, h0]
  refine hG _ _ ?_
  clear hG G
  simp only [List.set_cons_zero, List.set_cons_succ]
  have nt : norm (nest P) (.loc P.length) = .loc P.length := norm_loc (nest_top P)
  have ga : ixG (nest P) (.loc P.length) (.int (a : Nat)) = some (.loc a, nest P) := ix_nest hal
  have go : ixG (nest P) (.loc P.length) (.int (o : Nat)) = some (.loc o, nest P) := ix_nest hol
  have ca := lst_cell (nest_at hga)
  have co := lst_cell (nest_at hgo)
  have ct := lst_cell (nest_top P)
  have hcases : f = 0 ∨ f = 1 ∨ f = 2 ∨ f = 3 ∨ f = 4 ∨ f = 5 ∨ f = 6 ∨ f = 7 ∨ f = 8 ∨ f = 9 ∨ f = 10 := by omega
  rcases hcases with rfl | rfl | rfl | rfl | rfl | rfl | rfl | rfl | rfl | rfl | rfl
  · -- as they are
    refine sk rfl (by decide) ?_
    refine sk rfl (by decide) ?_
    refine sk rfl (by decide) ?_
    refine sk rfl (by decide) ?_
    refine sk rfl (by decide) ?_
    refine sk rfl (by decide) ?_
    refine sk rfl (by decide) ?_
    refine sk8 rfl (by decide) ?_
    refine sk rfl (by decide) ?_
    refine sk rfl (by decide) ?_
    exact fin_nest rfl ⟨by omega, fun p hp => by have := h8.2 p hp; omega⟩
  · -- one out
    refine tk rfl ?_
    have w := pop_cell (nest_at hga) (en_get hgj) (by omega)
    refine Ce_drop fun G hG => ?_
    simp only [x_partV, bnI_ok, cutD_1, len_en, asSeq_en, asLst_en, lstOf_en, x_callF, x_callFR, liftP_ok, liftR_ok, liftB_bl, liftB_int, callV1, callV2, callV3, callV4, callRV1, callRV2, callRV3, callRV4, p_int, p_bl, p_scr, p_non, p_str, p_lst, p_tup, p_nil, p_cons, p_en, p_ens, Bool.and_self, en_norm, mod_ok, fdiv_lit, mul_lit, add_nat, add_one, lt_int, le_int, gt_int, ge_int, min_int, max_int, neg_int, eq_int, ne_int, eq_bl, ne_bl, len_lst, len_tup, len_scr, Int.reduceLT, Int.reduceLE, Nat.reduceLeDiff, x_bind, x_then, x_seq, x_ret, x_op2, x_op1, x_step, x_nilA, x_consA, x_callB, x_testE, x_toB, x_if, x_retS, x_dropS, x_setS, x_skip, x_andT, x_orT, x_notT, x_ifE, x_andE, x_orE, x_notE, x_chain, x_tupE, x_lstE, x_lstC, x_methL, x_for, x_itSeq, x_asSeq, x_asSeqT, x_asSeqS, x_range1, x_range2, x_enum, x_asLst, x_asg, x_isi, x_slice, x_noPart, x_rev, bnd_ok, bnd_err, thn_ok, thn_err, sq_nx, sq_ret, sq_brk, sq_ct, sq_err, bnB_ok, startE, List.map_cons, List.map_nil, List.length_cons, List.length_nil, Nat.reduceAdd, Nat.reduceSub, List.replicate_succ, List.replicate_zero, List.append_nil, List.cons_append, List.nil_append, if_true, if_false, Bool.false_eq_true, x_v0, x_vs, n_int, n_bl, n_str, n_non, n_lst, n_tup, n_scr, List.getElem?_cons_zero, List.getElem?_cons_succ, List.set_cons_zero, List.set_cons_succ, wipeD, Option.map_some, Bool.not_true, Bool.not_false, P_ok, nt, ga, ca, w, Option.isSome_some]
    refine hG _ _ ?_
    clear hG G
    rw [show Cell.lst ((P[a].map En.e).eraseIdx j) = icell (P[a].eraseIdx j) by rw [icell, map_erase], nest_set hal]
    refine sk rfl (by decide) ?_
    refine sk rfl (by decide) ?_
    refine sk rfl (by decide) ?_
    refine sk rfl (by decide) ?_
    refine sk rfl (by decide) ?_
    refine sk rfl (by decide) ?_
    refine sk8 rfl (by decide) ?_
    refine sk rfl (by decide) ?_
    refine sk rfl (by decide) ?_
    exact fin_nest (by rw [List.length_set]; rfl) (fits_set h8 (by rw [List.length_eraseIdx]; split <;> omega))
  · -- one twice
    refine sk rfl (by decide) ?_
    refine tk rfl ?_
    have pos3 : (0 : Int) < (P[a].length : Nat) + 1 := by omega
    obtain ⟨u, hu⟩ : ∃ u : Nat, c / 704 % ((P[a].length : Nat) + 1) = (u : Nat) := ⟨_, (Int.toNat_of_nonneg (Int.emod_nonneg _ (Int.ne_of_gt pos3))).symm⟩
    have hul : u ≤ P[a].length := by have := Int.emod_lt_of_pos (c / 704) pos3; rw [hu] at this; omega
    have w := ins_cell (d := En.e P[a][j]) (nest_at hga) (by rw [List.length_map]; omega) (show u ≤ _ by rw [List.length_map]; exact hul)
    rw [map_ins] at w
    refine Ce_drop fun G hG => ?_
    simp only [x_partV, bnI_ok, cutD_1, len_en, asSeq_en, asLst_en, lstOf_en, x_callF, x_callFR, liftP_ok, liftR_ok, liftB_bl, liftB_int, callV1, callV2, callV3, callV4, callRV1, callRV2, callRV3, callRV4, p_int, p_bl, p_scr, p_non, p_str, p_lst, p_tup, p_nil, p_cons, p_en, p_ens, Bool.and_self, en_norm, mod_ok, fdiv_lit, mul_lit, add_nat, add_one, lt_int, le_int, gt_int, ge_int, min_int, max_int, neg_int, eq_int, ne_int, eq_bl, ne_bl, len_lst, len_tup, len_scr, Int.reduceLT, Int.reduceLE, Nat.reduceLeDiff, x_bind, x_then, x_seq, x_ret, x_op2, x_op1, x_step, x_nilA, x_consA, x_callB, x_testE, x_toB, x_if, x_retS, x_dropS, x_setS, x_skip, x_andT, x_orT, x_notT, x_ifE, x_andE, x_orE, x_notE, x_chain, x_tupE, x_lstE, x_lstC, x_methL, x_for, x_itSeq, x_asSeq, x_asSeqT, x_asSeqS, x_range1, x_range2, x_enum, x_asLst, x_asg, x_isi, x_slice, x_noPart, x_rev, bnd_ok, bnd_err, thn_ok, thn_err, sq_nx, sq_ret, sq_brk, sq_ct, sq_err, bnB_ok, startE, List.map_cons, List.map_nil, List.length_cons, List.length_nil, Nat.reduceAdd, Nat.reduceSub, List.replicate_succ, List.replicate_zero, List.append_nil, List.cons_append, List.nil_append, if_true, if_false, Bool.false_eq_true, x_v0, x_vs, n_int, n_bl, n_str, n_non, n_lst, n_tup, n_scr, List.getElem?_cons_zero, List.getElem?_cons_succ, List.set_cons_zero, List.set_cons_succ, wipeD, Option.map_some, Bool.not_true, Bool.not_false, P_ok, nt, ga, ca, w, add_int, mod_ok pos3, hu, ix_enl hgj, Option.isSome_some]
    refine hG _ _ ?_
    clear hG G
    rw [show Cell.lst ((P[a].take u ++ P[a][j] :: P[a].drop u).map En.e) = icell (P[a].take u ++ P[a][j] :: P[a].drop u) from rfl, nest_set hal]
    refine sk rfl (by decide) ?_
    refine sk rfl (by decide) ?_
    refine sk rfl (by decide) ?_
    refine sk rfl (by decide) ?_
    refine sk rfl (by decide) ?_
    refine sk8 rfl (by decide) ?_
    refine sk rfl (by decide) ?_
    refine sk rfl (by decide) ?_
    exact fin_nest (by rw [List.length_set]; rfl) (fits_set h8 (by rw [(perm_ins P[a] P[a][j] u).length_eq, List.length_cons]; omega))
  · -- one beside
    refine sk rfl (by decide) ?_
    refine sk rfl (by decide) ?_
    refine tk rfl ?_
    have w := app_cell (d := En.e P[a][j]) (nest_at hgo) (by rw [List.length_map]; omega)
    refine Ce_drop fun G hG => ?_
    simp only [x_partV, bnI_ok, cutD_1, len_en, asSeq_en, asLst_en, lstOf_en, x_callF, x_callFR, liftP_ok, liftR_ok, liftB_bl, liftB_int, callV1, callV2, callV3, callV4, callRV1, callRV2, callRV3, callRV4, p_int, p_bl, p_scr, p_non, p_str, p_lst, p_tup, p_nil, p_cons, p_en, p_ens, Bool.and_self, en_norm, mod_ok, fdiv_lit, mul_lit, add_nat, add_one, lt_int, le_int, gt_int, ge_int, min_int, max_int, neg_int, eq_int, ne_int, eq_bl, ne_bl, len_lst, len_tup, len_scr, Int.reduceLT, Int.reduceLE, Nat.reduceLeDiff, x_bind, x_then, x_seq, x_ret, x_op2, x_op1, x_step, x_nilA, x_consA, x_callB, x_testE, x_toB, x_if, x_retS, x_dropS, x_setS, x_skip, x_andT, x_orT, x_notT, x_ifE, x_andE, x_orE, x_notE, x_chain, x_tupE, x_lstE, x_lstC, x_methL, x_for, x_itSeq, x_asSeq, x_asSeqT, x_asSeqS, x_range1, x_range2, x_enum, x_asLst, x_asg, x_isi, x_slice, x_noPart, x_rev, bnd_ok, bnd_err, thn_ok, thn_err, sq_nx, sq_ret, sq_brk, sq_ct, sq_err, bnB_ok, startE, List.map_cons, List.map_nil, List.length_cons, List.length_nil, Nat.reduceAdd, Nat.reduceSub, List.replicate_succ, List.replicate_zero, List.append_nil, List.cons_append, List.nil_append, if_true, if_false, Bool.false_eq_true, x_v0, x_vs, n_int, n_bl, n_str, n_non, n_lst, n_tup, n_scr, List.getElem?_cons_zero, List.getElem?_cons_succ, List.set_cons_zero, List.set_cons_succ, wipeD, Option.map_some, Bool.not_true, Bool.not_false, P_ok, nt, go, co, w, ix_enl hgj, Option.isSome_some]
    refine hG _ _ ?_
    clear hG G
    rw [show Cell.lst (P[o].map En.e ++ [En.e P[a][j]]) = icell (P[o] ++ [P[a][j]]) by rw [icell, List.map_append]; rfl, nest_set hol]
    refine sk rfl (by decide) ?_
    refine sk rfl (by decide) ?_
    refine sk rfl (by decide) ?_
    refine sk rfl (by decide) ?_
    refine sk8 rfl (by decide) ?_
    refine sk rfl (by decide) ?_
    refine sk rfl (by decide) ?_
    exact fin_nest (by rw [List.length_set]; rfl) (fits_set h8 (by rw [List.length_append]; simp; omega))
  · -- below nought
    refine sk rfl (by decide) ?_
    refine sk rfl (by decide) ?_
    refine sk rfl (by decide) ?_
    refine tk rfl ?_
    have w := set_cell (d := .int (0 - 1 - P[a][j])) (nest_at hga) (show j < _ by rw [List.length_map]; exact hjl)
    refine Ce_asg fun G hG => ?_
    simp only [x_partV, bnI_ok, cutD_1, len_en, asSeq_en, asLst_en, lstOf_en, x_callF, x_callFR, liftP_ok, liftR_ok, liftB_bl, liftB_int, callV1, callV2, callV3, callV4, callRV1, callRV2, callRV3, callRV4, p_int, p_bl, p_scr, p_non, p_str, p_lst, p_tup, p_nil, p_cons, p_en, p_ens, Bool.and_self, en_norm, mod_ok, fdiv_lit, mul_lit, add_nat, add_one, lt_int, le_int, gt_int, ge_int, min_int, max_int, neg_int, eq_int, ne_int, eq_bl, ne_bl, len_lst, len_tup, len_scr, Int.reduceLT, Int.reduceLE, Nat.reduceLeDiff, x_bind, x_then, x_seq, x_ret, x_op2, x_op1, x_step, x_nilA, x_consA, x_callB, x_testE, x_toB, x_if, x_retS, x_dropS, x_setS, x_skip, x_andT, x_orT, x_notT, x_ifE, x_andE, x_orE, x_notE, x_chain, x_tupE, x_lstE, x_lstC, x_methL, x_for, x_itSeq, x_asSeq, x_asSeqT, x_asSeqS, x_range1, x_range2, x_enum, x_asLst, x_asg, x_isi, x_slice, x_noPart, x_rev, bnd_ok, bnd_err, thn_ok, thn_err, sq_nx, sq_ret, sq_brk, sq_ct, sq_err, bnB_ok, startE, List.map_cons, List.map_nil, List.length_cons, List.length_nil, Nat.reduceAdd, Nat.reduceSub, List.replicate_succ, List.replicate_zero, List.append_nil, List.cons_append, List.nil_append, if_true, if_false, Bool.false_eq_true, x_v0, x_vs, n_int, n_bl, n_str, n_non, n_lst, n_tup, n_scr, List.getElem?_cons_zero, List.getElem?_cons_succ, List.set_cons_zero, List.set_cons_succ, wipeD, Option.map_some, Bool.not_true, Bool.not_false, P_ok, nt, ga, w, sub_int, ix_enl hgj, en_int]
    refine ⟨_, rfl, hG _ _ ?_⟩
    clear hG G
    rw [show Cell.lst ((P[a].map En.e).set j (.int (0 - 1 - P[a][j]))) = icell (P[a].set j (0 - 1 - P[a][j])) by rw [icell, List.map_set]; rfl, nest_set hal]
    refine sk rfl (by decide) ?_
    refine sk rfl (by decide) ?_
    refine sk rfl (by decide) ?_
    refine sk8 rfl (by decide) ?_
    refine sk rfl (by decide) ?_
    refine sk rfl (by decide) ?_
    exact fin_nest (by rw [List.length_set]; rfl) (fits_set h8 (by rw [List.length_set]; omega))
  · -- beyond the last
    refine sk rfl (by decide) ?_
    refine sk rfl (by decide) ?_
    refine sk rfl (by decide) ?_
    refine sk rfl (by decide) ?_
    refine tk rfl ?_
    have w := app_cell (d := .int ((m : Nat) + c / 704 % 3)) (nest_at hga) (by rw [List.length_map]; omega)
    refine Ce_drop fun G hG => ?_
    simp only [x_partV, bnI_ok, cutD_1, len_en, asSeq_en, asLst_en, lstOf_en, x_callF, x_callFR, liftP_ok, liftR_ok, liftB_bl, liftB_int, callV1, callV2, callV3, callV4, callRV1, callRV2, callRV3, callRV4, p_int, p_bl, p_scr, p_non, p_str, p_lst, p_tup, p_nil, p_cons, p_en, p_ens, Bool.and_self, en_norm, mod_ok, fdiv_lit, mul_lit, add_nat, add_one, lt_int, le_int, gt_int, ge_int, min_int, max_int, neg_int, eq_int, ne_int, eq_bl, ne_bl, len_lst, len_tup, len_scr, Int.reduceLT, Int.reduceLE, Nat.reduceLeDiff, x_bind, x_then, x_seq, x_ret, x_op2, x_op1, x_step, x_nilA, x_consA, x_callB, x_testE, x_toB, x_if, x_retS, x_dropS, x_setS, x_skip, x_andT, x_orT, x_notT, x_ifE, x_andE, x_orE, x_notE, x_chain, x_tupE, x_lstE, x_lstC, x_methL, x_for, x_itSeq, x_asSeq, x_asSeqT, x_asSeqS, x_range1, x_range2, x_enum, x_asLst, x_asg, x_isi, x_slice, x_noPart, x_rev, bnd_ok, bnd_err, thn_ok, thn_err, sq_nx, sq_ret, sq_brk, sq_ct, sq_err, bnB_ok, startE, List.map_cons, List.map_nil, List.length_cons, List.length_nil, Nat.reduceAdd, Nat.reduceSub, List.replicate_succ, List.replicate_zero, List.append_nil, List.cons_append, List.nil_append, if_true, if_false, Bool.false_eq_true, x_v0, x_vs, n_int, n_bl, n_str, n_non, n_lst, n_tup, n_scr, List.getElem?_cons_zero, List.getElem?_cons_succ, List.set_cons_zero, List.set_cons_succ, wipeD, Option.map_some, Bool.not_true, Bool.not_false, P_ok, nt, ga, ca, w, add_int, Option.isSome_some]
    refine hG _ _ ?_
    clear hG G
    rw [show Cell.lst (P[a].map En.e ++ [.int ((m : Nat) + c / 704 % 3)]) = icell (P[a] ++ [(m : Nat) + c / 704 % 3]) by rw [icell, List.map_append]; rfl, nest_set hal]
    refine sk rfl (by decide) ?_
    refine sk rfl (by decide) ?_
    refine sk8 rfl (by decide) ?_
    refine sk rfl (by decide) ?_
    refine sk rfl (by decide) ?_
    exact fin_nest (by rw [List.length_set]; rfl) (fits_set h8 (by rw [List.length_append]; simp; omega))
  · -- an empty piece
    refine sk rfl (by decide) ?_
    refine sk rfl (by decide) ?_
    refine sk rfl (by decide) ?_
    refine sk rfl (by decide) ?_
    refine sk rfl (by decide) ?_
    refine tk rfl ?_
    have pos3 : (0 : Int) < (P.length : Nat) + 1 := by omega
    obtain ⟨u, hu⟩ : ∃ u : Nat, c / 704 % ((P.length : Nat) + 1) = (u : Nat) := ⟨_, (Int.toNat_of_nonneg (Int.emod_nonneg _ (Int.ne_of_gt pos3))).symm⟩
    have hul : u ≤ P.length := by have := Int.emod_lt_of_pos (c / 704) pos3; rw [hu] at this; omega
    have w := ins_cell (d := .lst []) (nest_top P) (by rw [List.length_map, List.length_range]; omega) (show u ≤ _ by rw [List.length_map, List.length_range]; exact hul)
    refine Ce_drop fun G hG => ?_
    simp only [x_partV, bnI_ok, cutD_1, len_en, asSeq_en, asLst_en, lstOf_en, x_callF, x_callFR, liftP_ok, liftR_ok, liftB_bl, liftB_int, callV1, callV2, callV3, callV4, callRV1, callRV2, callRV3, callRV4, p_int, p_bl, p_scr, p_non, p_str, p_lst, p_tup, p_nil, p_cons, p_en, p_ens, Bool.and_self, en_norm, mod_ok, fdiv_lit, mul_lit, add_nat, add_one, lt_int, le_int, gt_int, ge_int, min_int, max_int, neg_int, eq_int, ne_int, eq_bl, ne_bl, len_lst, len_tup, len_scr, Int.reduceLT, Int.reduceLE, Nat.reduceLeDiff, x_bind, x_then, x_seq, x_ret, x_op2, x_op1, x_step, x_nilA, x_consA, x_callB, x_testE, x_toB, x_if, x_retS, x_dropS, x_setS, x_skip, x_andT, x_orT, x_notT, x_ifE, x_andE, x_orE, x_notE, x_chain, x_tupE, x_lstE, x_lstC, x_methL, x_for, x_itSeq, x_asSeq, x_asSeqT, x_asSeqS, x_range1, x_range2, x_enum, x_asLst, x_asg, x_isi, x_slice, x_noPart, x_rev, bnd_ok, bnd_err, thn_ok, thn_err, sq_nx, sq_ret, sq_brk, sq_ct, sq_err, bnB_ok, startE, List.map_cons, List.map_nil, List.length_cons, List.length_nil, Nat.reduceAdd, Nat.reduceSub, List.replicate_succ, List.replicate_zero, List.append_nil, List.cons_append, List.nil_append, if_true, if_false, Bool.false_eq_true, x_v0, x_vs, n_int, n_bl, n_str, n_non, n_lst, n_tup, n_scr, List.getElem?_cons_zero, List.getElem?_cons_succ, List.set_cons_zero, List.set_cons_succ, wipeD, Option.map_some, Bool.not_true, Bool.not_false, P_ok, nt, ct, w, add_int, mod_ok pos3, hu, Option.isSome_some, show (0 : Nat) ≤ 100000 by omega]
    refine hG _ _ ?_
    clear hG G
    refine sk rfl (by decide) ?_
    refine sk8 rfl (by decide) ?_
    refine sk rfl (by decide) ?_
    refine sk rfl (by decide) ?_
    have hi : Items (nest P) (((List.range P.length).map D.loc).take u ++ .lst [] :: ((List.range P.length).map D.loc).drop u) (P.take u ++ [] :: P.drop u) :=
      Items.app (Items.take u (nest_items P)) ⟨.inr rfl, Items.drop u (nest_items P)⟩
    refine fin rfl (List.getElem?_set_self (by simp)) (items_keep hi fun i x hm h => ?_) ⟨by rw [(perm_ins P [] u).length_eq, List.length_cons]; omega, fun p hp => ?_⟩
    · have : D.loc i ∈ (List.range P.length).map D.loc := by
        rcases List.mem_append.mp hm with hm | hm
        · exact List.mem_of_mem_take hm
        · rcases List.mem_cons.mp hm with hm | hm
          · cases hm
          · exact List.mem_of_mem_drop hm
      obtain ⟨i', hi', e⟩ := List.mem_map.mp this
      cases e
      rw [List.getElem?_set_ne (by have := List.mem_range.mp hi'; omega)]
      exact h
    · rcases List.mem_cons.mp ((perm_ins P [] u).mem_iff.mp hp) with rfl | hp
      · simp
      · have := h8.2 p hp; omega
  · -- one left out
    refine sk rfl (by decide) ?_
    refine sk rfl (by decide) ?_
    refine sk rfl (by decide) ?_
    refine sk rfl (by decide) ?_
    refine sk rfl (by decide) ?_
    refine sk rfl (by decide) ?_
    refine tk rfl ?_
    have hla : ((List.range P.length).map D.loc)[a]? = some (.loc a) := by rw [List.getElem?_map, List.getElem?_range hal]; rfl
    have w := pop_cell (nest_top P) hla (by omega)
    refine Ce_drop fun G hG => ?_
    simp only [x_partV, bnI_ok, cutD_1, len_en, asSeq_en, asLst_en, lstOf_en, x_callF, x_callFR, liftP_ok, liftR_ok, liftB_bl, liftB_int, callV1, callV2, callV3, callV4, callRV1, callRV2, callRV3, callRV4, p_int, p_bl, p_scr, p_non, p_str, p_lst, p_tup, p_nil, p_cons, p_en, p_ens, Bool.and_self, en_norm, mod_ok, fdiv_lit, mul_lit, add_nat, add_one, lt_int, le_int, gt_int, ge_int, min_int, max_int, neg_int, eq_int, ne_int, eq_bl, ne_bl, len_lst, len_tup, len_scr, Int.reduceLT, Int.reduceLE, Nat.reduceLeDiff, x_bind, x_then, x_seq, x_ret, x_op2, x_op1, x_step, x_nilA, x_consA, x_callB, x_testE, x_toB, x_if, x_retS, x_dropS, x_setS, x_skip, x_andT, x_orT, x_notT, x_ifE, x_andE, x_orE, x_notE, x_chain, x_tupE, x_lstE, x_lstC, x_methL, x_for, x_itSeq, x_asSeq, x_asSeqT, x_asSeqS, x_range1, x_range2, x_enum, x_asLst, x_asg, x_isi, x_slice, x_noPart, x_rev, bnd_ok, bnd_err, thn_ok, thn_err, sq_nx, sq_ret, sq_brk, sq_ct, sq_err, bnB_ok, startE, List.map_cons, List.map_nil, List.length_cons, List.length_nil, Nat.reduceAdd, Nat.reduceSub, List.replicate_succ, List.replicate_zero, List.append_nil, List.cons_append, List.nil_append, if_true, if_false, Bool.false_eq_true, x_v0, x_vs, n_int, n_bl, n_str, n_non, n_lst, n_tup, n_scr, List.getElem?_cons_zero, List.getElem?_cons_succ, List.set_cons_zero, List.set_cons_succ, wipeD, Option.map_some, Bool.not_true, Bool.not_false, P_ok, nt, ct, w, Option.isSome_some]
    refine hG _ _ ?_
    clear hG G
    refine sk8 rfl (by decide) ?_
    refine sk rfl (by decide) ?_
    refine sk rfl (by decide) ?_
    have hi : Items (nest P) (((List.range P.length).map D.loc).eraseIdx a) (P.eraseIdx a) := by
      rw [List.eraseIdx_eq_take_drop_succ, List.eraseIdx_eq_take_drop_succ]
      exact Items.app (Items.take a (nest_items P)) (Items.drop (a + 1) (nest_items P))
    refine fin rfl (List.getElem?_set_self (by simp)) (items_keep hi fun i x hm h => ?_) ⟨by rw [List.length_eraseIdx]; split <;> omega, fun p hp => ?_⟩
    · obtain ⟨i', hi', e⟩ := List.mem_map.mp (List.mem_of_mem_eraseIdx hm)
      cases e
      rw [List.getElem?_set_ne (by have := List.mem_range.mp hi'; omega)]
      exact h
    · have := h8.2 p (List.mem_of_mem_eraseIdx hp); omega
  · -- two made one
    refine sk rfl (by decide) ?_
    refine sk rfl (by decide) ?_
    refine sk rfl (by decide) ?_
    refine sk rfl (by decide) ?_
    refine sk rfl (by decide) ?_
    refine sk rfl (by decide) ?_
    refine sk rfl (by decide) ?_
    by_cases hoa : o = a
    · refine Ws_no (S1 := nest P) ?_ ?_
      · have e : ((o : Nat) : Int) = (a : Nat) := by rw [hoa]
        simp only [x_partV, bnI_ok, cutD_1, len_en, asSeq_en, asLst_en, lstOf_en, x_callF, x_callFR, liftP_ok, liftR_ok, liftB_bl, liftB_int, callV1, callV2, callV3, callV4, callRV1, callRV2, callRV3, callRV4, p_int, p_bl, p_scr, p_non, p_str, p_lst, p_tup, p_nil, p_cons, p_en, p_ens, Bool.and_self, en_norm, mod_ok, fdiv_lit, mul_lit, add_nat, add_one, lt_int, le_int, gt_int, ge_int, min_int, max_int, neg_int, eq_int, ne_int, eq_bl, ne_bl, len_lst, len_tup, len_scr, Int.reduceLT, Int.reduceLE, Nat.reduceLeDiff, x_bind, x_then, x_seq, x_ret, x_op2, x_op1, x_step, x_nilA, x_consA, x_callB, x_testE, x_toB, x_if, x_retS, x_dropS, x_setS, x_skip, x_andT, x_orT, x_notT, x_ifE, x_andE, x_orE, x_notE, x_chain, x_tupE, x_lstE, x_lstC, x_methL, x_for, x_itSeq, x_asSeq, x_asSeqT, x_asSeqS, x_range1, x_range2, x_enum, x_asLst, x_asg, x_isi, x_slice, x_noPart, x_rev, bnd_ok, bnd_err, thn_ok, thn_err, sq_nx, sq_ret, sq_brk, sq_ct, sq_err, bnB_ok, startE, List.map_cons, List.map_nil, List.length_cons, List.length_nil, Nat.reduceAdd, Nat.reduceSub, List.replicate_succ, List.replicate_zero, List.append_nil, List.cons_append, List.nil_append, if_true, if_false, Bool.false_eq_true, x_v0, x_vs, n_int, n_bl, n_str, n_non, n_lst, n_tup, n_scr, List.getElem?_cons_zero, List.getElem?_cons_succ, List.set_cons_zero, List.set_cons_succ, wipeD, Option.map_some, Bool.not_true, Bool.not_false, decide_true, e]
      refine sk rfl (by decide) ?_
      refine sk rfl (by decide) ?_
      exact fin_nest rfl ⟨by omega, fun p hp => by have := h8.2 p hp; omega⟩
    · have e : ¬ ((o : Nat) : Int) = (a : Nat) := fun e => hoa (Int.ofNat_inj.mp e)
      refine Ws_if (z := true) (S1 := nest P) (by simp only [x_partV, bnI_ok, cutD_1, len_en, asSeq_en, asLst_en, lstOf_en, x_callF, x_callFR, liftP_ok, liftR_ok, liftB_bl, liftB_int, callV1, callV2, callV3, callV4, callRV1, callRV2, callRV3, callRV4, p_int, p_bl, p_scr, p_non, p_str, p_lst, p_tup, p_nil, p_cons, p_en, p_ens, Bool.and_self, en_norm, mod_ok, fdiv_lit, mul_lit, add_nat, add_one, lt_int, le_int, gt_int, ge_int, min_int, max_int, neg_int, eq_int, ne_int, eq_bl, ne_bl, len_lst, len_tup, len_scr, Int.reduceLT, Int.reduceLE, Nat.reduceLeDiff, x_bind, x_then, x_seq, x_ret, x_op2, x_op1, x_step, x_nilA, x_consA, x_callB, x_testE, x_toB, x_if, x_retS, x_dropS, x_setS, x_skip, x_andT, x_orT, x_notT, x_ifE, x_andE, x_orE, x_notE, x_chain, x_tupE, x_lstE, x_lstC, x_methL, x_for, x_itSeq, x_asSeq, x_asSeqT, x_asSeqS, x_range1, x_range2, x_enum, x_asLst, x_asg, x_isi, x_slice, x_noPart, x_rev, bnd_ok, bnd_err, thn_ok, thn_err, sq_nx, sq_ret, sq_brk, sq_ct, sq_err, bnB_ok, startE, List.map_cons, List.map_nil, List.length_cons, List.length_nil, Nat.reduceAdd, Nat.reduceSub, List.replicate_succ, List.replicate_zero, List.append_nil, List.cons_append, List.nil_append, if_true, if_false, Bool.false_eq_true, x_v0, x_vs, n_int, n_bl, n_str, n_non, n_lst, n_tup, n_scr, List.getElem?_cons_zero, List.getElem?_cons_succ, List.set_cons_zero, List.set_cons_succ, wipeD, Option.map_some, Bool.not_true, Bool.not_false, decide_true, decide_false, e]) ?_
      rw [if_pos rfl]
      have ad : ∀ S : Store, addG S (En.e P[a]) (En.e P[o]) = some (En.e (P[a] ++ P[o]), S) := fun S => by
        rw [en_list, en_list, add_lst (by rw [List.length_map, List.length_map]; omega), en_list, List.map_append]
      have w := set_cell (d := En.e (P[a] ++ P[o])) (nest_top P) (show a < _ by rw [List.length_map, List.length_range]; exact hal)
      refine Cs_asg fun G hG => ?_
      simp only [x_partV, bnI_ok, cutD_1, len_en, asSeq_en, asLst_en, lstOf_en, x_callF, x_callFR, liftP_ok, liftR_ok, liftB_bl, liftB_int, callV1, callV2, callV3, callV4, callRV1, callRV2, callRV3, callRV4, p_int, p_bl, p_scr, p_non, p_str, p_lst, p_tup, p_nil, p_cons, p_en, p_ens, Bool.and_self, en_norm, mod_ok, fdiv_lit, mul_lit, add_nat, add_one, lt_int, le_int, gt_int, ge_int, min_int, max_int, neg_int, eq_int, ne_int, eq_bl, ne_bl, len_lst, len_tup, len_scr, Int.reduceLT, Int.reduceLE, Nat.reduceLeDiff, x_bind, x_then, x_seq, x_ret, x_op2, x_op1, x_step, x_nilA, x_consA, x_callB, x_testE, x_toB, x_if, x_retS, x_dropS, x_setS, x_skip, x_andT, x_orT, x_notT, x_ifE, x_andE, x_orE, x_notE, x_chain, x_tupE, x_lstE, x_lstC, x_methL, x_for, x_itSeq, x_asSeq, x_asSeqT, x_asSeqS, x_range1, x_range2, x_enum, x_asLst, x_asg, x_isi, x_slice, x_noPart, x_rev, bnd_ok, bnd_err, thn_ok, thn_err, sq_nx, sq_ret, sq_brk, sq_ct, sq_err, bnB_ok, startE, List.map_cons, List.map_nil, List.length_cons, List.length_nil, Nat.reduceAdd, Nat.reduceSub, List.replicate_succ, List.replicate_zero, List.append_nil, List.cons_append, List.nil_append, if_true, if_false, Bool.false_eq_true, x_v0, x_vs, n_int, n_bl, n_str, n_non, n_lst, n_tup, n_scr, List.getElem?_cons_zero, List.getElem?_cons_succ, List.set_cons_zero, List.set_cons_succ, wipeD, Option.map_some, Bool.not_true, Bool.not_false, P_ok, nt, ix_enl hgo, ad, w]
      refine ⟨_, rfl, hG _ _ ?_⟩
      clear hG G
      have tp : ((nest P).set P.length (.lst (((List.range P.length).map D.loc).set a (En.e (P[a] ++ P[o])))))[P.length]? = some (.lst (((List.range P.length).map D.loc).set a (En.e (P[a] ++ P[o])))) := List.getElem?_set_self (by simp)
      have hlo : (((List.range P.length).map D.loc).set a (En.e (P[a] ++ P[o])))[o]? = some (.loc o) := by
        rw [List.getElem?_set_ne (fun e => hoa e.symm), List.getElem?_map, List.getElem?_range hol]; rfl
      have w2 := pop_cell tp hlo (by omega)
      refine Ce_drop fun G hG => ?_
      simp only [x_partV, bnI_ok, cutD_1, len_en, asSeq_en, asLst_en, lstOf_en, x_callF, x_callFR, liftP_ok, liftR_ok, liftB_bl, liftB_int, callV1, callV2, callV3, callV4, callRV1, callRV2, callRV3, callRV4, p_int, p_bl, p_scr, p_non, p_str, p_lst, p_tup, p_nil, p_cons, p_en, p_ens, Bool.and_self, en_norm, mod_ok, fdiv_lit, mul_lit, add_nat, add_one, lt_int, le_int, gt_int, ge_int, min_int, max_int, neg_int, eq_int, ne_int, eq_bl, ne_bl, len_lst, len_tup, len_scr, Int.reduceLT, Int.reduceLE, Nat.reduceLeDiff, x_bind, x_then, x_seq, x_ret, x_op2, x_op1, x_step, x_nilA, x_consA, x_callB, x_testE, x_toB, x_if, x_retS, x_dropS, x_setS, x_skip, x_andT, x_orT, x_notT, x_ifE, x_andE, x_orE, x_notE, x_chain, x_tupE, x_lstE, x_lstC, x_methL, x_for, x_itSeq, x_asSeq, x_asSeqT, x_asSeqS, x_range1, x_range2, x_enum, x_asLst, x_asg, x_isi, x_slice, x_noPart, x_rev, bnd_ok, bnd_err, thn_ok, thn_err, sq_nx, sq_ret, sq_brk, sq_ct, sq_err, bnB_ok, startE, List.map_cons, List.map_nil, List.length_cons, List.length_nil, Nat.reduceAdd, Nat.reduceSub, List.replicate_succ, List.replicate_zero, List.append_nil, List.cons_append, List.nil_append, if_true, if_false, Bool.false_eq_true, x_v0, x_vs, n_int, n_bl, n_str, n_non, n_lst, n_tup, n_scr, List.getElem?_cons_zero, List.getElem?_cons_succ, List.set_cons_zero, List.set_cons_succ, wipeD, Option.map_some, Bool.not_true, Bool.not_false, P_ok, norm_loc tp, lst_cell tp, w2, Option.isSome_some]
      refine hG _ _ ?_
      clear hG G
      refine sk rfl (by decide) ?_
      refine sk rfl (by decide) ?_
      have hi0 : Items (nest P) (((List.range P.length).map D.loc).set a (En.e (P[a] ++ P[o]))) (P.set a (P[a] ++ P[o])) := by
        refine items_of (by simp) fun i d x h1 h2 => ?_
        by_cases q : a = i
        · subst q
          rw [List.getElem?_set_self (by simpa using hal)] at h1
          rw [List.getElem?_set_self hal] at h2
          cases h1; cases h2
          exact .inr rfl
        · rw [List.getElem?_set_ne q] at h1 h2
          have hi := (List.getElem?_eq_some_iff.mp h2).1
          rw [List.getElem?_map, List.getElem?_range hi] at h1
          cases h1
          exact .inl ⟨i, rfl, nest_at h2⟩
      have hi : Items (nest P) ((((List.range P.length).map D.loc).set a (En.e (P[a] ++ P[o]))).eraseIdx o) ((P.set a (P[a] ++ P[o])).eraseIdx o) := by
        rw [List.eraseIdx_eq_take_drop_succ, List.eraseIdx_eq_take_drop_succ]
        exact Items.app (Items.take o hi0) (Items.drop (o + 1) hi0)
      refine fin rfl (List.getElem?_set_self (by simp)) (items_keep hi fun i x hm h => ?_) ⟨by rw [List.length_eraseIdx, List.length_set]; split <;> omega, fun p hp => ?_⟩
      · have hm' := List.mem_of_mem_eraseIdx hm
        rcases List.mem_or_eq_of_mem_set hm' with hm' | hm'
        · obtain ⟨i', hi', e⟩ := List.mem_map.mp hm'
          cases e
          have := List.mem_range.mp hi'
          rw [List.getElem?_set_ne (by omega), List.getElem?_set_ne (by omega)]
          exact h
        · rw [en_list] at hm'; cases hm'
      · rcases List.mem_or_eq_of_mem_set (List.mem_of_mem_eraseIdx hp) with hp | rfl
        · have := h8.2 p hp; omega
        · rw [List.length_append]; omega
  · -- one parted in two
    refine sk rfl (by decide) ?_
    refine sk rfl (by decide) ?_
    refine sk rfl (by decide) ?_
    refine sk rfl (by decide) ?_
    refine sk rfl (by decide) ?_
    refine sk rfl (by decide) ?_
    refine sk rfl (by decide) ?_
    refine sk8 rfl (by decide) ?_
    refine tk rfl ?_
    have s1 : slL (nest P) (.loc P.length) none (some ((a : Nat) : Int)) = some (.lst (((List.range P.length).map D.loc).take a), nest P) := by rw [slL_loc (nest_top P), cutD_to]
    have s2 : slL (nest P) (.loc P.length) (some (((a + 1 : Nat)) : Int)) none = some (.lst (((List.range P.length).map D.loc).drop (a + 1)), nest P) := by rw [slL_loc (nest_top P), cutD_one]
    have s3 : ∀ S : Store, slL S (En.e P[a]) none (some (((j + 1 : Nat)) : Int)) = some (En.e (P[a].take (j + 1)), S) := fun S => by rw [slL_en, cutD_to, en_list, List.map_take]
    have s4 : ∀ S : Store, slL S (En.e P[a]) (some (((j + 1 : Nat)) : Int)) none = some (En.e (P[a].drop (j + 1)), S) := fun S => by rw [slL_en, cutD_one, en_list, List.map_drop]
    have lt1 : (((List.range P.length).map D.loc).take a).length ≤ 8 := by rw [List.length_take, List.length_map, List.length_range]; omega
    have lt2 : (((List.range P.length).map D.loc).drop (a + 1)).length ≤ 8 := by rw [List.length_drop, List.length_map, List.length_range]; omega
    have a1 : addG (nest P) (.lst (((List.range P.length).map D.loc).take a)) (.lst [En.e (P[a].take (j + 1)), En.e (P[a].drop (j + 1))]) = some (.lst (((List.range P.length).map D.loc).take a ++ [En.e (P[a].take (j + 1)), En.e (P[a].drop (j + 1))]), nest P) := add_lst (by simp only [List.length_cons, List.length_nil]; omega)
    have a2 : addGC (nest P) (.lst (((List.range P.length).map D.loc).take a ++ [En.e (P[a].take (j + 1)), En.e (P[a].drop (j + 1))])) (.lst (((List.range P.length).map D.loc).drop (a + 1))) =
        some (.loc (nest P).length, nest P ++ [.lst (((List.range P.length).map D.loc).take a ++ [En.e (P[a].take (j + 1)), En.e (P[a].drop (j + 1))] ++ ((List.range P.length).map D.loc).drop (a + 1))]) := by
      unfold addGC orG addI intG addLC
      simp only [lstOf]
      rw [if_pos (by rw [List.length_append]; simp only [List.length_cons, List.length_nil]; omega)]
    refine Ce_set fun G hG => ?_
    simp only [x_partV, bnI_ok, cutD_1, len_en, asSeq_en, asLst_en, lstOf_en, x_callF, x_callFR, liftP_ok, liftR_ok, liftB_bl, liftB_int, callV1, callV2, callV3, callV4, callRV1, callRV2, callRV3, callRV4, p_int, p_bl, p_scr, p_non, p_str, p_lst, p_tup, p_nil, p_cons, p_en, p_ens, Bool.and_self, en_norm, mod_ok, fdiv_lit, mul_lit, add_nat, add_one, lt_int, le_int, gt_int, ge_int, min_int, max_int, neg_int, eq_int, ne_int, eq_bl, ne_bl, len_lst, len_tup, len_scr, Int.reduceLT, Int.reduceLE, Nat.reduceLeDiff, x_bind, x_then, x_seq, x_ret, x_op2, x_op1, x_step, x_nilA, x_consA, x_callB, x_testE, x_toB, x_if, x_retS, x_dropS, x_setS, x_skip, x_andT, x_orT, x_notT, x_ifE, x_andE, x_orE, x_notE, x_chain, x_tupE, x_lstE, x_lstC, x_methL, x_for, x_itSeq, x_asSeq, x_asSeqT, x_asSeqS, x_range1, x_range2, x_enum, x_asLst, x_asg, x_isi, x_slice, x_noPart, x_rev, bnd_ok, bnd_err, thn_ok, thn_err, sq_nx, sq_ret, sq_brk, sq_ct, sq_err, bnB_ok, startE, List.map_cons, List.map_nil, List.length_cons, List.length_nil, Nat.reduceAdd, Nat.reduceSub, List.replicate_succ, List.replicate_zero, List.append_nil, List.cons_append, List.nil_append, if_true, if_false, Bool.false_eq_true, x_v0, x_vs, n_int, n_bl, n_str, n_non, n_lst, n_tup, n_scr, List.getElem?_cons_zero, List.getElem?_cons_succ, List.set_cons_zero, List.set_cons_succ, wipeD, Option.map_some, Bool.not_true, Bool.not_false, P_ok, nt, s1, s2, s3, s4, a1, a2, show (2 : Nat) ≤ 100000 by omega]
    refine hG _ _ ?_
    clear hG G
    simp only [List.set_cons_zero, List.set_cons_succ]
    refine sk rfl (by decide) ?_
    have hi : Items (nest P) (((List.range P.length).map D.loc).take a ++ [En.e (P[a].take (j + 1)), En.e (P[a].drop (j + 1))] ++ ((List.range P.length).map D.loc).drop (a + 1)) (P.take a ++ [P[a].take (j + 1), P[a].drop (j + 1)] ++ P.drop (a + 1)) :=
      Items.app (Items.app (Items.take a (nest_items P)) ⟨.inr rfl, .inr rfl, True.intro⟩) (Items.drop (a + 1) (nest_items P))
    refine fin rfl (by rw [List.getElem?_append_right (Nat.le_refl _), Nat.sub_self]; rfl) (items_keep hi fun i x hm h => ?_) ⟨?_, fun p hp => ?_⟩
    · rw [List.getElem?_append_left (List.getElem?_eq_some_iff.mp h).1]; exact h
    · simp only [List.length_append, List.length_take, List.length_drop, List.length_cons, List.length_nil]; omega
    · rcases List.mem_append.mp hp with hp | hp
      · rcases List.mem_append.mp hp with hp | hp
        · have := h8.2 p (List.mem_of_mem_take hp); omega
        · simp only [List.mem_cons, List.not_mem_nil, or_false] at hp
          rcases hp with rfl | rfl
          · rw [List.length_take]; omega
          · rw [List.length_drop]; omega
      · have := h8.2 p (List.mem_of_mem_drop hp); omega
  · -- two exchanged
    refine sk rfl (by decide) ?_
    refine sk rfl (by decide) ?_
    refine sk rfl (by decide) ?_
    refine sk rfl (by decide) ?_
    refine sk rfl (by decide) ?_
    refine sk rfl (by decide) ?_
    refine sk rfl (by decide) ?_
    refine sk8 rfl (by decide) ?_
    refine sk rfl (by decide) ?_
    refine tk rfl ?_
    have pos3 : (0 : Int) < (P[o].length : Nat) := by have := List.length_pos_iff.mpr (hne _ hmo); omega
    obtain ⟨u, hu⟩ : ∃ u : Nat, c / 5632 % (P[o].length : Nat) = (u : Nat) := ⟨_, (Int.toNat_of_nonneg (Int.emod_nonneg _ (Int.ne_of_gt pos3))).symm⟩
    have hul : u < P[o].length := by have := Int.emod_lt_of_pos (c / 5632) pos3; rw [hu] at this; omega
    have hgu : P[o][u]? = some P[o][u] := List.getElem?_eq_getElem hul
    refine Cs_set fun G hG => ?_
    simp only [x_partV, bnI_ok, cutD_1, len_en, asSeq_en, asLst_en, lstOf_en, x_callF, x_callFR, liftP_ok, liftR_ok, liftB_bl, liftB_int, callV1, callV2, callV3, callV4, callRV1, callRV2, callRV3, callRV4, p_int, p_bl, p_scr, p_non, p_str, p_lst, p_tup, p_nil, p_cons, p_en, p_ens, Bool.and_self, en_norm, mod_ok, fdiv_lit, mul_lit, add_nat, add_one, lt_int, le_int, gt_int, ge_int, min_int, max_int, neg_int, eq_int, ne_int, eq_bl, ne_bl, len_lst, len_tup, len_scr, Int.reduceLT, Int.reduceLE, Nat.reduceLeDiff, x_bind, x_then, x_seq, x_ret, x_op2, x_op1, x_step, x_nilA, x_consA, x_callB, x_testE, x_toB, x_if, x_retS, x_dropS, x_setS, x_skip, x_andT, x_orT, x_notT, x_ifE, x_andE, x_orE, x_notE, x_chain, x_tupE, x_lstE, x_lstC, x_methL, x_for, x_itSeq, x_asSeq, x_asSeqT, x_asSeqS, x_range1, x_range2, x_enum, x_asLst, x_asg, x_isi, x_slice, x_noPart, x_rev, bnd_ok, bnd_err, thn_ok, thn_err, sq_nx, sq_ret, sq_brk, sq_ct, sq_err, bnB_ok, startE, List.map_cons, List.map_nil, List.length_cons, List.length_nil, Nat.reduceAdd, Nat.reduceSub, List.replicate_succ, List.replicate_zero, List.append_nil, List.cons_append, List.nil_append, if_true, if_false, Bool.false_eq_true, x_v0, x_vs, n_int, n_bl, n_str, n_non, n_lst, n_tup, n_scr, List.getElem?_cons_zero, List.getElem?_cons_succ, List.set_cons_zero, List.set_cons_succ, wipeD, Option.map_some, Bool.not_true, Bool.not_false, P_ok, ix_enl hgo, mod_ok pos3, hu]
    refine hG _ _ ?_
    clear hG G
    simp only [List.set_cons_zero, List.set_cons_succ]
    have w := set_cell (d := En.e P[o][u]) (nest_at hga) (show j < _ by rw [List.length_map]; exact hjl)
    refine Cs_asg fun G hG => ?_
    simp only [x_partV, bnI_ok, cutD_1, len_en, asSeq_en, asLst_en, lstOf_en, x_callF, x_callFR, liftP_ok, liftR_ok, liftB_bl, liftB_int, callV1, callV2, callV3, callV4, callRV1, callRV2, callRV3, callRV4, p_int, p_bl, p_scr, p_non, p_str, p_lst, p_tup, p_nil, p_cons, p_en, p_ens, Bool.and_self, en_norm, mod_ok, fdiv_lit, mul_lit, add_nat, add_one, lt_int, le_int, gt_int, ge_int, min_int, max_int, neg_int, eq_int, ne_int, eq_bl, ne_bl, len_lst, len_tup, len_scr, Int.reduceLT, Int.reduceLE, Nat.reduceLeDiff, x_bind, x_then, x_seq, x_ret, x_op2, x_op1, x_step, x_nilA, x_consA, x_callB, x_testE, x_toB, x_if, x_retS, x_dropS, x_setS, x_skip, x_andT, x_orT, x_notT, x_ifE, x_andE, x_orE, x_notE, x_chain, x_tupE, x_lstE, x_lstC, x_methL, x_for, x_itSeq, x_asSeq, x_asSeqT, x_asSeqS, x_range1, x_range2, x_enum, x_asLst, x_asg, x_isi, x_slice, x_noPart, x_rev, bnd_ok, bnd_err, thn_ok, thn_err, sq_nx, sq_ret, sq_brk, sq_ct, sq_err, bnB_ok, startE, List.map_cons, List.map_nil, List.length_cons, List.length_nil, Nat.reduceAdd, Nat.reduceSub, List.replicate_succ, List.replicate_zero, List.append_nil, List.cons_append, List.nil_append, if_true, if_false, Bool.false_eq_true, x_v0, x_vs, n_int, n_bl, n_str, n_non, n_lst, n_tup, n_scr, List.getElem?_cons_zero, List.getElem?_cons_succ, List.set_cons_zero, List.set_cons_succ, wipeD, Option.map_some, Bool.not_true, Bool.not_false, P_ok, nt, ga, w, ix_enl hgo, ix_enl hgu]
    refine ⟨_, rfl, hG _ _ ?_⟩
    clear hG G
    rw [show Cell.lst ((P[a].map En.e).set j (En.e P[o][u])) = icell (P[a].set j P[o][u]) by rw [icell, List.map_set], nest_set hal]
    generalize hQ : P.set a (P[a].set j P[o][u]) = Q at *
    have hQl : Q.length = P.length := by rw [← hQ, List.length_set]
    have hol' : o < Q.length := by rw [hQl]; exact hol
    have hgq : Q[o]? = some Q[o] := List.getElem?_eq_getElem hol'
    have hql : Q[o].length = P[o].length := by
      subst hQ
      rw [List.getElem_set]
      split
      · rename_i q; subst q; rw [List.length_set]
      · rfl
    have ntq : norm (nest Q) (.loc P.length) = .loc P.length := norm_loc (by rw [← hQl]; exact nest_top Q)
    have goq : ixG (nest Q) (.loc P.length) (.int (o : Nat)) = some (.loc o, nest Q) := by rw [← hQl]; exact ix_nest hol'
    have w2 := set_cell (d := En.e P[a][j]) (nest_at hgq) (show u < _ by rw [List.length_map, hql]; exact hul)
    refine Ce_asg fun G hG => ?_
    simp only [x_partV, bnI_ok, cutD_1, len_en, asSeq_en, asLst_en, lstOf_en, x_callF, x_callFR, liftP_ok, liftR_ok, liftB_bl, liftB_int, callV1, callV2, callV3, callV4, callRV1, callRV2, callRV3, callRV4, p_int, p_bl, p_scr, p_non, p_str, p_lst, p_tup, p_nil, p_cons, p_en, p_ens, Bool.and_self, en_norm, mod_ok, fdiv_lit, mul_lit, add_nat, add_one, lt_int, le_int, gt_int, ge_int, min_int, max_int, neg_int, eq_int, ne_int, eq_bl, ne_bl, len_lst, len_tup, len_scr, Int.reduceLT, Int.reduceLE, Nat.reduceLeDiff, x_bind, x_then, x_seq, x_ret, x_op2, x_op1, x_step, x_nilA, x_consA, x_callB, x_testE, x_toB, x_if, x_retS, x_dropS, x_setS, x_skip, x_andT, x_orT, x_notT, x_ifE, x_andE, x_orE, x_notE, x_chain, x_tupE, x_lstE, x_lstC, x_methL, x_for, x_itSeq, x_asSeq, x_asSeqT, x_asSeqS, x_range1, x_range2, x_enum, x_asLst, x_asg, x_isi, x_slice, x_noPart, x_rev, bnd_ok, bnd_err, thn_ok, thn_err, sq_nx, sq_ret, sq_brk, sq_ct, sq_err, bnB_ok, startE, List.map_cons, List.map_nil, List.length_cons, List.length_nil, Nat.reduceAdd, Nat.reduceSub, List.replicate_succ, List.replicate_zero, List.append_nil, List.cons_append, List.nil_append, if_true, if_false, Bool.false_eq_true, x_v0, x_vs, n_int, n_bl, n_str, n_non, n_lst, n_tup, n_scr, List.getElem?_cons_zero, List.getElem?_cons_succ, List.set_cons_zero, List.set_cons_succ, wipeD, Option.map_some, Bool.not_true, Bool.not_false, P_ok, ntq, goq, w2, ix_enl hgj]
    refine ⟨_, rfl, hG _ _ ?_⟩
    clear hG G
    rw [show Cell.lst ((Q[o].map En.e).set u (En.e P[a][j])) = icell (Q[o].set u P[a][j]) by rw [icell, List.map_set], nest_set hol']
    refine fin_nest (by rw [List.length_set, hQl]; rfl) (fits_set ⟨by omega, fun p hp => ?_⟩ (by rw [List.length_set]; omega))
    rw [← hQ] at hp
    rcases List.mem_or_eq_of_mem_set hp with hp | rfl
    · exact h8.2 p hp
    · rw [List.length_set]; exact la
end K75


namespace K75
open Aw
theorem mem_piece {homes : List (Nat × Nat)} {k i : Nat} : i ∈ piece homes k ↔ i < homes.length ∧ (homes.getD i (0, 0)).1 = k := by
  unfold piece
  rw [List.mem_filter, List.mem_range, decide_eq_true_eq]
section
variable {n : Nat} {outer : Tb} {inner : List Tb} {homes : List (Nat × Nat)}
theorem piece_ne (M : Mix n outer inner homes) {k : Nat} (hk : k < n) : piece homes k ≠ [] := by
  have hk' : k < inner.length := by rw [M.part.len]; exact hk
  obtain ⟨_, _, h3⟩ := M.part.get hk'
  have hm : (k, 0) ∈ homes := (M.part.mem _).mpr ⟨hk', h3⟩
  obtain ⟨i, hi, e⟩ := List.mem_iff_getElem.mp hm
  have : i ∈ piece homes k := mem_piece.mpr ⟨hi, by rw [List.getD_eq_getElem?_getD, List.getElem?_eq_getElem hi, e]; rfl⟩
  intro h
  rw [h] at this
  simp at this
theorem tab_sq : Sq homes.length (tab outer inner homes) := by
  refine ⟨by rw [tab, List.length_map], fun i hi => ?_⟩
  rw [List.getD_eq_getElem?_getD, tab, List.getElem?_map, List.getElem?_eq_getElem hi]
  simp
end
theorem same_bad {S : Store} : neG S dBad dBad = some (.bl false, S) := neG_same (p := .list [.list [.bool true, .bool true, .bool false, .bool false, .bool false], .none]) rfl rfl (by decide +kernel)
theorem same_none {S : Store} : neG S dNone dNone = some (.bl false, S) := neG_same (p := .list [.list [], .none]) rfl rfl (by decide +kernel)
theorem same_rows {S : Store} (t : Tb) (hs : List Nat) : neG S (dRows t hs) (dRows t hs) = some (.bl false, S) := by
  have q : pyS S (dRows t hs) = some (.list [En.p ([] : List Int), En.p (fold t hs)]) := by
    show (pyL (pyLoc S 4) [En.e ([] : List Int), En.e (fold t hs)]).map PySem.PyData.list = _
    simp only [pyL, En.py, Option.map_some]
  exact neG_same q q (pair_shaped _ _ (by decide) (by decide))
/-- what is told for pieces, and what is due: the same -/
theorem agree {n : Nat} {t : Tb} {ps : List (List Int)} (hq : Sq n t) (hn : n ≤ 100) (hf : Fits ps) {g : Bool} (hg : g = true ↔ Good n ps) :
    ((∀ S : Store, ∃ x, f__law_refused [En.e t, En.e ps, .bl false] = .ok x ∧ f__law_due [En.e t, En.e ps, .bl g, .bl false] = .ok x ∧ pureD x = true ∧ neG S x x = some (.bl false, S))) ∧
    ∃ g' : Bool, (g = true → f__law_all_together [En.e t, En.e ps] = .ok (.bl g')) ∧ (g = false → g' = false) ∧ ∀ S : Store, ∃ x, f__law_refused [En.e t, En.e ps, .bl true] = .ok x ∧ f__law_due [En.e t, En.e ps, .bl g', .bl true] = .ok x ∧ pureD x = true ∧ neG S x x = some (.bl false, S) := by
  cases g with
  | false =>
    have hb : ¬ Good n ps := fun G => by have := hg.mpr G; cases this
    refine ⟨fun S => ⟨dBad, r_refused_bad hq hn false (.inr ⟨rfl, hb⟩), r_due_bad _ _ _, rfl, same_bad⟩, false, fun h => (by cases h), fun _ => rfl, fun S => ⟨dBad, r_refused_bad hq hn true (.inl ⟨rfl, r_folded_bad hq hn hb⟩), r_due_bad _ _ _, rfl, same_bad⟩⟩
  | true =>
    have G := hg.mp rfl
    refine ⟨fun S => ⟨dNone, r_refused_none hq hn G, r_due_none _ _, rfl, same_none⟩, ?_⟩
    obtain ⟨ps', rfl⟩ := G.nat
    rw [en_ups]
    have hl : ps'.length ≤ 1000 := by have := hf.1; rw [List.length_map] at this; omega
    obtain ⟨g', h1, h2⟩ := r_all_together hq hn G.rgN fun p hp => by have := G.lenN p hp; omega
    refine ⟨g', fun _ => h1, fun h => (by cases h), fun S => ?_⟩
    rcases r_folded hq hn hl G with ⟨a, b⟩ | ⟨a, b⟩
    · have e : g' = true := h2.mpr a
      subst e
      exact ⟨_, r_refused_rows b, r_due_rows hq hl G, by simp only [x_partV, bnI_ok, cutD_1, len_en, asSeq_en, asLst_en, lstOf_en, x_callF, x_callFR, liftP_ok, liftR_ok, liftB_bl, liftB_int, callV1, callV2, callV3, callV4, callRV1, callRV2, callRV3, callRV4, p_int, p_bl, p_scr, p_non, p_str, p_lst, p_tup, p_nil, p_cons, p_en, p_ens, Bool.and_self, en_norm, mod_ok, fdiv_lit, mul_lit, add_nat, add_one, lt_int, le_int, gt_int, ge_int, min_int, max_int, neg_int, eq_int, ne_int, eq_bl, ne_bl, len_lst, len_tup, len_scr, Int.reduceLT, Int.reduceLE, Nat.reduceLeDiff, x_bind, x_then, x_seq, x_ret, x_op2, x_op1, x_step, x_nilA, x_consA, x_callB, x_testE, x_toB, x_if, x_retS, x_dropS, x_setS, x_skip, x_andT, x_orT, x_notT, x_ifE, x_andE, x_orE, x_notE, x_chain, x_tupE, x_lstE, x_lstC, x_methL, x_for, x_itSeq, x_asSeq, x_asSeqT, x_asSeqS, x_range1, x_range2, x_enum, x_asLst, x_asg, x_isi, x_slice, x_noPart, x_rev, bnd_ok, bnd_err, thn_ok, thn_err, sq_nx, sq_ret, sq_brk, sq_ct, sq_err, bnB_ok, startE, List.map_cons, List.map_nil, List.length_cons, List.length_nil, Nat.reduceAdd, Nat.reduceSub, List.replicate_succ, List.replicate_zero, List.append_nil, List.cons_append, List.nil_append, if_true, if_false, Bool.false_eq_true, x_v0, x_vs, n_int, n_bl, n_str, n_non, n_lst, n_tup, n_scr, List.getElem?_cons_zero, List.getElem?_cons_succ, List.set_cons_zero, List.set_cons_succ, wipeD, Option.map_some, Bool.not_true, Bool.not_false], same_rows _ _⟩
    · have e : g' = false := by
        cases g' with
        | false => rfl
        | true => exact absurd (h2.mp rfl) a
      subst e
      have := r_refused_bad (ps := ps'.map up) hq hn true (.inl ⟨rfl, by rw [en_ups]; exact b⟩)
      rw [en_ups] at this
      exact ⟨dBad, this, r_due_bad _ _ _, rfl, same_bad⟩
theorem r_law (ns : List Int) : f_law [.scr ns] = .ok (.bl true) := by
  obtain ⟨n, outer, inner, homes, M, hm⟩ := r_mixed ns
  have sq : Sq homes.length (tab outer inner homes) := tab_sq
  have hN : homes.length ≤ 100 := by have := M.few; omega
  refine out_eq ?_
  unfold b_law
  simp only [startE, List.map_cons, List.map_nil, List.length_cons, List.length_nil, Nat.reduceAdd, Nat.reduceSub, List.replicate_succ, List.replicate_zero, List.append_nil, List.cons_append, List.nil_append]
  refine Cs_set fun G hG => ?_
  simp only [x_partV, bnI_ok, cutD_1, len_en, asSeq_en, asLst_en, lstOf_en, x_callF, x_callFR, liftP_ok, liftR_ok, liftB_bl, liftB_int, callV1, callV2, callV3, callV4, callRV1, callRV2, callRV3, callRV4, p_int, p_bl, p_scr, p_non, p_str, p_lst, p_tup, p_nil, p_cons, p_en, p_ens, Bool.and_self, en_norm, mod_ok, fdiv_lit, mul_lit, add_nat, add_one, lt_int, le_int, gt_int, ge_int, min_int, max_int, neg_int, eq_int, ne_int, eq_bl, ne_bl, len_lst, len_tup, len_scr, Int.reduceLT, Int.reduceLE, Nat.reduceLeDiff, x_bind, x_then, x_seq, x_ret, x_op2, x_op1, x_step, x_nilA, x_consA, x_callB, x_testE, x_toB, x_if, x_retS, x_dropS, x_setS, x_skip, x_andT, x_orT, x_notT, x_ifE, x_andE, x_orE, x_notE, x_chain, x_tupE, x_lstE, x_lstC, x_methL, x_for, x_itSeq, x_asSeq, x_asSeqT, x_asSeqS, x_range1, x_range2, x_enum, x_asLst, x_asg, x_isi, x_slice, x_noPart, x_rev, bnd_ok, bnd_err, thn_ok, thn_err, sq_nx, sq_ret, sq_brk, sq_ct, sq_err, bnB_ok, startE, List.map_cons, List.map_nil, List.length_cons, List.length_nil, Nat.reduceAdd, Nat.reduceSub, List.replicate_succ, List.replicate_zero, List.append_nil, List.cons_append, List.nil_append, if_true, if_false, Bool.false_eq_true, x_v0, x_vs, n_int, n_bl, n_str, n_non, n_lst, n_tup, n_scr, List.getElem?_cons_zero, List.getElem?_cons_succ, List.set_cons_zero, List.set_cons_succ, wipeD, Option.map_some, Bool.not_true, Bool.not_false, P_ok, hm]
  refine hG _ _ ?_
  clear hG G
  simp only [List.set_cons_zero, List.set_cons_succ]
  refine Cs_set fun G hG => ?_
  simp only [x_partV, bnI_ok, cutD_1, len_en, asSeq_en, asLst_en, lstOf_en, x_callF, x_callFR, liftP_ok, liftR_ok, liftB_bl, liftB_int, callV1, callV2, callV3, callV4, callRV1, callRV2, callRV3, callRV4, p_int, p_bl, p_scr, p_non, p_str, p_lst, p_tup, p_nil, p_cons, p_en, p_ens, Bool.and_self, en_norm, mod_ok, fdiv_lit, mul_lit, add_nat, add_one, lt_int, le_int, gt_int, ge_int, min_int, max_int, neg_int, eq_int, ne_int, eq_bl, ne_bl, len_lst, len_tup, len_scr, Int.reduceLT, Int.reduceLE, Nat.reduceLeDiff, x_bind, x_then, x_seq, x_ret, x_op2, x_op1, x_step, x_nilA, x_consA, x_callB, x_testE, x_toB, x_if, x_retS, x_dropS, x_setS, x_skip, x_andT, x_orT, x_notT, x_ifE, x_andE, x_orE, x_notE, x_chain, x_tupE, x_lstE, x_lstC, x_methL, x_for, x_itSeq, x_asSeq, x_asSeqT, x_asSeqS, x_range1, x_range2, x_enum, x_asLst, x_asg, x_isi, x_slice, x_noPart, x_rev, bnd_ok, bnd_err, thn_ok, thn_err, sq_nx, sq_ret, sq_brk, sq_ct, sq_err, bnB_ok, startE, List.map_cons, List.map_nil, List.length_cons, List.length_nil, Nat.reduceAdd, Nat.reduceSub, List.replicate_succ, List.replicate_zero, List.append_nil, List.cons_append, List.nil_append, if_true, if_false, Bool.false_eq_true, x_v0, x_vs, n_int, n_bl, n_str, n_non, n_lst, n_tup, n_scr, List.getElem?_cons_zero, List.getElem?_cons_succ, List.set_cons_zero, List.set_cons_succ, wipeD, Option.map_some, Bool.not_true, Bool.not_false, P_ok, r_table M, p_mix, n_mix]
  refine hG _ _ ?_
  clear hG G
  simp only [List.set_cons_zero, List.set_cons_succ]
  have sl : ∀ S : Store, slL S (.scr ns) none (some 30) = some (.lst ((ns.map D.int).take 30), S) := fun S => by
    show some (D.lst (cutD (ns.map D.int) none (some ((30 : Nat) : Int))), S) = _
    rw [cutD_to]
  have ad : ∀ S : Store, addG S (.lst [.int 0]) (.lst ((ns.map D.int).take 30)) = some (.lst ([.int 0] ++ (ns.map D.int).take 30), S) := fun S => add_lst (by rw [List.length_take]; simp only [List.length_cons, List.length_nil]; omega)
  refine Cs_for fun G hG => ?_
  simp only [x_partV, bnI_ok, cutD_1, len_en, asSeq_en, asLst_en, lstOf_en, x_callF, x_callFR, liftP_ok, liftR_ok, liftB_bl, liftB_int, callV1, callV2, callV3, callV4, callRV1, callRV2, callRV3, callRV4, p_int, p_bl, p_scr, p_non, p_str, p_lst, p_tup, p_nil, p_cons, p_en, p_ens, Bool.and_self, en_norm, mod_ok, fdiv_lit, mul_lit, add_nat, add_one, lt_int, le_int, gt_int, ge_int, min_int, max_int, neg_int, eq_int, ne_int, eq_bl, ne_bl, len_lst, len_tup, len_scr, Int.reduceLT, Int.reduceLE, Nat.reduceLeDiff, x_bind, x_then, x_seq, x_ret, x_op2, x_op1, x_step, x_nilA, x_consA, x_callB, x_testE, x_toB, x_if, x_retS, x_dropS, x_setS, x_skip, x_andT, x_orT, x_notT, x_ifE, x_andE, x_orE, x_notE, x_chain, x_tupE, x_lstE, x_lstC, x_methL, x_for, x_itSeq, x_asSeq, x_asSeqT, x_asSeqS, x_range1, x_range2, x_enum, x_asLst, x_asg, x_isi, x_slice, x_noPart, x_rev, bnd_ok, bnd_err, thn_ok, thn_err, sq_nx, sq_ret, sq_brk, sq_ct, sq_err, bnB_ok, startE, List.map_cons, List.map_nil, List.length_cons, List.length_nil, Nat.reduceAdd, Nat.reduceSub, List.replicate_succ, List.replicate_zero, List.append_nil, List.cons_append, List.nil_append, if_true, if_false, Bool.false_eq_true, x_v0, x_vs, n_int, n_bl, n_str, n_non, n_lst, n_tup, n_scr, List.getElem?_cons_zero, List.getElem?_cons_succ, List.set_cons_zero, List.set_cons_succ, wipeD, Option.map_some, Bool.not_true, Bool.not_false, P_ok, sl, ad, show (1 : Nat) ≤ 100000 by omega]
  refine hG _ _ ?_
  clear hG G
  refine W_for (fun i r S => ∃ o3 o4 o5 o6 o7, r = [some (.scr ns), some (mixD outer inner homes), some (En.e (tab outer inner homes)), o3, o4, o5, o6, o7, none, none] ∧ S = []) ⟨none, none, none, none, none, rfl, rfl⟩ ?_ ?_
  · rintro i d r S hd ⟨o3, o4, o5, o6, o7, rfl, rfl⟩
    obtain ⟨c, rfl⟩ : ∃ c : Int, d = .int c := by
      have hm := List.mem_of_getElem? hd
      rcases List.mem_cons.mp hm with rfl | hm
      · exact ⟨0, rfl⟩
      · obtain ⟨c, _, rfl⟩ := List.mem_map.mp (List.mem_of_mem_take hm)
        exact ⟨c, rfl⟩
    refine ⟨_, rfl, ?_⟩
    simp only [List.set_cons_zero, List.set_cons_succ]
    have hpl : ((pieces n homes).map up).length = n := by rw [List.length_map, pieces, List.length_map, List.length_range]
    obtain ⟨ps, h1, hf⟩ := r_spoiled (P := (pieces n homes).map up) c homes.length (by rw [hpl]; exact M.n1) (fun p hp => by
      obtain ⟨q, hq, rfl⟩ := List.mem_map.mp hp
      obtain ⟨k, hk, rfl⟩ := List.mem_map.mp hq
      intro h
      exact piece_ne M (List.mem_range.mp hk) (List.map_eq_nil_iff.mp h)) ⟨by rw [hpl]; exact M.n8, fun p hp => by
      obtain ⟨q, hq, rfl⟩ := List.mem_map.mp hp
      obtain ⟨k, hk, rfl⟩ := List.mem_map.mp hq
      rw [List.length_map]
      refine Nat.le_trans (List.length_filter_le _ _) ?_
      rw [List.length_range]
      exact M.few⟩
    rw [en_ups] at h1
    have tl : (tab outer inner homes).length = homes.length := sq.len
    refine Cs_set fun G hG => ?_
    simp only [x_partV, bnI_ok, cutD_1, len_en, asSeq_en, asLst_en, lstOf_en, x_callF, x_callFR, liftP_ok, liftR_ok, liftB_bl, liftB_int, callV1, callV2, callV3, callV4, callRV1, callRV2, callRV3, callRV4, p_int, p_bl, p_scr, p_non, p_str, p_lst, p_tup, p_nil, p_cons, p_en, p_ens, Bool.and_self, en_norm, mod_ok, fdiv_lit, mul_lit, add_nat, add_one, lt_int, le_int, gt_int, ge_int, min_int, max_int, neg_int, eq_int, ne_int, eq_bl, ne_bl, len_lst, len_tup, len_scr, Int.reduceLT, Int.reduceLE, Nat.reduceLeDiff, x_bind, x_then, x_seq, x_ret, x_op2, x_op1, x_step, x_nilA, x_consA, x_callB, x_testE, x_toB, x_if, x_retS, x_dropS, x_setS, x_skip, x_andT, x_orT, x_notT, x_ifE, x_andE, x_orE, x_notE, x_chain, x_tupE, x_lstE, x_lstC, x_methL, x_for, x_itSeq, x_asSeq, x_asSeqT, x_asSeqS, x_range1, x_range2, x_enum, x_asLst, x_asg, x_isi, x_slice, x_noPart, x_rev, bnd_ok, bnd_err, thn_ok, thn_err, sq_nx, sq_ret, sq_brk, sq_ct, sq_err, bnB_ok, startE, List.map_cons, List.map_nil, List.length_cons, List.length_nil, Nat.reduceAdd, Nat.reduceSub, List.replicate_succ, List.replicate_zero, List.append_nil, List.cons_append, List.nil_append, if_true, if_false, Bool.false_eq_true, x_v0, x_vs, n_int, n_bl, n_str, n_non, n_lst, n_tup, n_scr, List.getElem?_cons_zero, List.getElem?_cons_succ, List.set_cons_zero, List.set_cons_succ, wipeD, Option.map_some, Bool.not_true, Bool.not_false, P_ok, n_mix, p_mix, r_pieces M, tl, h1]
    refine hG _ _ ?_
    clear hG G
    simp only [List.set_cons_zero, List.set_cons_succ]
    obtain ⟨g, h2, h3⟩ := r_good (n := homes.length) (ps := ps) hN hf.1 hf.2
    refine Cs_set fun G hG => ?_
    simp only [x_partV, bnI_ok, cutD_1, len_en, asSeq_en, asLst_en, lstOf_en, x_callF, x_callFR, liftP_ok, liftR_ok, liftB_bl, liftB_int, callV1, callV2, callV3, callV4, callRV1, callRV2, callRV3, callRV4, p_int, p_bl, p_scr, p_non, p_str, p_lst, p_tup, p_nil, p_cons, p_en, p_ens, Bool.and_self, en_norm, mod_ok, fdiv_lit, mul_lit, add_nat, add_one, lt_int, le_int, gt_int, ge_int, min_int, max_int, neg_int, eq_int, ne_int, eq_bl, ne_bl, len_lst, len_tup, len_scr, Int.reduceLT, Int.reduceLE, Nat.reduceLeDiff, x_bind, x_then, x_seq, x_ret, x_op2, x_op1, x_step, x_nilA, x_consA, x_callB, x_testE, x_toB, x_if, x_retS, x_dropS, x_setS, x_skip, x_andT, x_orT, x_notT, x_ifE, x_andE, x_orE, x_notE, x_chain, x_tupE, x_lstE, x_lstC, x_methL, x_for, x_itSeq, x_asSeq, x_asSeqT, x_asSeqS, x_range1, x_range2, x_enum, x_asLst, x_asg, x_isi, x_slice, x_noPart, x_rev, bnd_ok, bnd_err, thn_ok, thn_err, sq_nx, sq_ret, sq_brk, sq_ct, sq_err, bnB_ok, startE, List.map_cons, List.map_nil, List.length_cons, List.length_nil, Nat.reduceAdd, Nat.reduceSub, List.replicate_succ, List.replicate_zero, List.append_nil, List.cons_append, List.nil_append, if_true, if_false, Bool.false_eq_true, x_v0, x_vs, n_int, n_bl, n_str, n_non, n_lst, n_tup, n_scr, List.getElem?_cons_zero, List.getElem?_cons_succ, List.set_cons_zero, List.set_cons_succ, wipeD, Option.map_some, Bool.not_true, Bool.not_false, P_ok, tl, h2]
    refine hG _ _ ?_
    clear hG G
    simp only [List.set_cons_zero, List.set_cons_succ]
    obtain ⟨A, g', B1, B2, B3⟩ := agree sq hN hf h3
    refine Ce_for fun G hG => ?_
    simp only [x_partV, bnI_ok, cutD_1, len_en, asSeq_en, asLst_en, lstOf_en, x_callF, x_callFR, liftP_ok, liftR_ok, liftB_bl, liftB_int, callV1, callV2, callV3, callV4, callRV1, callRV2, callRV3, callRV4, p_int, p_bl, p_scr, p_non, p_str, p_lst, p_tup, p_nil, p_cons, p_en, p_ens, Bool.and_self, en_norm, mod_ok, fdiv_lit, mul_lit, add_nat, add_one, lt_int, le_int, gt_int, ge_int, min_int, max_int, neg_int, eq_int, ne_int, eq_bl, ne_bl, len_lst, len_tup, len_scr, Int.reduceLT, Int.reduceLE, Nat.reduceLeDiff, x_bind, x_then, x_seq, x_ret, x_op2, x_op1, x_step, x_nilA, x_consA, x_callB, x_testE, x_toB, x_if, x_retS, x_dropS, x_setS, x_skip, x_andT, x_orT, x_notT, x_ifE, x_andE, x_orE, x_notE, x_chain, x_tupE, x_lstE, x_lstC, x_methL, x_for, x_itSeq, x_asSeq, x_asSeqT, x_asSeqS, x_range1, x_range2, x_enum, x_asLst, x_asg, x_isi, x_slice, x_noPart, x_rev, bnd_ok, bnd_err, thn_ok, thn_err, sq_nx, sq_ret, sq_brk, sq_ct, sq_err, bnB_ok, startE, List.map_cons, List.map_nil, List.length_cons, List.length_nil, Nat.reduceAdd, Nat.reduceSub, List.replicate_succ, List.replicate_zero, List.append_nil, List.cons_append, List.nil_append, if_true, if_false, Bool.false_eq_true, x_v0, x_vs, n_int, n_bl, n_str, n_non, n_lst, n_tup, n_scr, List.getElem?_cons_zero, List.getElem?_cons_succ, List.set_cons_zero, List.set_cons_succ, wipeD, Option.map_some, Bool.not_true, Bool.not_false, P_ok, show (2 : Nat) ≤ 100000 by omega]
    refine hG _ _ ?_
    clear hG G
    refine W_for (fun k r S => ∃ (z : Bool) (o6 o7 : Option D), r = [some (.scr ns), some (mixD outer inner homes), some (En.e (tab outer inner homes)), some (.int c), some (En.e ps), some (.bl z), o6, o7, none, none] ∧ S = [] ∧ (k ≤ 1 → z = g)) ⟨g, o6, o7, rfl, rfl, fun _ => rfl⟩ ?_ ?_
    · rintro k d r S hd ⟨z, o6, o7, rfl, rfl, hz⟩
      refine ⟨_, rfl, ?_⟩
      simp only [List.set_cons_zero, List.set_cons_succ]
      have tl2 : (tab outer inner homes).length ≤ 100000 := by omega
      have pl2 : ps.length ≤ 100000 := by have := hf.1; omega
      have e8 : ∀ (o6 o7 : Option D) (S : Store), lcE (itSeq (vE 2)) (.one 8) [8] yesT (callB listG (consA (vE 8) nilA)) [some (.scr ns), some (mixD outer inner homes), some (En.e (tab outer inner homes)), some (.int c), some (En.e ps), some (.bl z), o6, o7, none, none] S = .ok (En.e (tab outer inner homes)) S := by
        intro o6 o7 S
        rw [lc_all (En.e (α := List Bool)) (En.e (α := List Bool)) (xs := tab outer inner homes) (S1 := S) (by simp only [x_partV, bnI_ok, cutD_1, len_en, asSeq_en, asLst_en, lstOf_en, x_callF, x_callFR, liftP_ok, liftR_ok, liftB_bl, liftB_int, callV1, callV2, callV3, callV4, callRV1, callRV2, callRV3, callRV4, p_int, p_bl, p_scr, p_non, p_str, p_lst, p_tup, p_nil, p_cons, p_en, p_ens, Bool.and_self, en_norm, mod_ok, fdiv_lit, mul_lit, add_nat, add_one, lt_int, le_int, gt_int, ge_int, min_int, max_int, neg_int, eq_int, ne_int, eq_bl, ne_bl, len_lst, len_tup, len_scr, Int.reduceLT, Int.reduceLE, Nat.reduceLeDiff, x_bind, x_then, x_seq, x_ret, x_op2, x_op1, x_step, x_nilA, x_consA, x_callB, x_testE, x_toB, x_if, x_retS, x_dropS, x_setS, x_skip, x_andT, x_orT, x_notT, x_ifE, x_andE, x_orE, x_notE, x_chain, x_tupE, x_lstE, x_lstC, x_methL, x_for, x_itSeq, x_asSeq, x_asSeqT, x_asSeqS, x_range1, x_range2, x_enum, x_asLst, x_asg, x_isi, x_slice, x_noPart, x_rev, bnd_ok, bnd_err, thn_ok, thn_err, sq_nx, sq_ret, sq_brk, sq_ct, sq_err, bnB_ok, startE, List.map_cons, List.map_nil, List.length_cons, List.length_nil, Nat.reduceAdd, Nat.reduceSub, List.replicate_succ, List.replicate_zero, List.append_nil, List.cons_append, List.nil_append, if_true, if_false, Bool.false_eq_true, x_v0, x_vs, n_int, n_bl, n_str, n_non, n_lst, n_tup, n_scr, List.getElem?_cons_zero, List.getElem?_cons_succ, List.set_cons_zero, List.set_cons_succ, wipeD, Option.map_some, Bool.not_true, Bool.not_false, ]; try exact rfl) tl2 fun p _ => ⟨_, rfl, by simp only [x_partV, bnI_ok, cutD_1, len_en, asSeq_en, asLst_en, lstOf_en, x_callF, x_callFR, liftP_ok, liftR_ok, liftB_bl, liftB_int, callV1, callV2, callV3, callV4, callRV1, callRV2, callRV3, callRV4, p_int, p_bl, p_scr, p_non, p_str, p_lst, p_tup, p_nil, p_cons, p_en, p_ens, Bool.and_self, en_norm, mod_ok, fdiv_lit, mul_lit, add_nat, add_one, lt_int, le_int, gt_int, ge_int, min_int, max_int, neg_int, eq_int, ne_int, eq_bl, ne_bl, len_lst, len_tup, len_scr, Int.reduceLT, Int.reduceLE, Nat.reduceLeDiff, x_bind, x_then, x_seq, x_ret, x_op2, x_op1, x_step, x_nilA, x_consA, x_callB, x_testE, x_toB, x_if, x_retS, x_dropS, x_setS, x_skip, x_andT, x_orT, x_notT, x_ifE, x_andE, x_orE, x_notE, x_chain, x_tupE, x_lstE, x_lstC, x_methL, x_for, x_itSeq, x_asSeq, x_asSeqT, x_asSeqS, x_range1, x_range2, x_enum, x_asLst, x_asg, x_isi, x_slice, x_noPart, x_rev, bnd_ok, bnd_err, thn_ok, thn_err, sq_nx, sq_ret, sq_brk, sq_ct, sq_err, bnB_ok, startE, List.map_cons, List.map_nil, List.length_cons, List.length_nil, Nat.reduceAdd, Nat.reduceSub, List.replicate_succ, List.replicate_zero, List.append_nil, List.cons_append, List.nil_append, if_true, if_false, Bool.false_eq_true, x_v0, x_vs, n_int, n_bl, n_str, n_non, n_lst, n_tup, n_scr, List.getElem?_cons_zero, List.getElem?_cons_succ, List.set_cons_zero, List.set_cons_succ, wipeD, Option.map_some, Bool.not_true, Bool.not_false, list_en]⟩]
        rfl
      have e9 : ∀ (o6 o7 : Option D) (S : Store), lcE (itSeq (vE 4)) (.one 9) [9] yesT (callB listG (consA (vE 9) nilA)) [some (.scr ns), some (mixD outer inner homes), some (En.e (tab outer inner homes)), some (.int c), some (En.e ps), some (.bl z), o6, o7, none, none] S = .ok (En.e ps) S := by
        intro o6 o7 S
        rw [lc_all (En.e (α := List Int)) (En.e (α := List Int)) (xs := ps) (S1 := S) (by simp only [x_partV, bnI_ok, cutD_1, len_en, asSeq_en, asLst_en, lstOf_en, x_callF, x_callFR, liftP_ok, liftR_ok, liftB_bl, liftB_int, callV1, callV2, callV3, callV4, callRV1, callRV2, callRV3, callRV4, p_int, p_bl, p_scr, p_non, p_str, p_lst, p_tup, p_nil, p_cons, p_en, p_ens, Bool.and_self, en_norm, mod_ok, fdiv_lit, mul_lit, add_nat, add_one, lt_int, le_int, gt_int, ge_int, min_int, max_int, neg_int, eq_int, ne_int, eq_bl, ne_bl, len_lst, len_tup, len_scr, Int.reduceLT, Int.reduceLE, Nat.reduceLeDiff, x_bind, x_then, x_seq, x_ret, x_op2, x_op1, x_step, x_nilA, x_consA, x_callB, x_testE, x_toB, x_if, x_retS, x_dropS, x_setS, x_skip, x_andT, x_orT, x_notT, x_ifE, x_andE, x_orE, x_notE, x_chain, x_tupE, x_lstE, x_lstC, x_methL, x_for, x_itSeq, x_asSeq, x_asSeqT, x_asSeqS, x_range1, x_range2, x_enum, x_asLst, x_asg, x_isi, x_slice, x_noPart, x_rev, bnd_ok, bnd_err, thn_ok, thn_err, sq_nx, sq_ret, sq_brk, sq_ct, sq_err, bnB_ok, startE, List.map_cons, List.map_nil, List.length_cons, List.length_nil, Nat.reduceAdd, Nat.reduceSub, List.replicate_succ, List.replicate_zero, List.append_nil, List.cons_append, List.nil_append, if_true, if_false, Bool.false_eq_true, x_v0, x_vs, n_int, n_bl, n_str, n_non, n_lst, n_tup, n_scr, List.getElem?_cons_zero, List.getElem?_cons_succ, List.set_cons_zero, List.set_cons_succ, wipeD, Option.map_some, Bool.not_true, Bool.not_false, ]; try exact rfl) pl2 fun p _ => ⟨_, rfl, by simp only [x_partV, bnI_ok, cutD_1, len_en, asSeq_en, asLst_en, lstOf_en, x_callF, x_callFR, liftP_ok, liftR_ok, liftB_bl, liftB_int, callV1, callV2, callV3, callV4, callRV1, callRV2, callRV3, callRV4, p_int, p_bl, p_scr, p_non, p_str, p_lst, p_tup, p_nil, p_cons, p_en, p_ens, Bool.and_self, en_norm, mod_ok, fdiv_lit, mul_lit, add_nat, add_one, lt_int, le_int, gt_int, ge_int, min_int, max_int, neg_int, eq_int, ne_int, eq_bl, ne_bl, len_lst, len_tup, len_scr, Int.reduceLT, Int.reduceLE, Nat.reduceLeDiff, x_bind, x_then, x_seq, x_ret, x_op2, x_op1, x_step, x_nilA, x_consA, x_callB, x_testE, x_toB, x_if, x_retS, x_dropS, x_setS, x_skip, x_andT, x_orT, x_notT, x_ifE, x_andE, x_orE, x_notE, x_chain, x_tupE, x_lstE, x_lstC, x_methL, x_for, x_itSeq, x_asSeq, x_asSeqT, x_asSeqS, x_range1, x_range2, x_enum, x_asLst, x_asg, x_isi, x_slice, x_noPart, x_rev, bnd_ok, bnd_err, thn_ok, thn_err, sq_nx, sq_ret, sq_brk, sq_ct, sq_err, bnB_ok, startE, List.map_cons, List.map_nil, List.length_cons, List.length_nil, Nat.reduceAdd, Nat.reduceSub, List.replicate_succ, List.replicate_zero, List.append_nil, List.cons_append, List.nil_append, if_true, if_false, Bool.false_eq_true, x_v0, x_vs, n_int, n_bl, n_str, n_non, n_lst, n_tup, n_scr, List.getElem?_cons_zero, List.getElem?_cons_succ, List.set_cons_zero, List.set_cons_succ, wipeD, Option.map_some, Bool.not_true, Bool.not_false, list_en]⟩]
        rfl
      have c2 : ∀ S : Store, neG S (.lst [En.e (tab outer inner homes), En.e ps]) (.lst [En.e (tab outer inner homes), En.e ps]) = some (.bl false, S) := fun S => by
        have q : pyS S (.lst [En.e (tab outer inner homes), En.e ps]) = some (.list [En.p (tab outer inner homes), En.p ps]) := by
          show (pyL (pyLoc S 4) _).map PySem.PyData.list = _
          simp only [pyL, En.py, Option.map_some]
        exact neG_same q q (pair_shaped _ _ (by decide) (by decide))
      have z2 : (2 : Nat) ≤ 100000 := by omega
      match k, hd, hz with
      | 0, hd, hz =>
        cases hd
        cases hz (by omega)
        refine Cs_set fun G hG => ?_
        simp only [x_partV, bnI_ok, cutD_1, len_en, asSeq_en, asLst_en, lstOf_en, x_callF, x_callFR, liftP_ok, liftR_ok, liftB_bl, liftB_int, callV1, callV2, callV3, callV4, callRV1, callRV2, callRV3, callRV4, p_int, p_bl, p_scr, p_non, p_str, p_lst, p_tup, p_nil, p_cons, p_en, p_ens, Bool.and_self, en_norm, mod_ok, fdiv_lit, mul_lit, add_nat, add_one, lt_int, le_int, gt_int, ge_int, min_int, max_int, neg_int, eq_int, ne_int, eq_bl, ne_bl, len_lst, len_tup, len_scr, Int.reduceLT, Int.reduceLE, Nat.reduceLeDiff, x_bind, x_then, x_seq, x_ret, x_op2, x_op1, x_step, x_nilA, x_consA, x_callB, x_testE, x_toB, x_if, x_retS, x_dropS, x_setS, x_skip, x_andT, x_orT, x_notT, x_ifE, x_andE, x_orE, x_notE, x_chain, x_tupE, x_lstE, x_lstC, x_methL, x_for, x_itSeq, x_asSeq, x_asSeqT, x_asSeqS, x_range1, x_range2, x_enum, x_asLst, x_asg, x_isi, x_slice, x_noPart, x_rev, bnd_ok, bnd_err, thn_ok, thn_err, sq_nx, sq_ret, sq_brk, sq_ct, sq_err, bnB_ok, startE, List.map_cons, List.map_nil, List.length_cons, List.length_nil, Nat.reduceAdd, Nat.reduceSub, List.replicate_succ, List.replicate_zero, List.append_nil, List.cons_append, List.nil_append, if_true, if_false, Bool.false_eq_true, x_v0, x_vs, n_int, n_bl, n_str, n_non, n_lst, n_tup, n_scr, List.getElem?_cons_zero, List.getElem?_cons_succ, List.set_cons_zero, List.set_cons_succ, wipeD, Option.map_some, Bool.not_true, Bool.not_false, P_ok, e8, e9, z2]
        refine hG _ _ ?_
        clear hG G
        simp only [List.set_cons_zero, List.set_cons_succ]
        obtain ⟨x, x1, x2, x3, x4⟩ := A []
        have ev : ∀ o6 o7, andE (vE 5) (orE (notE (vE 6)) (callF 2 f__law_all_together (consA (vE 2) (consA (vE 4) nilA)))) [some (.scr ns), some (mixD outer inner homes), some (En.e (tab outer inner homes)), some (.int c), some (En.e ps), some (.bl g), some (.bl false), o7, o6, none] [] = .ok (.bl g) [] := by
          intro o6 o7
          rcases Bool.eq_false_or_eq_true g with hg | hg
          · simp only [x_partV, bnI_ok, cutD_1, len_en, asSeq_en, asLst_en, lstOf_en, x_callF, x_callFR, liftP_ok, liftR_ok, liftB_bl, liftB_int, callV1, callV2, callV3, callV4, callRV1, callRV2, callRV3, callRV4, p_int, p_bl, p_scr, p_non, p_str, p_lst, p_tup, p_nil, p_cons, p_en, p_ens, Bool.and_self, en_norm, mod_ok, fdiv_lit, mul_lit, add_nat, add_one, lt_int, le_int, gt_int, ge_int, min_int, max_int, neg_int, eq_int, ne_int, eq_bl, ne_bl, len_lst, len_tup, len_scr, Int.reduceLT, Int.reduceLE, Nat.reduceLeDiff, x_bind, x_then, x_seq, x_ret, x_op2, x_op1, x_step, x_nilA, x_consA, x_callB, x_testE, x_toB, x_if, x_retS, x_dropS, x_setS, x_skip, x_andT, x_orT, x_notT, x_ifE, x_andE, x_orE, x_notE, x_chain, x_tupE, x_lstE, x_lstC, x_methL, x_for, x_itSeq, x_asSeq, x_asSeqT, x_asSeqS, x_range1, x_range2, x_enum, x_asLst, x_asg, x_isi, x_slice, x_noPart, x_rev, bnd_ok, bnd_err, thn_ok, thn_err, sq_nx, sq_ret, sq_brk, sq_ct, sq_err, bnB_ok, startE, List.map_cons, List.map_nil, List.length_cons, List.length_nil, Nat.reduceAdd, Nat.reduceSub, List.replicate_succ, List.replicate_zero, List.append_nil, List.cons_append, List.nil_append, if_true, if_false, Bool.false_eq_true, x_v0, x_vs, n_int, n_bl, n_str, n_non, n_lst, n_tup, n_scr, List.getElem?_cons_zero, List.getElem?_cons_succ, List.set_cons_zero, List.set_cons_succ, wipeD, Option.map_some, Bool.not_true, Bool.not_false, hg]
          · simp only [x_partV, bnI_ok, cutD_1, len_en, asSeq_en, asLst_en, lstOf_en, x_callF, x_callFR, liftP_ok, liftR_ok, liftB_bl, liftB_int, callV1, callV2, callV3, callV4, callRV1, callRV2, callRV3, callRV4, p_int, p_bl, p_scr, p_non, p_str, p_lst, p_tup, p_nil, p_cons, p_en, p_ens, Bool.and_self, en_norm, mod_ok, fdiv_lit, mul_lit, add_nat, add_one, lt_int, le_int, gt_int, ge_int, min_int, max_int, neg_int, eq_int, ne_int, eq_bl, ne_bl, len_lst, len_tup, len_scr, Int.reduceLT, Int.reduceLE, Nat.reduceLeDiff, x_bind, x_then, x_seq, x_ret, x_op2, x_op1, x_step, x_nilA, x_consA, x_callB, x_testE, x_toB, x_if, x_retS, x_dropS, x_setS, x_skip, x_andT, x_orT, x_notT, x_ifE, x_andE, x_orE, x_notE, x_chain, x_tupE, x_lstE, x_lstC, x_methL, x_for, x_itSeq, x_asSeq, x_asSeqT, x_asSeqS, x_range1, x_range2, x_enum, x_asLst, x_asg, x_isi, x_slice, x_noPart, x_rev, bnd_ok, bnd_err, thn_ok, thn_err, sq_nx, sq_ret, sq_brk, sq_ct, sq_err, bnB_ok, startE, List.map_cons, List.map_nil, List.length_cons, List.length_nil, Nat.reduceAdd, Nat.reduceSub, List.replicate_succ, List.replicate_zero, List.append_nil, List.cons_append, List.nil_append, if_true, if_false, Bool.false_eq_true, x_v0, x_vs, n_int, n_bl, n_str, n_non, n_lst, n_tup, n_scr, List.getElem?_cons_zero, List.getElem?_cons_succ, List.set_cons_zero, List.set_cons_succ, wipeD, Option.map_some, Bool.not_true, Bool.not_false, hg]
        refine Ws_set (ev _ _) ?_
        simp only [List.set_cons_zero, List.set_cons_succ]
        refine Cs_if fun G hG => ?_
        simp only [x_partV, bnI_ok, cutD_1, len_en, asSeq_en, asLst_en, lstOf_en, x_callF, x_callFR, liftP_ok, liftR_ok, liftB_bl, liftB_int, callV1, callV2, callV3, callV4, callRV1, callRV2, callRV3, callRV4, p_int, p_bl, p_scr, p_non, p_str, p_lst, p_tup, p_nil, p_cons, p_en, p_ens, Bool.and_self, en_norm, mod_ok, fdiv_lit, mul_lit, add_nat, add_one, lt_int, le_int, gt_int, ge_int, min_int, max_int, neg_int, eq_int, ne_int, eq_bl, ne_bl, len_lst, len_tup, len_scr, Int.reduceLT, Int.reduceLE, Nat.reduceLeDiff, x_bind, x_then, x_seq, x_ret, x_op2, x_op1, x_step, x_nilA, x_consA, x_callB, x_testE, x_toB, x_if, x_retS, x_dropS, x_setS, x_skip, x_andT, x_orT, x_notT, x_ifE, x_andE, x_orE, x_notE, x_chain, x_tupE, x_lstE, x_lstC, x_methL, x_for, x_itSeq, x_asSeq, x_asSeqT, x_asSeqS, x_range1, x_range2, x_enum, x_asLst, x_asg, x_isi, x_slice, x_noPart, x_rev, bnd_ok, bnd_err, thn_ok, thn_err, sq_nx, sq_ret, sq_brk, sq_ct, sq_err, bnB_ok, startE, List.map_cons, List.map_nil, List.length_cons, List.length_nil, Nat.reduceAdd, Nat.reduceSub, List.replicate_succ, List.replicate_zero, List.append_nil, List.cons_append, List.nil_append, if_true, if_false, Bool.false_eq_true, x_v0, x_vs, n_int, n_bl, n_str, n_non, n_lst, n_tup, n_scr, List.getElem?_cons_zero, List.getElem?_cons_succ, List.set_cons_zero, List.set_cons_succ, wipeD, Option.map_some, Bool.not_true, Bool.not_false, P_ok, ix2a, ix2b, x1, x2, x4]
        refine hG _ _ ?_
        clear hG G
        try simp only [if_true, if_false, Bool.false_eq_true]
        refine W_nx ?_
        refine Ce_if fun G hG => ?_
        simp only [x_partV, bnI_ok, cutD_1, len_en, asSeq_en, asLst_en, lstOf_en, x_callF, x_callFR, liftP_ok, liftR_ok, liftB_bl, liftB_int, callV1, callV2, callV3, callV4, callRV1, callRV2, callRV3, callRV4, p_int, p_bl, p_scr, p_non, p_str, p_lst, p_tup, p_nil, p_cons, p_en, p_ens, Bool.and_self, en_norm, mod_ok, fdiv_lit, mul_lit, add_nat, add_one, lt_int, le_int, gt_int, ge_int, min_int, max_int, neg_int, eq_int, ne_int, eq_bl, ne_bl, len_lst, len_tup, len_scr, Int.reduceLT, Int.reduceLE, Nat.reduceLeDiff, x_bind, x_then, x_seq, x_ret, x_op2, x_op1, x_step, x_nilA, x_consA, x_callB, x_testE, x_toB, x_if, x_retS, x_dropS, x_setS, x_skip, x_andT, x_orT, x_notT, x_ifE, x_andE, x_orE, x_notE, x_chain, x_tupE, x_lstE, x_lstC, x_methL, x_for, x_itSeq, x_asSeq, x_asSeqT, x_asSeqS, x_range1, x_range2, x_enum, x_asLst, x_asg, x_isi, x_slice, x_noPart, x_rev, bnd_ok, bnd_err, thn_ok, thn_err, sq_nx, sq_ret, sq_brk, sq_ct, sq_err, bnB_ok, startE, List.map_cons, List.map_nil, List.length_cons, List.length_nil, Nat.reduceAdd, Nat.reduceSub, List.replicate_succ, List.replicate_zero, List.append_nil, List.cons_append, List.nil_append, if_true, if_false, Bool.false_eq_true, x_v0, x_vs, n_int, n_bl, n_str, n_non, n_lst, n_tup, n_scr, List.getElem?_cons_zero, List.getElem?_cons_succ, List.set_cons_zero, List.set_cons_succ, wipeD, Option.map_some, Bool.not_true, Bool.not_false, P_ok, c2, z2]
        refine hG _ _ ?_
        clear hG G
        try simp only [if_true, if_false, Bool.false_eq_true]
        exact W_nx ⟨_, _, _, rfl, rfl, fun _ => rfl⟩
      | 1, hd, hz =>
        cases hd
        cases hz (by omega)
        refine Cs_set fun G hG => ?_
        simp only [x_partV, bnI_ok, cutD_1, len_en, asSeq_en, asLst_en, lstOf_en, x_callF, x_callFR, liftP_ok, liftR_ok, liftB_bl, liftB_int, callV1, callV2, callV3, callV4, callRV1, callRV2, callRV3, callRV4, p_int, p_bl, p_scr, p_non, p_str, p_lst, p_tup, p_nil, p_cons, p_en, p_ens, Bool.and_self, en_norm, mod_ok, fdiv_lit, mul_lit, add_nat, add_one, lt_int, le_int, gt_int, ge_int, min_int, max_int, neg_int, eq_int, ne_int, eq_bl, ne_bl, len_lst, len_tup, len_scr, Int.reduceLT, Int.reduceLE, Nat.reduceLeDiff, x_bind, x_then, x_seq, x_ret, x_op2, x_op1, x_step, x_nilA, x_consA, x_callB, x_testE, x_toB, x_if, x_retS, x_dropS, x_setS, x_skip, x_andT, x_orT, x_notT, x_ifE, x_andE, x_orE, x_notE, x_chain, x_tupE, x_lstE, x_lstC, x_methL, x_for, x_itSeq, x_asSeq, x_asSeqT, x_asSeqS, x_range1, x_range2, x_enum, x_asLst, x_asg, x_isi, x_slice, x_noPart, x_rev, bnd_ok, bnd_err, thn_ok, thn_err, sq_nx, sq_ret, sq_brk, sq_ct, sq_err, bnB_ok, startE, List.map_cons, List.map_nil, List.length_cons, List.length_nil, Nat.reduceAdd, Nat.reduceSub, List.replicate_succ, List.replicate_zero, List.append_nil, List.cons_append, List.nil_append, if_true, if_false, Bool.false_eq_true, x_v0, x_vs, n_int, n_bl, n_str, n_non, n_lst, n_tup, n_scr, List.getElem?_cons_zero, List.getElem?_cons_succ, List.set_cons_zero, List.set_cons_succ, wipeD, Option.map_some, Bool.not_true, Bool.not_false, P_ok, e8, e9, z2]
        refine hG _ _ ?_
        clear hG G
        simp only [List.set_cons_zero, List.set_cons_succ]
        obtain ⟨x, x1, x2, x3, x4⟩ := B3 []
        have ev : ∀ o6 o7, andE (vE 5) (orE (notE (vE 6)) (callF 2 f__law_all_together (consA (vE 2) (consA (vE 4) nilA)))) [some (.scr ns), some (mixD outer inner homes), some (En.e (tab outer inner homes)), some (.int c), some (En.e ps), some (.bl g), some (.bl true), o7, o6, none] [] = .ok (.bl g') [] := by
          intro o6 o7
          rcases Bool.eq_false_or_eq_true g with hg | hg
          · simp only [x_partV, bnI_ok, cutD_1, len_en, asSeq_en, asLst_en, lstOf_en, x_callF, x_callFR, liftP_ok, liftR_ok, liftB_bl, liftB_int, callV1, callV2, callV3, callV4, callRV1, callRV2, callRV3, callRV4, p_int, p_bl, p_scr, p_non, p_str, p_lst, p_tup, p_nil, p_cons, p_en, p_ens, Bool.and_self, en_norm, mod_ok, fdiv_lit, mul_lit, add_nat, add_one, lt_int, le_int, gt_int, ge_int, min_int, max_int, neg_int, eq_int, ne_int, eq_bl, ne_bl, len_lst, len_tup, len_scr, Int.reduceLT, Int.reduceLE, Nat.reduceLeDiff, x_bind, x_then, x_seq, x_ret, x_op2, x_op1, x_step, x_nilA, x_consA, x_callB, x_testE, x_toB, x_if, x_retS, x_dropS, x_setS, x_skip, x_andT, x_orT, x_notT, x_ifE, x_andE, x_orE, x_notE, x_chain, x_tupE, x_lstE, x_lstC, x_methL, x_for, x_itSeq, x_asSeq, x_asSeqT, x_asSeqS, x_range1, x_range2, x_enum, x_asLst, x_asg, x_isi, x_slice, x_noPart, x_rev, bnd_ok, bnd_err, thn_ok, thn_err, sq_nx, sq_ret, sq_brk, sq_ct, sq_err, bnB_ok, startE, List.map_cons, List.map_nil, List.length_cons, List.length_nil, Nat.reduceAdd, Nat.reduceSub, List.replicate_succ, List.replicate_zero, List.append_nil, List.cons_append, List.nil_append, if_true, if_false, Bool.false_eq_true, x_v0, x_vs, n_int, n_bl, n_str, n_non, n_lst, n_tup, n_scr, List.getElem?_cons_zero, List.getElem?_cons_succ, List.set_cons_zero, List.set_cons_succ, wipeD, Option.map_some, Bool.not_true, Bool.not_false, hg, B1 hg]
          · simp only [x_partV, bnI_ok, cutD_1, len_en, asSeq_en, asLst_en, lstOf_en, x_callF, x_callFR, liftP_ok, liftR_ok, liftB_bl, liftB_int, callV1, callV2, callV3, callV4, callRV1, callRV2, callRV3, callRV4, p_int, p_bl, p_scr, p_non, p_str, p_lst, p_tup, p_nil, p_cons, p_en, p_ens, Bool.and_self, en_norm, mod_ok, fdiv_lit, mul_lit, add_nat, add_one, lt_int, le_int, gt_int, ge_int, min_int, max_int, neg_int, eq_int, ne_int, eq_bl, ne_bl, len_lst, len_tup, len_scr, Int.reduceLT, Int.reduceLE, Nat.reduceLeDiff, x_bind, x_then, x_seq, x_ret, x_op2, x_op1, x_step, x_nilA, x_consA, x_callB, x_testE, x_toB, x_if, x_retS, x_dropS, x_setS, x_skip, x_andT, x_orT, x_notT, x_ifE, x_andE, x_orE, x_notE, x_chain, x_tupE, x_lstE, x_lstC, x_methL, x_for, x_itSeq, x_asSeq, x_asSeqT, x_asSeqS, x_range1, x_range2, x_enum, x_asLst, x_asg, x_isi, x_slice, x_noPart, x_rev, bnd_ok, bnd_err, thn_ok, thn_err, sq_nx, sq_ret, sq_brk, sq_ct, sq_err, bnB_ok, startE, List.map_cons, List.map_nil, List.length_cons, List.length_nil, Nat.reduceAdd, Nat.reduceSub, List.replicate_succ, List.replicate_zero, List.append_nil, List.cons_append, List.nil_append, if_true, if_false, Bool.false_eq_true, x_v0, x_vs, n_int, n_bl, n_str, n_non, n_lst, n_tup, n_scr, List.getElem?_cons_zero, List.getElem?_cons_succ, List.set_cons_zero, List.set_cons_succ, wipeD, Option.map_some, Bool.not_true, Bool.not_false, hg, B2 hg]
        refine Ws_set (ev _ _) ?_
        simp only [List.set_cons_zero, List.set_cons_succ]
        refine Cs_if fun G hG => ?_
        simp only [x_partV, bnI_ok, cutD_1, len_en, asSeq_en, asLst_en, lstOf_en, x_callF, x_callFR, liftP_ok, liftR_ok, liftB_bl, liftB_int, callV1, callV2, callV3, callV4, callRV1, callRV2, callRV3, callRV4, p_int, p_bl, p_scr, p_non, p_str, p_lst, p_tup, p_nil, p_cons, p_en, p_ens, Bool.and_self, en_norm, mod_ok, fdiv_lit, mul_lit, add_nat, add_one, lt_int, le_int, gt_int, ge_int, min_int, max_int, neg_int, eq_int, ne_int, eq_bl, ne_bl, len_lst, len_tup, len_scr, Int.reduceLT, Int.reduceLE, Nat.reduceLeDiff, x_bind, x_then, x_seq, x_ret, x_op2, x_op1, x_step, x_nilA, x_consA, x_callB, x_testE, x_toB, x_if, x_retS, x_dropS, x_setS, x_skip, x_andT, x_orT, x_notT, x_ifE, x_andE, x_orE, x_notE, x_chain, x_tupE, x_lstE, x_lstC, x_methL, x_for, x_itSeq, x_asSeq, x_asSeqT, x_asSeqS, x_range1, x_range2, x_enum, x_asLst, x_asg, x_isi, x_slice, x_noPart, x_rev, bnd_ok, bnd_err, thn_ok, thn_err, sq_nx, sq_ret, sq_brk, sq_ct, sq_err, bnB_ok, startE, List.map_cons, List.map_nil, List.length_cons, List.length_nil, Nat.reduceAdd, Nat.reduceSub, List.replicate_succ, List.replicate_zero, List.append_nil, List.cons_append, List.nil_append, if_true, if_false, Bool.false_eq_true, x_v0, x_vs, n_int, n_bl, n_str, n_non, n_lst, n_tup, n_scr, List.getElem?_cons_zero, List.getElem?_cons_succ, List.set_cons_zero, List.set_cons_succ, wipeD, Option.map_some, Bool.not_true, Bool.not_false, P_ok, ix2a, ix2b, x1, x2, x4]
        refine hG _ _ ?_
        clear hG G
        try simp only [if_true, if_false, Bool.false_eq_true]
        refine W_nx ?_
        refine Ce_if fun G hG => ?_
        simp only [x_partV, bnI_ok, cutD_1, len_en, asSeq_en, asLst_en, lstOf_en, x_callF, x_callFR, liftP_ok, liftR_ok, liftB_bl, liftB_int, callV1, callV2, callV3, callV4, callRV1, callRV2, callRV3, callRV4, p_int, p_bl, p_scr, p_non, p_str, p_lst, p_tup, p_nil, p_cons, p_en, p_ens, Bool.and_self, en_norm, mod_ok, fdiv_lit, mul_lit, add_nat, add_one, lt_int, le_int, gt_int, ge_int, min_int, max_int, neg_int, eq_int, ne_int, eq_bl, ne_bl, len_lst, len_tup, len_scr, Int.reduceLT, Int.reduceLE, Nat.reduceLeDiff, x_bind, x_then, x_seq, x_ret, x_op2, x_op1, x_step, x_nilA, x_consA, x_callB, x_testE, x_toB, x_if, x_retS, x_dropS, x_setS, x_skip, x_andT, x_orT, x_notT, x_ifE, x_andE, x_orE, x_notE, x_chain, x_tupE, x_lstE, x_lstC, x_methL, x_for, x_itSeq, x_asSeq, x_asSeqT, x_asSeqS, x_range1, x_range2, x_enum, x_asLst, x_asg, x_isi, x_slice, x_noPart, x_rev, bnd_ok, bnd_err, thn_ok, thn_err, sq_nx, sq_ret, sq_brk, sq_ct, sq_err, bnB_ok, startE, List.map_cons, List.map_nil, List.length_cons, List.length_nil, Nat.reduceAdd, Nat.reduceSub, List.replicate_succ, List.replicate_zero, List.append_nil, List.cons_append, List.nil_append, if_true, if_false, Bool.false_eq_true, x_v0, x_vs, n_int, n_bl, n_str, n_non, n_lst, n_tup, n_scr, List.getElem?_cons_zero, List.getElem?_cons_succ, List.set_cons_zero, List.set_cons_succ, wipeD, Option.map_some, Bool.not_true, Bool.not_false, P_ok, c2, z2]
        refine hG _ _ ?_
        clear hG G
        try simp only [if_true, if_false, Bool.false_eq_true]
        exact W_nx ⟨_, _, _, rfl, rfl, fun h => by omega⟩
      | k + 2, hd, _ => cases hd
    · rintro r S ⟨z, o6, o7, rfl, rfl, _⟩
      exact ⟨_, _, _, _, _, rfl, rfl⟩
  · rintro r S ⟨o3, o4, o5, o6, o7, rfl, rfl⟩
    refine Ce_ret fun G hG => ?_
    simp only [x_partV, bnI_ok, cutD_1, len_en, asSeq_en, asLst_en, lstOf_en, x_callF, x_callFR, liftP_ok, liftR_ok, liftB_bl, liftB_int, callV1, callV2, callV3, callV4, callRV1, callRV2, callRV3, callRV4, p_int, p_bl, p_scr, p_non, p_str, p_lst, p_tup, p_nil, p_cons, p_en, p_ens, Bool.and_self, en_norm, mod_ok, fdiv_lit, mul_lit, add_nat, add_one, lt_int, le_int, gt_int, ge_int, min_int, max_int, neg_int, eq_int, ne_int, eq_bl, ne_bl, len_lst, len_tup, len_scr, Int.reduceLT, Int.reduceLE, Nat.reduceLeDiff, x_bind, x_then, x_seq, x_ret, x_op2, x_op1, x_step, x_nilA, x_consA, x_callB, x_testE, x_toB, x_if, x_retS, x_dropS, x_setS, x_skip, x_andT, x_orT, x_notT, x_ifE, x_andE, x_orE, x_notE, x_chain, x_tupE, x_lstE, x_lstC, x_methL, x_for, x_itSeq, x_asSeq, x_asSeqT, x_asSeqS, x_range1, x_range2, x_enum, x_asLst, x_asg, x_isi, x_slice, x_noPart, x_rev, bnd_ok, bnd_err, thn_ok, thn_err, sq_nx, sq_ret, sq_brk, sq_ct, sq_err, bnB_ok, startE, List.map_cons, List.map_nil, List.length_cons, List.length_nil, Nat.reduceAdd, Nat.reduceSub, List.replicate_succ, List.replicate_zero, List.append_nil, List.cons_append, List.nil_append, if_true, if_false, Bool.false_eq_true, x_v0, x_vs, n_int, n_bl, n_str, n_non, n_lst, n_tup, n_scr, List.getElem?_cons_zero, List.getElem?_cons_succ, List.set_cons_zero, List.set_cons_succ, wipeD, Option.map_some, Bool.not_true, Bool.not_false, P_ok]
    refine hG _ _ ?_
    clear hG G
    rfl
end K75

namespace K75H
open PySem PySem.Spec PyProof.Rows L2 K75 Aw
def fn0 : List He.DefD := [topD "breaker" s_breaker, topD "stands_together" s_stands_together, topD "places_of" s_places_of, topD "folded" s_folded, topD "_law_cell_at" s__law_cell_at, topD "_law_table_by" s__law_table_by, topD "_law_mixed" s__law_mixed, topD "_law_beats" s__law_beats, topD "_law_table" s__law_table, topD "_law_pieces" s__law_pieces, topD "_law_breaks" s__law_breaks, topD "_law_together" s__law_together, topD "_law_any" s__law_any, topD "_law_spoiled" s__law_spoiled, topD "_law_refused" s__law_refused, topD "_law_due" s__law_due, topD "_law_good" s__law_good, topD "_law_all_together" s__law_all_together, topD "law" s_law]
def fn : List He.DefD := fn0
def fa0 : List He.Fa := [.glo "breaker", .glo "stands_together", .glo "places_of", .glo "folded", .glo "_law_cell_at", .glo "_law_table_by", .glo "_law_mixed", .glo "_law_beats", .glo "_law_table", .glo "_law_pieces", .glo "_law_breaks", .glo "_law_together", .glo "_law_any", .glo "_law_spoiled", .glo "_law_refused", .glo "_law_due", .glo "_law_good", .glo "_law_all_together", .glo "law", .free "len", .free "range", .free "abs", .free "all", .free "any", .free "dict", .free "enumerate", .free "int", .free "bool", .free "str", .free "isinstance", .free "list", .free "max", .free "min", .free "repr", .free "reversed", .free "set", .free "sorted", .free "sum", .free "tuple", .free "zip"]
def fa1 : List He.Fa := [.glo "BadParts", .glo "AskError", .glo "BadOrder", .glo "BadBallot", .glo "NotAlike", .exc "BadParts", .exc "AskError", .exc "BadOrder", .exc "BadBallot", .exc "NotAlike", .free "ValueError"]
def fa : List He.Fa := fa0 ++ fa1
def lo0 : List PySem.Str := ["__name__", "AskError", "BadBallot", "BadOrder", "BadParts", "NotAlike", "breaker", "stands_together", "places_of", "folded", "_law_cell_at", "_law_table_by", "_law_mixed", "_law_beats", "_law_table", "_law_pieces", "_law_breaks", "_law_together", "_law_any", "_law_spoiled", "_law_refused", "_law_due", "_law_good", "_law_all_together"]
def lo : List PySem.Str := lo0
abbrev R : PySem.W.OpenRow := PySem.W.OpenLaw.row PySem.Challenge.rw_askwide_k75_bad_pieces
abbrev hk : PySem.W.Hook := hookX 4 fa fn K75.exL
def ob (s : PySem.W.SharedT) : Bool × He.AlD := obsX 4 fa fn K75.exL (HandSHeadRun.getT s)
theorem ob_eq (s : PySem.W.SharedT) : ob s = hk.obs s.abs := obsX_eq (HandSHeadRun.getT_eq s)
theorem run (w : World) : HandSHeadRun.RunEq R (PySem.W.view R.prog [27]) hk ob 2000 lo w := by
  intro os
  kernel_rfl
theorem facts {P : Program} {w : World} {K : PySem.W.Frag} {h : Heap} {mg : Str → Option Value} {f : Addr} (X : K.In h) (G : h.Ns mainGlobals mg) (hfa : mg ("law" : Str) = some (.ref f)) (c : He.SaysD fa fn K) (cx : exOk K K75.exL = true) :
    ∃ fd : FuncData, (∀ (s : Shared) (v : Value), BindsTo s fd ⟨[v], []⟩ [("script", v)]) ∧ ∀ base : Heap, K.In base → base.Ns mainGlobals mg → FnOk P w K mg base (L2.CX P w) 5 f fd ["script"] (spP K [] 1 f_law) := by
  have B : Bt mg := { len := free_of X G c 19, range := free_of X G c 20, abs := free_of X G c 21, all := free_of X G c 22, any := free_of X G c 23, dict := free_of X G c 24, enumerate := free_of X G c 25, int := free_of X G c 26, bool := free_of X G c 27, str := free_of X G c 28, isinstance := free_of X G c 29, list := free_of X G c 30, max := free_of X G c 31, min := free_of X G c 32, repr := free_of X G c 33, reversed := free_of X G c 34, set := free_of X G c 35, sorted := free_of X G c 36, sum := free_of X G c 37, tuple := free_of X G c 38, zip := free_of X G c 39 }
  have X_BadParts : ExF K mg "BadParts" := exF_of X G c 40 45
  have X_AskError : ExF K mg "AskError" := exF_of X G c 41 46
  have X_BadOrder : ExF K mg "BadOrder" := exF_of X G c 42 47
  have X_BadBallot : ExF K mg "BadBallot" := exF_of X G c 43 48
  have X_NotAlike : ExF K mg "NotAlike" := exF_of X G c 44 49
  have M_ValueError : mg "ValueError" = none := free_of X G c 50
  have EM : ExOk K exM := (exOk_at cx).1
  have IM : IsOk K exM := (exOk_at cx).2
  have h_breaker : ∀ base : Heap, FnD P w K [] mg base "breaker" 1 2 f_breaker := fun base => d_breaker B (txF_of X G c 0 0) 
  have h_stands_together : ∀ base : Heap, FnD P w K [] mg base "stands_together" 2 2 f_stands_together := fun base => d_stands_together B (txF_of X G c 1 1) (h_breaker base)
  have h_places_of : ∀ base : Heap, FnD P w K [] mg base "places_of" 1 2 f_places_of := fun base => d_places_of B (txF_of X G c 2 2) X_BadParts 
  have h_folded : ∀ base : Heap, FnD P w K [] mg base "folded" 3 2 f_folded := fun base => d_folded B (txF_of X G c 3 3) X_BadParts (h_places_of base) (h_stands_together base)
  have h__law_cell_at : ∀ base : Heap, FnD P w K [] mg base "_law_cell_at" 1 2 f__law_cell_at := fun base => d__law_cell_at B (txF_of X G c 4 4) 
  have h__law_table_by : ∀ base : Heap, FnD P w K [] mg base "_law_table_by" 1 2 f__law_table_by := fun base => d__law_table_by B (txF_of X G c 5 5) 
  have h__law_mixed : ∀ base : Heap, FnD P w K [] mg base "_law_mixed" 2 1 f__law_mixed := fun base => d__law_mixed B (txF_of X G c 6 6) (h__law_table_by base) (h__law_cell_at base)
  have h__law_beats : ∀ base : Heap, FnD P w K [] mg base "_law_beats" 1 3 f__law_beats := fun base => d__law_beats B (txF_of X G c 7 7) 
  have h__law_table : ∀ base : Heap, FnD P w K [] mg base "_law_table" 2 1 f__law_table := fun base => d__law_table B (txF_of X G c 8 8) (h__law_beats base)
  have h__law_pieces : ∀ base : Heap, FnD P w K [] mg base "_law_pieces" 1 1 f__law_pieces := fun base => d__law_pieces B (txF_of X G c 9 9) 
  have h__law_breaks : ∀ base : Heap, FnD P w K [] mg base "_law_breaks" 1 3 f__law_breaks := fun base => d__law_breaks B (txF_of X G c 10 10) 
  have h__law_together : ∀ base : Heap, FnD P w K [] mg base "_law_together" 2 2 f__law_together := fun base => d__law_together B (txF_of X G c 11 11) (h__law_breaks base)
  have h__law_any : ∀ base : Heap, FnD P w K [] mg base "_law_any" 1 2 f__law_any := fun base => d__law_any B (txF_of X G c 12 12) 
  have h__law_spoiled : ∀ base : Heap, FnD P w K [] mg base "_law_spoiled" 2 3 f__law_spoiled := fun base => d__law_spoiled B (txF_of X G c 13 13) (h__law_any base)
  have h__law_refused : ∀ base : Heap, FnD P w K [] mg base "_law_refused" 4 3 f__law_refused := fun base => d__law_refused B (txF_of X G c 14 14) X_AskError X_BadParts X_BadOrder X_BadBallot X_NotAlike M_ValueError EM IM (h_folded base) (h_places_of base)
  have h__law_due : ∀ base : Heap, FnD P w K [] mg base "_law_due" 1 4 f__law_due := fun base => d__law_due B (txF_of X G c 15 15) 
  have h__law_good : ∀ base : Heap, FnD P w K [] mg base "_law_good" 1 2 f__law_good := fun base => d__law_good B (txF_of X G c 16 16) 
  have h__law_all_together : ∀ base : Heap, FnD P w K [] mg base "_law_all_together" 3 2 f__law_all_together := fun base => d__law_all_together B (txF_of X G c 17 17) (h__law_together base)
  obtain ⟨fd, F⟩ := c.def_ 18 (d := topD "law" s_law) rfl
  have e := hfa.symm.trans (He.glo_ok X G (c.fact 18 (f := .glo "law") rfl))
  cases e
  have b := FunD.bindsA (ps := ["script"]) F bd_law
  exact ⟨fd, fun s v => b s [v] rfl, fun base _ _ => ok_law B (h__law_mixed base) (h__law_table base) (h__law_spoiled base) (h__law_good base) (h__law_pieces base) (h__law_refused base) (h__law_due base) (h__law_all_together base) (funD_fun F)⟩
end K75H
open PySem PySem.W PySem.Calls PyProof.Rows
theorem PySem.Challenge.cw_askwide_k75_bad_pieces_holds : PySem.Challenge.rw_askwide_k75_bad_pieces.Holds := by
  w_on; o_law
  refine HandSHeadRun.head_any (r := OpenLaw.row PySem.Challenge.rw_askwide_k75_bad_pieces) (q := view (OpenLaw.row PySem.Challenge.rw_askwide_k75_bad_pieces).prog [27]) (H := K75H.hk) (ob := K75H.ob) (M := 2000) (loose := K75H.lo) (d := HandSHeadRun.topDef (OpenLaw.row PySem.Challenge.rw_askwide_k75_bad_pieces).prog 27) (kwd := []) K75H.ob_eq
    (by kernel_rfl) (fun s => by kernel_rfl) K75H.run (by kernel_rfl) (by kernel_rfl) (by kernel_rfl) (by rfl) (by first | assumption | decide +kernel) (by decide +kernel) ⟨rfl, rfl, rfl, rfl, rfl, by decide +kernel⟩ ?hw ?hc
  case hw => w_witness2
  case hc =>
    refine Aw.walk_plain (l := PySem.Challenge.rw_askwide_k75_bad_pieces) (lv := 5) rfl (by kernel_rfl) ⟨rfl, by decide, by decide⟩ ?_
    intro w mg fa h Y G hmg0
    obtain ⟨K, KX, c, cx⟩ := Y
    have hmg : mg ("law" : PySem.Str) = some (.ref fa) := by
      have nm : (HandSHeadRun.topDef (OpenLaw.row PySem.Challenge.rw_askwide_k75_bad_pieces).prog 27).name = ("law" : PySem.Str) := by kernel_rfl
      rw [← nm]
      exact hmg0
    obtain ⟨fd, hb, hF⟩ := K75H.facts (P := (PySem.Challenge.rw_askwide_k75_bad_pieces).prog) (w := w) KX G hmg c cx
    exact ⟨K, fd, K75.f_law, KX, hb, fun ns h => K75.r_law ns, hF⟩

