import PyProof.Rows.All
import Wide.All
import OpenK.AllK
import Wide.FinOn
import HandS.ForMost
import HandS.Exc
import HandS.ExcOwn
import HandS.TryOnly
import HandS.TryMany
import HandS.Lambda
import HandS.Wide
import HandS.Sort
import HandS.HeadHook1
import HandS.Deep
import HandS.TupAny
import HandS.Style
import HandS.IsInst
import HandS.Small
import HandS.More
import HandS.SortInts
import HandS.CallSlots
import KE.KExcIs
import HandS.Conv
import Lean
import KE.KStateDown
import HandS.Ends
import HandS.Defaults
import HandS.Head0
import HandS.Head1
import HandS.Head2
import HandS.HeadEnd
import HandS.HeadHook2
import HandS.DictTup
import HandS.TupLen
import HandS.DictComp
import PySem.Challenge.RW_askwide_k78_whole_shares
set_option Elab.async false
set_option linter.all false
set_option maxRecDepth 100000
set_option maxHeartbeats 4000000
set_option autoImplicit false
/-! Aw1: plain data over the abstract heap: what stands at a value (At), the frozen part F, the frame G, the cells. -/
namespace Aw
open PySem L2 LamX


/-- of a dict: keys are tuples; it is locked for good (so it may be walked) -/
structure DKd where
  t : Bool
  lk : Bool
  deriving DecidableEq
inductive D where
  | non | bl (b : Bool) | int (i : Int) | str (x : Str)
  | tup (xs : List D) | lst (xs : List D) | dct (t : DKd) (ks vs : List D)
  | loc (n : Nat) | scr (ns : List Int) | fn (a : Addr)
inductive Cell where
  | lst (xs : List D) | dct (t : Bool) (ks vs : List D) | fz (d : D)
abbrev Store := List Cell
abbrev Env := List (Option D)

/-- a dict that is not locked -/
def bareD : HO → Bool
  | .dK _ => true
  | .dT _ => true
  | _ => false
def LeS (F F' : Hp) : Prop := ∀ a o, F a = some o → F' a = some o
/-- what is there stays, but dicts may be locked -/
def Le (F F' : Hp) : Prop := ∀ a o, F a = some o → F' a = some o ∨ (bareD o = true ∧ ∃ od, F' a = some (.frz od o))
theorem LeS.w {F F' : Hp} (h : LeS F F') : Le F F' := fun a o e => .inl (h a o e)
theorem Le.app {F F' : Hp} (e : Le F F') {a : Addr} {o : HO} (h : F a = some o) (nd : bareD o = false := by rfl) : F' a = some o := by
  rcases e a o h with h | ⟨h, _⟩
  · exact h
  · rw [nd] at h; cases h
theorem Le.rd {F F' : Hp} (e : Le F F') {a : Addr} {o : HO} (h : Rd F a o) : Rd F' a o := by
  rcases h with h | ⟨od, h⟩
  · rcases e a o h with h | ⟨_, od, h⟩
    · exact .inl h
    · exact .inr ⟨od, h⟩
  · exact .inr ⟨od, e.app h⟩
theorem Le.refl (F : Hp) : Le F F := fun _ _ h => .inl h
theorem Le.trans {F F1 F2 : Hp} (a : Le F F1) (b : Le F1 F2) : Le F F2 := fun x o h => by
  rcases a x o h with h | ⟨h1, od, h⟩
  · exact b x o h
  · exact .inr ⟨h1, od, b.app h⟩
theorem LeS.new {F : Hp} {p : Addr} {o : HO} (h : F p = none) : LeS F (upd F p o) := fun a u e => by
  rw [upd_ne (ne_of_none e h)]; exact e
theorem Le.new {F : Hp} {p : Addr} {o : HO} (h : F p = none) : Le F (upd F p o) := (LeS.new h).w
def Pre (l l' : List Addr) : Prop := ∀ (n : Nat) (a : Addr), l[n]? = some a → l'[n]? = some a
theorem Pre.refl (l : List Addr) : Pre l l := fun _ _ h => h
theorem Pre.trans {l l1 l2 : List Addr} (a : Pre l l1) (b : Pre l1 l2) : Pre l l2 := fun x o h => b x o (a x o h)
theorem Pre.app (l m : List Addr) : Pre l (l ++ m) := fun n a h => by
  rw [List.getElem?_append_left (List.getElem?_eq_some_iff.mp h).1]; exact h
theorem Pre.len {l l' : List Addr} (h : Pre l l') : l.length ≤ l'.length := by
  by_cases e : l.length = 0
  · omega
  · have q := h (l.length - 1) (l[l.length - 1]'(by omega)) (List.getElem?_eq_getElem (by omega))
    have := (List.getElem?_eq_some_iff.mp q).1
    omega

theorem rd_le {F F' : Hp} {a : Addr} {u : HO} (e : Le F F') (h : Rd F a u) : Rd F' a u := e.rd h
theorem sql_le {K : PySem.W.Frag} {F F' : Hp} {a : Addr} {xs : List V} (e : Le F F') (h : SqL K F a xs) : SqL K F' a xs := by
  rcases h with h | h
  · exact .inl (rd_le e h)
  · exact .inr h
theorem sqt_le {K : PySem.W.Frag} {F F' : Hp} {a : Addr} {xs : List V} (e : Le F F') (h : SqT K F a xs) : SqT K F' a xs := by
  rcases h with h | h
  · exact .inl (rd_le e h)
  · exact .inr h

def keyD : Key → D
  | .inl i => .int i
  | .inr s => .str s

/-- a dict's object: locked where that is said -/
def RdL (lk : Bool) (F : Hp) (a : Addr) (u : HO) : Prop := Rd F a u ∧ (lk = true → ∃ od, F a = some (.frz od u))
theorem RdL.mono {lk : Bool} {F F' : Hp} {a : Addr} {u : HO} (e : Le F F') (h : RdL lk F a u) : RdL lk F' a u := ⟨e.rd h.1, fun q => let ⟨od, z⟩ := h.2 q; ⟨od, e.app z⟩⟩
theorem RdL.free {F : Hp} {a : Addr} {u : HO} (h : Rd F a u) : RdL false F a u := ⟨h, fun q => by cases q⟩
mutual
/-- the datum d stands at the value v -/
def At (K : PySem.W.Frag) (F : Hp) (l : List Addr) : D → V → Prop
  | .non, v => v = .non
  | .bl b, v => v = .bl b
  | .int i, v => v = .int i
  | .str x, v => v = .str x
  | .tup ds, v => ∃ a vs, v = .ref a ∧ F a = some (.tup vs) ∧ ds.length ≤ sizeLine ∧ AtL K F l ds vs
  | .lst ds, v => ∃ a vs, v = .ref a ∧ F a = some (.lst vs) ∧ ds.length ≤ sizeLine ∧ AtL K F l ds vs
  | .dct t ks ws, v => ∃ a vs, v = .ref a ∧ AtL K F l ws vs ∧ ks.length ≤ sizeLine ∧
      ((t.t = false ∧ ∃ kvs : List (Key × V), RdL t.lk F a (.dK kvs) ∧ ks = kvs.map (fun p => keyD p.1) ∧ vs = kvs.map (·.2)) ∨
       (t.t = true ∧ ∃ kvs : List (List Key × V), RdL t.lk F a (.dT kvs) ∧ ks = kvs.map (fun p => .tup (p.1.map keyD)) ∧ vs = kvs.map (·.2)))
  | .loc n, v => ∃ a, l[n]? = some a ∧ v = .ref a
  | .scr ns, v => ∃ a, v = .ref a ∧ SqL K F a (ns.map V.int) ∧ ns.length ≤ 63
  | .fn a, v => v = .ref a
def AtL (K : PySem.W.Frag) (F : Hp) (l : List Addr) : List D → List V → Prop
  | [], vs => vs = []
  | d :: ds, vs => ∃ v vs', vs = v :: vs' ∧ At K F l d v ∧ AtL K F l ds vs'
end

section
variable {K : PySem.W.Frag} {F F' G G' H H' : Hp} {l l' : List Addr}
mutual
theorem At.mono (e : Le F F') (p : Pre l l') : ∀ (d : D) (v : V), At K F l d v → At K F' l' d v
  | .non, _, h => h
  | .bl _, _, h => h
  | .int _, _, h => h
  | .str _, _, h => h
  | .tup ds, v, h => by
    obtain ⟨a, vs, h1, h2, h3, h4⟩ := h
    exact ⟨a, vs, h1, e.app h2, h3, AtL.mono e p ds vs h4⟩
  | .lst ds, v, h => by
    obtain ⟨a, vs, h1, h2, h3, h4⟩ := h
    exact ⟨a, vs, h1, e.app h2, h3, AtL.mono e p ds vs h4⟩
  | .dct t ks ws, v, h => by
    obtain ⟨a, vs, h1, h2, h3, h4⟩ := h
    refine ⟨a, vs, h1, AtL.mono e p ws vs h2, h3, ?_⟩
    rcases h4 with ⟨ht, kvs, q, r⟩ | ⟨ht, kvs, q, r⟩
    · exact .inl ⟨ht, kvs, q.mono e, r⟩
    · exact .inr ⟨ht, kvs, q.mono e, r⟩
  | .loc n, v, h => by
    obtain ⟨a, h1, h2⟩ := h
    exact ⟨a, p _ _ h1, h2⟩
  | .scr ns, v, h => by
    obtain ⟨a, h1, h2, h3⟩ := h
    exact ⟨a, h1, sql_le e h2, h3⟩
  | .fn _, _, h => h
theorem AtL.mono (e : Le F F') (p : Pre l l') : ∀ (ds : List D) (vs : List V), AtL K F l ds vs → AtL K F' l' ds vs
  | [], _, h => h
  | d :: ds, vs, h => by
    obtain ⟨v, vs', h1, h2, h3⟩ := h
    exact ⟨v, vs', h1, At.mono e p d v h2, AtL.mono e p ds vs' h3⟩
end
theorem AtL.nil : AtL K F l [] [] := rfl
theorem AtL.cons {d : D} {v : V} {ds : List D} {vs : List V} (h : At K F l d v) (t : AtL K F l ds vs) : AtL K F l (d :: ds) (v :: vs) := ⟨v, vs, rfl, h, t⟩
theorem AtL.length : ∀ {ds : List D} {vs : List V}, AtL K F l ds vs → vs.length = ds.length
  | [], _, h => by cases h; rfl
  | d :: ds, vs, h => by
    obtain ⟨v, vs', rfl, _, h⟩ := h
    simp [AtL.length h]
theorem AtL.get : ∀ {ds : List D} {vs : List V} {i : Nat} {d : D}, AtL K F l ds vs → ds[i]? = some d → ∃ v, vs[i]? = some v ∧ At K F l d v
  | [], _, i, _, _, e => by simp at e
  | d :: ds, vs, 0, d', h, e => by
    obtain ⟨v, vs', rfl, h1, _⟩ := h
    simp at e; subst e
    exact ⟨v, rfl, h1⟩
  | d :: ds, vs, i + 1, d', h, e => by
    obtain ⟨v, vs', rfl, _, h⟩ := h
    obtain ⟨w, q, r⟩ := AtL.get (i := i) h (by simpa using e)
    exact ⟨w, by simpa using q, r⟩
theorem AtL.get' : ∀ {ds : List D} {vs : List V} {i : Nat} {v : V}, AtL K F l ds vs → vs[i]? = some v → ∃ d, ds[i]? = some d ∧ At K F l d v
  | [], _, i, _, h, e => by cases h; simp at e
  | d :: ds, vs, 0, w, h, e => by
    obtain ⟨v, vs', rfl, h1, _⟩ := h
    simp at e; subst e
    exact ⟨d, rfl, h1⟩
  | d :: ds, vs, i + 1, w, h, e => by
    obtain ⟨v, vs', rfl, _, h⟩ := h
    obtain ⟨x, q, r⟩ := AtL.get' (i := i) h (by simpa using e)
    exact ⟨x, by simpa using q, r⟩
theorem AtL.of_get : ∀ {ds : List D} {vs : List V}, vs.length = ds.length → (∀ (i : Nat) (d : D) (v : V), ds[i]? = some d → vs[i]? = some v → At K F l d v) → AtL K F l ds vs
  | [], vs, e, _ => by
    have : vs = [] := List.eq_nil_of_length_eq_zero (by simpa using e)
    exact this
  | d :: ds, [], e, _ => by simp at e
  | d :: ds, v :: vs, e, h => ⟨v, vs, rfl, h 0 d v rfl rfl, AtL.of_get (by simpa using e) fun i d' v' h1 h2 => h (i + 1) d' v' (by simpa using h1) (by simpa using h2)⟩
theorem AtL.append : ∀ {ds es : List D} {vs us : List V}, AtL K F l ds vs → AtL K F l es us → AtL K F l (ds ++ es) (vs ++ us)
  | [], es, vs, us, h, k => by cases h; exact k
  | d :: ds, es, vs, us, h, k => by
    obtain ⟨v, vs', rfl, h1, h⟩ := h
    exact ⟨v, vs' ++ us, rfl, h1, AtL.append h k⟩
theorem AtL.set {d : D} {v : V} (hv : At K F l d v) : ∀ {ds : List D} {vs : List V} (i : Nat), AtL K F l ds vs → AtL K F l (ds.set i d) (vs.set i v)
  | [], vs, i, h => by cases h; exact rfl
  | d :: ds, vs, 0, h => by
    obtain ⟨w, vs', rfl, h1, h⟩ := h
    exact ⟨v, vs', rfl, hv, h⟩
  | d :: ds, vs, i + 1, h => by
    obtain ⟨w, vs', rfl, h1, h⟩ := h
    exact ⟨w, vs'.set i v, rfl, h1, AtL.set hv i h⟩
theorem AtL.take : ∀ {ds : List D} {vs : List V} (n : Nat), AtL K F l ds vs → AtL K F l (ds.take n) (vs.take n)
  | ds, vs, 0, h => rfl
  | [], vs, n + 1, h => by cases h; exact rfl
  | d :: ds, vs, n + 1, h => by
    obtain ⟨w, vs', rfl, h1, h⟩ := h
    exact ⟨w, vs'.take n, rfl, h1, AtL.take n h⟩
theorem AtL.drop : ∀ {ds : List D} {vs : List V} (n : Nat), AtL K F l ds vs → AtL K F l (ds.drop n) (vs.drop n)
  | ds, vs, 0, h => h
  | [], vs, n + 1, h => by cases h; exact rfl
  | d :: ds, vs, n + 1, h => by
    obtain ⟨w, vs', rfl, h1, h⟩ := h
    exact AtL.drop n h
theorem AtL.reverse {ds : List D} {vs : List V} (h : AtL K F l ds vs) : AtL K F l ds.reverse vs.reverse := by
  refine AtL.of_get (by simp [h.length]) fun i d v h1 h2 => ?_
  have e := h.length
  have hi : i < ds.length := by have := (List.getElem?_eq_some_iff.mp h1).1; simpa using this
  rw [List.getElem?_reverse hi] at h1
  rw [List.getElem?_reverse (by omega), e] at h2
  obtain ⟨w, q, r⟩ := h.get h1
  rw [q] at h2; cases h2; exact r
theorem AtL.ints : ∀ (ns : List Int), AtL K F l (ns.map D.int) (ns.map V.int)
  | [] => rfl
  | n :: ns => ⟨.int n, ns.map V.int, rfl, rfl, AtL.ints ns⟩
theorem AtL.of_ints : ∀ {ns : List Int} {vs : List V}, AtL K F l (ns.map D.int) vs → vs = ns.map V.int
  | [], vs, h => h
  | n :: ns, vs, h => by
    obtain ⟨v, vs', rfl, h1, h2⟩ := h
    have h1 : v = .int n := h1
    rw [h1, AtL.of_ints h2]; rfl
theorem AtL.of_bls : ∀ {ns : List Bool} {vs : List V}, AtL K F l (ns.map D.bl) vs → vs = ns.map V.bl
  | [], vs, h => h
  | n :: ns, vs, h => by
    obtain ⟨v, vs', rfl, h1, h2⟩ := h
    have h1 : v = .bl n := h1
    rw [h1, AtL.of_bls h2]; rfl
end

/-- a cell's content -/
def CellOk (K : PySem.W.Frag) (F : Hp) (l : List Addr) (H : Hp) (a : Addr) : Cell → Prop
  | .lst ds => F a = none ∧ ds.length ≤ sizeLine ∧ ∃ vs, H a = some (.lst vs) ∧ AtL K F l ds vs
  | .dct t ks ws => F a = none ∧ ks.length ≤ sizeLine ∧ ∃ vs, AtL K F l ws vs ∧
      ((t = false ∧ ∃ kvs : List (Key × V), H a = some (.dK kvs) ∧ ks = kvs.map (fun p => keyD p.1) ∧ vs = kvs.map (·.2)) ∨
       (t = true ∧ ∃ kvs : List (List Key × V), H a = some (.dT kvs) ∧ ks = kvs.map (fun p => .tup (p.1.map keyD)) ∧ vs = kvs.map (·.2)))
  | .fz d => At K F l d (.ref a)
theorem CellOk.mono {K : PySem.W.Frag} {F F' H H' : Hp} {l l' : List Addr} {a : Addr} (e : Le F F') (p : Pre l l') (hF : F' a = F a) (hH : H' a = H a) : ∀ {c : Cell}, CellOk K F l H a c → CellOk K F' l' H' a c
  | .lst ds, h => by
    obtain ⟨h1, h0, vs, h2, h3⟩ := h
    exact ⟨hF.trans h1, h0, vs, hH.trans h2, h3.mono e p⟩
  | .dct t ks ws, h => by
    obtain ⟨h1, h0, vs, h2, h3⟩ := h
    refine ⟨hF.trans h1, h0, vs, h2.mono e p, ?_⟩
    rcases h3 with ⟨ht, kvs, q, r⟩ | ⟨ht, kvs, q, r⟩
    · exact .inl ⟨ht, kvs, hH.trans q, r⟩
    · exact .inr ⟨ht, kvs, hH.trans q, r⟩
  | .fz d, h => At.mono e p d _ h

/-- what a cell's object may be -/
def isCellO : HO → Bool
  | .lst _ => true
  | .dK _ => true
  | .dT _ => true
  | .frz _ _ => true
  | _ => false
/-- F frozen, G the frame, l the cells' addresses, S what they hold -/
structure HRel (K : PySem.W.Frag) (T : List (Addr × Str)) (F G : Hp) (l : List Addr) (S : Store) (H : Hp) : Prop where
  fz : LeS F H
  gr : LeS G H
  fg : ∀ a o, F a = some o → G a = none
  nd : ∀ (i j : Nat) (a : Addr), l[i]? = some a → l[j]? = some a → F a = none → i = j
  len : l.length = S.length
  gl : ∀ a ∈ l, G a = none
  al : ∀ a ∈ l, H a ≠ none
  tb : ∀ a ∈ l, ∀ o, H a = some o → isCellO o = true
  tabs : Tabs T H
  cell : ∀ (n : Nat) (c : Cell), S[n]? = some c → ∃ a, l[n]? = some a ∧ CellOk K F l H a c
  gc : ∀ a o, G a = some o → isCellO o = true

section
variable {K : PySem.W.Frag} {T : List (Addr × Str)} {F F' G G' H H' : Hp} {l l' : List Addr} {S S' : Store} {p : Addr} {o : HO} {vs : List V} {ds : List D}
theorem HRel.fw (h : HRel K T F G l S H) : Le F H := h.fz.w
theorem nodup_get {l : List Addr} (nd : l.Nodup) {i j : Nat} {a : Addr} (h1 : l[i]? = some a) (h2 : l[j]? = some a) : i = j := by
  obtain ⟨hi, e1⟩ := List.getElem?_eq_some_iff.mp h1
  obtain ⟨hj, e2⟩ := List.getElem?_eq_some_iff.mp h2
  exact (List.getElem_inj nd).mp (e1.trans e2.symm)
theorem nd_snoc {F : Hp} {l : List Addr} {p : Addr} (h : ∀ (i j : Nat) (a : Addr), l[i]? = some a → l[j]? = some a → F a = none → i = j) (np : p ∉ l) :
    ∀ (i j : Nat) (a : Addr), (l ++ [p])[i]? = some a → (l ++ [p])[j]? = some a → F a = none → i = j := by
  have at_ : ∀ (i : Nat) (a : Addr), (l ++ [p])[i]? = some a → l[i]? = some a ∨ (i = l.length ∧ a = p) := fun i a e => by
    by_cases hi : i < l.length
    · rw [List.getElem?_append_left hi] at e; exact .inl e
    · rw [List.getElem?_append_right (by omega)] at e
      have hz : i - l.length = 0 := by
        have := (List.getElem?_eq_some_iff.mp e).1
        simp at this; omega
      rw [hz] at e
      simp at e
      exact .inr ⟨by omega, e.symm⟩
  intro i j a h1 h2 h3
  rcases at_ i a h1 with e1 | ⟨e1, e2⟩ <;> rcases at_ j a h2 with e3 | ⟨e3, e4⟩
  · exact h i j a e1 e3 h3
  · subst e4; exact absurd (List.mem_of_getElem? e1) np
  · subst e2; exact absurd (List.mem_of_getElem? e3) np
  · omega
theorem ne_mem {l : List Addr} {a p : Addr} (ha : a ∈ l) (np : p ∉ l) : a ≠ p := fun z => np (z ▸ ha)
/-- a new frozen object -/
theorem HRel.newF (h : HRel K T F G l S H) (hp : H p = none) : HRel K T (upd F p o) G l S (upd H p o) := by
  have fp : F p = none := by
    cases e : F p with
    | none => rfl
    | some u => rw [h.fz p u e] at hp; cases hp
  have gp : G p = none := by
    cases e : G p with
    | none => rfl
    | some u => rw [h.gr p u e] at hp; cases hp
  refine ⟨fun a u e => ?_, fun a u e => ?_, fun a u e => ?_, fun i j a h1 h2 h3 => h.nd i j a h1 h2 (by
    by_cases q : a = p
    · rw [q]; exact fp
    · rw [upd_ne q] at h3; exact h3), h.len, h.gl, fun a ha => ?_, fun a ha u e => ?_, h.tabs.ext fun b u e => ?_, fun n c e => ?_, h.gc⟩
  · by_cases q : a = p
    · subst q; rw [upd_same] at e ⊢; exact e
    · rw [upd_ne q] at e ⊢; exact h.fz a u e
  · rw [upd_ne (ne_of_none (h.gr a u e) hp)]; exact h.gr a u e
  · by_cases q : a = p
    · subst q; exact gp
    · rw [upd_ne q] at e; exact h.fg a u e
  · by_cases q : a = p
    · subst q; rw [upd_same]; simp
    · rw [upd_ne q]; exact h.al a ha
  · have q : a ≠ p := fun z => h.al a ha (by rw [z]; exact hp)
    rw [upd_ne q] at e
    exact h.tb a ha u e
  · rw [upd_ne (ne_of_none e hp)]; exact e
  · obtain ⟨a, h1, h2⟩ := h.cell n c e
    have q : a ≠ p := fun z => h.al a (List.mem_of_getElem? h1) (by rw [z]; exact hp)
    exact ⟨a, h1, h2.mono (Le.new fp) (Pre.refl l) (upd_ne q) (upd_ne q)⟩
theorem HRel.fnone (h : HRel K T F G l S H) (hp : H p = none) : F p = none := by
  cases e : F p with
  | none => rfl
  | some u => rw [h.fz p u e] at hp; cases hp
theorem HRel.gnone (h : HRel K T F G l S H) (hp : H p = none) : G p = none := by
  cases e : G p with
  | none => rfl
  | some u => rw [h.gr p u e] at hp; cases hp
theorem HRel.lnot (h : HRel K T F G l S H) (hp : H p = none) : p ∉ l := fun z => h.al p z hp
/-- a new cell -/
theorem HRel.newC {c : Cell} (h : HRel K T F G l S H) (hp : H p = none) (ho : isCellO o = true) (hc : CellOk K F (l ++ [p]) (upd H p o) p c) : HRel K T F G (l ++ [p]) (S ++ [c]) (upd H p o) := by
  have fp := h.fnone hp
  have gp := h.gnone hp
  have np := h.lnot hp
  refine ⟨fun a u e => ?_, fun a u e => ?_, h.fg, ?_, by simp [h.len], fun a ha => ?_, fun a ha => ?_, fun a ha u e => ?_, h.tabs.ext fun b u e => ?_, fun n c' e => ?_, h.gc⟩
  · rw [upd_ne (ne_of_none (h.fz a u e) hp)]; exact h.fz a u e
  · rw [upd_ne (ne_of_none (h.gr a u e) hp)]; exact h.gr a u e
  · exact nd_snoc h.nd np
  · rcases List.mem_append.mp ha with ha | ha
    · exact h.gl a ha
    · simp at ha; subst ha; exact gp
  · rcases List.mem_append.mp ha with ha | ha
    · by_cases q : a = p
      · subst q; rw [upd_same]; simp
      · rw [upd_ne q]; exact h.al a ha
    · simp at ha; subst ha; rw [upd_same]; simp
  · rcases List.mem_append.mp ha with ha | ha
    · have q : a ≠ p := fun z => np (z ▸ ha)
      rw [upd_ne q] at e
      exact h.tb a ha u e
    · simp at ha; subst ha
      rw [upd_same] at e; cases e; exact ho
  · rw [upd_ne (ne_of_none e hp)]; exact e
  · by_cases hn : n < S.length
    · rw [List.getElem?_append_left hn] at e
      obtain ⟨a, h1, h2⟩ := h.cell n c' e
      have q : a ≠ p := fun z => np (z ▸ List.mem_of_getElem? h1)
      exact ⟨a, Pre.app _ _ _ _ h1, h2.mono (Le.refl F) (Pre.app _ _) rfl (upd_ne q)⟩
    · rw [List.getElem?_append_right (by omega)] at e
      have : n - S.length = 0 := by
        have := (List.getElem?_eq_some_iff.mp e).1
        simp at this; omega
      have en : n = S.length := by omega
      rw [this] at e
      simp at e; subst e
      refine ⟨p, ?_, hc⟩
      rw [en, ← h.len]; simp
/-- a cell is written -/
theorem HRel.setC {n : Nat} {c c' : Cell} (h : HRel K T F G l S H) (hl : l[n]? = some p) (hS : S[n]? = some c) (hd : F p = none) (ho : isCellO o = true) (hc : CellOk K F l (upd H p o) p c') : HRel K T F G l (S.set n c') (upd H p o) := by
  have mem : p ∈ l := List.mem_of_getElem? hl
  have gp := h.gl p mem
  have ob : ∃ u, H p = some u ∧ isCellO u = true := by
    cases e : H p with
    | none => exact absurd e (h.al p mem)
    | some u => exact ⟨u, rfl, h.tb p mem u e⟩
  obtain ⟨u0, hp0, hu0⟩ := ob
  refine ⟨fun a u e => ?_, fun a u e => ?_, h.fg, h.nd, by simp [h.len], h.gl, fun a ha => ?_, fun a ha u e => ?_, fun q hq => ?_, fun m c2 e => ?_, h.gc⟩
  · rw [upd_ne (ne_of_none e hd)]; exact h.fz a u e
  · rw [upd_ne (ne_of_none e gp)]; exact h.gr a u e
  · by_cases q : a = p
    · subst q; rw [upd_same]; simp
    · rw [upd_ne q]; exact h.al a ha
  · by_cases q : a = p
    · subst q; rw [upd_same] at e; cases e; exact ho
    · rw [upd_ne q] at e; exact h.tb a ha u e
  · obtain ⟨ps, h1, h2, h3⟩ := h.tabs q hq
    refine ⟨ps, ?_, h2, fun pos cv hcv => ?_⟩
    · rw [upd_ne]
      · exact h1
      · intro z; rw [z, hp0] at h1; cases h1; cases hu0
    · obtain ⟨c, e1, e2⟩ := h3 pos cv hcv
      refine ⟨c, e1, ?_⟩
      rw [upd_ne]
      · exact e2
      · intro z; rw [z, hp0] at e2
        have e2 := Option.some.inj e2
        rw [e2] at hu0; cases hu0
  · by_cases hm : m = n
    · subst hm
      have hlt := (List.getElem?_eq_some_iff.mp hS).1
      rw [List.getElem?_set_self hlt] at e
      cases e
      exact ⟨p, hl, hc⟩
    · rw [List.getElem?_set_ne (Ne.symm hm)] at e
      obtain ⟨a, h1, h2⟩ := h.cell m c2 e
      have q : a ≠ p := fun z => hm (h.nd _ _ _ (z ▸ h1) hl hd)
      exact ⟨a, h1, h2.mono (Le.refl F) (Pre.refl l) rfl (upd_ne q)⟩
/-- a cell is frozen -/
theorem HRel.frz {n : Nat} {c : Cell} {d : D} (h : HRel K T F G l S H) (hl : l[n]? = some p) (hS : S[n]? = some c) (hd : F p = none) (hp : H p = some o) (hc : At K (upd F p o) l d (.ref p)) : HRel K T (upd F p o) G l (S.set n (.fz d)) H := by
  have mem : p ∈ l := List.mem_of_getElem? hl
  refine ⟨fun a u e => ?_, h.gr, fun a u e => ?_, fun i j a h1 h2 h3 => h.nd i j a h1 h2 (by
    by_cases q : a = p
    · rw [q]; exact hd
    · rw [upd_ne q] at h3; exact h3), by simp [h.len], h.gl, h.al, h.tb, h.tabs, fun m c2 e => ?_, h.gc⟩
  · by_cases q : a = p
    · subst q; rw [upd_same] at e; cases e; exact hp
    · rw [upd_ne q] at e; exact h.fz a u e
  · by_cases q : a = p
    · subst q; exact h.gl _ mem
    · rw [upd_ne q] at e; exact h.fg a u e
  · by_cases hm : m = n
    · subst hm
      have hlt := (List.getElem?_eq_some_iff.mp hS).1
      rw [List.getElem?_set_self hlt] at e
      cases e
      exact ⟨p, hl, hc⟩
    · rw [List.getElem?_set_ne (Ne.symm hm)] at e
      obtain ⟨a, h1, h2⟩ := h.cell m c2 e
      have q : a ≠ p := fun z => hm (h.nd _ _ _ (z ▸ h1) hl hd)
      exact ⟨a, h1, h2.mono (Le.new hd) (Pre.refl l) (upd_ne q) rfl⟩
/-- into the frame -/
theorem HRel.gAdd (h : HRel K T F G l S H) (hp : H p = none) (ho : isCellO o = true := by rfl) : HRel K T F (upd G p o) l S (upd H p o) := by
  have fp := h.fnone hp
  have np := h.lnot hp
  refine ⟨fun a u e => ?_, fun a u e => ?_, fun a u e => ?_, h.nd, h.len, fun a ha => ?_, fun a ha => ?_, fun a ha u e => ?_, h.tabs.ext fun b u e => ?_, fun n c e => ?_, fun a u e => by
    by_cases q : a = p
    · subst q; rw [upd_same] at e; cases e; exact ho
    · rw [upd_ne q] at e; exact h.gc a u e⟩
  · rw [upd_ne (ne_of_none (h.fz a u e) hp)]; exact h.fz a u e
  · by_cases q : a = p
    · subst q; rw [upd_same] at e ⊢; exact e
    · rw [upd_ne q] at e ⊢; exact h.gr a u e
  · rw [upd_ne (ne_of_none e fp)]; exact h.fg a u e
  · rw [upd_ne (ne_mem ha np)]; exact h.gl a ha
  · rw [upd_ne (ne_mem ha np)]; exact h.al a ha
  · rw [upd_ne (ne_mem ha np)] at e; exact h.tb a ha u e
  · rw [upd_ne (ne_of_none e hp)]; exact e
  · obtain ⟨a, h1, h2⟩ := h.cell n c e
    exact ⟨a, h1, h2.mono (Le.refl F) (Pre.refl l) rfl (upd_ne (ne_mem (List.mem_of_getElem? h1) np))⟩
/-- the frame's object changes -/
theorem HRel.gSet {u : HO} (h : HRel K T F (upd G p u) l S H) (hu : isCellO u = true) (ho : isCellO o = true := by rfl) : HRel K T F (upd G p o) l S (upd H p o) := by
  have hp : H p = some u := h.gr p u upd_same
  have fp : F p = none := by
    cases e : F p with
    | none => rfl
    | some w => have := h.fg p w e; rw [upd_same] at this; cases this
  have np : p ∉ l := fun z => by have := h.gl p z; rw [upd_same] at this; cases this
  refine ⟨fun a w e => ?_, fun a w e => ?_, fun a w e => ?_, h.nd, h.len, fun a ha => ?_, fun a ha => ?_, fun a ha w e => ?_, fun q hq => ?_, fun n c e => ?_, fun a w e => by
    by_cases q : a = p
    · subst q; rw [upd_same] at e; cases e; exact ho
    · rw [upd_ne q] at e; exact h.gc a w (by rw [upd_ne q]; exact e)⟩
  · rw [upd_ne (ne_of_none e fp)]; exact h.fz a w e
  · by_cases q : a = p
    · subst q; rw [upd_same] at e ⊢; exact e
    · rw [upd_ne q] at e ⊢; exact h.gr a w (by rw [upd_ne q]; exact e)
  · have := h.fg a w e
    rw [upd_ne (ne_of_none e fp)] at this ⊢; exact this
  · have := h.gl a ha
    rw [upd_ne (ne_mem ha np)] at this ⊢; exact this
  · rw [upd_ne (ne_mem ha np)]; exact h.al a ha
  · rw [upd_ne (ne_mem ha np)] at e; exact h.tb a ha w e
  · obtain ⟨ps, h1, h2, h3⟩ := h.tabs q hq
    refine ⟨ps, ?_, h2, fun pos cv hcv => ?_⟩
    · rw [upd_ne]
      · exact h1
      · intro z; rw [z, hp] at h1; cases h1; cases hu
    · obtain ⟨c, e1, e2⟩ := h3 pos cv hcv
      refine ⟨c, e1, ?_⟩
      rw [upd_ne]
      · exact e2
      · intro z; rw [z, hp] at e2
        have e2 := Option.some.inj e2
        rw [e2] at hu; cases hu
  · obtain ⟨a, h1, h2⟩ := h.cell n c e
    exact ⟨a, h1, h2.mono (Le.refl F) (Pre.refl l) rfl (upd_ne (ne_mem (List.mem_of_getElem? h1) np))⟩
/-- out of the frame into the frozen part -/
theorem HRel.gToF (h : HRel K T F (upd G p o) l S H) (hg : G p = none) : HRel K T (upd F p o) G l S H := by
  have hp : H p = some o := h.gr p o upd_same
  have fp : F p = none := by
    cases e : F p with
    | none => rfl
    | some w => have := h.fg p w e; rw [upd_same] at this; cases this
  have np : p ∉ l := fun z => by have := h.gl p z; rw [upd_same] at this; cases this
  refine ⟨fun a w e => ?_, fun a w e => ?_, fun a w e => ?_, fun i j a h1 h2 h3 => h.nd i j a h1 h2 (by
    by_cases q : a = p
    · rw [q]; exact fp
    · rw [upd_ne q] at h3; exact h3), h.len, fun a ha => ?_, h.al, h.tb, h.tabs, fun n c e => ?_, fun a w e => h.gc a w (by rw [upd_ne (ne_of_none e hg)]; exact e)⟩
  · by_cases q : a = p
    · subst q; rw [upd_same] at e; cases e; exact hp
    · rw [upd_ne q] at e; exact h.fz a w e
  · exact h.gr a w (by rw [upd_ne (ne_of_none e hg)]; exact e)
  · by_cases q : a = p
    · subst q; exact hg
    · rw [upd_ne q] at e
      have := h.fg a w e
      rw [upd_ne q] at this; exact this
  · have := h.gl a ha
    rw [upd_ne (ne_mem ha np)] at this; exact this
  · obtain ⟨a, h1, h2⟩ := h.cell n c e
    exact ⟨a, h1, h2.mono (Le.new fp) (Pre.refl l) (upd_ne (ne_mem (List.mem_of_getElem? h1) np)) rfl⟩
/-- out of the frame, forgotten -/
theorem HRel.gDrop (h : HRel K T F (upd G p o) l S H) (hg : G p = none) : HRel K T F G l S H := by
  refine ⟨h.fz, fun a w e => h.gr a w (by rw [upd_ne (ne_of_none e hg)]; exact e), fun a w e => ?_, h.nd, h.len, fun a ha => ?_, h.al, h.tb, h.tabs, h.cell, fun a w e => h.gc a w (by rw [upd_ne (ne_of_none e hg)]; exact e)⟩
  · have := h.fg a w e
    by_cases q : a = p
    · rw [q]; exact hg
    · rw [upd_ne q] at this; exact this
  · have := h.gl a ha
    by_cases q : a = p
    · rw [q]; exact hg
    · rw [upd_ne q] at this; exact this
/-- out of the frame into a new cell -/
theorem HRel.gToC {c : Cell} (h : HRel K T F (upd G p o) l S H) (hg : G p = none) (ho : isCellO o = true) (hc : CellOk K F (l ++ [p]) H p c) : HRel K T F G (l ++ [p]) (S ++ [c]) H := by
  have hp : H p = some o := h.gr p o upd_same
  have np : p ∉ l := fun z => by have := h.gl p z; rw [upd_same] at this; cases this
  have h' := h.gDrop hg
  refine ⟨h'.fz, h'.gr, h'.fg, ?_, by simp [h'.len], fun a ha => ?_, fun a ha => ?_, fun a ha u e => ?_, h'.tabs, fun n c' e => ?_, h'.gc⟩
  · exact nd_snoc h.nd np
  · rcases List.mem_append.mp ha with ha | ha
    · exact h'.gl a ha
    · simp at ha; subst ha; exact hg
  · rcases List.mem_append.mp ha with ha | ha
    · exact h'.al a ha
    · simp at ha; subst ha; rw [hp]; simp
  · rcases List.mem_append.mp ha with ha | ha
    · exact h'.tb a ha u e
    · simp at ha; subst ha
      rw [hp] at e; cases e; exact ho
  · by_cases hn : n < S.length
    · rw [List.getElem?_append_left hn] at e
      obtain ⟨a, h1, h2⟩ := h'.cell n c' e
      exact ⟨a, Pre.app _ _ _ _ h1, h2.mono (Le.refl F) (Pre.app _ _) rfl rfl⟩
    · rw [List.getElem?_append_right (by omega)] at e
      have : n - S.length = 0 := by
        have := (List.getElem?_eq_some_iff.mp e).1
        simp at this; omega
      have en : n = S.length := by omega
      rw [this] at e
      simp at e; subst e
      refine ⟨p, ?_, hc⟩
      rw [en, ← h.len]; simp
end
end Aw

/-! Aw2: what code does to plain data (Out, R), the readings made of it (wp, wpS ..), expressions. -/
namespace Aw
open PySem L2 LamX

/-- an exception's class: the program's own, a built-in one -/
inductive Ex where
  | own (x : Str) | bt (n : String)
  deriving DecidableEq
def exV (K : PySem.W.Frag) : Ex → Value
  | .own x => .ref (He.ga K x)
  | .bt n => .type n
inductive Out (α : Type) where
  | ok (a : α) (S : Store) | err (c : Ex) (S : Store) | stuck
abbrev Sem (α : Type) := Env → Store → Out α
inductive R where
  | nx (r : Env) (S : Store) | ret (d : D) (S : Store) | brk (r : Env) (S : Store) | ct (r : Env) (S : Store) | err (c : Ex) (r : Env) (S : Store) | stuck
abbrev SemS := Env → Store → R

def bindO {α β : Type} (f : Sem α) (g : α → Sem β) : Sem β := fun r S => match f r S with
  | .ok a S' => g a r S'
  | .err c S' => .err c S'
  | .stuck => .stuck
def retO {α : Type} (a : α) : Sem α := fun _ S => .ok a S
def optO {α : Type} (o : Option α) : Sem α := fun _ S => match o with
  | some a => .ok a S
  | none => .stuck

/-- the slots -/
def Sl (K : PySem.W.Frag) (F : Hp) (l : List Addr) (r : Env) (σ : St) : Prop := r.length = σ.length ∧ ∀ (i : Nat) (d : D), r[i]? = some (some d) → ∃ v, σ[i]? = some (some v) ∧ At K F l d v
theorem Sl.mono {K : PySem.W.Frag} {F F' : Hp} {l l' : List Addr} {r : Env} {σ : St} (e : Le F F') (p : Pre l l') (h : Sl K F l r σ) : Sl K F' l' r σ :=
  ⟨h.1, fun i d q => let ⟨v, q1, q2⟩ := h.2 i d q; ⟨v, q1, q2.mono e p d v⟩⟩
theorem Sl.set {K : PySem.W.Frag} {F : Hp} {l : List Addr} {r : Env} {σ : St} {d : D} {v : V} (h : Sl K F l r σ) (hv : At K F l d v) (i : Nat) : Sl K F l (r.set i (some d)) (σ.set i (some v)) := by
  refine ⟨by simp [h.1], fun j e q => ?_⟩
  by_cases hj : i = j
  · subst hj
    by_cases hi : i < r.length
    · rw [List.getElem?_set_self hi] at q
      cases q
      exact ⟨v, List.getElem?_set_self (by rw [← h.1]; exact hi), hv⟩
    · rw [List.getElem?_eq_none (by simp; omega)] at q; cases q
  · rw [List.getElem?_set_ne hj] at q
    obtain ⟨w, q1, q2⟩ := h.2 j e q
    exact ⟨w, by rw [List.getElem?_set_ne hj]; exact q1, q2⟩

/-- a later state -/
structure Later (K : PySem.W.Frag) (T : List (Addr × Str)) (F G : Hp) (l : List Addr) (F' : Hp) (l' : List Addr) (S' : Store) (H' : Hp) : Prop where
  le : Le F F'
  pre : Pre l l'
  rel : HRel K T F' G l' S' H'
theorem Later.trans {K : PySem.W.Frag} {T : List (Addr × Str)} {F G F1 F2 H1 H2 : Hp} {l l1 l2 : List Addr} {S1 S2 : Store} (a : Later K T F G l F1 l1 S1 H1) (b : Later K T F1 G l1 F2 l2 S2 H2) : Later K T F G l F2 l2 S2 H2 :=
  ⟨a.le.trans b.le, a.pre.trans b.pre, b.rel⟩
theorem Later.refl {K : PySem.W.Frag} {T : List (Addr × Str)} {F G H : Hp} {l : List Addr} {S : Store} (h : HRel K T F G l S H) : Later K T F G l F l S H := ⟨Le.refl F, Pre.refl l, h⟩

abbrev Rl (α β : Type) := Hp → List Addr → α → β → Prop
def PostG {α β : Type} (K : PySem.W.Frag) (T : List (Addr × Str)) (W : WX) (rl : Rl α β) (F G : Hp) (l : List Addr) (σ : St) (Q : β → Hp → Prop) : Out α → Prop
  | .ok a S' => ∀ F' l' H' b, Later K T F G l F' l' S' H' → rl F' l' a b → Q b H'
  | .err c S' => ∀ F' l' H', Later K T F G l F' l' S' H' → W (exV K c) none σ H'
  | .stuck => False
def wp {α β : Type} (K : PySem.W.Frag) (T : List (Addr × Str)) (W : WX) (rl : Rl α β) (f : Sem α) : St → Hp → (β → Hp → Prop) → Prop := fun σ H Q =>
  ∃ F G l r S, HRel K T F G l S H ∧ Sl K F l r σ ∧ PostG K T W rl F G l σ Q (f r S)
abbrev rE (K : PySem.W.Frag) : Rl D V := fun F l d v => At K F l d v
def rT : Rl Bool Bool := fun _ _ a b => b = a
abbrev rA (K : PySem.W.Frag) : Rl (List D) (List V) := fun F l d v => AtL K F l d v
theorem PostG.mono {α β : Type} {K : PySem.W.Frag} {T : List (Addr × Str)} {W : WX} {rl : Rl α β} {F G F1 : Hp} {l l1 : List Addr} {σ : St} {Q : β → Hp → Prop} (a : Le F F1) (p : Pre l l1) : ∀ {o : Out α}, PostG K T W rl F G l σ Q o → PostG K T W rl F1 G l1 σ Q o
  | .ok _ _, h => fun F' l' H' b e q => h F' l' H' b ⟨a.trans e.le, p.trans e.pre, e.rel⟩ q
  | .err _ _, h => fun F' l' H' e => h F' l' H' ⟨a.trans e.le, p.trans e.pre, e.rel⟩
  | .stuck, h => h
theorem PostG.later {α β : Type} {K : PySem.W.Frag} {T : List (Addr × Str)} {W : WX} {rl : Rl α β} {F G F1 H1 : Hp} {l l1 : List Addr} {S1 : Store} {σ : St} {Q : β → Hp → Prop} (a : Later K T F G l F1 l1 S1 H1) : ∀ {o : Out α}, PostG K T W rl F G l σ Q o → PostG K T W rl F1 G l1 σ Q o
  | .ok _ _, h => fun F' l' H' b e q => h F' l' H' b (a.trans e) q
  | .err _ _, h => fun F' l' H' e => h F' l' H' (a.trans e)
  | .stuck, h => h
section
variable {α β γ δ : Type} {K : PySem.W.Frag} {T : List (Addr × Str)} {W : WX} {σ : St} {H : Hp}
/-- the first step of two -/
theorem wp_step {rl : Rl α β} {rl' : Rl γ δ} {f : Sem α} {g : α → Sem γ} {Q : δ → Hp → Prop} {Q1 : β → Hp → Prop} {F G : Hp} {l : List Addr} {r : Env} {S : Store} (hr : HRel K T F G l S H) (hs : Sl K F l r σ)
    (hp : PostG K T W rl' F G l σ Q (bindO f g r S))
    (k : ∀ F' l' S' a b H', Later K T F G l F' l' S' H' → Sl K F' l' r σ → rl F' l' a b → PostG K T W rl' F' G l' σ Q (g a r S') → Q1 b H') : wp K T W rl f σ H Q1 := by
  refine ⟨F, G, l, r, S, hr, hs, ?_⟩
  unfold bindO at hp
  cases e : f r S with
  | ok a S' =>
    rw [e] at hp
    exact fun F' l' H' b lt q => k F' l' S' a b H' lt (hs.mono lt.le lt.pre) q (hp.later lt)
  | err c S' => rw [e] at hp; exact hp
  | stuck => rw [e] at hp; exact hp
/-- the end -/
theorem wp_end {rl : Rl α β} {f : Sem α} {F G : Hp} {l : List Addr} {r : Env} {S : Store} {Q : β → Hp → Prop} (hr : HRel K T F G l S H) (hs : Sl K F l r σ) (hp : PostG K T W rl F G l σ Q (f r S)) : wp K T W rl f σ H Q := ⟨F, G, l, r, S, hr, hs, hp⟩
end

/-! ### judgements -/
/-- what the context gives -/
structure Ctx (X : Cx) (W : WX) (k : Nat) : Prop where
  calm : X.calm = true
  nd : X.N.Nodup
  tk : Takes X W
  po : PySem.PassesOwn (model X.prog X.w) X.A X.env X.xe
  rm : Room k X.A
def PD (X : Cx) (T : List (Addr × Str)) (W : WX) (e : Expr) (f : Sem D) : Prop := PE X e (wp X.K T W (rE X.K) f)
def PDT (X : Cx) (T : List (Addr × Str)) (W : WX) (e : Expr) (f : Sem Bool) : Prop := PT X e (wp X.K T W rT f)
def PDW (X : Cx) (T : List (Addr × Str)) (W : WX) (e : Expr) (f : Sem Bool) : Prop := PW X e (wp X.K T W rT f)
def PDA (X : Cx) (T : List (Addr × Str)) (W : WX) (e : List Expr) (f : Sem (List D)) : Prop := PA X e (wp X.K T W (rA X.K) f)
theorem PE.imp {X : Cx} {e : Expr} {t t' : TE} (h : PE X e t) (k : ∀ σ H Q, t' σ H Q → t σ H Q) : PE X e t' := ⟨fun pins s σ H Q I q => h.run pins s σ H Q I (k σ H Q q)⟩
theorem PT.imp {X : Cx} {e : Expr} {t t' : TT} (h : PT X e t) (k : ∀ σ H Q, t' σ H Q → t σ H Q) : PT X e t' := ⟨fun pins s σ H Q I q => h.run pins s σ H Q I (k σ H Q q)⟩
theorem PW.imp {X : Cx} {e : Expr} {t t' : TT} (h : PW X e t) (k : ∀ σ H Q, t' σ H Q → t σ H Q) : PW X e t' := ⟨fun w pins s σ H Q I q => h.run w pins s σ H Q I (k σ H Q q)⟩
theorem PA.imp {X : Cx} {e : List Expr} {t t' : TA} (h : PA X e t) (k : ∀ σ H Q, t' σ H Q → t σ H Q) : PA X e t' := ⟨fun p pins s σ H Q I q => h.run p pins s σ H Q I (k σ H Q q)⟩
theorem PS.imp {X : Cx} {e : Stmt} {t t' : TS} (h : PS X e t) (k : ∀ Dn σ H, t' Dn σ H → t Dn σ H) : PS X e t' := ⟨fun pins s σ H Dn I q => h.run pins s σ H Dn I (k Dn σ H q)⟩
theorem PSs.imp {X : Cx} {e : List Stmt} {t t' : TS} (h : PSs X e t) (k : ∀ Dn σ H, t' Dn σ H → t Dn σ H) : PSs X e t' := ⟨fun pins s σ H Dn I q => h.run pins s σ H Dn I (k Dn σ H q)⟩

section
variable {X : Cx} {T : List (Addr × Str)} {W : WX} {k : Nat} {pos : Pos} {e e1 e2 a b : Expr}

/-! ### names, constants -/
/-- a frozen cell's name is what it holds -/
def normL (S : Store) (n : Nat) : D := match S[n]? with
  | some (.fz d) => d
  | _ => .loc n
def norm (S : Store) : D → D
  | .loc n => normL S n
  | d => d
theorem norm_at {K : PySem.W.Frag} {F G H : Hp} {l : List Addr} {S : Store} (hr : HRel K T F G l S H) : ∀ {d : D} {v : V}, At K F l d v → At K F l (norm S d) v
  | .non, _, h => h
  | .bl _, _, h => h
  | .int _, _, h => h
  | .str _, _, h => h
  | .tup _, _, h => h
  | .lst _, _, h => h
  | .dct _ _ _, _, h => h
  | .scr _, _, h => h
  | .fn _, _, h => h
  | .loc n, v, h => by
    show At K F l (normL S n) v
    unfold normL
    split
    · rename_i d e
      obtain ⟨a, h1, rfl⟩ := h
      obtain ⟨a', h2, h3⟩ := hr.cell n _ e
      rw [h1] at h2; cases h2
      exact h3
    · exact h
def vE (i : Nat) : Sem D := fun r S => match r[i]? with
  | some (some d) => .ok (norm S d) S
  | _ => .stuck
theorem pd_var (i : Nat) {x : Str} (hN : X.N[i]? = some x := by rfl) (hv : Vis X.env.scope x := by first | exact Or.inl rfl | exact Or.inr (Or.inl rfl) | exact Or.inr (Or.inr rfl)) (hd : (x == ("__debug__" : Str)) = false := by decide)
    (hcd : (x == ("__classdict__" : Str)) = false := by decide) : PD X T W (.Name x pos) (vE i) := by
  refine PE.imp (pe_var hN hv hd hcd) fun σ H Q ⟨F, G, l, r, S, hr, hs, hp⟩ => ?_
  unfold vE at hp
  split at hp
  · rename_i d e
    obtain ⟨v, q1, q2⟩ := hs.2 i d e
    exact ⟨v, q1, hp F l H v (Later.refl hr) (norm_at hr q2)⟩
  · exact hp.elim
/-- a value that needs no heap -/
theorem pd_const {d : D} {v : V} (h : PE X e (tC v)) (hv : ∀ F l, At X.K F l d v) : PD X T W e (retO d) :=
  PE.imp h fun σ H Q ⟨F, G, l, r, S, hr, hs, hp⟩ => hp F l H v (Later.refl hr) (hv F l)
theorem pd_int {i : Int} {j} : PD X T W (.Constant (.int i) j pos) (retO (.int i)) := pd_const pe_int fun _ _ => rfl
theorem pd_bl {i : Bool} {j} : PD X T W (.Constant (.bool i) j pos) (retO (.bl i)) := pd_const pe_bl fun _ _ => rfl
theorem pd_non {j} : PD X T W (.Constant .none j pos) (retO .non) := pd_const pe_non fun _ _ => rfl
theorem pd_str {i : Str} {j} : PD X T W (.Constant (.str i) j pos) (retO (.str i)) := pd_const pe_str fun _ _ => rfl
/-- a module's text constant -/
theorem pd_gstr {x : Str} {s : Str} {t : Tok} (hg : Gl X x) (hm : X.mg x = some (.str s t)) (hd : (x == ("__debug__" : Str)) = false := by decide) : PD X T W (.Name x pos) (retO (.str s)) :=
  pd_const (pe_glob (v := .str s) hg hm ⟨t, rfl⟩ hd) fun _ _ => rfl
theorem pd_gint {x : Str} {s : Int} {t : Tok} (hg : Gl X x) (hm : X.mg x = some (.int s t)) (hd : (x == ("__debug__" : Str)) = false := by decide) : PD X T W (.Name x pos) (retO (.int s)) :=
  pd_const (pe_glob (v := .int s) hg hm ⟨t, rfl⟩ hd) fun _ _ => rfl

/-! ### two operands -/
abbrev G2 := Store → D → D → Option (D × Store)
/-- what an operator does -/
def OpD (K : PySem.W.Frag) (T : List (Addr × Str)) (r : R2) (g : G2) : Prop := ∀ F G l S H a b d S' x y (Q : VK), HRel K T F G l S H → At K F l a x → At K F l b y → g S a b = some (d, S') →
  (∀ F' l' H' v, Later K T F G l F' l' S' H' → At K F' l' d v → Q v H') → r x y H Q
def stepO (o : Option (D × Store)) : Out D := match o with
  | some (d, S') => .ok d S'
  | none => .stuck
def op2 (g : G2) (fa fb : Sem D) : Sem D := bindO fa fun a => bindO fb fun b => fun _ S => stepO (g S a b)
theorem op2_wp {K : PySem.W.Frag} {r : R2} {g : G2} {fa fb : Sem D} (ho : OpD K T r g) {σ : St} {H : Hp} {Q : VK} (h : wp K T W (rE K) (op2 g fa fb) σ H Q) : tOp r (wp K T W (rE K) fa) (wp K T W (rE K) fb) σ H Q := by
  obtain ⟨F, G, l, r0, S, hr, hs, hp⟩ := h
  refine wp_step hr hs hp fun F1 l1 S1 a x H1 lt1 hs1 ha hp1 => ?_
  refine wp_step lt1.rel hs1 hp1 fun F2 l2 S2 b y H2 lt2 hs2 hb hp2 => ?_
  cases e : g S2 a b with
  | none => simp only [e, stepO] at hp2; exact hp2.elim
  | some p =>
    simp only [e, stepO] at hp2
    exact ho F2 G l2 S2 H2 a b p.1 p.2 x y Q lt2.rel (ha.mono lt2.le lt2.pre) hb e hp2

theorem pd_op {op : Operator} {r : R2} {g : G2} {fa fb : Sem D} (hr : OpR X (binaryOp op) r) (ho : OpD X.K T r g) (ha : PD X T W a fa) (hb : PD X T W b fb) : PD X T W (.BinOp a op b pos) (op2 g fa fb) :=
  PE.imp (pe_op hr ha hb) fun _ _ _ h => op2_wp ho h
theorem pd_cmp {op : CmpOp} {r : R2} {g : G2} {fa fb : Sem D} (hr : OpR X (compareOp op) r) (ho : OpD X.K T r g) (ha : PD X T W a fa) (hb : PD X T W b fb) (hm : behindInMarks op b = false) : PD X T W (.Compare a [op] [b] pos) (op2 g fa fb) :=
  PE.imp (pe_cmpR hr ha hb hm) fun _ _ _ h => op2_wp ho h
theorem pd_ix {r : R2} {g : G2} {fa fb : Sem D} (hr : IxR X r) (ho : OpD X.K T r g) (ha : PD X T W a fa) (hb : PD X T W b fb) (hs : PlainIx b) : PD X T W (.Subscript a b pos) (op2 g fa fb) :=
  PE.imp (pe_ix hr ha hb hs) fun _ _ _ h => op2_wp ho h

/-! ### tests -/
def toB : D → Sem Bool
  | .bl b => retO b
  | _ => fun _ _ => .stuck
def testE (f : Sem D) : Sem Bool := bindO f toB
def valB (f : Sem Bool) : Sem D := bindO f fun b => retO (.bl b)
theorem toB_wp {K : PySem.W.Frag} {f : Sem D} {σ : St} {H : Hp} {Q : Bool → Hp → Prop} (h : wp K T W rT (testE f) σ H Q) : wp K T W (rE K) f σ H fun x H1 => ∃ c, x = .bl c ∧ Q c H1 := by
  obtain ⟨F, G, l, r0, S, hr, hs, hp⟩ := h
  refine wp_step hr hs hp fun F1 l1 S1 a x H1 lt1 hs1 ha hp1 => ?_
  cases a with
  | bl b =>
    have ha : x = .bl b := ha
    exact ⟨b, ha, hp1 F1 l1 H1 b (Later.refl lt1.rel) rfl⟩
  | _ => exact hp1.elim
theorem pt_of {f : Sem D} (h : PD X T W e f) (he : ∀ whole, isTrue e X.env whole = (do let v ← whole; standAt e.pos; holding [v] (truthy v)) := by intro _; rfl) : PDT X T W e (testE f) :=
  PT.imp (pt_val h he) fun _ _ _ q => toB_wp q
theorem pt_cmp' {op : CmpOp} {r : R2} {g : G2} {fa fb : Sem D} (hr : OpR X (compareOp op) r) (ho : OpD X.K T r g) (ha : PD X T W a fa) (hb : PD X T W b fb) (hm : behindInMarks op b = false) : PDT X T W (.Compare a [op] [b] pos) (testE (op2 g fa fb)) :=
  PT.imp (pt_cmpR hr ha hb hm) fun σ H Q q => by
    refine op2_wp ho ?_
    exact toB_wp q
def chainE (g g' : G2) (fa fb fc : Sem D) : Sem D := bindO fa fun a => bindO fb fun b => bindO (fun _ S => stepO (g S a b)) fun z => match z with
  | .bl true => bindO fc fun c => fun _ S => stepO (g' S b c)
  | .bl false => retO (.bl false)
  | _ => fun _ _ => .stuck
theorem opD_run {K : PySem.W.Frag} {r : R2} {g : G2} (ho : OpD K T r g) {F G H : Hp} {l : List Addr} {S : Store} {σ : St} {a b : D} {x y : V} {Q : VK} (hr : HRel K T F G l S H) (ha : At K F l a x) (hb : At K F l b y)
    (hp : PostG K T W (rE K) F G l σ Q (stepO (g S a b))) : r x y H Q := by
  cases e : g S a b with
  | none => simp only [e, stepO] at hp; exact hp.elim
  | some p =>
    simp only [e, stepO] at hp
    exact ho F G l S H a b p.1 p.2 x y Q hr ha hb e hp
theorem chain_wp {K : PySem.W.Frag} {r r' : R2} {g g' : G2} {fa fb fc : Sem D} (ho : OpD K T r g) (ho' : OpD K T r' g') {σ : St} {H : Hp} {Q : VK} (h : wp K T W (rE K) (chainE g g' fa fb fc) σ H Q) :
    tChain r r' (wp K T W (rE K) fa) (wp K T W (rE K) fb) (wp K T W (rE K) fc) σ H Q := by
  obtain ⟨F, G, l, r0, S, hr, hs, hp⟩ := h
  refine wp_step hr hs hp fun F1 l1 S1 a x H1 lt1 hs1 ha hp1 => ?_
  refine wp_step lt1.rel hs1 hp1 fun F2 l2 S2 b y H2 lt2 hs2 hb hp2 => ?_
  have ha2 := At.mono lt2.le lt2.pre _ _ ha
  have fin : ∀ (q : D × Store), g S2 a b = some q → ∀ F' l' H' v, Later K T F2 G l2 F' l' q.2 H' → At K F' l' q.1 v → (∃ k, v = .bl k ∧ (if k = true then wp K T W (rE K) fc σ H' fun w' H4 => r' y w' H4 Q else Q (.bl false) H')) := by
    intro q hq F' l' H' v lt3 hv
    unfold bindO at hp2
    simp only [hq, stepO] at hp2
    obtain ⟨d, S3⟩ := q
    cases d with
    | bl b' =>
      have hv : v = .bl b' := hv
      refine ⟨b', hv, ?_⟩
      cases b' with
      | false => exact hp2 F' l' H' _ lt3 rfl
      | true =>
        have hp3 : PostG K T W (rE K) F2 G l2 σ Q (bindO fc (fun c => fun _ S => stepO (g' S b c)) r0 S3) := hp2
        refine wp_step lt3.rel (hs2.mono lt3.le lt3.pre) (hp3.later lt3) fun F4 l4 S4 c z H4 lt4 hs4 hc hp4 => ?_
        exact opD_run ho' lt4.rel (At.mono (lt3.le.trans lt4.le) (lt3.pre.trans lt4.pre) _ _ hb) hc hp4
    | _ => exact hp2.elim
  cases e : g S2 a b with
  | none =>
    unfold bindO at hp2
    simp only [e, stepO] at hp2
    exact hp2.elim
  | some q => exact ho F2 G l2 S2 H2 a b q.1 q.2 x y _ lt2.rel ha2 hb e (fin q e)
theorem pd_chain {op op' : CmpOp} {r r' : R2} {g g' : G2} {fa fb fc : Sem D} {c : Expr} (hr : OpR X (compareOp op) r) (hr' : OpR X (compareOp op') r') (ho : OpD X.K T r g) (ho' : OpD X.K T r' g') (ha : PD X T W a fa) (hb : PD X T W b fb) (hc : PD X T W c fc)
    (hm : lastMarks [op, op'] [b, c] = false := by with_unfolding_all rfl) : PD X T W (.Compare a [op, op'] [b, c] pos) (chainE g g' fa fb fc) :=
  PE.imp (pe_chain hr hr' ha hb hc hm) fun _ _ _ h => chain_wp ho ho' h
theorem pt_chain' {op op' : CmpOp} {r r' : R2} {g g' : G2} {fa fb fc : Sem D} {c : Expr} (hr : OpR X (compareOp op) r) (hr' : OpR X (compareOp op') r') (ho : OpD X.K T r g) (ho' : OpD X.K T r' g') (ha : PD X T W a fa) (hb : PD X T W b fb) (hc : PD X T W c fc)
    (hm : lastMarks [op, op'] [b, c] = false := by with_unfolding_all rfl) : PDT X T W (.Compare a [op, op'] [b, c] pos) (testE (chainE g g' fa fb fc)) :=
  PT.imp (pt_chain hr hr' ha hb hc hm) fun σ H Q q => chain_wp ho ho' (toB_wp q)

/-! ### and, or, not, if -/
def andT (f g : Sem Bool) : Sem Bool := bindO f fun b => if b = true then g else retO false
def orT (f g : Sem Bool) : Sem Bool := bindO f fun b => if b = true then retO true else g
def notT (f : Sem Bool) : Sem Bool := bindO f fun b => retO (!b)
def ifE {α : Type} (c : Sem Bool) (f g : Sem α) : Sem α := bindO c fun b => if b = true then f else g
theorem if_wp {α β : Type} {K : PySem.W.Frag} {rl : Rl α β} {c : Sem Bool} {f g : Sem α} {σ : St} {H : Hp} {Q : β → Hp → Prop} (h : wp K T W rl (ifE c f g) σ H Q) :
    wp K T W rT c σ H fun b H1 => if b = true then wp K T W rl f σ H1 Q else wp K T W rl g σ H1 Q := by
  obtain ⟨F, G, l, r0, S, hr, hs, hp⟩ := h
  refine wp_step hr hs hp fun F1 l1 S1 a x H1 lt1 hs1 ha hp1 => ?_
  have ha : x = a := ha
  subst ha
  cases x with
  | true => exact ⟨F1, G, l1, r0, S1, lt1.rel, hs1, hp1⟩
  | false => exact ⟨F1, G, l1, r0, S1, lt1.rel, hs1, hp1⟩
theorem ret_wp {α β : Type} {K : PySem.W.Frag} {rl : Rl α β} {v : α} {x : β} {σ : St} {H : Hp} {Q : β → Hp → Prop} (hx : ∀ F l, rl F l v x) (h : wp K T W rl (retO v) σ H Q) : Q x H := by
  obtain ⟨F, G, l, r0, S, hr, hs, hp⟩ := h
  exact hp F l H x (Later.refl hr) (hx F l)
theorem pd_if {c : Expr} {fc : Sem Bool} {fa fb : Sem D} (hc : PDT X T W c fc) (ha : PD X T W a fa) (hb : PD X T W b fb) : PD X T W (.IfExp c a b pos) (ifE fc fa fb) :=
  PE.imp (pe_ifExp hc ha hb) fun _ _ _ h => if_wp h
theorem andT_wp {K : PySem.W.Frag} {f g : Sem Bool} {σ : St} {H : Hp} {Q : Bool → Hp → Prop} (h : wp K T W rT (andT f g) σ H Q) : tAnd (wp K T W rT f) (wp K T W rT g) σ H Q := by
  have := if_wp (c := f) (f := g) (g := retO false) h
  unfold tAnd
  obtain ⟨F, G, l, r0, S, hr, hs, hp⟩ := this
  refine ⟨F, G, l, r0, S, hr, hs, ?_⟩
  cases e : f r0 S with
  | ok b S1 =>
    rw [e] at hp
    intro F' l' H' x lt hx
    have := hp F' l' H' x lt hx
    cases x with
    | true => exact this
    | false => exact ret_wp (rl := rT) (x := false) (fun _ _ => rfl) this
  | err c S1 => rw [e] at hp; exact hp
  | stuck => rw [e] at hp; exact hp
theorem orT_wp {K : PySem.W.Frag} {f g : Sem Bool} {σ : St} {H : Hp} {Q : Bool → Hp → Prop} (h : wp K T W rT (orT f g) σ H Q) : tOr (wp K T W rT f) (wp K T W rT g) σ H Q := by
  have := if_wp (c := f) (f := retO true) (g := g) h
  unfold tOr
  obtain ⟨F, G, l, r0, S, hr, hs, hp⟩ := this
  refine ⟨F, G, l, r0, S, hr, hs, ?_⟩
  cases e : f r0 S with
  | ok b S1 =>
    rw [e] at hp
    intro F' l' H' x lt hx
    have := hp F' l' H' x lt hx
    cases x with
    | true => exact ret_wp (rl := rT) (x := true) (fun _ _ => rfl) this
    | false => exact this
  | err c S1 => rw [e] at hp; exact hp
  | stuck => rw [e] at hp; exact hp
theorem notT_wp {K : PySem.W.Frag} {f : Sem Bool} {σ : St} {H : Hp} {Q : Bool → Hp → Prop} (h : wp K T W rT (notT f) σ H Q) : tNot (wp K T W rT f) σ H Q := by
  obtain ⟨F, G, l, r0, S, hr, hs, hp⟩ := h
  refine wp_step hr hs hp fun F1 l1 S1 a x H1 lt1 hs1 ha hp1 => ?_
  have ha : x = a := ha
  subst ha
  exact hp1 F1 l1 H1 _ (Later.refl lt1.rel) rfl
variable {rest : List Expr}
theorem pw_and1' {f : Sem Bool} (h : PDT X T W a f) : PDW X T W (.BoolOp .And [a] pos) f := pw_and1 h
theorem pw_or1' {f : Sem Bool} (h : PDT X T W a f) : PDW X T W (.BoolOp .Or [a] pos) f := pw_or1 h
theorem pw_and' {f g : Sem Bool} (h : PDT X T W a f) (h2 : PDW X T W (.BoolOp .And (b :: rest) pos) g) : PDW X T W (.BoolOp .And (a :: b :: rest) pos) (andT f g) := PW.imp (pw_and h h2) fun _ _ _ q => andT_wp q
theorem pw_or' {f g : Sem Bool} (h : PDT X T W a f) (h2 : PDW X T W (.BoolOp .Or (b :: rest) pos) g) : PDW X T W (.BoolOp .Or (a :: b :: rest) pos) (orT f g) := PW.imp (pw_or h h2) fun _ _ _ q => orT_wp q
theorem pt_w {f : Sem Bool} (h : PDW X T W e f) : PDT X T W e f := PW.pt h
theorem pt_not' {f : Sem Bool} (h : PDT X T W a f) : PDT X T W (.UnaryOp .Not a pos) (notT f) := PT.imp (pt_not h) fun _ _ _ q => notT_wp q
/-- as values: all of them truths -/
def andE (f g : Sem D) : Sem D := bindO f fun b => match b with
  | .bl true => g
  | .bl false => retO (.bl false)
  | _ => fun _ _ => .stuck
def orE (f g : Sem D) : Sem D := bindO f fun b => match b with
  | .bl false => g
  | .bl true => retO (.bl true)
  | _ => fun _ _ => .stuck
def notE (f : Sem D) : Sem D := bindO f fun b => match b with
  | .bl b => retO (.bl (!b))
  | _ => fun _ _ => .stuck
theorem pd_one {op : BoolOp} {f : Sem D} (h : PD X T W a f) : PD X T W (.BoolOp op [a] pos) f := pe_one h
theorem pd_and {f g : Sem D} (h : PD X T W a f) (h2 : PD X T W (.BoolOp .And (b :: rest) pos) g) : PD X T W (.BoolOp .And (a :: b :: rest) pos) (andE f g) := PE.imp (pe_and h h2) fun σ H Q q => by
  obtain ⟨F, G, l, r0, S, hr, hs, hp⟩ := q
  refine wp_step hr hs hp fun F1 l1 S1 a x H1 lt1 hs1 ha hp1 => ?_
  cases a with
  | bl b =>
    have ha : x = .bl b := ha
    refine ⟨b, ha, ?_⟩
    cases b with
    | true => exact ⟨F1, G, l1, r0, S1, lt1.rel, hs1, hp1⟩
    | false => exact hp1 F1 l1 H1 _ (Later.refl lt1.rel) rfl
  | _ => exact hp1.elim
theorem pd_or {f g : Sem D} (h : PD X T W a f) (h2 : PD X T W (.BoolOp .Or (b :: rest) pos) g) : PD X T W (.BoolOp .Or (a :: b :: rest) pos) (orE f g) := PE.imp (pe_or h h2) fun σ H Q q => by
  obtain ⟨F, G, l, r0, S, hr, hs, hp⟩ := q
  refine wp_step hr hs hp fun F1 l1 S1 a x H1 lt1 hs1 ha hp1 => ?_
  cases a with
  | bl b =>
    have ha : x = .bl b := ha
    refine ⟨b, ha, ?_⟩
    cases b with
    | true => exact hp1 F1 l1 H1 _ (Later.refl lt1.rel) rfl
    | false => exact ⟨F1, G, l1, r0, S1, lt1.rel, hs1, hp1⟩
  | _ => exact hp1.elim
theorem pd_not {f : Sem D} (h : PD X T W a f) : PD X T W (.UnaryOp .Not a pos) (notE f) := PE.imp (pe_not h) fun σ H Q q => by
  obtain ⟨F, G, l, r0, S, hr, hs, hp⟩ := q
  refine wp_step hr hs hp fun F1 l1 S1 a x H1 lt1 hs1 ha hp1 => ?_
  cases a with
  | bl b =>
    have ha : x = .bl b := ha
    exact ⟨b, ha, hp1 F1 l1 H1 _ (Later.refl lt1.rel) rfl⟩
  | _ => exact hp1.elim
/-- one operand -/
def op1 (g : Store → D → Option D) (f : Sem D) : Sem D := bindO f fun a => fun _ S => match g S a with
  | some d => .ok d S
  | none => .stuck
theorem pd_neg {f : Sem D} (h : PD X T W a f) : PD X T W (.UnaryOp .USub a pos) (op1 (fun _ d => match d with
    | .int i => some (.int (-i))
    | _ => none) f) := PE.imp (pe_un un_neg h) fun σ H Q q => by
  obtain ⟨F, G, l, r0, S, hr, hs, hp⟩ := q
  refine wp_step hr hs hp fun F1 l1 S1 a x H1 lt1 hs1 ha hp1 => ?_
  cases a with
  | int b =>
    have ha : x = .int b := ha
    exact ⟨b, ha, hp1 F1 l1 H1 _ (Later.refl lt1.rel) rfl⟩
  | _ => exact hp1.elim

/-! ### lists of expressions, displays -/
def nilA : Sem (List D) := retO []
def consA (f : Sem D) (g : Sem (List D)) : Sem (List D) := bindO f fun a => bindO g fun as => retO (a :: as)
theorem pda_nil : PDA X T W [] nilA := PA.imp pa_nil fun σ H Q ⟨F, G, l, r0, S, hr, hs, hp⟩ => hp F l H [] (Later.refl hr) rfl
theorem pda_cons {f : Sem D} {g : Sem (List D)} {es : List Expr} (h : PD X T W e f) (h2 : PDA X T W es g) (hs : starEach (e :: es) X.env = (false, eval e X.env) :: starEach es X.env := by rfl) : PDA X T W (e :: es) (consA f g) := PA.imp (pa_cons h h2 hs) fun σ H Q q => by
  obtain ⟨F, G, l, r0, S, hr, hs, hp⟩ := q
  refine wp_step hr hs hp fun F1 l1 S1 a x H1 lt1 hs1 ha hp1 => ?_
  refine wp_step lt1.rel hs1 hp1 fun F2 l2 S2 b y H2 lt2 hs2 hb hp2 => ?_
  exact hp2 F2 l2 H2 _ (Later.refl lt2.rel) ⟨x, y, rfl, At.mono lt2.le lt2.pre _ _ ha, hb⟩
def tupE (f : Sem (List D)) : Sem D := bindO f fun ds => if ds.length ≤ 100000 then retO (.tup ds) else fun _ _ => .stuck
def lstE (f : Sem (List D)) : Sem D := bindO f fun ds => if ds.length ≤ 100000 then retO (.lst ds) else fun _ _ => .stuck
/-- a list as a new cell -/
def newCell (ds : List D) : Sem D := fun _ S => if ds.length ≤ 100000 then .ok (.loc S.length) (S ++ [.lst ds]) else .stuck
def lstC (f : Sem (List D)) : Sem D := bindO f newCell
theorem sz_of {n : Nat} (h : n ≤ 100000) : n ≤ sizeLine := Nat.le_trans h (by decide)
theorem pd_tup {x1} {es : List Expr} {f : Sem (List D)} (h : PDA X T W es f) : PD X T W (.Tuple es x1 pos) (tupE f) := PE.imp (pe_tup h) fun σ H Q q => by
  obtain ⟨F, G, l, r0, S, hr, hs, hp⟩ := q
  refine wp_step hr hs hp fun F1 l1 S1 a x H1 lt1 hs1 ha hp1 => ?_
  by_cases hl : a.length ≤ 100000
  · rw [if_pos hl] at hp1
    refine ⟨by rw [ha.length]; exact sz_of hl, fun p hpn => ?_⟩
    have h2 := lt1.rel.newF (o := .tup x) hpn
    refine hp1 _ l1 _ _ ⟨Le.new (lt1.rel.fnone hpn), Pre.refl _, h2⟩ ?_
    exact ⟨p, x, rfl, upd_same, sz_of hl, AtL.mono (Le.new (lt1.rel.fnone hpn)) (Pre.refl _) _ _ ha⟩
  · rw [if_neg hl] at hp1; exact hp1.elim
theorem newList_frozen {K : PySem.W.Frag} {F G H : Hp} {l : List Addr} {S : Store} {ds : List D} {vs : List V} {σ : St} {Q : VK} {p : Addr} (hr : HRel K T F G l S H) (ha : AtL K F l ds vs) (hl : ds.length ≤ sizeLine)
    (hp : PostG K T W (rE K) F G l σ Q (.ok (.lst ds) S)) (hpn : H p = none) : Q (.ref p) (upd H p (.lst vs)) := by
  have h2 := hr.newF (o := .lst vs) hpn
  refine hp _ l _ _ ⟨Le.new (hr.fnone hpn), Pre.refl _, h2⟩ ?_
  exact ⟨p, vs, rfl, upd_same, hl, AtL.mono (Le.new (hr.fnone hpn)) (Pre.refl _) _ _ ha⟩
theorem newList_cell {K : PySem.W.Frag} {F G H : Hp} {l : List Addr} {S : Store} {ds : List D} {vs : List V} {σ : St} {Q : VK} {p : Addr} (hr : HRel K T F G l S H) (ha : AtL K F l ds vs) (hl : ds.length ≤ sizeLine)
    (hp : PostG K T W (rE K) F G l σ Q (.ok (.loc S.length) (S ++ [.lst ds]))) (hpn : H p = none) : Q (.ref p) (upd H p (.lst vs)) := by
  have h2 := hr.newC (o := .lst vs) (c := .lst ds) hpn rfl ⟨hr.fnone hpn, hl, vs, upd_same, AtL.mono (Le.refl F) (Pre.app _ _) _ _ ha⟩
  refine hp _ _ _ _ ⟨Le.refl F, Pre.app _ _, h2⟩ ⟨p, ?_, rfl⟩
  rw [← hr.len]; simp
theorem pd_lst {es : List Expr} {f : Sem (List D)} (h : PDA X T W es f) : PD X T W (.List es pos) (lstE f) := PE.imp (pe_lst h) fun σ H Q q => by
  obtain ⟨F, G, l, r0, S, hr, hs, hp⟩ := q
  refine wp_step hr hs hp fun F1 l1 S1 a x H1 lt1 hs1 ha hp1 => ?_
  by_cases hl : a.length ≤ 100000
  · rw [if_pos hl] at hp1
    exact ⟨by rw [ha.length]; exact sz_of hl, fun p hpn => newList_frozen lt1.rel ha (sz_of hl) hp1 hpn⟩
  · rw [if_neg hl] at hp1; exact hp1.elim
theorem pd_lstC {es : List Expr} {f : Sem (List D)} (h : PDA X T W es f) : PD X T W (.List es pos) (lstC f) := PE.imp (pe_lst h) fun σ H Q q => by
  obtain ⟨F, G, l, r0, S, hr, hs, hp⟩ := q
  refine wp_step hr hs hp fun F1 l1 S1 a x H1 lt1 hs1 ha hp1 => ?_
  unfold newCell at hp1
  by_cases hl : a.length ≤ 100000
  · rw [if_pos hl] at hp1
    exact ⟨by rw [ha.length]; exact sz_of hl, fun p hpn => newList_cell lt1.rel ha (sz_of hl) hp1 hpn⟩
  · rw [if_neg hl] at hp1; exact hp1.elim
end
end Aw

/-! Aw3: what is walked, comprehensions, statements. -/
namespace Aw
open PySem L2 LamX

/-! ### targets -/
inductive Tgt where
  | one (i : Nat) | many (is : List Nat)
def setMany : List Nat → List D → Env → Env
  | i :: is, d :: ds, r => setMany is ds (r.set i (some d))
  | _, _, r => r
def Tgt.set : Tgt → D → Env → Option Env
  | .one i, d, r => some (r.set i (some d))
  | .many is, .tup ds, r => if ds.length = is.length then some (setMany is ds r) else none
  | .many _, _, _ => none
def Tgt.slots : Tgt → List Nat
  | .one i => [i]
  | .many is => is
def gMany : List Nat → TGs
  | [] => gNil
  | i :: is => gCons (gName i) (gMany is)
def Tgt.rd (K : PySem.W.Frag) : Tgt → TG
  | .one i => gName i
  | .many is => gTup K is.length (gMany is)
def wipeD (r : Env) : List Nat → Env
  | [] => r
  | v :: vs => (wipeD r vs).set v none
section
variable {K : PySem.W.Frag} {F F' G H H' : Hp} {l l' : List Addr} {S S' : Store} {r r' : Env} {σ : St}
theorem Sl.unset (h : Sl K F l r σ) (i : Nat) : Sl K F l (r.set i none) (σ.set i none) := by
  refine ⟨by simp [h.1], fun j e q => ?_⟩
  by_cases hj : i = j
  · subst hj
    by_cases hi : i < r.length
    · rw [List.getElem?_set_self hi] at q; cases q
    · rw [List.getElem?_eq_none (by simp; omega)] at q; cases q
  · rw [List.getElem?_set_ne hj] at q
    obtain ⟨w, q1, q2⟩ := h.2 j e q
    exact ⟨w, by rw [List.getElem?_set_ne hj]; exact q1, q2⟩
theorem Sl.wipe (h : Sl K F l r σ) : ∀ vs : List Nat, Sl K F l (wipeD r vs) (L2.wipe σ vs)
  | [] => h
  | v :: vs => (Sl.wipe h vs).unset v
theorem set_none_set {α : Type} (xs : List (Option α)) (i : Nat) (x : Option α) : (xs.set i x).set i none = xs.set i none := by
  simp
theorem wipe_set {σ : St} {i : Nat} {x : Option V} : ∀ {vs : List Nat}, i ∈ vs → L2.wipe (σ.set i x) vs = L2.wipe σ vs := by
  have comm : ∀ (vs : List Nat) (σ : St), i ∉ vs → L2.wipe (σ.set i x) vs = (L2.wipe σ vs).set i x := by
    intro vs
    induction vs with
    | nil => intro σ _; rfl
    | cons v vs ih =>
      intro σ hn
      simp only [List.mem_cons, not_or] at hn
      show (L2.wipe (σ.set i x) vs).set v none = ((L2.wipe σ vs).set v none).set i x
      rw [ih σ hn.2, List.set_comm _ _ hn.1]
  intro vs
  induction vs with
  | nil => intro h; simp at h
  | cons v vs ih =>
    intro h
    show (L2.wipe (σ.set i x) vs).set v none = (L2.wipe σ vs).set v none
    by_cases hm : i ∈ vs
    · rw [ih hm]
    · have e : i = v := by simpa [hm] using h
      subst e
      rw [comm vs σ hm, set_none_set]
theorem many_rd {Q : St → Hp → Prop} : ∀ {is : List Nat} {ds : List D} {vs : List V} {r : Env} {σ : St}, AtL K F l ds vs → ds.length = is.length → Sl K F l r σ →
    (∀ σ', Sl K F l (setMany is ds r) σ' → (∀ ws : List Nat, (∀ i ∈ is, i ∈ ws) → L2.wipe σ' ws = L2.wipe σ ws) → Q σ' H) → gMany is vs σ H Q
  | [], [], vs, r, σ, ha, _, hs, k => by
    cases ha
    exact ⟨rfl, k σ hs fun _ _ => rfl⟩
  | [], d :: ds, _, _, _, _, e, _, _ => by simp at e
  | i :: is, [], _, _, _, _, e, _, _ => by simp at e
  | i :: is, d :: ds, vs, r, σ, ha, e, hs, k => by
    obtain ⟨v, vs', rfl, h1, h2⟩ := ha
    refine ⟨v, vs', rfl, ?_⟩
    refine many_rd h2 (by simpa using e) (hs.set h1 i) fun σ' hs' hw => k σ' hs' fun ws hws => ?_
    rw [hw ws fun j hj => hws j (List.mem_cons_of_mem _ hj), wipe_set (hws i List.mem_cons_self)]
theorem wipe_get {σ : St} {i : Nat} : ∀ (vs : List Nat), (L2.wipe σ vs)[i]? = if i ∈ vs ∧ i < σ.length then some none else σ[i]?
  | [] => by simp [L2.wipe]
  | v :: vs => by
    show ((L2.wipe σ vs).set v none)[i]? = _
    rw [List.getElem?_set, wipe_length, wipe_get vs]
    by_cases hv : v = i
    · subst hv
      by_cases hl : v < σ.length
      · simp [hl]
      · simp [hl]
    · simp [hv, Ne.symm hv]
theorem wipe_wipe (σ : St) (vs : List Nat) : L2.wipe (L2.wipe σ vs) vs = L2.wipe σ vs := by
  apply List.ext_getElem?
  intro i
  rw [wipe_get, wipe_length, wipe_get]
  split <;> simp_all
theorem Tgt.run {T : List (Addr × Str)} {t : Tgt} {d : D} {v : V} {Q : St → Hp → Prop} (hr : HRel K T F G l S H) (hs : Sl K F l r σ) (hv : At K F l d v) (e : t.set d r = some r')
    (k : ∀ σ', Sl K F l r' σ' → (∀ ws : List Nat, (∀ i ∈ t.slots, i ∈ ws) → L2.wipe σ' ws = L2.wipe σ ws) → Q σ' H) : t.rd K v σ H Q := by
  cases t with
  | one i =>
    cases e
    exact k _ (hs.set hv i) fun ws hws => wipe_set (hws i (by simp [Tgt.slots]))
  | many is =>
    cases d with
    | tup ds =>
      simp only [Tgt.set] at e
      split at e
      · rename_i hl
        cases e
        obtain ⟨a, vs, rfl, h1, _, h3⟩ := hv
        refine ⟨a, vs, rfl, .of (hr.fz _ _ h1), by rw [h3.length, hl], ?_⟩
        exact many_rd h3 hl hs k
      · cases e
    | _ => cases e
theorem pg_many_nil {X : Cx} : PGs X [] (gMany []) := pgs_nil
end
section
variable {X : Cx} {T : List (Addr × Str)} {W : WX} {k : Nat} {pos : Pos} {e : Expr} {es : List Expr}
/-- one name -/
theorem tg_one (i : Nat) {x : Str} (hN : X.N.Nodup) (hi : X.N[i]? = some x := by rfl) (hx : Loc X.env.scope x := by first | exact Or.inl rfl | exact Or.inr rfl)
    (hf : X.fn x = true ∨ X.env.scope.names.lookup x = some .local := by first | exact .inl rfl | exact .inr rfl) : PG X (.Name x pos) ((Tgt.one i).rd X.K) := pg_name hN hi hx hf
theorem tgs_nil : PGs X [] (gMany []) := pgs_nil
theorem tgs_cons {i : Nat} {is : List Nat} (h : PG X e ((Tgt.one i).rd X.K)) (h2 : PGs X es (gMany is)) (hs : (assignEach (e :: es) X.env).map (·.2) = assign e X.env :: (assignEach es X.env).map (·.2) := by rfl) : PGs X (e :: es) (gMany (i :: is)) := pgs_cons h h2 hs
theorem tg_many {is : List Nat} {k : Nat} (hc : X.calm = true) (h : PGs X es (gMany is)) (hn : (assignEach es X.env).length = is.length := by rfl) (hst : (assignEach es X.env).findIdx? (·.1) = none := by rfl) : PG X (.Tuple es k pos) ((Tgt.many is).rd X.K) := pg_tup hc h hn hst
end

/-! ### what is walked -/
structure ItOk (K : PySem.W.Frag) (T : List (Addr × Str)) (J : It) (F : Hp) (l : List Addr) (ds : List D) : Prop where
  go : ∀ F1 G1 l1 S1 H1 i, Le F F1 → Pre l l1 → HRel K T F1 G1 l1 S1 H1 → i < ds.length → J.go i H1
  stop : ∀ F1 G1 l1 S1 H1, Le F F1 → Pre l l1 → HRel K T F1 G1 l1 S1 H1 → J.stop ds.length H1
  yld : ∀ F1 G1 l1 S1 H1 i x H2, Le F F1 → Pre l l1 → HRel K T F1 G1 l1 S1 H1 → i < ds.length → J.yld i H1 x H2 → ∃ F2 d, Later K T F1 G1 l1 F2 l1 S1 H2 ∧ ds[i]? = some d ∧ At K F2 l1 d x
def PostI (K : PySem.W.Frag) (T : List (Addr × Str)) (W : WX) (F G : Hp) (l : List Addr) (σ : St) (R : It → Hp → Prop) : Out (List D) → Prop
  | .ok ds S' => ∀ F' l' H' J, Later K T F G l F' l' S' H' → ItOk K T J F' l' ds → R J H'
  | .err c S' => ∀ F' l' H', Later K T F G l F' l' S' H' → W (exV K c) none σ H'
  | .stuck => False
def wpI (K : PySem.W.Frag) (T : List (Addr × Str)) (W : WX) (f : Sem (List D)) : TI := fun σ H R =>
  ∃ F G l r S, HRel K T F G l S H ∧ Sl K F l r σ ∧ PostI K T W F G l σ R (f r S)
theorem PostI.later {K : PySem.W.Frag} {T : List (Addr × Str)} {W : WX} {F G F1 H1 : Hp} {l l1 : List Addr} {S1 : Store} {σ : St} {R : It → Hp → Prop} (a : Later K T F G l F1 l1 S1 H1) : ∀ {o : Out (List D)}, PostI K T W F G l σ R o → PostI K T W F1 G l1 σ R o
  | .ok _ _, h => fun F' l' H' b e q => h F' l' H' b (a.trans e) q
  | .err _ _, h => fun F' l' H' e => h F' l' H' (a.trans e)
  | .stuck, h => h
def PDI (X : Cx) (T : List (Addr × Str)) (W : WX) (tg iter : Expr) (f : Sem (List D)) : Prop := PI X tg iter (wpI X.K T W f)
theorem PI.imp {X : Cx} {tg iter : Expr} {t t' : TI} (h : PI X tg iter t) (k : ∀ σ H R, t' σ H R → t σ H R) : PI X tg iter t' := ⟨fun pins s σ H R I q => h.run pins s σ H R I (k σ H R q)⟩
section
variable {α β γ δ : Type} {K : PySem.W.Frag} {T : List (Addr × Str)} {W : WX} {σ : St} {H : Hp}
/-- the first step ahead of a walk -/
theorem wpI_step {rl : Rl α β} {f : Sem α} {g : α → Sem (List D)} {R : It → Hp → Prop} {Q1 : β → Hp → Prop} {F G : Hp} {l : List Addr} {r : Env} {S : Store} (hr : HRel K T F G l S H) (hs : Sl K F l r σ)
    (hp : PostI K T W F G l σ R (bindO f g r S))
    (k : ∀ F' l' S' a b H', Later K T F G l F' l' S' H' → Sl K F' l' r σ → rl F' l' a b → PostI K T W F' G l' σ R (g a r S') → Q1 b H') : wp K T W rl f σ H Q1 := by
  refine ⟨F, G, l, r, S, hr, hs, ?_⟩
  unfold bindO at hp
  cases e : f r S with
  | ok a S' =>
    rw [e] at hp
    exact fun F' l' H' b lt q => k F' l' S' a b H' lt (hs.mono lt.le lt.pre) q (hp.later lt)
  | err c S' => rw [e] at hp; exact hp
  | stuck => rw [e] at hp; exact hp
end
section
variable {X : Cx} {T : List (Addr × Str)} {W : WX} {k : Nat} {pos p : Pos} {e tg : Expr} {es : List Expr}
def asSeq (S : Store) : D → Sem (List D)
  | .lst ds => retO ds
  | .tup ds => retO ds
  | .scr ns => retO (ns.map D.int)
  | _ => fun _ _ => .stuck
/-- a list or a tuple -/
def iSeq (K : PySem.W.Frag) (tl : TE) : TI := fun σ H R => tl σ H fun x H1 => ∃ a, x = .ref a ∧ (((∃ xs, SqL K H1 a xs) ∧ R (Itl K a) H1) ∨ ((∃ xs, SqT K H1 a xs) ∧ R (Itt K a) H1))
theorem pi_seq {tl : TE} (hl : PE X e tl) : PI X tg e (iSeq X.K tl) := by
  refine ⟨fun pins s σ H R I h => ?_⟩
  refine thn (hl.run pins s σ H _ I h) fun v s1 q0 => ?_
  obtain ⟨x, H1, I1, r1, a, rfl, q⟩ := q0
  cases r1
  rcases q with ⟨⟨xs, hq⟩, q⟩ | ⟨⟨xs, hq⟩, q⟩
  · obtain ⟨its, rv, pl, hz⟩ := I1.list hq
    refine wpAny_pyIter_list pl.isList ⟨s1.heap.objs.size, [s1.heap.objs.size], _, _, H1, rfl, I1.kept (t' := s1.toks) fun b o ho => Heap.get?_push_of_some _ ho, turn_list a _, ⟨_, Heap.get?_push_size _ rfl, rfl, rfl⟩, ?_, q⟩
    intro b hb
    cases List.mem_singleton.mp hb
    exact I1.fpOk (Nat.le_refl _) (I1.hok.fresh (Nat.le_refl _))
  · obtain ⟨its, rv, pl, hz⟩ := I1.tuple hq
    refine wpAny_pyIter_tuple (show s1.heap.IsTuple a its.toArray from pl) ⟨s1.heap.objs.size, [s1.heap.objs.size], _, _, H1, rfl, I1.kept (t' := s1.toks) fun b o ho => Heap.get?_push_of_some _ ho, turn_tuple a _, ⟨_, Heap.get?_push_size _ rfl, rfl, rfl⟩, ?_, q⟩
    intro b hb
    cases List.mem_singleton.mp hb
    exact I1.fpOk (Nat.le_refl _) (I1.hok.fresh (Nat.le_refl _))
theorem itok_list {K : PySem.W.Frag} {F : Hp} {l : List Addr} {ds : List D} {vs : List V} {a : Addr} (h : SqL K F a vs) (ha : AtL K F l ds vs) : ItOk K T (Itl K a) F l ds where
  go := fun F1 G1 l1 S1 H1 i e p hr hi => ⟨vs, vs[i]'(by rw [ha.length]; exact hi), sql_le (e.trans hr.fw) h, List.getElem?_eq_getElem _⟩
  stop := fun F1 G1 l1 S1 H1 e p hr => ⟨vs, sql_le (e.trans hr.fw) h, by rw [ha.length]; exact Nat.le_refl _⟩
  yld := fun F1 G1 l1 S1 H1 i x H2 e p hr hi hy => by
    obtain ⟨rfl, hy⟩ := hy
    have hx := hy vs (sql_le (e.trans hr.fw) h)
    obtain ⟨d, h1, h2⟩ := ha.get' hx
    exact ⟨F1, d, Later.refl hr, h1, At.mono e p _ _ h2⟩
theorem itok_tup {K : PySem.W.Frag} {F : Hp} {l : List Addr} {ds : List D} {vs : List V} {a : Addr} (h : SqT K F a vs) (ha : AtL K F l ds vs) : ItOk K T (Itt K a) F l ds where
  go := fun F1 G1 l1 S1 H1 i e p hr hi => ⟨vs, vs[i]'(by rw [ha.length]; exact hi), sqt_le (e.trans hr.fw) h, List.getElem?_eq_getElem _⟩
  stop := fun F1 G1 l1 S1 H1 e p hr => ⟨vs, sqt_le (e.trans hr.fw) h, by rw [ha.length]; exact Nat.le_refl _⟩
  yld := fun F1 G1 l1 S1 H1 i x H2 e p hr hi hy => by
    obtain ⟨rfl, hy⟩ := hy
    have hx := hy vs (sqt_le (e.trans hr.fw) h)
    obtain ⟨d, h1, h2⟩ := ha.get' hx
    exact ⟨F1, d, Later.refl hr, h1, At.mono e p _ _ h2⟩
def itSeq (f : Sem D) : Sem (List D) := bindO f fun d => fun r S => asSeq S d r S
theorem pdi_seq {f : Sem D} (h : PD X T W e f) : PDI X T W tg e (itSeq f) := PI.imp (pi_seq h) fun σ H R q => by
  obtain ⟨F, G, l, r0, S, hr, hs, hp⟩ := q
  refine wpI_step hr hs hp fun F1 l1 S1 a x H1 lt1 hs1 ha hp1 => ?_
  cases a with
  | lst ds =>
    obtain ⟨b, vs, rfl, h1, h2, h3⟩ := ha
    exact ⟨b, rfl, .inl ⟨⟨vs, .of (lt1.rel.fz _ _ h1)⟩, hp1 F1 l1 H1 _ (Later.refl lt1.rel) (itok_list (.of h1) h3)⟩⟩
  | tup ds =>
    obtain ⟨b, vs, rfl, h1, h2, h3⟩ := ha
    exact ⟨b, rfl, .inr ⟨⟨vs, .of (lt1.rel.fz _ _ h1)⟩, hp1 F1 l1 H1 _ (Later.refl lt1.rel) (itok_tup (.of h1) h3)⟩⟩
  | scr ns =>
    obtain ⟨b, rfl, h1, h2⟩ := ha
    exact ⟨b, rfl, .inl ⟨⟨_, sql_le lt1.rel.fw h1⟩, hp1 F1 l1 H1 _ (Later.refl lt1.rel) (itok_list h1 (AtL.ints ns))⟩⟩
  | _ => exact hp1.elim
/-- lo, lo + 1, .. -/
def rangeD (lo : Int) (n : Nat) : List D := (List.range n).map fun i => D.int (lo + (i : Nat))
theorem rangeD_get {lo : Int} {n i : Nat} (h : i < n) : (rangeD lo n)[i]? = some (.int (lo + (i : Nat))) := by
  simp [rangeD, h]
theorem itok_range {K : PySem.W.Frag} {F : Hp} {l : List Addr} {lo : Int} {n : Nat} : ItOk K T (Itr lo n) F l (rangeD lo n) where
  go := fun F1 G1 l1 S1 H1 i e p hr hi => by
    have : i < n := by simpa [rangeD] using hi
    exact this
  stop := fun F1 G1 l1 S1 H1 e p hr => by simp [rangeD, Itr]
  yld := fun F1 G1 l1 S1 H1 i x H2 e p hr hi hy => by
    obtain ⟨rfl, rfl⟩ := hy
    exact ⟨F1, _, Later.refl hr, rangeD_get (by simpa [rangeD] using hi), rfl⟩
def inR (j : Int) : Bool := decide (-(2 ^ 62) ≤ j) && decide (j < 2 ^ 62)
theorem inR_iff {j : Int} (h : inR j = true) : -(2 ^ 62) ≤ j ∧ j < 2 ^ 62 := by simpa [inR] using h
def rangeI1 : List D → Sem (List D)
  | [.int j] => if inR j then retO (rangeD 0 j.toNat) else fun _ _ => .stuck
  | _ => fun _ _ => .stuck
def rangeI2 : List D → Sem (List D)
  | [.int i, .int j] => if inR i && inR j then retO (rangeD i (j - i).toNat) else fun _ _ => .stuck
  | _ => fun _ _ => .stuck
def itRange1 (f : Sem (List D)) : Sem (List D) := bindO f rangeI1
def itRange2 (f : Sem (List D)) : Sem (List D) := bindO f rangeI2
theorem AtL.one {K : PySem.W.Frag} {F : Hp} {l : List Addr} {d : D} {vs : List V} (h : AtL K F l [d] vs) : ∃ v, vs = [v] ∧ At K F l d v := by
  obtain ⟨v, vs', rfl, h1, h2⟩ := h
  cases h2
  exact ⟨v, rfl, h1⟩
theorem AtL.two {K : PySem.W.Frag} {F : Hp} {l : List Addr} {d e : D} {vs : List V} (h : AtL K F l [d, e] vs) : ∃ v w, vs = [v, w] ∧ At K F l d v ∧ At K F l e w := by
  obtain ⟨v, vs', rfl, h1, h2⟩ := h
  obtain ⟨w, rfl, h3⟩ := AtL.one h2
  exact ⟨v, w, rfl, h1, h3⟩
theorem AtL.three {K : PySem.W.Frag} {F : Hp} {l : List Addr} {d e g : D} {vs : List V} (h : AtL K F l [d, e, g] vs) : ∃ v w u, vs = [v, w, u] ∧ At K F l d v ∧ At K F l e w ∧ At K F l g u := by
  obtain ⟨v, vs', rfl, h1, h2⟩ := h
  obtain ⟨w, u, rfl, h3, h4⟩ := AtL.two h2
  exact ⟨v, w, u, rfl, h1, h3, h4⟩
theorem pdi_range1 {f : Sem (List D)} {a : Expr} (hg : Gl X "range") (hm : X.mg "range" = none) (ha : PDA X T W [a] f) (hs : starEach [a] X.env = [(false, eval a X.env)] := by rfl) : PDI X T W tg (.Call (.Name "range" p) [a] [] pos) (itRange1 f) :=
  PI.imp (pi_range1 hg hm ha hs) fun σ H R q => by
  obtain ⟨F, G, l, r0, S, hr, hs, hp⟩ := q
  refine wpI_step hr hs hp fun F1 l1 S1 a x H1 lt1 hs1 ha hp1 => ?_
  unfold rangeI1 at hp1
  split at hp1
  · obtain ⟨v, rfl, h1⟩ := AtL.one ha
    cases h1
    split at hp1
    · rename_i hj
      obtain ⟨j1, j2⟩ := inR_iff hj
      exact ⟨_, rfl, j1, j2, hp1 F1 l1 H1 _ (Later.refl lt1.rel) itok_range⟩
    · exact hp1.elim
  · exact hp1.elim
theorem pdi_range2 {f : Sem (List D)} {a b : Expr} (hg : Gl X "range") (hm : X.mg "range" = none) (ha : PDA X T W [a, b] f) (hs : starEach [a, b] X.env = [(false, eval a X.env), (false, eval b X.env)] := by rfl) (hs2 : starEach [b] X.env = [(false, eval b X.env)] := by rfl) : PDI X T W tg (.Call (.Name "range" p) [a, b] [] pos) (itRange2 f) :=
  PI.imp (pi_range2 hg hm ha hs hs2) fun σ H R q => by
  obtain ⟨F, G, l, r0, S, hr, hs, hp⟩ := q
  refine wpI_step hr hs hp fun F1 l1 S1 a x H1 lt1 hs1 ha hp1 => ?_
  unfold rangeI2 at hp1
  split at hp1
  · obtain ⟨v, w, rfl, h1, h2⟩ := AtL.two ha
    cases h1; cases h2
    split at hp1
    · rename_i hj
      simp only [Bool.and_eq_true] at hj
      obtain ⟨j1, j2⟩ := inR_iff hj.1
      obtain ⟨j3, j4⟩ := inR_iff hj.2
      exact ⟨_, _, rfl, ⟨j1, j2, j3, j4⟩, hp1 F1 l1 H1 _ (Later.refl lt1.rel) itok_range⟩
    · exact hp1.elim
  · exact hp1.elim
/-- enumerate(list) -/
def enumFrom (i : Nat) : List D → List D
  | [] => []
  | d :: ds => .tup [.int (i : Nat), d] :: enumFrom (i + 1) ds
theorem enumFrom_length : ∀ (ds : List D) (i : Nat), (enumFrom i ds).length = ds.length
  | [], _ => rfl
  | d :: ds, i => by simp [enumFrom, enumFrom_length ds]
theorem enumFrom_get : ∀ (ds : List D) (i j : Nat) (d : D), ds[j]? = some d → (enumFrom i ds)[j]? = some (.tup [.int ((i + j : Nat) : Int), d])
  | [], _, _, _, h => by simp at h
  | d :: ds, i, 0, e, h => by simp at h; subst h; rfl
  | d :: ds, i, j + 1, e, h => by
    have := enumFrom_get ds (i + 1) j e (by simpa using h)
    simp only [enumFrom, List.getElem?_cons_succ, this]
    have q : i + 1 + j = i + (j + 1) := by omega
    rw [q]
theorem two_sz {a b : D} : [a, b].length ≤ sizeLine := by show 2 ≤ sizeLine; decide
theorem itok_enum {K : PySem.W.Frag} {F : Hp} {l : List Addr} {ds : List D} {vs : List V} {a : Addr} (h : SqL K F a vs) (ha : AtL K F l ds vs) : ItOk K T (Ite K a) F l (enumFrom 0 ds) where
  go := fun F1 G1 l1 S1 H1 i e p hr hi => ⟨vs, vs[i]'(by rw [ha.length]; rw [enumFrom_length] at hi; exact hi), sql_le (e.trans hr.fw) h, List.getElem?_eq_getElem _⟩
  stop := fun F1 G1 l1 S1 H1 e p hr => ⟨vs, sql_le (e.trans hr.fw) h, by rw [ha.length, enumFrom_length]; exact Nat.le_refl _⟩
  yld := fun F1 G1 l1 S1 H1 i x H2 e p hr hi hy => by
    obtain ⟨q, y, rfl, hq, rfl, hy⟩ := hy
    have hx := hy vs (sql_le (e.trans hr.fw) h)
    obtain ⟨d, h1, h2⟩ := ha.get' hx
    have fq := hr.fnone hq
    refine ⟨upd F1 q (.tup [.int (i : Nat), y]), _, ⟨Le.new fq, Pre.refl _, hr.newF hq⟩, enumFrom_get ds 0 i d h1, q, _, rfl, upd_same, two_sz, ?_⟩
    exact ⟨_, _, rfl, by simp [At], _, _, rfl, At.mono (e.trans (Le.new fq)) p _ _ h2, rfl⟩
def asLst : List D → Sem (List D)
  | [.lst ds] => retO ds
  | _ => fun _ _ => .stuck
def itEnum (f : Sem (List D)) : Sem (List D) := bindO f fun as => bindO (asLst as) fun ds => retO (enumFrom 0 ds)
theorem pdi_enum {elts : List Expr} {kk : Nat} {tpos : Pos} {f : Sem (List D)} (hg : Gl X "enumerate") (hm : X.mg "enumerate" = none) (ha : PDA X T W [e] f) (hs : starEach [e] X.env = [(false, eval e X.env)] := by rfl) : PDI X T W (.Tuple elts kk tpos) (.Call (.Name "enumerate" p) [e] [] pos) (itEnum f) :=
  PI.imp (pi_enum hg hm ha hs) fun σ H R q => by
  obtain ⟨F, G, l, r0, S, hr, hs, hp⟩ := q
  refine wpI_step hr hs hp fun F1 l1 S1 a x H1 lt1 hs1 ha hp1 => ?_
  unfold bindO asLst at hp1
  split at hp1
  · rename_i e1
    split at e1
    · cases e1
      obtain ⟨v, rfl, h1⟩ := AtL.one ha
      obtain ⟨b, vs, rfl, h2, h3, h4⟩ := h1
      exact ⟨b, vs, rfl, .of (lt1.rel.fz _ _ h2), hp1 F1 l1 H1 _ (Later.refl lt1.rel) (itok_enum (.of h2) h4)⟩
    · cases e1
  · rename_i e1
    split at e1 <;> cases e1
  · exact hp1.elim
/-- zip(list, list) -/
def zipD : List D → List D → List D
  | d :: ds, e :: es => .tup [d, e] :: zipD ds es
  | _, _ => []
theorem zipD_length : ∀ (ds es : List D), (zipD ds es).length = min ds.length es.length
  | [], es => by simp [zipD]
  | d :: ds, [] => by simp [zipD]
  | d :: ds, e :: es => by simp [zipD, zipD_length ds es]
theorem zipD_get : ∀ (ds es : List D) (j : Nat) (d e : D), ds[j]? = some d → es[j]? = some e → (zipD ds es)[j]? = some (.tup [d, e])
  | [], _, _, _, _, h, _ => by simp at h
  | d :: ds, [], _, _, _, _, h => by simp at h
  | d :: ds, e :: es, 0, _, _, h, h2 => by simp at h h2; subst h; subst h2; rfl
  | d :: ds, e :: es, j + 1, d', e', h, h2 => by
    have := zipD_get ds es j d' e' (by simpa using h) (by simpa using h2)
    simpa [zipD] using this
theorem itok_zip {K : PySem.W.Frag} {F : Hp} {l : List Addr} {ds es : List D} {vs us : List V} {a b : Addr} (h : SqL K F a vs) (ha : AtL K F l ds vs) (h' : SqL K F b us) (hb : AtL K F l es us) : ItOk K T (Itz K a b) F l (zipD ds es) where
  go := fun F1 G1 l1 S1 H1 i e p hr hi => by
    rw [zipD_length] at hi
    exact ⟨vs, us, vs[i]'(by rw [ha.length]; omega), us[i]'(by rw [hb.length]; omega), sql_le (e.trans hr.fw) h, sql_le (e.trans hr.fw) h', List.getElem?_eq_getElem _, List.getElem?_eq_getElem _⟩
  stop := fun F1 G1 l1 S1 H1 e p hr => ⟨vs, us, sql_le (e.trans hr.fw) h, sql_le (e.trans hr.fw) h', by rw [ha.length, hb.length, zipD_length]; omega⟩
  yld := fun F1 G1 l1 S1 H1 i x H2 e p hr hi hy => by
    obtain ⟨q, y, z, rfl, hq, rfl, hy, hz⟩ := hy
    obtain ⟨d, h1, h2⟩ := ha.get' (hy vs (sql_le (e.trans hr.fw) h))
    obtain ⟨d', h3, h4⟩ := hb.get' (hz us (sql_le (e.trans hr.fw) h'))
    have fq := hr.fnone hq
    refine ⟨upd F1 q (.tup [y, z]), _, ⟨Le.new fq, Pre.refl _, hr.newF hq⟩, zipD_get ds es i d d' h1 h3, q, _, rfl, upd_same, two_sz, ?_⟩
    exact ⟨_, _, rfl, At.mono (e.trans (Le.new fq)) p _ _ h2, _, _, rfl, At.mono (e.trans (Le.new fq)) p _ _ h4, rfl⟩
def asLst2 : List D → Sem (List D × List D)
  | [.lst ds, .lst es] => retO (ds, es)
  | _ => fun _ _ => .stuck
def itZip (f : Sem (List D)) : Sem (List D) := bindO f fun as => bindO (asLst2 as) fun p => retO (zipD p.1 p.2)
theorem pdi_zip {elts : List Expr} {kk : Nat} {tpos : Pos} {e2 : Expr} {f : Sem (List D)} (hg : Gl X "zip") (hm : X.mg "zip" = none) (ha : PDA X T W [e, e2] f)
    (hs : starEach [e, e2] X.env = (false, eval e X.env) :: starEach [e2] X.env := by rfl) (hpl : (backTo pos (starEach [e2] X.env)).any (·.1) = false := by rfl) : PDI X T W (.Tuple elts kk tpos) (.Call (.Name "zip" p) [e, e2] [] pos) (itZip f) :=
  PI.imp (pi_zip hg hm ha hs hpl) fun σ H R q => by
  obtain ⟨F, G, l, r0, S, hr, hs, hp⟩ := q
  refine wpI_step hr hs hp fun F1 l1 S1 a x H1 lt1 hs1 ha hp1 => ?_
  unfold bindO asLst2 at hp1
  split at hp1
  · rename_i e1
    split at e1
    · cases e1
      obtain ⟨v, w, rfl, h1, h2⟩ := AtL.two ha
      obtain ⟨b, vs, rfl, h3, h4, h5⟩ := h1
      obtain ⟨c, us, rfl, h6, h7, h8⟩ := h2
      exact ⟨b, c, vs, us, rfl, .of (lt1.rel.fz _ _ h3), .of (lt1.rel.fz _ _ h6), hp1 F1 l1 H1 _ (Later.refl lt1.rel) (itok_zip (.of h3) h5 (.of h6) h8)⟩
    · cases e1
  · rename_i e1
    split at e1 <;> cases e1
  · exact hp1.elim
/-- reversed(list) -/
theorem itok_rev {K : PySem.W.Frag} {F : Hp} {l : List Addr} {ds : List D} {vs : List V} {a : Addr} (h : SqL K F a vs) (ha : AtL K F l ds vs) : ItOk K T (Itv K a vs.length) F l ds.reverse where
  go := fun F1 G1 l1 S1 H1 i e p hr hi => by
    have e1 := ha.length
    simp only [List.length_reverse] at hi
    exact ⟨by omega, vs, vs[vs.length - 1 - i]'(by omega), sql_le (e.trans hr.fw) h, List.getElem?_eq_getElem _⟩
  stop := fun F1 G1 l1 S1 H1 e p hr => by
    show vs.length ≤ ds.reverse.length
    simp [ha.length]
  yld := fun F1 G1 l1 S1 H1 i x H2 e p hr hi hy => by
    obtain ⟨rfl, hy⟩ := hy
    have hx := hy vs (sql_le (e.trans hr.fw) h)
    obtain ⟨d, h1, h2⟩ := ha.get' hx
    refine ⟨F1, d, Later.refl hr, ?_, At.mono e p _ _ h2⟩
    simp only [List.length_reverse] at hi
    rw [List.getElem?_reverse hi, ← ha.length]
    exact h1
def itRev (f : Sem (List D)) : Sem (List D) := bindO f fun as => bindO (asLst as) fun ds => retO ds.reverse
theorem pdi_rev {f : Sem (List D)} (hg : Gl X "reversed") (hm : X.mg "reversed" = none) (ha : PDA X T W [e] f) (hs : starEach [e] X.env = [(false, eval e X.env)] := by rfl) : PDI X T W tg (.Call (.Name "reversed" p) [e] [] pos) (itRev f) :=
  PI.imp (pi_reversed hg hm ha hs) fun σ H R q => by
  obtain ⟨F, G, l, r0, S, hr, hs, hp⟩ := q
  refine wpI_step hr hs hp fun F1 l1 S1 a x H1 lt1 hs1 ha hp1 => ?_
  unfold bindO asLst at hp1
  split at hp1
  · rename_i e1
    split at e1
    · cases e1
      obtain ⟨v, rfl, h1⟩ := AtL.one ha
      obtain ⟨b, vs, rfl, h2, h3, h4⟩ := h1
      exact ⟨b, vs, rfl, .of (lt1.rel.fz _ _ h2), hp1 F1 l1 H1 _ (Later.refl lt1.rel) (itok_rev (.of h2) h4)⟩
    · cases e1
  · rename_i e1
    split at e1 <;> cases e1
  · exact hp1.elim
end

/-! ### list comprehensions -/
def loopC (t : Tgt) (c : Sem Bool) (e : Sem D) (r : Env) : List D → Store → Out (List D)
  | [], S => .ok [] S
  | d :: ds, S => match t.set d r with
    | none => .stuck
    | some r1 => match c r1 S with
      | .ok false S1 => loopC t c e r ds S1
      | .ok true S1 => match e r1 S1 with
        | .ok x S2 => match loopC t c e r ds S2 with
          | .ok xs S3 => .ok (x :: xs) S3
          | _ => .stuck
        | _ => .stuck
      | _ => .stuck
def compE (it : Sem (List D)) (t : Tgt) (vs : List Nat) (c : Sem Bool) (e : Sem D) : Sem (List D) := bindO it fun ds => fun r S => if ds.length ≤ 100000 then loopC t c e (wipeD r vs) ds S else .stuck
def lcE (it : Sem (List D)) (t : Tgt) (vs : List Nat) (c : Sem Bool) (e : Sem D) : Sem D := bindO (compE it t vs c e) fun xs => retO (.lst xs)
def lcC (it : Sem (List D)) (t : Tgt) (vs : List Nat) (c : Sem Bool) (e : Sem D) : Sem D := bindO (compE it t vs c e) fun xs => fun _ S => .ok (.loc S.length) (S ++ [.lst xs])
def yesT : Sem Bool := retO true
abbrev W0 : WX := fun _ _ _ _ => False
theorem comp_wp {K : PySem.W.Frag} {T : List (Addr × Str)} {W : WX} {it : Sem (List D)} {t : Tgt} {ws : List Nat} {c : Sem Bool} {e : Sem D} {fin : List D → Store → Out D} (hws : ∀ i ∈ t.slots, i ∈ ws)
    (hfin : ∀ {F G : Hp} {H : Hp} {l : List Addr} {S : Store} {xs : List D} {vs : List V} {σ : St} {Q : VK} {p : Addr}, HRel K T F (upd G p (.lst vs)) l S H → G p = none → AtL K F l xs vs → xs.length ≤ sizeLine → PostG K T W (rE K) F G l σ Q (fin xs S) → Q (.ref p) H)
    {σ : St} {H : Hp} {Q : VK} (h : wp K T W (rE K) (bindO (compE it t ws c e) fun xs => fun _ S => fin xs S) σ H Q) :
    tLc (wpI K T W it) (t.rd K) (wp K T W0 rT c) (wp K T W0 (rE K) e) ws σ H Q := by
  obtain ⟨F, G, l, r, S, hr, hs, hp⟩ := h
  refine ⟨F, G, l, r, S, hr, hs, ?_⟩
  unfold bindO compE bindO at hp
  cases e0 : it r S with
  | err c' S' => rw [e0] at hp; exact hp
  | stuck => rw [e0] at hp; exact hp
  | ok ds S0 =>
    rw [e0] at hp
    simp only at hp
    intro F1 l1 H1 J lt1 iok p hpn
    by_cases hlen : ds.length ≤ 100000
    · rw [if_pos hlen] at hp
      have gp : G p = none := lt1.rel.gnone hpn
      let Goal : Hp → List Addr → List D → Out (List D) → Prop := fun F2 l2 acc o => match o with
        | .ok xs S3 => PostG K T W (rE K) F2 G l2 σ Q (fin (acc ++ xs) S3)
        | _ => False
      have goal_mono : ∀ {F2 l2 F3 l3 acc} {o : Out (List D)}, Le F2 F3 → Pre l2 l3 → Goal F2 l2 acc o → Goal F3 l3 acc o := by
        intro F2 l2 F3 l3 acc o le pre g
        cases o with
        | ok xs S3 => exact PostG.mono le pre g
        | _ => exact g
      let Iv : Nat → Hp → Prop := fun i H' => i ≤ ds.length ∧ ∃ F2 l2 S2 acc accV, Le F1 F2 ∧ Pre l1 l2 ∧ HRel K T F2 (upd G p (.lst accV)) l2 S2 H' ∧ AtL K F2 l2 acc accV ∧ acc.length ≤ i ∧ Goal F2 l2 acc (loopC t c e (wipeD r ws) (ds.drop i) S2)
      refine ⟨fun i m H' => m = ds.length - i ∧ Iv i H', ⟨ds.length, by simp, Nat.zero_le _, F1, l1, S0, [], [], Le.refl _, Pre.refl _, lt1.rel.gAdd hpn, rfl, Nat.le_refl _, ?_⟩, ?_⟩
      · simp only [List.drop_zero]
        cases e1 : loopC t c e (wipeD r ws) ds S0 with
        | ok xs S3 =>
          rw [e1] at hp
          exact hp.later lt1
        | err c' S' =>
          -- a comprehension's loop has no such end
          rw [e1] at hp
          exfalso
          have : ∀ (ds : List D) (S : Store) (c' : Ex) (S' : Store), loopC t c e (wipeD r ws) ds S ≠ .err c' S' := by
            intro ds
            induction ds with
            | nil => intro S c' S' h; cases h
            | cons d ds ih =>
              intro S c' S' h
              unfold loopC at h
              split at h
              · cases h
              · split at h
                · exact ih _ _ _ h
                · split at h
                  · split at h <;> cases h
                  · cases h
                · cases h
          exact this _ _ _ _ e1
        | stuck => rw [e1] at hp; exact hp
      · rintro i m H2 ⟨rfl, hi, F2, l2, S2, acc, accV, le2, pre2, hr2, ha2, hacc, hg⟩
        by_cases hlt : i < ds.length
        · refine .inr ⟨iok.go F2 _ l2 S2 H2 i le2 pre2 hr2 hlt, Iv (i + 1), fun H' hN => ⟨ds.length - (i + 1), by omega, rfl, hN⟩, fun x H3 hy => ?_⟩
          obtain ⟨F3, d, lt3, hd, hx⟩ := iok.yld F2 _ l2 S2 H2 i x H3 le2 pre2 hr2 hlt hy
          have hdrop : ds.drop i = d :: ds.drop (i + 1) := by
            rw [List.drop_eq_getElem_cons hlt]
            have : ds[i] = d := by
              rw [List.getElem?_eq_getElem hlt] at hd
              exact Option.some.inj hd
            rw [this]
          rw [hdrop] at hg
          unfold loopC at hg
          cases e1 : t.set d (wipeD r ws) with
          | none => rw [e1] at hg; exact hg.elim
          | some r1 =>
            rw [e1] at hg
            simp only at hg
            have hs3 : Sl K F3 l2 (wipeD r ws) (L2.wipe σ ws) := ((hs.mono (lt1.le.trans (le2.trans lt3.le)) (lt1.pre.trans pre2)).wipe ws)
            refine Tgt.run lt3.rel hs3 hx e1 fun σ2 hs2 hw => ⟨?_, F3, _, l2, r1, S2, lt3.rel, hs2, ?_⟩
            · rw [hw ws hws, wipe_wipe]
            · cases e2 : c r1 S2 with
              | err c' S' => rw [e2] at hg; exact hg.elim
              | stuck => rw [e2] at hg; exact hg.elim
              | ok b S4 =>
                rw [e2] at hg
                intro F4 l4 H4 b' lt4 hb'
                have hb' : b' = b := hb'
                subst hb'
                have leA := lt3.le.trans lt4.le
                cases b' with
                | false => exact ⟨hlt, F4, l4, S4, acc, accV, le2.trans leA, pre2.trans lt4.pre, lt4.rel, AtL.mono leA lt4.pre _ _ ha2, Nat.le_succ_of_le hacc, goal_mono leA lt4.pre hg⟩
                | true =>
                  simp only at hg
                  refine ⟨F4, _, l4, r1, S4, lt4.rel, hs2.mono lt4.le lt4.pre, ?_⟩
                  cases e3 : e r1 S4 with
                  | err c' S' => rw [e3] at hg; exact hg.elim
                  | stuck => rw [e3] at hg; exact hg.elim
                  | ok y S5 =>
                    rw [e3] at hg
                    intro F5 l5 H5 v lt5 hv
                    have leB := leA.trans lt5.le
                    have preB := lt4.pre.trans lt5.pre
                    refine ⟨accV, lt5.rel.gr _ _ upd_same, ?_, hlt, F5, l5, S5, acc ++ [y], accV ++ [v], le2.trans leB, pre2.trans preB, lt5.rel.gSet rfl, (AtL.mono leB preB _ _ ha2).append ⟨v, [], rfl, hv, rfl⟩, by simp; exact hacc, ?_⟩
                    · rw [ha2.length]
                      exact Nat.lt_of_lt_of_le (Nat.lt_of_le_of_lt hacc (Nat.lt_of_lt_of_le hlt hlen)) (by decide)
                    · simp only at hg
                      cases e4 : loopC t c e (wipeD r ws) (ds.drop (i + 1)) S5 with
                      | ok xs S6 =>
                        rw [e4] at hg
                        have hg : PostG K T W (rE K) F2 G l2 σ Q (fin (acc ++ y :: xs) S6) := hg
                        show PostG K T W (rE K) F5 G l5 σ Q (fin ((acc ++ [y]) ++ xs) S6)
                        rw [List.append_assoc]
                        exact PostG.mono leB preB hg
                      | err c' S' => rw [e4] at hg; exact hg.elim
                      | stuck => rw [e4] at hg; exact hg.elim
        · have ei : i = ds.length := by omega
          subst ei
          refine .inl ⟨iok.stop F2 _ l2 S2 H2 le2 pre2 hr2, ?_⟩
          rw [List.drop_length] at hg
          have hg : PostG K T W (rE K) F2 G l2 σ Q (fin (acc ++ []) S2) := hg
          rw [List.append_nil] at hg
          exact hfin hr2 gp ha2 (sz_of (Nat.le_trans hacc hlen)) hg
    · rw [if_neg hlen] at hp; exact hp.elim
theorem fin_frozen {K : PySem.W.Frag} {T : List (Addr × Str)} {W : WX} {F G H : Hp} {l : List Addr} {S : Store} {xs : List D} {vs : List V} {σ : St} {Q : VK} {p : Addr} (hr : HRel K T F (upd G p (.lst vs)) l S H) (hg : G p = none) (ha : AtL K F l xs vs) (hl : xs.length ≤ sizeLine)
    (hp : PostG K T W (rE K) F G l σ Q (.ok (.lst xs) S)) : Q (.ref p) H := by
  have fp : F p = none := by
    cases e : F p with
    | none => rfl
    | some w => have := hr.fg p w e; rw [upd_same] at this; cases this
  exact hp _ l H _ ⟨Le.new fp, Pre.refl _, hr.gToF hg⟩ ⟨p, vs, rfl, upd_same, hl, AtL.mono (Le.new fp) (Pre.refl _) _ _ ha⟩
theorem fin_cell {K : PySem.W.Frag} {T : List (Addr × Str)} {W : WX} {F G H : Hp} {l : List Addr} {S : Store} {xs : List D} {vs : List V} {σ : St} {Q : VK} {p : Addr} (hr : HRel K T F (upd G p (.lst vs)) l S H) (hg : G p = none) (ha : AtL K F l xs vs) (hl : xs.length ≤ sizeLine)
    (hp : PostG K T W (rE K) F G l σ Q (.ok (.loc S.length) (S ++ [.lst xs]))) : Q (.ref p) H := by
  have fp : F p = none := by
    cases e : F p with
    | none => rfl
    | some w => have := hr.fg p w e; rw [upd_same] at this; cases this
  refine hp _ _ H _ ⟨Le.refl F, Pre.app _ _, hr.gToC (c := .lst xs) hg rfl ⟨fp, hl, vs, hr.gr _ _ upd_same, AtL.mono (Le.refl F) (Pre.app _ _) _ _ ha⟩⟩ ⟨p, ?_, rfl⟩
  rw [← hr.len]; simp
section
variable {X : Cx} {T : List (Addr × Str)} {W : WX} {k : Nat} {pos : Pos} {elt tg iter : Expr} {ifs : List Expr} {scope : Scope} {own : List (Str × Nat)} {it : Sem (List D)} {t : Tgt} {c : Sem Bool} {e : Sem D}
def PDTs (X : Cx) (T : List (Addr × Str)) (W : WX) (ifs : List Expr) (f : Sem Bool) : Prop := PTs X ifs (wp X.K T W rT f)
theorem pts_yes : PDTs X T W [] yesT := ⟨fun pins s σ H Q I h => pts_nil.run pins s σ H Q I (ret_wp (rl := rT) (x := true) (fun _ _ => rfl) h)⟩
theorem pts_if {c : Expr} {f : Sem Bool} (h : PDT X T W c f) : PDTs X T W [c] f := pts_one h
/-- within a comprehension -/
abbrev Blk (X : Cx) (scope : Scope) (P : Cx → Prop) : Prop := ∀ (s : Shared) (H : Hp) (C : Addr) (cl : List (Str × Addr)) (fp : List Addr), P (X.blk s H scope (compEnvC scope cl C X.env) fp)
theorem Ctx.blk (hc : Ctx X W k) {s : Shared} {H : Hp} {scope : Scope} {C : Addr} {cl : List (Str × Addr)} {fp : List Addr} : Ctx (X.blk s H scope (compEnvC scope cl C X.env) fp) W0 k :=
  ⟨hc.calm, hc.nd, LamX.takes0, PassesOwn.never, hc.rm⟩
theorem pd_lc (hc : Ctx X W k) (hi : PDI X T W tg iter it) (ok : BlkOk X.N X.env.scope scope own) (hws : ∀ i ∈ t.slots, i ∈ own.map (·.2) := by decide)
    (hg : Blk X scope fun Y => PG Y tg (t.rd Y.K)) (ht : Blk X scope fun Y => PDTs Y T W0 ifs c) (he : Blk X scope fun Y => PD Y T W0 elt e) (hs : ∀ x, foldedSetIterable iter X.env x = pure x := by intro _; rfl) :
    PD X T W (.ListComp elt [⟨tg, iter, ifs, 0⟩] scope pos) (lcE it t (own.map (·.2)) c e) :=
  PE.imp (pe_lc (g := t.rd X.K) (tt := wp X.K T W0 rT c) (te := wp X.K T W0 (rE X.K) e) hc.calm hc.nd hi ok hg ht he hs) fun σ H Q h => comp_wp (fin := fun xs S => .ok (.lst xs) S) hws fin_frozen h
theorem pd_lcC (hc : Ctx X W k) (hi : PDI X T W tg iter it) (ok : BlkOk X.N X.env.scope scope own) (hws : ∀ i ∈ t.slots, i ∈ own.map (·.2) := by decide)
    (hg : Blk X scope fun Y => PG Y tg (t.rd Y.K)) (ht : Blk X scope fun Y => PDTs Y T W0 ifs c) (he : Blk X scope fun Y => PD Y T W0 elt e) (hs : ∀ x, foldedSetIterable iter X.env x = pure x := by intro _; rfl) :
    PD X T W (.ListComp elt [⟨tg, iter, ifs, 0⟩] scope pos) (lcC it t (own.map (·.2)) c e) :=
  PE.imp (pe_lc (g := t.rd X.K) (tt := wp X.K T W0 rT c) (te := wp X.K T W0 (rE X.K) e) hc.calm hc.nd hi ok hg ht he hs) fun σ H Q h => comp_wp (fin := fun xs S => .ok (.loc S.length) (S ++ [Cell.lst xs])) hws fin_cell h
end
end Aw

/-! Aw4: statements. -/
namespace Aw
open PySem L2 LamX

def PostS (K : PySem.W.Frag) (T : List (Addr × Str)) (W : WX) (F G : Hp) (l : List Addr) (Dn : Ends) : R → Prop
  | .nx r' S' => ∀ F' l' σ' H', Later K T F G l F' l' S' H' → Sl K F' l' r' σ' → Dn.nx σ' H'
  | .ret d S' => ∀ F' l' H' v, Later K T F G l F' l' S' H' → At K F' l' d v → Dn.rt v H'
  | .brk r' S' => ∀ F' l' σ' H', Later K T F G l F' l' S' H' → Sl K F' l' r' σ' → Dn.bk σ' H'
  | .ct r' S' => ∀ F' l' σ' H', Later K T F G l F' l' S' H' → Sl K F' l' r' σ' → Dn.ct σ' H'
  | .err c r' S' => ∀ F' l' σ' H', Later K T F G l F' l' S' H' → Sl K F' l' r' σ' → W (exV K c) none σ' H'
  | .stuck => False
def wpS (K : PySem.W.Frag) (T : List (Addr × Str)) (W : WX) (f : SemS) : TS := fun Dn σ H =>
  ∃ F G l r S, HRel K T F G l S H ∧ Sl K F l r σ ∧ PostS K T W F G l Dn (f r S)
theorem PostS.mono {K : PySem.W.Frag} {T : List (Addr × Str)} {W : WX} {F G F1 : Hp} {l l1 : List Addr} {Dn : Ends} (a : Le F F1) (p : Pre l l1) : ∀ {o : R}, PostS K T W F G l Dn o → PostS K T W F1 G l1 Dn o
  | .nx _ _, h => fun F' l' s H' e q => h F' l' s H' ⟨a.trans e.le, p.trans e.pre, e.rel⟩ q
  | .ret _ _, h => fun F' l' s H' e q => h F' l' s H' ⟨a.trans e.le, p.trans e.pre, e.rel⟩ q
  | .brk _ _, h => fun F' l' s H' e q => h F' l' s H' ⟨a.trans e.le, p.trans e.pre, e.rel⟩ q
  | .ct _ _, h => fun F' l' s H' e q => h F' l' s H' ⟨a.trans e.le, p.trans e.pre, e.rel⟩ q
  | .err _ _ _, h => fun F' l' s H' e q => h F' l' s H' ⟨a.trans e.le, p.trans e.pre, e.rel⟩ q
  | .stuck, h => h
def PDS (X : Cx) (T : List (Addr × Str)) (W : WX) (st : Stmt) (f : SemS) : Prop := PS X st (wpS X.K T W f)
def PDB (X : Cx) (T : List (Addr × Str)) (W : WX) (st : List Stmt) (f : SemS) : Prop := PSs X st (wpS X.K T W f)

def thenS {α : Type} (f : Sem α) (g : α → SemS) : SemS := fun r S => match f r S with
  | .ok a S' => g a r S'
  | .err c S' => .err c r S'
  | .stuck => .stuck
section
variable {α β : Type} {K : PySem.W.Frag} {T : List (Addr × Str)} {W : WX} {σ : St} {H : Hp}
/-- an expression ahead of the rest of a statement -/
theorem wpS_step {rl : Rl α β} {f : Sem α} {g : α → SemS} {Dn : Ends} {Q1 : β → Hp → Prop} {F G : Hp} {l : List Addr} {r : Env} {S : Store} (hr : HRel K T F G l S H) (hs : Sl K F l r σ)
    (hp : PostS K T W F G l Dn (thenS f g r S))
    (k : ∀ F' l' S' a b H', Later K T F G l F' l' S' H' → Sl K F' l' r σ → rl F' l' a b → PostS K T W F' G l' Dn (g a r S') → Q1 b H') : wp K T W rl f σ H Q1 := by
  refine ⟨F, G, l, r, S, hr, hs, ?_⟩
  unfold thenS at hp
  cases e : f r S with
  | ok a S' =>
    rw [e] at hp
    exact fun F' l' H' b lt q => k F' l' S' a b H' lt (hs.mono lt.le lt.pre) q (hp.mono lt.le lt.pre)
  | err c S' =>
    rw [e] at hp
    exact fun F' l' H' lt => hp F' l' σ H' lt (hs.mono lt.le lt.pre)
  | stuck => rw [e] at hp; exact hp
end

section
variable {X : Cx} {T : List (Addr × Str)} {W : WX} {k : Nat} {pos p : Pos} {e : Expr} {st : Stmt} {rest : List Stmt}
def skipS : SemS := fun r S => .nx r S
def seqS (f g : SemS) : SemS := fun r S => match f r S with
  | .nx r' S' => g r' S'
  | o => o
theorem pdb_nil : PDB X T W [] skipS := PSs.imp pss_nil fun Dn σ H ⟨F, G, l, r, S, hr, hs, hp⟩ => hp F l σ H (Later.refl hr) hs
theorem seq_wp {K : PySem.W.Frag} {f g : SemS} {Dn : Ends} {σ : St} {H : Hp} (h : wpS K T W (seqS f g) Dn σ H) : tSeq (wpS K T W f) (wpS K T W g) Dn σ H := by
  obtain ⟨F, G, l, r, S, hr, hs, hp⟩ := h
  refine ⟨F, G, l, r, S, hr, hs, ?_⟩
  unfold seqS at hp
  cases e : f r S with
  | nx r' S' =>
    rw [e] at hp
    exact fun F' l' σ' H' lt q => ⟨F', G, l', r', S', lt.rel, q, hp.mono lt.le lt.pre⟩
  | ret d S' => rw [e] at hp; exact hp
  | brk r' S' => rw [e] at hp; exact hp
  | ct r' S' => rw [e] at hp; exact hp
  | err c r' S' => rw [e] at hp; exact hp
  | stuck => rw [e] at hp; exact hp
theorem pdb_cons {f g : SemS} (h : PDS X T W st f) (h2 : PDB X T W rest g) : PDB X T W (st :: rest) (seqS f g) := PSs.imp (pss_cons h h2) fun _ _ _ q => seq_wp q
theorem pdb_one {f : SemS} (h : PDS X T W st f) : PDB X T W [st] f := pss_one h
/-- a rest that is never come to -/
def nevS : SemS := fun _ _ => .stuck
theorem pdb_never {sts : List Stmt} : PDB X T W sts nevS := PSs.imp pss_never fun Dn σ H ⟨F, G, l, r, S, hr, hs, hp⟩ => hp
theorem pds_never : PDS X T W st nevS := PS.imp ps_never fun Dn σ H ⟨F, G, l, r, S, hr, hs, hp⟩ => hp
theorem pds_pass : PDS X T W (.Pass pos) skipS := PS.imp ps_pass fun Dn σ H ⟨F, G, l, r, S, hr, hs, hp⟩ => hp F l σ H (Later.refl hr) hs
theorem pds_break : PDS X T W (.Break pos) (fun r S => .brk r S) := PS.imp ps_break fun Dn σ H ⟨F, G, l, r, S, hr, hs, hp⟩ => hp F l σ H (Later.refl hr) hs
theorem pds_continue : PDS X T W (.Continue pos) (fun r S => .ct r S) := PS.imp ps_continue fun Dn σ H ⟨F, G, l, r, S, hr, hs, hp⟩ => hp F l σ H (Later.refl hr) hs
/-- a step of the proof's own: nothing is run -/
def ghostS (g : Env → Store → Option (Env × Store)) (f : SemS) : SemS := fun r S => match g r S with
  | some (r', S') => f r' S'
  | none => .stuck
def GhostOk (K : PySem.W.Frag) (T : List (Addr × Str)) (g : Env → Store → Option (Env × Store)) : Prop := ∀ (F G : Hp) (l : List Addr) (r : Env) (S : Store) (σ : St) (H : Hp) (r' : Env) (S' : Store), HRel K T F G l S H → Sl K F l r σ → g r S = some (r', S') → ∃ F', Later K T F G l F' l S' H ∧ Sl K F' l r' σ
theorem ghost_wp {K : PySem.W.Frag} {g : Env → Store → Option (Env × Store)} {f : SemS} {Dn : Ends} {σ : St} {H : Hp} (hg : GhostOk K T g) (h : wpS K T W (ghostS g f) Dn σ H) : wpS K T W f Dn σ H := by
  obtain ⟨F, G, l, r, S, hr, hs, hp⟩ := h
  unfold ghostS at hp
  cases e : g r S with
  | none => rw [e] at hp; exact hp.elim
  | some q =>
    obtain ⟨r', S'⟩ := q
    rw [e] at hp
    obtain ⟨F', lt, hs'⟩ := hg F G l r S σ H r' S' hr hs e
    exact ⟨F', G, l, r', S', lt.rel, hs', hp.mono lt.le lt.pre⟩
theorem pds_ghost {g : Env → Store → Option (Env × Store)} {f : SemS} (hg : GhostOk X.K T g) (h : PDS X T W st f) : PDS X T W st (ghostS g f) := PS.imp h fun _ _ _ q => ghost_wp hg q
theorem pdb_ghost {sts : List Stmt} {g : Env → Store → Option (Env × Store)} {f : SemS} (hg : GhostOk X.K T g) (h : PDB X T W sts f) : PDB X T W sts (ghostS g f) := PSs.imp h fun _ _ _ q => ghost_wp hg q

def dropS (f : Sem D) : SemS := thenS f fun _ r S => .nx r S
theorem pds_expr {f : Sem D} (h : PD X T W e f) (hs : swapsWith e none pos.line X.env = pure false := by rfl) : PDS X T W (.Expr e pos) (dropS f) := PS.imp (ps_expr h hs) fun Dn σ H ⟨F, G, l, r, S, hr, hs, hp⟩ =>
  wpS_step hr hs hp fun F1 l1 S1 a x H1 lt hs1 ha hp1 => hp1 F1 l1 σ H1 (Later.refl lt.rel) hs1
def retS (f : Sem D) : SemS := thenS f fun d _ S => .ret d S
theorem pds_ret {f : Sem D} (h : PD X T W e f) : PDS X T W (.Return (some e) pos) (retS f) := PS.imp (ps_ret h) fun Dn σ H ⟨F, G, l, r, S, hr, hs, hp⟩ =>
  wpS_step hr hs hp fun F1 l1 S1 a x H1 lt hs1 ha hp1 => hp1 F1 l1 H1 x (Later.refl lt.rel) ha
theorem pds_retN : PDS X T W (.Return none pos) (fun _ S => .ret .non S) := PS.imp ps_retN fun Dn σ H ⟨F, G, l, r, S, hr, hs, hp⟩ => hp F l H .non (Later.refl hr) rfl
def ifS (c : Sem Bool) (f g : SemS) : SemS := thenS c fun b => if b = true then f else g
theorem pds_if {c : Expr} {a b : List Stmt} {fc : Sem Bool} {f g : SemS} (hc : PDT X T W c fc) (h1 : PDB X T W a f) (h2 : PDB X T W b g) : PDS X T W (.If c a b pos) (ifS fc f g) := PS.imp (ps_if hc h1 h2) fun Dn σ H ⟨F, G, l, r, S, hr, hs, hp⟩ =>
  wpS_step (rl := rT) hr hs hp fun F1 l1 S1 a x H1 lt hs1 ha hp1 => by
    have ha : x = a := ha
    subst ha
    cases x with
    | true => exact ⟨F1, G, l1, r, S1, lt.rel, hs1, hp1⟩
    | false => exact ⟨F1, G, l1, r, S1, lt.rel, hs1, hp1⟩

/-! ### stores -/
def setS (f : Sem D) (t : Tgt) : SemS := thenS f fun d r S => match t.set d r with
  | some r' => .nx r' S
  | none => .stuck
theorem set_post {K : PySem.W.Frag} {F G H : Hp} {l : List Addr} {S : Store} {r : Env} {σ : St} {Dn : Ends} {t : Tgt} {d : D} {v : V} (hr : HRel K T F G l S H) (hs : Sl K F l r σ) (ha : At K F l d v)
    (hp : PostS K T W F G l Dn (match t.set d r with
      | some r' => .nx r' S
      | none => .stuck)) : t.rd K v σ H Dn.nx := by
  cases e : t.set d r with
  | none => rw [e] at hp; exact hp.elim
  | some r' =>
    rw [e] at hp
    exact Tgt.run hr hs ha e fun σ' hs' _ => hp F l σ' H (Later.refl hr) hs'
theorem pds_set (i : Nat) {x : Str} {pos' : Pos} {f : Sem D} (hc : Ctx X W k) (h : PD X T W e f) (hi : X.N[i]? = some x := by rfl) (hx : Loc X.env.scope x := by first | exact Or.inl rfl | exact Or.inr rfl)
    (hs : swapsWith e (some (.Name x pos')) pos.line X.env = pure false := by rfl) (hf : X.fn x = true ∨ X.env.scope.names.lookup x = some .local := by first | exact .inl rfl | exact .inr rfl | assumption) : PDS X T W (.Assign [.Name x pos'] e pos) (setS f (.one i)) :=
  PS.imp (ps_set hc.nd hi hx h hs hf) fun Dn σ H ⟨F, G, l, r, S, hr, hs, hp⟩ =>
    wpS_step hr hs hp fun F1 l1 S1 a x H1 lt hs1 ha hp1 => set_post (t := .one i) lt.rel hs1 ha hp1
theorem pds_asg {tg : Expr} {f : Sem D} {t : Tgt} (h : PD X T W e f) (hg : PG X tg (t.rd X.K)) (hs : swapsWithSole [tg] e pos.line X.env = pure false := by rfl) (hw : swappedStores [tg] e X.env = pure none := by rfl)
    (h1 : (assignEach [tg] X.env).map (·.2) = [assign tg X.env] := by rfl) : PDS X T W (.Assign [tg] e pos) (setS f t) :=
  PS.imp (ps_asg h hg hs hw h1) fun Dn σ H ⟨F, G, l, r, S, hr, hs, hp⟩ =>
    wpS_step hr hs hp fun F1 l1 S1 a x H1 lt hs1 ha hp1 => set_post lt.rel hs1 ha hp1
/-- a, b = e1, e2 (two local names) -/
def parS (f : Sem (List D)) (i j : Nat) : SemS := thenS f fun ds r S => match ds with
  | [d, e] => .nx ((r.set i (some d)).set j (some e)) S
  | _ => .stuck
theorem pds_par (i j : Nat) {x y : Str} {a b : Expr} {f : Sem (List D)} {px py pt : Pos} {kt k2 : Nat} {pt2 : Pos} (hc : Ctx X W k) (h : PDA X T W [a, b] f) (hi : X.N[i]? = some x := by rfl) (hj : X.N[j]? = some y := by rfl) (hij : i ≠ j := by decide)
    (hx : X.env.scope.names.lookup x = some .local := by rfl) (hy : X.env.scope.names.lookup y = some .local := by rfl)
    (hw : swappedStores [.Tuple [.Name x px, .Name y py] kt pt] (.Tuple [a, b] k2 pt2) X.env = pure (some [x, y]) := by rfl) (hs : swapsWithSole [.Tuple [.Name x px, .Name y py] kt pt] (.Tuple [a, b] k2 pt2) pos.line X.env = pure false := by rfl) :
    PDS X T W (.Assign [.Tuple [.Name x px, .Name y py] kt pt] (.Tuple [a, b] k2 pt2) pos) (parS f i j) :=
  PS.imp (ps_par hc.calm hc.nd hi hj hij hx hy h hw hs) fun Dn σ H ⟨F, G, l, r, S, hr, hs, hp⟩ =>
    wpS_step (rl := rA X.K) hr hs hp fun F1 l1 S1 ds vs H1 lt hs1 ha hp1 => by
      split at hp1
      · rename_i d e
        obtain ⟨v, w, rfl, h1, h2⟩ := AtL.two ha
        exact ⟨v, w, rfl, hp1 F1 l1 _ H1 (Later.refl lt.rel) ((hs1.set h1 i).set h2 j)⟩
      · exact hp1.elim
/-- targets of any form -/
abbrev TgS := D → SemS
def wpG (K : PySem.W.Frag) (T : List (Addr × Str)) (W : WX) (g : TgS) : TG := fun v σ H Q =>
  ∃ F G l r S d, HRel K T F G l S H ∧ Sl K F l r σ ∧ At K F l d v ∧ PostS K T W F G l ⟨Q, fun _ _ => False, fun _ _ => False, fun _ _ => False⟩ (g d r S)
def wpGs (K : PySem.W.Frag) (T : List (Addr × Str)) (W : WX) (g : List D → SemS) : TGs := fun vs σ H Q =>
  ∃ F G l r S ds, HRel K T F G l S H ∧ Sl K F l r σ ∧ AtL K F l ds vs ∧ PostS K T W F G l ⟨Q, fun _ _ => False, fun _ _ => False, fun _ _ => False⟩ (g ds r S)
def PDG (X : Cx) (T : List (Addr × Str)) (W : WX) (tg : Expr) (g : TgS) : Prop := PG X tg (wpG X.K T W g)
def PDGs (X : Cx) (T : List (Addr × Str)) (W : WX) (tg : List Expr) (g : List D → SemS) : Prop := PGs X tg (wpGs X.K T W g)
theorem PG.imp {X : Cx} {e : Expr} {t t' : TG} (h : PG X e t) (k : ∀ v σ H Q, t' v σ H Q → t v σ H Q) : PG X e t' := ⟨fun pins s σ H v u Q I r q => h.run pins s σ H v u Q I r (k v σ H Q q)⟩
theorem PGs.imp {X : Cx} {e : List Expr} {t t' : TGs} (h : PGs X e t) (k : ∀ v σ H Q, t' v σ H Q → t v σ H Q) : PGs X e t' := ⟨fun pins s σ H v u Q I r q => h.run pins s σ H v u Q I r (k v σ H Q q)⟩
def nameT (t : Tgt) : TgS := fun d r S => match t.set d r with
  | some r' => .nx r' S
  | none => .stuck
theorem pdg_t {tg : Expr} {t : Tgt} (h : PG X tg (t.rd X.K)) : PDG X T W tg (nameT t) := PG.imp h fun v σ H Q ⟨F, G, l, r, S, d, hr, hs, ha, hp⟩ =>
  set_post (Dn := ⟨Q, fun _ _ => False, fun _ _ => False, fun _ _ => False⟩) hr hs ha hp
def nilT : List D → SemS
  | [] => fun r S => .nx r S
  | _ => nevS
def consT (g : TgS) (h : List D → SemS) : List D → SemS
  | d :: ds => seqS (g d) (h ds)
  | [] => nevS
theorem pdgs_nil : PDGs X T W [] nilT := PGs.imp pgs_nil fun v σ H Q ⟨F, G, l, r, S, ds, hr, hs, ha, hp⟩ => by
  cases ds with
  | nil => cases ha; exact ⟨rfl, hp F l σ H (Later.refl hr) hs⟩
  | cons d ds => exact hp.elim
theorem pdgs_cons {tg : Expr} {tgs : List Expr} {g : TgS} {h : List D → SemS} (h1 : PDG X T W tg g) (h2 : PDGs X T W tgs h) (hs : (assignEach (tg :: tgs) X.env).map (·.2) = assign tg X.env :: (assignEach tgs X.env).map (·.2) := by rfl) : PDGs X T W (tg :: tgs) (consT g h) :=
  PGs.imp (pgs_cons h1 h2 hs) fun v σ H Q ⟨F, G, l, r, S, ds, hr, hs, ha, hp⟩ => by
  cases ds with
  | nil => exact hp.elim
  | cons d ds =>
    obtain ⟨x, xs, rfl, h1, h2⟩ := ha
    refine ⟨x, xs, rfl, F, G, l, r, S, d, hr, hs, h1, ?_⟩
    have hp : PostS X.K T W F G l ⟨Q, fun _ _ => False, fun _ _ => False, fun _ _ => False⟩ (seqS (g d) (h ds) r S) := hp
    unfold seqS at hp
    cases e : g d r S with
    | nx r' S' =>
      rw [e] at hp
      exact fun F' l' σ' H' lt q => ⟨F', G, l', r', S', ds, lt.rel, q, AtL.mono lt.le lt.pre _ _ h2, hp.mono lt.le lt.pre⟩
    | ret d S' => rw [e] at hp; exact fun F' l' H' v lt q => hp F' l' H' v lt q
    | brk r' S' => rw [e] at hp; exact fun F' l' H' v lt q => hp F' l' H' v lt q
    | ct r' S' => rw [e] at hp; exact fun F' l' H' v lt q => hp F' l' H' v lt q
    | err c r' S' => rw [e] at hp; exact hp
    | stuck => rw [e] at hp; exact hp
def tupT (n : Nat) (h : List D → SemS) : TgS
  | .tup ds => if ds.length = n then h ds else nevS
  | _ => nevS
theorem pdg_tup {tgs : List Expr} {kk n : Nat} {h : List D → SemS} (hc : X.calm = true) (h1 : PDGs X T W tgs h) (hn : (assignEach tgs X.env).length = n := by rfl) (hst : (assignEach tgs X.env).findIdx? (·.1) = none := by rfl) : PDG X T W (.Tuple tgs kk pos) (tupT n h) :=
  PG.imp (pg_tup hc h1 hn hst) fun v σ H Q ⟨F, G, l, r, S, d, hr, hs, ha, hp⟩ => by
  cases d with
  | tup ds =>
    obtain ⟨a, vs, rfl, q1, q2, q3⟩ := ha
    by_cases hl : ds.length = n
    · simp only [tupT, if_pos hl] at hp
      exact ⟨a, vs, rfl, .of (hr.fz _ _ q1), by rw [q3.length, hl], F, G, l, r, S, ds, hr, hs, q3, hp⟩
    · simp only [tupT, if_neg hl] at hp
      exact hp.elim
  | _ => exact hp.elim
/-- o[i] = v on plain data -/
abbrev GSet := Store → D → D → D → Option Store
def SetOk (K : PySem.W.Frag) (T : List (Addr × Str)) (t : TSet) (g : GSet) : Prop := ∀ F G l S H o i d S' x y v (Q : Hp → Prop), HRel K T F G l S H → At K F l o x → At K F l i y → At K F l d v → g S o i d = some S' →
  (∀ F' l' H', Later K T F G l F' l' S' H' → Q H') → t x y v H Q
def subT (g : GSet) (fo fi : Sem D) : TgS := fun d => thenS fo fun o => thenS fi fun i => fun r S => match g S o i d with
  | some S' => .nx r S'
  | none => .stuck
theorem pdg_sub {o i : Expr} {t : TSet} {g : GSet} {fo fi : Sem D} (hg : SetOk X.K T t g) (h : PG X (.Subscript o i pos) (gSub (wp X.K T W (rE X.K) fo) (wp X.K T W (rE X.K) fi) t)) : PDG X T W (.Subscript o i pos) (subT g fo fi) :=
  PG.imp h fun v σ H Q ⟨F, G, l, r, S, d, hr, hs, ha, hp⟩ => by
  refine wpS_step hr hs hp fun F1 l1 S1 a x H1 lt1 hs1 ha1 hp1 => ?_
  refine wpS_step lt1.rel hs1 hp1 fun F2 l2 S2 b y H2 lt2 hs2 ha2 hp2 => ?_
  cases e : g S2 a b d with
  | none => rw [e] at hp2; exact hp2.elim
  | some S' =>
    rw [e] at hp2
    exact hg F2 G l2 S2 H2 a b d S' x y v _ lt2.rel (At.mono lt2.le lt2.pre _ _ ha1) ha2 (At.mono (lt1.le.trans lt2.le) (lt1.pre.trans lt2.pre) _ _ ha) e fun F' l' H' lt => hp2 F' l' σ H' lt (hs2.mono lt.le lt.pre)
def asgS (f : Sem D) (g : TgS) : SemS := thenS f g
theorem pds_asgG {tg : Expr} {f : Sem D} {g : TgS} (h : PD X T W e f) (hg : PDG X T W tg g) (hnx : ∀ d r S, (∃ r' S', g d r S = .nx r' S') ∨ (∃ c r' S', g d r S = .err c r' S') ∨ g d r S = .stuck)
    (hs : swapsWithSole [tg] e pos.line X.env = pure false := by rfl) (hw : swappedStores [tg] e X.env = pure none := by rfl)
    (h1 : (assignEach [tg] X.env).map (·.2) = [assign tg X.env] := by rfl) : PDS X T W (.Assign [tg] e pos) (asgS f g) :=
  PS.imp (ps_asg h hg hs hw h1) fun Dn σ H ⟨F, G, l, r, S, hr, hs, hp⟩ =>
    wpS_step hr hs hp fun F1 l1 S1 a x H1 lt hs1 ha hp1 => by
      refine ⟨F1, G, l1, r, S1, a, lt.rel, hs1, ha, ?_⟩
      rcases hnx a r S1 with ⟨r', S', q⟩ | ⟨c, r', S', q⟩ | q
      · rw [q] at hp1 ⊢; exact hp1
      · rw [q] at hp1 ⊢; exact hp1
      · rw [q] at hp1 ⊢; exact hp1
/-- x op= e -/
def augS (g : G2) (i : Nat) (f : Sem D) : SemS := thenS (op2 g (vE i) f) fun d r S => .nx (r.set i (some d)) S

/-! ### loops -/
def loopS (t : Tgt) (b : SemS) : List D → SemS
  | [], r, S => .nx r S
  | d :: ds, r, S => match t.set d r with
    | none => .stuck
    | some r1 => match b r1 S with
      | .nx r2 S2 => loopS t b ds r2 S2
      | .ct r2 S2 => loopS t b ds r2 S2
      | .brk r2 S2 => .nx r2 S2
      | o => o
def forS (it : Sem (List D)) (t : Tgt) (b : SemS) : SemS := thenS it fun ds => loopS t b ds
theorem wpI_stepS {K : PySem.W.Frag} {f : Sem (List D)} {g : List D → SemS} {Dn : Ends} {Q1 : It → Hp → Prop} {F G H : Hp} {l : List Addr} {r : Env} {S : Store} {σ : St} (hr : HRel K T F G l S H) (hs : Sl K F l r σ)
    (hp : PostS K T W F G l Dn (thenS f g r S))
    (k : ∀ F' l' S' ds J H', Later K T F G l F' l' S' H' → Sl K F' l' r σ → ItOk K T J F' l' ds → PostS K T W F' G l' Dn (g ds r S') → Q1 J H') : wpI K T W f σ H Q1 := by
  refine ⟨F, G, l, r, S, hr, hs, ?_⟩
  unfold thenS at hp
  cases e : f r S with
  | ok a S' =>
    rw [e] at hp
    exact fun F' l' H' b lt q => k F' l' S' a b H' lt (hs.mono lt.le lt.pre) q (hp.mono lt.le lt.pre)
  | err c S' =>
    rw [e] at hp
    exact fun F' l' H' lt => hp F' l' σ H' lt (hs.mono lt.le lt.pre)
  | stuck => rw [e] at hp; exact hp
theorem for_wp {K : PySem.W.Frag} {it : Sem (List D)} {t : Tgt} {b : SemS} {Dn : Ends} {σ : St} {H : Hp} (h : wpS K T W (forS it t b) Dn σ H) : tFor (wpI K T W it) (t.rd K) (wpS K T W b) Dn σ H := by
  obtain ⟨F, G, l, r, S, hr, hs, hp⟩ := h
  refine wpI_stepS hr hs hp fun F1 l1 S1 ds J H1 lt1 hs1 iok hp1 => ?_
  let Iv : Nat → St → Hp → Prop := fun i σ H => i ≤ ds.length ∧ ∃ F2 l2 S2 r2, Le F1 F2 ∧ Pre l1 l2 ∧ HRel K T F2 G l2 S2 H ∧ Sl K F2 l2 r2 σ ∧ PostS K T W F2 G l2 Dn (loopS t b (ds.drop i) r2 S2)
  refine ⟨fun i m σ H => m = ds.length - i ∧ Iv i σ H, ⟨ds.length, by simp, Nat.zero_le _, F1, l1, S1, r, Le.refl _, Pre.refl _, lt1.rel, hs1, hp1⟩, ?_⟩
  rintro i m σ2 H2 ⟨rfl, hi, F2, l2, S2, r2, le2, pre2, hr2, hs2, hg⟩
  by_cases hlt : i < ds.length
  · refine .inr ⟨iok.go F2 _ l2 S2 H2 i le2 pre2 hr2 hlt, Iv (i + 1), fun σ' H' hN => ⟨ds.length - (i + 1), by omega, rfl, hN⟩, fun x H3 hy => ?_⟩
    obtain ⟨F3, d, lt3, hd, hx⟩ := iok.yld F2 _ l2 S2 H2 i x H3 le2 pre2 hr2 hlt hy
    have hdrop : ds.drop i = d :: ds.drop (i + 1) := by
      rw [List.drop_eq_getElem_cons hlt]
      have : ds[i] = d := by
        rw [List.getElem?_eq_getElem hlt] at hd
        exact Option.some.inj hd
      rw [this]
    rw [hdrop] at hg
    unfold loopS at hg
    cases e1 : t.set d r2 with
    | none => rw [e1] at hg; exact hg.elim
    | some r1 =>
      rw [e1] at hg
      simp only at hg
      refine Tgt.run lt3.rel (hs2.mono lt3.le lt3.pre) hx e1 fun σ3 hs3 hw => ⟨F3, G, l2, r1, S2, lt3.rel, hs3, ?_⟩
      cases e2 : b r1 S2 with
      | nx r4 S4 =>
        rw [e2] at hg
        exact fun F4 l4 σ4 H4 lt4 hs4 => ⟨hlt, F4, l4, S4, r4, le2.trans (lt3.le.trans lt4.le), pre2.trans lt4.pre, lt4.rel, hs4, hg.mono (lt3.le.trans lt4.le) lt4.pre⟩
      | ct r4 S4 =>
        rw [e2] at hg
        exact fun F4 l4 σ4 H4 lt4 hs4 => ⟨hlt, F4, l4, S4, r4, le2.trans (lt3.le.trans lt4.le), pre2.trans lt4.pre, lt4.rel, hs4, hg.mono (lt3.le.trans lt4.le) lt4.pre⟩
      | brk r4 S4 => rw [e2] at hg; exact hg.mono lt3.le lt3.pre
      | ret d4 S4 => rw [e2] at hg; exact hg.mono lt3.le lt3.pre
      | err c4 r4 S4 => rw [e2] at hg; exact hg.mono lt3.le lt3.pre
      | stuck => rw [e2] at hg; exact hg.elim
  · have ei : i = ds.length := by omega
    subst ei
    refine .inl ⟨iok.stop F2 _ l2 S2 H2 le2 pre2 hr2, ?_⟩
    rw [List.drop_length] at hg
    exact hg F2 l2 σ2 H2 (Later.refl hr2) hs2
theorem pds_for {tg iter : Expr} {body : List Stmt} {it : Sem (List D)} {t : Tgt} {b : SemS} (hc : Ctx X W k) (hi : PDI X T W tg iter it) (hg : PG X tg (t.rd X.K)) (hb : PDB X T W body b) (hfs : ∀ x, foldedSetIterable iter X.env x = pure x := by intro _; rfl) : PDS X T W (.For tg iter body [] pos) (forS it t b) :=
  PS.imp (ps_for hc.po hc.calm hi hg hb hfs) fun _ _ _ q => for_wp q
def whileS (c : Sem Bool) (b : SemS) : Nat → SemS
  | 0, _, _ => .stuck
  | n + 1, r, S => match c r S with
    | .ok true S1 => match b r S1 with
      | .nx r2 S2 => whileS c b n r2 S2
      | .ct r2 S2 => whileS c b n r2 S2
      | .brk r2 S2 => .nx r2 S2
      | o => o
    | .ok false S1 => .nx r S1
    | .err c S1 => .err c r S1
    | .stuck => .stuck
theorem while_wp {K : PySem.W.Frag} {c : Sem Bool} {b : SemS} {n : Nat} {Dn : Ends} {σ : St} {H : Hp} (h : wpS K T W (whileS c b n) Dn σ H) : tWhile (wp K T W rT c) (wpS K T W b) Dn σ H := by
  obtain ⟨F, G, l, r, S, hr, hs, hp⟩ := h
  let Iv : Nat → St → Hp → Prop := fun m σ H => ∃ F2 l2 S2 r2, Le F F2 ∧ Pre l l2 ∧ HRel K T F2 G l2 S2 H ∧ Sl K F2 l2 r2 σ ∧ PostS K T W F2 G l2 Dn (whileS c b m r2 S2)
  refine ⟨Iv, ⟨n, F, l, S, r, Le.refl _, Pre.refl _, hr, hs, hp⟩, ?_⟩
  rintro m σ2 H2 ⟨F2, l2, S2, r2, le2, pre2, hr2, hs2, hg⟩
  cases m with
  | zero => exact hg.elim
  | succ m =>
    unfold whileS at hg
    refine ⟨F2, G, l2, r2, S2, hr2, hs2, ?_⟩
    cases e1 : c r2 S2 with
    | err c' S' =>
      rw [e1] at hg
      exact fun F' l' H' lt => hg F' l' σ2 H' lt (hs2.mono lt.le lt.pre)
    | stuck => rw [e1] at hg; exact hg
    | ok bb S3 =>
      rw [e1] at hg
      intro F3 l3 H3 b' lt3 hb'
      have hb' : b' = bb := hb'
      subst hb'
      cases b' with
      | false =>
        rw [if_neg Bool.false_ne_true]
        exact hg F3 l3 σ2 H3 lt3 (hs2.mono lt3.le lt3.pre)
      | true =>
        rw [if_pos rfl]
        refine ⟨Iv m, fun σ' H' hN => ⟨m, Nat.lt_succ_self m, hN⟩, F3, G, l3, r2, S3, lt3.rel, hs2.mono lt3.le lt3.pre, ?_⟩
        simp only at hg
        cases e2 : b r2 S3 with
        | nx r4 S4 =>
          rw [e2] at hg
          exact fun F4 l4 σ4 H4 lt4 hs4 => ⟨F4, l4, S4, r4, le2.trans (lt3.le.trans lt4.le), pre2.trans (lt3.pre.trans lt4.pre), lt4.rel, hs4, hg.mono (lt3.le.trans lt4.le) (lt3.pre.trans lt4.pre)⟩
        | ct r4 S4 =>
          rw [e2] at hg
          exact fun F4 l4 σ4 H4 lt4 hs4 => ⟨F4, l4, S4, r4, le2.trans (lt3.le.trans lt4.le), pre2.trans (lt3.pre.trans lt4.pre), lt4.rel, hs4, hg.mono (lt3.le.trans lt4.le) (lt3.pre.trans lt4.pre)⟩
        | brk r4 S4 => rw [e2] at hg; exact hg.mono lt3.le lt3.pre
        | ret d4 S4 => rw [e2] at hg; exact hg.mono lt3.le lt3.pre
        | err c4 r4 S4 => rw [e2] at hg; exact hg.mono lt3.le lt3.pre
        | stuck => rw [e2] at hg; exact hg.elim
theorem pds_while (n : Nat) {c : Expr} {body : List Stmt} {fc : Sem Bool} {b : SemS} (hc : Ctx X W k) (h : PDT X T W c fc) (hb : PDB X T W body b) : PDS X T W (.While c body [] pos) (whileS fc b n) :=
  PS.imp (ps_while hc.po h hb) fun _ _ _ q => while_wp q
end
end Aw

/-! Aw5: operators on plain data. -/
namespace Aw
open PySem L2 LamX

/-! ### lists that are read -/
def lstOf (S : Store) : D → Option (List D)
  | .lst ds => some ds
  | .loc n => match S[n]? with
    | some (.lst ds) => some ds
    | some (.fz (.lst ds)) => some ds
    | _ => none
  | _ => none
theorem lstOf_at {K : PySem.W.Frag} {T : List (Addr × Str)} {F G H : Hp} {l : List Addr} {S : Store} (hr : HRel K T F G l S H) {d : D} {ds : List D} {v : V} (hv : At K F l d v) (e : lstOf S d = some ds) :
    ∃ a vs, v = .ref a ∧ H a = some (.lst vs) ∧ AtL K F l ds vs ∧ ds.length ≤ sizeLine := by
  cases d with
  | lst es =>
    cases e
    obtain ⟨a, vs, rfl, h1, h2, h3⟩ := hv
    exact ⟨a, vs, rfl, hr.fz _ _ h1, h3, h2⟩
  | loc n =>
    obtain ⟨a, h1, rfl⟩ := hv
    simp only [lstOf] at e
    split at e
    · rename_i q
      cases e
      obtain ⟨a', h2, h3⟩ := hr.cell n _ q
      rw [h1] at h2; cases h2
      obtain ⟨_, h4, vs, h5, h6⟩ := h3
      exact ⟨a, vs, rfl, h5, h6, h4⟩
    · rename_i q
      cases e
      obtain ⟨a', h2, h3⟩ := hr.cell n _ q
      rw [h1] at h2; cases h2
      obtain ⟨a, vs, h0, h1, h2, h3⟩ := h3
      cases h0
      exact ⟨_, vs, rfl, hr.fz _ _ h1, h3, h2⟩
    · cases e
  | _ => cases e
/-- a list or a tuple -/
def seqOf (S : Store) : D → Option (List D)
  | .tup ds => some ds
  | d => lstOf S d
theorem seqOf_at {K : PySem.W.Frag} {T : List (Addr × Str)} {F G H : Hp} {l : List Addr} {S : Store} (hr : HRel K T F G l S H) {d : D} {ds : List D} {v : V} (hv : At K F l d v) (e : seqOf S d = some ds) :
    ∃ a vs, v = .ref a ∧ (H a = some (.lst vs) ∨ H a = some (.tup vs)) ∧ AtL K F l ds vs ∧ ds.length ≤ sizeLine := by
  by_cases ht : ∃ es, d = .tup es
  · obtain ⟨es, rfl⟩ := ht
    cases e
    obtain ⟨a, vs, rfl, h1, h2, h3⟩ := hv
    exact ⟨a, vs, rfl, .inr (hr.fz _ _ h1), h3, h2⟩
  · have e : lstOf S d = some ds := by
      cases d with
      | tup es => exact absurd ⟨es, rfl⟩ ht
      | _ => exact e
    obtain ⟨a, vs, h1, h2, h3, h4⟩ := lstOf_at hr hv e
    exact ⟨a, vs, h1, .inl h2, h3, h4⟩

/-! ### building rules -/
def orG (g h : G2) : G2 := fun S a b => match g S a b with
  | some q => some q
  | none => h S a b
theorem OpD.or {K : PySem.W.Frag} {T : List (Addr × Str)} {r r' : R2} {g h : G2} (a : OpD K T r g) (b : OpD K T r' h) : OpD K T (fun x y H Q => r x y H Q ∨ r' x y H Q) (orG g h) := by
  intro F G l S H d e z S' x y Q hr hd he q k
  unfold orG at q
  cases e1 : g S d e with
  | some p =>
    rw [e1] at q; cases q
    exact .inl (a F G l S H d e z S' x y Q hr hd he e1 k)
  | none =>
    rw [e1] at q
    exact .inr (b F G l S H d e z S' x y Q hr hd he q k)
/-- two ints -/
def intG (c : Int → Int → Bool) (f : Int → Int → D) : G2 := fun S a b => match a, b with
  | .int i, .int j => if c i j then some (f i j, S) else none
  | _, _ => none
theorem intG_iff {c : Int → Int → Bool} {f : Int → Int → D} {S S' : Store} {a b d : D} (h : intG c f S a b = some (d, S')) : ∃ i j, a = .int i ∧ b = .int j ∧ c i j = true ∧ d = f i j ∧ S' = S := by
  unfold intG at h
  split at h
  · split at h
    · cases h; rename_i hc; exact ⟨_, _, rfl, rfl, hc, rfl, rfl⟩
    · cases h
  · cases h
theorem opd_int0 {K : PySem.W.Frag} {T : List (Addr × Str)} {f : Int → Int → V} {g : Int → Int → D} (hfg : ∀ F l i j, At K F l (g i j) (f i j)) : OpD K T (rI0 f) (intG (fun _ _ => true) g) := by
  intro F G l S H a b d S' x y Q hr ha hb e k
  obtain ⟨i, j, rfl, rfl, _, rfl, rfl⟩ := intG_iff e
  cases ha; cases hb
  exact ⟨i, j, rfl, rfl, k F l H _ (Later.refl hr) (hfg F l i j)⟩
theorem opd_int {K : PySem.W.Frag} {T : List (Addr × Str)} {C : Int → Int → Prop} {c : Int → Int → Bool} {f : Int → Int → V} {g : Int → Int → D} (hc : ∀ i j, c i j = true → C i j) (hfg : ∀ F l i j, At K F l (g i j) (f i j)) : OpD K T (rI C f) (intG c g) := by
  intro F G l S H a b d S' x y Q hr ha hb e k
  obtain ⟨i, j, rfl, rfl, h, rfl, rfl⟩ := intG_iff e
  cases ha; cases hb
  exact ⟨i, j, rfl, rfl, hc i j h, k F l H _ (Later.refl hr) (hfg F l i j)⟩

/-! ### arithmetic -/
def addI : G2 := intG (fun _ _ => true) fun i j => .int (i + j)
def subI : G2 := intG (fun _ _ => true) fun i j => .int (i - j)
/-- one factor below 2^64, or both below 2^4000 -/
def mulOk (i j : Int) : Bool := decide (j.natAbs < 18446744073709551616) || decide (i.natAbs < 18446744073709551616) || (decide (i.natAbs.log2 < 400000) && decide (j.natAbs.log2 < 400000))
def mulI : G2 := intG mulOk fun i j => .int (i * j)
def fdivI : G2 := intG (fun _ j => decide (0 < j) && decide (j.natAbs.log2 < 9000)) fun i j => .int (i / j)
def modI : G2 := intG (fun _ j => decide (0 < j)) fun i j => .int (i % j)
def powI : G2 := intG (fun i j => decide (0 ≤ j) && decide (j ≤ 1000000) && decide (i.natAbs < 18446744073709551616)) fun i j => .int (i ^ j.toNat)
def shlI : G2 := intG (fun i j => decide (0 ≤ j) && decide (j ≤ 1000000) && decide (i.natAbs < 18446744073709551616)) fun i j => .int (i * 2 ^ j.toNat)
def shrI : G2 := intG (fun _ j => decide (0 ≤ j)) fun i j => .int (i / 2 ^ j.toNat)
def ltI : G2 := intG (fun _ _ => true) fun i j => .bl (decide (i < j))
def leI : G2 := intG (fun _ _ => true) fun i j => .bl (decide (i ≤ j))
def gtI : G2 := intG (fun _ _ => true) fun i j => .bl (decide (j < i))
def geI : G2 := intG (fun _ _ => true) fun i j => .bl (decide (j ≤ i))
section
variable {K : PySem.W.Frag} {T : List (Addr × Str)}
theorem opd_addI : OpD K T (rI0 fun i j => .int (i + j)) addI := opd_int0 fun _ _ _ _ => rfl
theorem opd_subI : OpD K T (rI0 fun i j => .int (i - j)) subI := opd_int0 fun _ _ _ _ => rfl
theorem opd_ltI : OpD K T (rI0 fun i j => .bl (decide (i < j))) ltI := opd_int0 fun _ _ _ _ => rfl
theorem opd_leI : OpD K T (rI0 fun i j => .bl (decide (i ≤ j))) leI := opd_int0 fun _ _ _ _ => rfl
theorem opd_gtI : OpD K T (rI0 fun i j => .bl (decide (j < i))) gtI := opd_int0 fun _ _ _ _ => rfl
theorem opd_geI : OpD K T (rI0 fun i j => .bl (decide (j ≤ i))) geI := opd_int0 fun _ _ _ _ => rfl
theorem opd_fdivI : OpD K T (rI CDivW fun i j => .int (i / j)) fdivI := opd_int (fun i j h => by
  simp only [Bool.and_eq_true, decide_eq_true_eq] at h
  exact h) fun _ _ _ _ => rfl
theorem opd_modI : OpD K T (rI (fun _ j => 0 < j) fun i j => .int (i % j)) modI := opd_int (fun i j h => by simpa using h) fun _ _ _ _ => rfl
theorem opd_powI : OpD K T (rI CPow fun i j => .int (i ^ j.toNat)) powI := opd_int (fun i j h => by
  simp only [Bool.and_eq_true, decide_eq_true_eq] at h
  exact ⟨h.1.1, h.1.2, h.2⟩) fun _ _ _ _ => rfl
theorem opd_shlI : OpD K T (rI CPow fun i j => .int (i * 2 ^ j.toNat)) shlI := opd_int (fun i j h => by
  simp only [Bool.and_eq_true, decide_eq_true_eq] at h
  exact ⟨h.1.1, h.1.2, h.2⟩) fun _ _ _ _ => rfl
theorem opd_shrI : OpD K T (rI (fun _ j => 0 ≤ j) fun i j => .int (i / 2 ^ j.toNat)) shrI := opd_int (fun i j h => by simpa using h) fun _ _ _ _ => rfl
/-- * as the model lets it -/
def CMulA (i j : Int) : Prop := CMul i j ∨ CMulW i j
theorem opd_mulI : OpD K T (fun x y H Q => rI CMul (fun i j => .int (i * j)) x y H Q ∨ rI CMulW (fun i j => .int (i * j)) x y H Q) mulI := by
  intro F G l S H a b d S' x y Q hr ha hb e k
  obtain ⟨i, j, rfl, rfl, h, rfl, rfl⟩ := intG_iff e
  cases ha; cases hb
  have q : Q (.int (i * j)) H := k F l H _ (Later.refl hr) rfl
  simp only [mulOk, Bool.or_eq_true, Bool.and_eq_true, decide_eq_true_eq] at h
  rcases h with (h | h) | h
  · exact .inl ⟨i, j, rfl, rfl, .inr (by omega), q⟩
  · exact .inl ⟨i, j, rfl, rfl, .inl (by omega), q⟩
  · exact .inr ⟨i, j, rfl, rfl, by unfold CMulW; omega, q⟩
end

/-! ### + and * of lists and tuples, + of texts -/
def addT : G2 := fun S a b => match a, b with
  | .tup xs, .tup ys => if xs.length + ys.length ≤ 100000 then some (.tup (xs ++ ys), S) else none
  | _, _ => none
def addL : G2 := fun S a b => match lstOf S a, lstOf S b with
  | some xs, some ys => if xs.length + ys.length ≤ 100000 then some (.lst (xs ++ ys), S) else none
  | _, _ => none
/-- .. into a new cell -/
def addLC : G2 := fun S a b => match lstOf S a, lstOf S b with
  | some xs, some ys => if xs.length + ys.length ≤ 100000 then some (.loc S.length, S ++ [.lst (xs ++ ys)]) else none
  | _, _ => none
def repL : G2 := fun S a b => match lstOf S a, b with
  | some xs, .int k => if xs.length * k.toNat ≤ 100000 ∧ -(2 ^ 63) ≤ k ∧ k < 2 ^ 63 then some (.lst (List.replicate k.toNat xs).flatten, S) else none
  | _, _ => none
def repLC : G2 := fun S a b => match lstOf S a, b with
  | some xs, .int k => if xs.length * k.toNat ≤ 100000 ∧ -(2 ^ 63) ≤ k ∧ k < 2 ^ 63 then some (.loc S.length, S ++ [.lst (List.replicate k.toNat xs).flatten]) else none
  | _, _ => none
section
variable {K : PySem.W.Frag} {T : List (Addr × Str)}
theorem later_new {F G H : Hp} {l : List Addr} {S : Store} {p : Addr} {o : HO} (hr : HRel K T F G l S H) (hp : H p = none) : Later K T F G l (upd F p o) l S (upd H p o) := ⟨Le.new (hr.fnone hp), Pre.refl _, hr.newF hp⟩
theorem opd_addT : OpD K T (rCatA K) addT := by
  intro F G l S H a b d S' x y Q hr ha hb e k
  unfold addT at e
  split at e
  · split at e
    · rename_i xs ys hl
      cases e
      obtain ⟨p, vs, rfl, h1, h2, h3⟩ := ha
      obtain ⟨q, us, rfl, h4, h5, h6⟩ := hb
      have e1 := h3.length
      have e2 := h6.length
      refine ⟨p, q, vs, us, rfl, rfl, .of (hr.fz _ _ h1), .of (hr.fz _ _ h4), by rw [e1, e2]; exact sz_of hl, fun hv => ?_, fun hv hu => ?_, fun hv hu t ht => ?_⟩
      · subst hv
        have : xs = [] := List.eq_nil_of_length_eq_zero (by simpa using e1.symm)
        subst this
        exact k F l H _ (Later.refl hr) ⟨q, us, rfl, h4, h5, h6⟩
      · subst hu
        have : ys = [] := List.eq_nil_of_length_eq_zero (by simpa using e2.symm)
        subst this
        refine k F l H _ (Later.refl hr) ⟨p, vs, rfl, h1, ?_, ?_⟩
        · rw [List.append_nil]; exact h2
        · rw [List.append_nil]; exact h3
      · refine k _ l _ _ (later_new (o := .tup (vs ++ us)) hr ht) ⟨t, vs ++ us, rfl, upd_same, by rw [List.length_append]; exact sz_of hl, ?_⟩
        have le : Le F (upd F t (.tup (vs ++ us))) := Le.new (hr.fnone ht)
        exact (AtL.mono le (Pre.refl _) _ _ h3).append (AtL.mono le (Pre.refl _) _ _ h6)
    · cases e
  · cases e
theorem opd_addL : OpD K T rCat addL := by
  intro F G l S H a b d S' x y Q hr ha hb e k
  unfold addL at e
  split at e
  · rename_i xs ys e1 e2
    split at e
    · rename_i hl
      cases e
      obtain ⟨p, vs, rfl, h1, h2, h3⟩ := lstOf_at hr ha e1
      obtain ⟨q, us, rfl, h4, h5, h6⟩ := lstOf_at hr hb e2
      have l1 := h2.length
      have l2 := h5.length
      refine ⟨p, q, vs, us, rfl, rfl, h1, h4, by rw [l1, l2]; exact sz_of hl, fun t ht => ?_⟩
      have le : Le F (upd F t (.lst (vs ++ us))) := Le.new (hr.fnone ht)
      exact k _ l _ _ (later_new (o := .lst (vs ++ us)) hr ht) ⟨t, vs ++ us, rfl, upd_same, by rw [List.length_append]; exact sz_of hl, (AtL.mono le (Pre.refl _) _ _ h2).append (AtL.mono le (Pre.refl _) _ _ h5)⟩
    · cases e
  · cases e
theorem later_cell {F G H : Hp} {l : List Addr} {S : Store} {p : Addr} {ds : List D} {vs : List V} (hr : HRel K T F G l S H) (hp : H p = none) (ha : AtL K F l ds vs) (hl : ds.length ≤ sizeLine) :
    Later K T F G l F (l ++ [p]) (S ++ [.lst ds]) (upd H p (.lst vs)) ∧ At K F (l ++ [p]) (.loc S.length) (.ref p) := by
  refine ⟨⟨Le.refl F, Pre.app _ _, hr.newC (o := .lst vs) (c := .lst ds) hp rfl ⟨hr.fnone hp, hl, vs, upd_same, AtL.mono (Le.refl F) (Pre.app _ _) _ _ ha⟩⟩, p, ?_, rfl⟩
  rw [← hr.len]; simp
theorem opd_addLC : OpD K T rCat addLC := by
  intro F G l S H a b d S' x y Q hr ha hb e k
  unfold addLC at e
  split at e
  · rename_i xs ys e1 e2
    split at e
    · rename_i hl
      cases e
      obtain ⟨p, vs, rfl, h1, h2, h3⟩ := lstOf_at hr ha e1
      obtain ⟨q, us, rfl, h4, h5, h6⟩ := lstOf_at hr hb e2
      have l1 := h2.length
      have l2 := h5.length
      refine ⟨p, q, vs, us, rfl, rfl, h1, h4, by rw [l1, l2]; exact sz_of hl, fun t ht => ?_⟩
      obtain ⟨lt, at_⟩ := later_cell hr ht (h2.append h5) (by rw [List.length_append]; exact sz_of hl)
      exact k _ _ _ _ lt at_
    · cases e
  · cases e
theorem flat_at {F : Hp} {l : List Addr} {ds : List D} {vs : List V} (h : AtL K F l ds vs) : ∀ n : Nat, AtL K F l (List.replicate n ds).flatten (List.replicate n vs).flatten
  | 0 => rfl
  | n + 1 => by
    rw [List.replicate_succ, List.replicate_succ, List.flatten_cons, List.flatten_cons]
    exact h.append (flat_at h n)
theorem flat_len {α : Type} (xs : List α) : ∀ n : Nat, (List.replicate n xs).flatten.length = xs.length * n
  | 0 => rfl
  | n + 1 => by
    rw [List.replicate_succ, List.flatten_cons, List.length_append, flat_len xs n, Nat.mul_succ]; omega
theorem opd_repL : OpD K T rRep repL := by
  intro F G l S H a b d S' x y Q hr ha hb e k
  unfold repL at e
  split at e
  · rename_i xs n e1
    split at e
    · rename_i hl
      cases e
      obtain ⟨p, vs, rfl, h1, h2, h3⟩ := lstOf_at hr ha e1
      cases hb
      have l1 := h2.length
      refine ⟨p, n, vs, rfl, rfl, h1, hl.2.1, hl.2.2, by rw [l1]; exact sz_of hl.1, fun t ht => ?_⟩
      have le : Le F (upd F t (.lst (List.replicate n.toNat vs).flatten)) := Le.new (hr.fnone ht)
      exact k _ l _ _ (later_new (o := .lst (List.replicate n.toNat vs).flatten) hr ht) ⟨t, _, rfl, upd_same, by rw [flat_len]; exact sz_of hl.1, AtL.mono le (Pre.refl _) _ _ (flat_at h2 _)⟩
    · cases e
  · cases e
theorem opd_repLC : OpD K T rRep repLC := by
  intro F G l S H a b d S' x y Q hr ha hb e k
  unfold repLC at e
  split at e
  · rename_i xs n e1
    split at e
    · rename_i hl
      cases e
      obtain ⟨p, vs, rfl, h1, h2, h3⟩ := lstOf_at hr ha e1
      cases hb
      have l1 := h2.length
      refine ⟨p, n, vs, rfl, rfl, h1, hl.2.1, hl.2.2, by rw [l1]; exact sz_of hl.1, fun t ht => ?_⟩
      obtain ⟨lt, at_⟩ := later_cell hr ht (flat_at h2 n.toNat) (by rw [flat_len]; exact sz_of hl.1)
      exact k _ _ _ _ lt at_
    · cases e
  · cases e

/-! ### items -/
theorem atI_at {F : Hp} {l : List Addr} {ds : List D} {vs : List V} {i : Int} {d : D} (h : AtL K F l ds vs) (e : atI ds i = some d) : ∃ v, atI vs i = some v ∧ At K F l d v := by
  unfold atI at e ⊢
  rw [h.length]
  cases q : ixN ds.length i with
  | none => rw [q] at e; cases e
  | some j =>
    rw [q] at e
    exact h.get e
def ixG : G2 := fun S a b => match seqOf S a, b with
  | some ds, .int i => match atI ds i with
    | some d => some (norm S d, S)
    | none => none
  | some _, _ => none
  | none, .int i => match a with
    | .scr ns => match atI ns i with
      | some n => some (.int n, S)
      | none => none
    | _ => none
  | none, _ => none
theorem atI_map {α β : Type} (f : α → β) (xs : List α) (i : Int) : atI (xs.map f) i = (atI xs i).map f := by
  unfold atI
  rw [List.length_map]
  cases ixN xs.length i <;> simp
theorem opd_ix : OpD K T (rIx K) ixG := by
  intro F G l S H a b d S' x y Q hr ha hb e k
  unfold ixG at e
  split at e
  · rename_i ds i e1
    split at e
    · rename_i d' e2
      cases e
      obtain ⟨p, vs, rfl, h1, h2, h3⟩ := seqOf_at hr ha e1
      cases hb
      obtain ⟨v, q1, q2⟩ := atI_at h2 e2
      have q : Q v H := k F l H v (Later.refl hr) (norm_at hr q2)
      rcases h1 with h1 | h1
      · exact .inl ⟨p, vs, i, v, rfl, rfl, .of h1, q1, q⟩
      · exact .inr (.inl ⟨p, vs, i, v, rfl, rfl, .of h1, q1, q⟩)
    · cases e
  · cases e
  · rename_i i e1
    split at e
    · split at e
      · rename_i ns n e2
        cases e
        obtain ⟨p, rfl, h1, h2⟩ := ha
        cases hb
        refine .inl ⟨p, _, i, .int n, rfl, rfl, sql_le hr.fw h1, ?_, k F l H _ (Later.refl hr) rfl⟩
        rw [atI_map, e2]; rfl
      · cases e
    · cases e
  · cases e
end
end Aw

/-! Aw6: comparisons, slices, methods, built-ins on plain data. -/
namespace Aw
open PySem L2 LamX

/-! ### == of data at any depth -/
mutual
def pyD (f : Nat → Option PyData) : D → Option PyData
  | .non => some .none
  | .bl b => some (.bool b)
  | .int i => some (.int i)
  | .str x => some (.str x)
  | .tup ds => (pyL f ds).map .tuple
  | .lst ds => (pyL f ds).map .list
  | .dct _ _ _ => none
  | .loc n => f n
  | .scr _ => none
  | .fn _ => none
def pyL (f : Nat → Option PyData) : List D → Option (List PyData)
  | [] => some []
  | d :: ds => match pyD f d, pyL f ds with
    | some p, some ps => some (p :: ps)
    | _, _ => none
end
def pyLoc (S : Store) : Nat → Nat → Option PyData
  | 0, _ => none
  | k + 1, n => match S[n]? with
    | some (.lst ds) => (pyL (pyLoc S k) ds).map .list
    | some (.fz d) => pyD (pyLoc S k) d
    | _ => none
def pyS (S : Store) (d : D) : Option PyData := pyD (pyLoc S 4) d
section
variable {K : PySem.W.Frag} {T : List (Addr × Str)} {F G H : Hp} {l : List Addr} {S : Store}
mutual
theorem pyD_at (hr : HRel K T F G l S H) {f : Nat → Option PyData} (hf : ∀ n p v, f n = some p → At K F l (.loc n) v → Dp K H v p) : ∀ (d : D) (v : V) (p : PyData), At K F l d v → pyD f d = some p → Dp K H v p
  | .non, v, p, h, e => by cases h; cases e; exact .non
  | .bl b, v, p, h, e => by cases h; cases e; exact .bl b
  | .int i, v, p, h, e => by cases h; cases e; exact .int i
  | .str x, v, p, h, e => by cases h; cases e; exact .str x
  | .tup ds, v, p, h, e => by
    obtain ⟨a, vs, rfl, h1, h2, h3⟩ := h
    simp only [pyD] at e
    cases q : pyL f ds with
    | none => rw [q] at e; cases e
    | some ps =>
      rw [q] at e; cases e
      exact .tup (.of (hr.fz _ _ h1)) (pyL_at hr hf ds vs ps h3 q)
  | .lst ds, v, p, h, e => by
    obtain ⟨a, vs, rfl, h1, h2, h3⟩ := h
    simp only [pyD] at e
    cases q : pyL f ds with
    | none => rw [q] at e; cases e
    | some ps =>
      rw [q] at e; cases e
      exact .lst (.of (hr.fz _ _ h1)) (pyL_at hr hf ds vs ps h3 q)
  | .dct _ _ _, v, p, h, e => by cases e
  | .loc n, v, p, h, e => hf n p v e h
  | .scr _, v, p, h, e => by cases e
  | .fn _, v, p, h, e => by cases e
theorem pyL_at (hr : HRel K T F G l S H) {f : Nat → Option PyData} (hf : ∀ n p v, f n = some p → At K F l (.loc n) v → Dp K H v p) : ∀ (ds : List D) (vs : List V) (ps : List PyData), AtL K F l ds vs → pyL f ds = some ps → DpAll K H vs ps
  | [], vs, ps, h, e => by cases h; cases e; exact .nil
  | d :: ds, vs, ps, h, e => by
    obtain ⟨v, vs', rfl, h1, h2⟩ := h
    simp only [pyL] at e
    cases q1 : pyD f d with
    | none => rw [q1] at e; cases e
    | some p =>
      rw [q1] at e
      cases q2 : pyL f ds with
      | none => rw [q2] at e; cases e
      | some ps' =>
        rw [q2] at e; cases e
        exact .cons (pyD_at hr hf d v p h1 q1) (pyL_at hr hf ds vs' ps' h2 q2)
end
theorem pyLoc_at (hr : HRel K T F G l S H) : ∀ (k n : Nat) (p : PyData) (v : V), pyLoc S k n = some p → At K F l (.loc n) v → Dp K H v p
  | 0, n, p, v, e, h => by cases e
  | k + 1, n, p, v, e, h => by
    obtain ⟨a, h1, rfl⟩ := h
    simp only [pyLoc] at e
    split at e
    · rename_i ds q
      obtain ⟨a', h2, h3⟩ := hr.cell n _ q
      rw [h1] at h2; cases h2
      obtain ⟨_, h4, vs, h5, h6⟩ := h3
      cases q2 : pyL (pyLoc S k) ds with
      | none => rw [q2] at e; cases e
      | some ps =>
        rw [q2] at e; cases e
        exact .lst (.of h5) (pyL_at hr (pyLoc_at hr k) ds vs ps h6 q2)
    · rename_i d q
      obtain ⟨a', h2, h3⟩ := hr.cell n _ q
      rw [h1] at h2; cases h2
      exact pyD_at hr (pyLoc_at hr k) d _ p h3 e
    · cases e
theorem pyS_at (hr : HRel K T F G l S H) {d : D} {v : V} {p : PyData} (h : At K F l d v) (e : pyS S d = some p) : Dp K H v p := pyD_at hr (pyLoc_at hr 4) d v p h e
end
def eqB (S : Store) (a b : D) : Option Bool := match pyS S a, pyS S b with
  | some p, some q => if SeqAt.shaped p && SeqAt.shaped q then some (PyData.eqv p q) else none
  | _, _ => none
def eqG : G2 := fun S a b => (eqB S a b).map fun c => (.bl c, S)
def neG : G2 := fun S a b => (eqB S a b).map fun c => (.bl (!c), S)
/-! ### in -/
def inB (S : Store) (a b : D) : Option Bool := match pyS S a, seqOf S b with
  | some p, some ds => match pyL (pyLoc S 4) ds with
    | some qs => if SeqAt.shaped p && SeqAt.shaped (.list qs) then some (qs.any fun z => PyData.eqv z p) else none
    | none => none
  | _, _ => none
/-- where it is a tuple: flat things -/
def flatD : D → Bool
  | .non => true
  | .bl _ => true
  | .int _ => true
  | .str _ => true
  | _ => false
def eqF : D → D → Bool
  | .non, .non => true
  | .bl a, .bl b => a == b
  | .bl a, .int b => (if a then 1 else 0) == b
  | .int a, .bl b => a == (if b then 1 else 0)
  | .int a, .int b => a == b
  | .str a, .str b => a == b
  | _, _ => false
def inF (S : Store) (a b : D) : Option Bool := match seqOf S b with
  | some ds => if flatD a && ds.all flatD then some (ds.any fun y => eqF y a) else none
  | none => none
def inDeep (S : Store) (a b : D) : Option Bool := match pyS S a, lstOf S b with
  | some p, some ds => match pyL (pyLoc S 4) ds with
    | some qs => if SeqAt.shaped p && SeqAt.shaped (.list qs) then some (qs.any fun z => PyData.eqv z p) else none
    | none => none
  | _, _ => none
def boG (f : Store → D → D → Option Bool) (neg : Bool) : G2 := fun S a b => match f S a b with
  | some c => some (.bl (if neg then !c else c), S)
  | none => none
section
variable {K : PySem.W.Frag} {T : List (Addr × Str)}
theorem opd_eq : OpD K T (rEqD K) eqG := by
  intro F G l S H a b d S' x y Q hr ha hb e k
  unfold eqG eqB at e
  split at e
  · rename_i p q e1 e2
    split at e
    · rename_i hs
      simp only [Bool.and_eq_true] at hs
      cases e
      exact ⟨p, q, pyS_at hr ha e1, pyS_at hr hb e2, hs.1, hs.2, k F l H _ (Later.refl hr) rfl⟩
    · cases e
  · cases e
theorem opd_ne : OpD K T (rNeD K) neG := by
  intro F G l S H a b d S' x y Q hr ha hb e k
  unfold neG eqB at e
  split at e
  · rename_i p q e1 e2
    split at e
    · rename_i hs
      simp only [Bool.and_eq_true] at hs
      cases e
      exact ⟨p, q, pyS_at hr ha e1, pyS_at hr hb e2, hs.1, hs.2, k F l H _ (Later.refl hr) rfl⟩
    · cases e
  · cases e
theorem flatD_V {F : Hp} {l : List Addr} {d : D} {v : V} (h : At K F l d v) (f : flatD d = true) : flatV v = true := by
  cases d with
  | non => cases h; rfl
  | bl _ => cases h; rfl
  | int _ => cases h; rfl
  | str _ => cases h; rfl
  | _ => cases f
theorem eqF_V {F : Hp} {l : List Addr} {d e : D} {v w : V} (h : At K F l d v) (h' : At K F l e w) (f : flatD d = true) (f' : flatD e = true) : eqV v w = eqF d e := by
  cases d with
  | non => cases h; cases e with
    | non => cases h'; rfl
    | bl _ => cases h'; rfl
    | int _ => cases h'; rfl
    | str _ => cases h'; rfl
    | _ => cases f'
  | bl _ => cases h; cases e with
    | non => cases h'; rfl
    | bl _ => cases h'; rfl
    | int _ => cases h'; rfl
    | str _ => cases h'; rfl
    | _ => cases f'
  | int _ => cases h; cases e with
    | non => cases h'; rfl
    | bl _ => cases h'; rfl
    | int _ => cases h'; rfl
    | str _ => cases h'; rfl
    | _ => cases f'
  | str _ => cases h; cases e with
    | non => cases h'; rfl
    | bl _ => cases h'; rfl
    | int _ => cases h'; rfl
    | str _ => cases h'; rfl
    | _ => cases f'
  | _ => cases f
theorem anyF_V {F : Hp} {l : List Addr} {e : D} {w : V} (h' : At K F l e w) (f' : flatD e = true) : ∀ {ds : List D} {vs : List V}, AtL K F l ds vs → ds.all flatD = true → vs.all flatV = true ∧ inV w vs = ds.any fun y => eqF y e
  | [], vs, h, _ => by cases h; exact ⟨rfl, rfl⟩
  | d :: ds, vs, h, hf => by
    obtain ⟨v, vs', rfl, h1, h2⟩ := h
    simp only [List.all_cons, Bool.and_eq_true] at hf
    obtain ⟨i1, i2⟩ := anyF_V h' f' h2 hf.2
    refine ⟨by simp only [List.all_cons, Bool.and_eq_true]; exact ⟨flatD_V h1 hf.1, i1⟩, ?_⟩
    show (eqV v w || inV w vs') = _
    rw [i2, eqF_V h1 h' hf.1 f']; rfl
theorem opd_inF (neg : Bool) : OpD K T (rIn K neg) (boG inF neg) := by
  intro F G l S H a b d S' x y Q hr ha hb e k
  unfold boG inF at e
  split at e
  · rename_i c e1
    split at e1
    · rename_i ds e2
      split at e1
      · rename_i hf
        simp only [Bool.and_eq_true] at hf
        cases e1; cases e
        obtain ⟨p, vs, rfl, h1, h2, _⟩ := seqOf_at hr hb e2
        obtain ⟨h3, h4⟩ := anyF_V ha hf.1 h2 hf.2
        refine ⟨p, vs, rfl, ?_, flatD_V ha hf.1, h3, ?_⟩
        · rcases h1 with h1 | h1
          · exact .inl (.of h1)
          · exact .inr (.of h1)
        · rw [h4]
          exact k F l H _ (Later.refl hr) (by cases neg <;> rfl)
      · cases e1
    · cases e1
  · cases e
theorem opd_inD : OpD K T (rInD K) (boG inDeep false) := by
  intro F G l S H a b d S' x y Q hr ha hb e k
  unfold boG inDeep at e
  split at e
  · rename_i c e1
    split at e1
    · rename_i p ds e2 e3
      split at e1
      · rename_i qs e4
        split at e1
        · rename_i hs
          simp only [Bool.and_eq_true] at hs
          cases e1; cases e
          obtain ⟨q, vs, rfl, h1, h2, _⟩ := lstOf_at hr hb e3
          exact ⟨p, qs, pyS_at hr ha e2, .lst (.of h1) (pyL_at hr (pyLoc_at hr 4) ds vs qs h2 e4), hs.1, hs.2, k F l H _ (Later.refl hr) rfl⟩
        · cases e1
      · cases e1
    · cases e1
  · cases e
theorem opd_notInD : OpD K T (rNotInD K) (boG inDeep true) := by
  intro F G l S H a b d S' x y Q hr ha hb e k
  unfold boG inDeep at e
  split at e
  · rename_i c e1
    split at e1
    · rename_i p ds e2 e3
      split at e1
      · rename_i qs e4
        split at e1
        · rename_i hs
          simp only [Bool.and_eq_true] at hs
          cases e1; cases e
          obtain ⟨q, vs, rfl, h1, h2, _⟩ := lstOf_at hr hb e3
          exact ⟨p, qs, pyS_at hr ha e2, .lst (.of h1) (pyL_at hr (pyLoc_at hr 4) ds vs qs h2 e4), hs.1, hs.2, k F l H _ (Later.refl hr) rfl⟩
        · cases e1
      · cases e1
    · cases e1
  · cases e
/-! ### is -/
def isNonD : D → Bool
  | .non => true
  | _ => false
theorem isNon_V {F : Hp} {l : List Addr} {d : D} {v : V} (h : At K F l d v) : decide (v = .non) = isNonD d := by
  cases d with
  | non => cases h; rfl
  | bl _ => cases h; rfl
  | int _ => cases h; rfl
  | str _ => cases h; rfl
  | tup _ => obtain ⟨a, vs, rfl, _⟩ := h; rfl
  | lst _ => obtain ⟨a, vs, rfl, _⟩ := h; rfl
  | dct _ _ _ => obtain ⟨a, vs, rfl, _⟩ := h; rfl
  | loc _ => obtain ⟨a, _, rfl⟩ := h; rfl
  | scr _ => obtain ⟨a, rfl, _⟩ := h; rfl
  | fn a => cases h; rfl
def isN (neg : Bool) : G2 := fun S a b => match b with
  | .non => some (.bl (if neg then !isNonD a else isNonD a), S)
  | _ => none
theorem opd_isN : OpD K T (fun x y H Q => y = .non ∧ Q (.bl (decide (x = .non))) H) (isN false) := by
  intro F G l S H a b d S' x y Q hr ha hb e k
  unfold isN at e
  split at e
  · cases e; cases hb
    refine ⟨rfl, ?_⟩
    rw [isNon_V ha]
    exact k F l H _ (Later.refl hr) rfl
  · cases e
theorem opd_notN : OpD K T (fun x y H Q => y = .non ∧ Q (.bl (!decide (x = .non))) H) (isN true) := by
  intro F G l S H a b d S' x y Q hr ha hb e k
  unfold isN at e
  split at e
  · cases e; cases hb
    refine ⟨rfl, ?_⟩
    rw [isNon_V ha]
    exact k F l H _ (Later.refl hr) rfl
  · cases e
def isB (neg : Bool) : G2 := fun S a b => match a, b with
  | .bl a, .bl b => some (.bl (if neg then !decide (a = b) else decide (a = b)), S)
  | _, _ => none
theorem opd_isB : OpD K T rIsB (isB false) := by
  intro F G l S H a b d S' x y Q hr ha hb e k
  unfold isB at e
  split at e
  · cases e; cases ha; cases hb
    exact ⟨_, _, rfl, rfl, k F l H _ (Later.refl hr) rfl⟩
  · cases e
theorem opd_notB : OpD K T rNotB (isB true) := by
  intro F G l S H a b d S' x y Q hr ha hb e k
  unfold isB at e
  split at e
  · cases e; cases ha; cases hb
    exact ⟨_, _, rfl, rfl, k F l H _ (Later.refl hr) rfl⟩
  · cases e

/-! ### o[i] = v of a list's cell -/
theorem cell_lst {F G H : Hp} {l : List Addr} {S : Store} {n : Nat} {ds : List D} {x : V} (hr : HRel K T F G l S H) (hx : At K F l (.loc n) x) (e : S[n]? = some (.lst ds)) :
    ∃ p vs, x = .ref p ∧ H p = some (.lst vs) ∧ AtL K F l ds vs ∧ ds.length ≤ sizeLine ∧ ∀ ds' vs', AtL K F l ds' vs' → ds'.length ≤ sizeLine → Later K T F G l F l (S.set n (.lst ds')) (upd H p (.lst vs')) := by
  obtain ⟨p, h1, rfl⟩ := hx
  obtain ⟨p', h2, h3⟩ := hr.cell n _ e
  rw [h1] at h2; cases h2
  obtain ⟨h4, h5, vs, h6, h7⟩ := h3
  exact ⟨p, vs, rfl, h6, h7, h5, fun ds' vs' ha hl => ⟨Le.refl F, Pre.refl l, hr.setC h1 e h4 rfl ⟨h4, hl, vs', upd_same, ha⟩⟩⟩
def setL : GSet := fun S o i d => match o, i with
  | .loc n, .int k => match S[n]? with
    | some (.lst ds) => match ixN ds.length k with
      | some j => some (S.set n (.lst (ds.set j d)))
      | none => none
    | _ => none
  | _, _ => none
theorem setok_list : SetOk K T rSetL setL := by
  intro F G l S H o i d S' x y v Q hr hx hy hv e k
  unfold setL at e
  split at e
  · rename_i n j
    split at e
    · rename_i ds e1
      split at e
      · rename_i m e2
        cases e; cases hy
        obtain ⟨p, vs, rfl, h1, h2, h3, h4⟩ := cell_lst hr hx e1
        refine ⟨p, vs, j, m, rfl, rfl, h1, by rw [h2.length]; exact e2, ?_⟩
        exact k _ _ _ (h4 _ _ (h2.set hv m) (by rw [List.length_set]; exact h3))
      · cases e
    · cases e
  · cases e

/-! ### slices -/
def cutD (xs : List D) (lo hi : Option Int) : List D := (xs.drop (HT.sIx xs.length 0 lo)).take (HT.sIx xs.length xs.length hi - HT.sIx xs.length 0 lo)
theorem cutD_at {F : Hp} {l : List Addr} {ds : List D} {vs : List V} (h : AtL K F l ds vs) (lo hi : Option Int) : AtL K F l (cutD ds lo hi) (cutV vs lo hi) := by
  unfold cutD cutV
  rw [h.length]
  exact (h.drop _).take _
theorem cutD_len (xs : List D) (lo hi : Option Int) : (cutD xs lo hi).length ≤ xs.length := by
  unfold cutD
  rw [List.length_take, List.length_drop]; omega
end
/-- a part of a slice -/
def partO (f : Sem D) : Sem (Option Int) := bindO f fun d => match d with
  | .int i => retO (some i)
  | _ => fun _ _ => .stuck
def noPartO : Sem (Option Int) := retO none
def sliceE (g : Store → D → Option Int → Option Int → Option (D × Store)) (f : Sem D) (lo hi : Sem (Option Int)) : Sem D := bindO f fun a => bindO lo fun i => bindO hi fun j => fun _ S => stepO (g S a i j)
def rO : Rl (Option Int) (Option Int) := fun _ _ a b => b = a
def PDO (X : Cx) (T : List (Addr × Str)) (W : WX) (e : Option Expr) (f : Sem (Option Int)) : Prop := PO X e (wp X.K T W rO f)
theorem PO.imp {X : Cx} {e : Option Expr} {t t' : TO} (h : PO X e t) (k : ∀ σ H Q, t' σ H Q → t σ H Q) : PO X e t' := ⟨fun pins s σ H Q I q => h.run pins s σ H Q I (k σ H Q q)⟩
def SlD (K : PySem.W.Frag) (T : List (Addr × Str)) (r : V → Option Int → Option Int → Hp → VK → Prop) (g : Store → D → Option Int → Option Int → Option (D × Store)) : Prop :=
  ∀ F G l S H a i j d S' x (Q : VK), HRel K T F G l S H → At K F l a x → g S a i j = some (d, S') → (∀ F' l' H' v, Later K T F G l F' l' S' H' → At K F' l' d v → Q v H') → r x i j H Q
section
variable {X : Cx} {T : List (Addr × Str)} {W : WX} {pos p2 : Pos} {e : Expr} {lo hi : Option Expr}
theorem pdo_some {f : Sem D} (h : PD X T W e f) : PDO X T W (some e) (partO f) := PO.imp (po_some h) fun σ H Q ⟨F, G, l, r, S, hr, hs, hp⟩ =>
  wp_step (rl' := rO) hr hs hp fun F1 l1 S1 a x H1 lt hs1 ha hp1 => by
    cases a with
    | int i => cases ha; exact ⟨i, rfl, hp1 F1 l1 H1 _ (Later.refl lt.rel) rfl⟩
    | _ => exact hp1.elim
theorem pdo_none : PDO X T W none noPartO := PO.imp po_none fun σ H Q ⟨F, G, l, r, S, hr, hs, hp⟩ => hp F l H none (Later.refl hr) rfl
theorem pd_slice {r : V → Option Int → Option Int → Hp → VK → Prop} {g : Store → D → Option Int → Option Int → Option (D × Store)} {f : Sem D} {fl fh : Sem (Option Int)} (hr : SlR X r) (hg : SlD X.K T r g) (he : PD X T W e f) (hl : PDO X T W lo fl) (hh : PDO X T W hi fh) :
    PD X T W (.Subscript e (.Slice lo hi none p2) pos) (sliceE g f fl fh) := PE.imp (pe_slice hr he hl hh) fun σ H Q ⟨F, G, l, r0, S, hr, hs, hp⟩ => by
  refine wp_step hr hs hp fun F1 l1 S1 a x H1 lt1 hs1 ha hp1 => ?_
  refine wp_step (rl := rO) lt1.rel hs1 hp1 fun F2 l2 S2 i i' H2 lt2 hs2 hi hp2 => ?_
  refine wp_step (rl := rO) lt2.rel hs2 hp2 fun F3 l3 S3 j j' H3 lt3 hs3 hj hp3 => ?_
  have hi : i' = i := hi
  have hj : j' = j := hj
  subst hi hj
  cases e : g S3 a i' j' with
  | none => simp only [e, stepO] at hp3; exact hp3.elim
  | some q =>
    simp only [e, stepO] at hp3
    exact hg F3 G l3 S3 H3 a i' j' q.1 q.2 x Q lt3.rel (At.mono (lt2.le.trans lt3.le) (lt2.pre.trans lt3.pre) _ _ ha) e hp3
end
def slL : Store → D → Option Int → Option Int → Option (D × Store) := fun S a i j => match a with
  | .scr ns => some (.lst (cutD (ns.map D.int) i j), S)
  | a => match lstOf S a with
    | some ds => some (.lst (cutD ds i j), S)
    | none => none
section
variable {K : PySem.W.Frag} {T : List (Addr × Str)}
theorem sld_list : SlD K T (rSlL K) slL := by
  intro F G l S H a i j d S' x Q hr ha e k
  unfold slL at e
  split at e
  · rename_i ns
    cases e
    obtain ⟨p, rfl, h1, h2⟩ := ha
    refine ⟨p, _, rfl, sql_le hr.fw h1, fun t ht => ?_⟩
    have le : Le F (upd F t (.lst (cutV (ns.map V.int) i j))) := Le.new (hr.fnone ht)
    refine k _ l _ _ (later_new (o := .lst (cutV (ns.map V.int) i j)) hr ht) ⟨t, _, rfl, upd_same, ?_, AtL.mono le (Pre.refl _) _ _ (cutD_at (AtL.ints ns) i j)⟩
    refine Nat.le_trans (cutD_len _ _ _) ?_
    rw [List.length_map]
    exact Nat.le_trans h2 (by decide)
  · rename_i a _
    split at e
    · rename_i ds e1
      cases e
      obtain ⟨p, vs, rfl, h1, h2, h3⟩ := lstOf_at hr ha e1
      refine ⟨p, vs, rfl, .of h1, fun t ht => ?_⟩
      have le : Le F (upd F t (.lst (cutV vs i j))) := Le.new (hr.fnone ht)
      exact k _ l _ _ (later_new (o := .lst (cutV vs i j)) hr ht) ⟨t, _, rfl, upd_same, Nat.le_trans (cutD_len _ _ _) h3, AtL.mono le (Pre.refl _) _ _ (cutD_at h2 i j)⟩
    · cases e
end
section
variable {X : Cx} {T : List (Addr × Str)} {W : WX} {pos p1 p2 p3 : Pos} {e : Expr} {k : Nat}
/-- xs[::-1] -/
def revE (f : Sem D) : Sem D := bindO f fun a => fun _ S => match lstOf S a with
  | some ds => .ok (.lst ds.reverse) S
  | none => .stuck
theorem pd_revL {f : Sem D} (h : PD X T W e f) : PD X T W (.Subscript e (.Slice none none (some (.UnaryOp .USub (.Constant (.int 1) k p1) p2)) p3) pos) (revE f) := PE.imp (pe_revL h) fun σ H Q ⟨F, G, l, r0, S, hr, hs, hp⟩ => by
  refine wp_step hr hs hp fun F1 l1 S1 a x H1 lt1 hs1 ha hp1 => ?_
  split at hp1
  · rename_i ds e1
    obtain ⟨p, vs, rfl, h1, h2, h3⟩ := lstOf_at lt1.rel ha e1
    refine ⟨p, vs, rfl, .of h1, fun t ht => ?_⟩
    exact newList_frozen lt1.rel h2.reverse (by rw [List.length_reverse]; exact h3) hp1 ht
  · exact hp1.elim
end
end Aw

/-! Aw7: built-ins and methods. -/
namespace Aw
open PySem L2 LamX

/-! ### built-ins -/
abbrev GC := Store → List D → Option (D × Store)
def CallD (K : PySem.W.Frag) (T : List (Addr × Str)) (r : List V → Hp → VK → Prop) (g : GC) : Prop := ∀ F G l S H ds d S' xs (Q : VK), HRel K T F G l S H → AtL K F l ds xs → g S ds = some (d, S') →
  (∀ F' l' H' v, Later K T F G l F' l' S' H' → At K F' l' d v → Q v H') → r xs H Q
def callB (g : GC) (f : Sem (List D)) : Sem D := bindO f fun as => fun _ S => stepO (g S as)
theorem callB_wp {K : PySem.W.Frag} {T : List (Addr × Str)} {W : WX} {r : List V → Hp → VK → Prop} {g : GC} {f : Sem (List D)} (hg : CallD K T r g) {σ : St} {H : Hp} {Q : VK} (h : wp K T W (rE K) (callB g f) σ H Q) : tCB r (wp K T W (rA K) f) σ H Q := by
  obtain ⟨F, G, l, r0, S, hr, hs, hp⟩ := h
  refine wp_step hr hs hp fun F1 l1 S1 a x H1 lt1 hs1 ha hp1 => ?_
  cases e : g S1 a with
  | none => simp only [e, stepO] at hp1; exact hp1.elim
  | some q =>
    simp only [e, stepO] at hp1
    exact hg F1 G l1 S1 H1 a q.1 q.2 x Q lt1.rel ha e hp1
section
variable {X : Cx} {T : List (Addr × Str)} {W : WX} {p pos : Pos} {e : Expr} {es : List Expr} {x : Str} {id : String}
theorem pd_callB {r : List V → Hp → VK → Prop} {g : GC} {f : Sem (List D)} (hc : CallR X (.builtin id) r) (hg : CallD X.K T r g) (hgl : Gl X x) (hm : X.mg x = none) (hv : bootBuiltins x = some (.builtin id)) (ha : PDA X T W (e :: es) f) (hn : x ≠ "__name__" := by decide) (hdb : (x == ("__debug__" : Str)) = false := by decide)
    (he : starEach (e :: es) X.env = (false, eval e X.env) :: starEach es X.env := by rfl) (hpl : (backTo pos (starEach es X.env)).any (·.1) = false := by rfl) : PD X T W (.Call (.Name x p) (e :: es) [] pos) (callB g f) :=
  PE.imp (pe_callB hc hgl hm hv ha hn hdb he hpl) fun _ _ _ q => callB_wp hg q
theorem pd_callTy {r : List V → Hp → VK → Prop} {g : GC} {f : Sem (List D)} (hc : CallR X (.type id) r) (hg : CallD X.K T r g) (hgl : Gl X x) (hm : X.mg x = none) (hv : bootBuiltins x = some (.type id)) (ha : PDA X T W (e :: es) f) (hn : x ≠ "__name__" := by decide) (hdb : (x == ("__debug__" : Str)) = false := by decide)
    (he : starEach (e :: es) X.env = (false, eval e X.env) :: starEach es X.env := by rfl) (hpl : (backTo pos (starEach es X.env)).any (·.1) = false := by rfl) : PD X T W (.Call (.Name x p) (e :: es) [] pos) (callB g f) :=
  PE.imp (pe_callTy hc hgl hm hv ha hn hdb he hpl) fun _ _ _ q => callB_wp hg q
end
def orC (g h : GC) : GC := fun S a => match g S a with
  | some q => some q
  | none => h S a
theorem CallD.or {K : PySem.W.Frag} {T : List (Addr × Str)} {r r' : List V → Hp → VK → Prop} {g h : GC} (a : CallD K T r g) (b : CallD K T r' h) : CallD K T (fun x H Q => r x H Q ∨ r' x H Q) (orC g h) := by
  intro F G l S H ds z S' x Q hr hd q k
  unfold orC at q
  cases e1 : g S ds with
  | some p =>
    rw [e1] at q; cases q
    exact .inl (a F G l S H ds z S' x Q hr hd e1 k)
  | none =>
    rw [e1] at q
    exact .inr (b F G l S H ds z S' x Q hr hd q k)
section
variable {K : PySem.W.Frag} {T : List (Addr × Str)}
/-- len -/
def lenOf (S : Store) : D → Option Nat
  | .str x => if x.length ≤ 100000 then some x.length else none
  | .scr ns => some ns.length
  | d => (seqOf S d).map (·.length)
def lenG : GC := fun S as => match as with
  | [d] => match lenOf S d with
    | some n => some (.int (n : Nat), S)
    | none => none
  | _ => none
theorem calld_len : CallD K T (fun xs H Q => ∃ x n, xs = [x] ∧ LenV K x H n ∧ Q (.int n) H) lenG := by
  intro F G l S H ds d S' xs Q hr ha e k
  unfold lenG at e
  split at e
  · rename_i c
    obtain ⟨v, rfl, hv⟩ := AtL.one ha
    split at e
    · rename_i n e1
      cases e
      refine ⟨v, n, rfl, ?_, k F l H _ (Later.refl hr) rfl⟩
      unfold lenOf at e1
      split at e1
      · cases hv
        split at e1
        · rename_i hl
          cases e1
          exact ⟨sz_of hl, rfl⟩
        · cases e1
      · cases e1
        obtain ⟨a, rfl, h1, h2⟩ := hv
        exact .inl ⟨_, sql_le hr.fw h1, by simp⟩
      · cases e2 : seqOf S c with
        | none => rw [e2] at e1; cases e1
        | some es =>
          rw [e2] at e1; cases e1
          obtain ⟨a, vs, rfl, h1, h2, h3⟩ := seqOf_at hr hv e2
          rcases h1 with h1 | h1
          · exact .inl ⟨vs, .of h1, h2.length.symm⟩
          · exact .inr ⟨vs, .of h1, h2.length.symm⟩
    · cases e
  · cases e
/-- lists of ints, of truths -/
def intsOf : List D → Option (List Int)
  | [] => some []
  | .int i :: ds => (intsOf ds).map (i :: ·)
  | _ => none
theorem intsOf_eq : ∀ {ds : List D} {ns : List Int}, intsOf ds = some ns → ds = ns.map D.int
  | [], ns, h => by cases h; rfl
  | .int i :: ds, ns, h => by
    simp only [intsOf] at h
    cases q : intsOf ds with
    | none => rw [q] at h; cases h
    | some ms => rw [q] at h; cases h; rw [intsOf_eq q]; rfl
  | .non :: _, _, h => by cases h
  | .bl _ :: _, _, h => by cases h
  | .str _ :: _, _, h => by cases h
  | .tup _ :: _, _, h => by cases h
  | .lst _ :: _, _, h => by cases h
  | .dct _ _ _ :: _, _, h => by cases h
  | .loc _ :: _, _, h => by cases h
  | .scr _ :: _, _, h => by cases h
  | .fn _ :: _, _, h => by cases h
theorem intsOf_map (ns : List Int) : intsOf (ns.map D.int) = some ns := by
  induction ns with
  | nil => rfl
  | cons n ns ih => simp [intsOf, ih]
def blsOf : List D → Option (List Bool)
  | [] => some []
  | .bl i :: ds => (blsOf ds).map (i :: ·)
  | _ => none
theorem blsOf_eq : ∀ {ds : List D} {ns : List Bool}, blsOf ds = some ns → ds = ns.map D.bl
  | [], ns, h => by cases h; rfl
  | .bl i :: ds, ns, h => by
    simp only [blsOf] at h
    cases q : blsOf ds with
    | none => rw [q] at h; cases h
    | some ms => rw [q] at h; cases h; rw [blsOf_eq q]; rfl
  | .non :: _, _, h => by cases h
  | .int _ :: _, _, h => by cases h
  | .str _ :: _, _, h => by cases h
  | .tup _ :: _, _, h => by cases h
  | .lst _ :: _, _, h => by cases h
  | .dct _ _ _ :: _, _, h => by cases h
  | .loc _ :: _, _, h => by cases h
  | .scr _ :: _, _, h => by cases h
  | .fn _ :: _, _, h => by cases h
theorem blsOf_map (ns : List Bool) : blsOf (ns.map D.bl) = some ns := by
  induction ns with
  | nil => rfl
  | cons n ns ih => simp [blsOf, ih]
def onInts (f : List Int → Option D) : GC := fun S as => match as with
  | [d] => match lstOf S d with
    | some ds => match intsOf ds with
      | some ns => (f ns).map fun r => (r, S)
      | none => none
    | none => none
  | _ => none
def onBls (f : List Bool → Option D) : GC := fun S as => match as with
  | [d] => match lstOf S d with
    | some ds => match blsOf ds with
      | some ns => (f ns).map fun r => (r, S)
      | none => none
    | none => none
  | _ => none
theorem onInts_at {F G H : Hp} {l : List Addr} {S S' : Store} {ds : List D} {d : D} {xs : List V} {f : List Int → Option D} (hr : HRel K T F G l S H) (ha : AtL K F l ds xs) (e : onInts f S ds = some (d, S')) :
    ∃ a ns, xs = [.ref a] ∧ H a = some (.lst (ns.map V.int)) ∧ f ns = some d ∧ S' = S ∧ ns.length ≤ sizeLine := by
  unfold onInts at e
  split at e
  · obtain ⟨v, rfl, hv⟩ := AtL.one ha
    split at e
    · rename_i es e1
      split at e
      · rename_i ns e2
        obtain ⟨a, vs, rfl, h1, h2, h3⟩ := lstOf_at hr hv e1
        cases intsOf_eq e2
        have := AtL.of_ints h2
        subst this
        cases q : f ns with
        | none => rw [q] at e; cases e
        | some r => rw [q] at e; cases e; exact ⟨a, ns, rfl, h1, q, rfl, by simpa using h3⟩
      · cases e
    · cases e
  · cases e
theorem onBls_at {F G H : Hp} {l : List Addr} {S S' : Store} {ds : List D} {d : D} {xs : List V} {f : List Bool → Option D} (hr : HRel K T F G l S H) (ha : AtL K F l ds xs) (e : onBls f S ds = some (d, S')) :
    ∃ a ns, xs = [.ref a] ∧ H a = some (.lst (ns.map V.bl)) ∧ f ns = some d ∧ S' = S := by
  unfold onBls at e
  split at e
  · obtain ⟨v, rfl, hv⟩ := AtL.one ha
    split at e
    · rename_i es e1
      split at e
      · rename_i ns e2
        obtain ⟨a, vs, rfl, h1, h2, h3⟩ := lstOf_at hr hv e1
        cases blsOf_eq e2
        have := AtL.of_bls h2
        subst this
        cases q : f ns with
        | none => rw [q] at e; cases e
        | some r => rw [q] at e; cases e; exact ⟨a, ns, rfl, h1, q, rfl⟩
      · cases e
    · cases e
  · cases e
def sumG : GC := onInts fun ns => some (.int ns.sum)
theorem calld_sum : CallD K T (rSum K) sumG := by
  intro F G l S H ds d S' xs Q hr ha e k
  obtain ⟨a, ns, rfl, h1, h2, rfl, _⟩ := onInts_at hr ha e
  cases h2
  exact ⟨a, ns, rfl, .of h1, k F l H _ (Later.refl hr) rfl⟩
def allG : GC := onBls fun bs => some (.bl (bs.all id))
def anyG : GC := onBls fun bs => some (.bl (bs.any id))
theorem calld_all : CallD K T (rAll K) allG := by
  intro F G l S H ds d S' xs Q hr ha e k
  obtain ⟨a, ns, rfl, h1, h2, rfl⟩ := onBls_at hr ha e
  cases h2
  exact ⟨a, ns, rfl, .of h1, k F l H _ (Later.refl hr) rfl⟩
theorem calld_any : CallD K T (rAny K) anyG := by
  intro F G l S H ds d S' xs Q hr ha e k
  obtain ⟨a, ns, rfl, h1, h2, rfl⟩ := onBls_at hr ha e
  cases h2
  exact ⟨a, ns, rfl, .of h1, k F l H _ (Later.refl hr) rfl⟩
def maxI : List Int → Option D
  | [] => none
  | n :: ns => some (.int (ns.foldl max n))
def minI : List Int → Option D
  | [] => none
  | n :: ns => some (.int (ns.foldl min n))
theorem foldmax_le : ∀ (ns : List Int) (n : Int), n ≤ ns.foldl max n ∧ (∀ y ∈ ns, y ≤ ns.foldl max n) ∧ (ns.foldl max n = n ∨ ns.foldl max n ∈ ns)
  | [], n => by simp
  | m :: ns, n => by
    obtain ⟨h1, h2, h3⟩ := foldmax_le ns (max n m)
    simp only [List.foldl_cons]
    refine ⟨by omega, fun y hy => ?_, ?_⟩
    · rcases List.mem_cons.mp hy with rfl | hy
      · omega
      · exact h2 y hy
    · rcases h3 with h3 | h3
      · rw [h3]
        by_cases hm : n ≤ m
        · right; rw [Int.max_eq_right hm]; exact List.mem_cons_self
        · left; rw [Int.max_eq_left (by omega)]
      · exact .inr (List.mem_cons_of_mem _ h3)
theorem foldmin_le : ∀ (ns : List Int) (n : Int), ns.foldl min n ≤ n ∧ (∀ y ∈ ns, ns.foldl min n ≤ y) ∧ (ns.foldl min n = n ∨ ns.foldl min n ∈ ns)
  | [], n => by simp
  | m :: ns, n => by
    obtain ⟨h1, h2, h3⟩ := foldmin_le ns (min n m)
    simp only [List.foldl_cons]
    refine ⟨by omega, fun y hy => ?_, ?_⟩
    · rcases List.mem_cons.mp hy with rfl | hy
      · omega
      · exact h2 y hy
    · rcases h3 with h3 | h3
      · rw [h3]
        by_cases hm : n ≤ m
        · left; rw [Int.min_eq_left hm]
        · right; rw [Int.min_eq_right (by omega)]; exact List.mem_cons_self
      · exact .inr (List.mem_cons_of_mem _ h3)
def maxG : GC := onInts maxI
def minG : GC := onInts minI
theorem calld_max : CallD K T (rMax K) maxG := by
  intro F G l S H ds d S' xs Q hr ha e k
  obtain ⟨a, ns, rfl, h1, h2, rfl, _⟩ := onInts_at hr ha e
  cases ns with
  | nil => cases h2
  | cons n ns =>
    cases h2
    obtain ⟨q1, q2, q3⟩ := foldmax_le ns n
    refine ⟨a, n :: ns, rfl, .of h1, by simp, fun m hm hle => ?_⟩
    have em : m = ns.foldl max n := by
      have a1 : m ≤ ns.foldl max n := by
        rcases List.mem_cons.mp hm with rfl | hm
        · exact q1
        · exact q2 m hm
      have a2 : ns.foldl max n ≤ m := by
        rcases q3 with q3 | q3
        · rw [q3]; exact hle n List.mem_cons_self
        · exact hle _ (List.mem_cons_of_mem _ q3)
      omega
    subst em
    exact k F l H _ (Later.refl hr) rfl
theorem calld_min : CallD K T (rMin K) minG := by
  intro F G l S H ds d S' xs Q hr ha e k
  obtain ⟨a, ns, rfl, h1, h2, rfl, _⟩ := onInts_at hr ha e
  cases ns with
  | nil => cases h2
  | cons n ns =>
    cases h2
    obtain ⟨q1, q2, q3⟩ := foldmin_le ns n
    refine ⟨a, n :: ns, rfl, .of h1, by simp, fun m hm hle => ?_⟩
    have em : m = ns.foldl min n := by
      have a1 : ns.foldl min n ≤ m := by
        rcases List.mem_cons.mp hm with rfl | hm
        · exact q1
        · exact q2 m hm
      have a2 : m ≤ ns.foldl min n := by
        rcases q3 with q3 | q3
        · rw [q3]; exact hle n List.mem_cons_self
        · exact hle _ (List.mem_cons_of_mem _ q3)
      omega
    subst em
    exact k F l H _ (Later.refl hr) rfl
def max2G : GC := fun S as => match as with
  | [.int i, .int j] => some (.int (if j > i then j else i), S)
  | _ => none
def min2G : GC := fun S as => match as with
  | [.int i, .int j] => some (.int (if j < i then j else i), S)
  | _ => none
theorem calld_max2 : CallD K T (fun xs H Q => ∃ i j, xs = [.int i, .int j] ∧ Q (.int (if j > i then j else i)) H) max2G := by
  intro F G l S H ds d S' xs Q hr ha e k
  unfold max2G at e
  split at e
  · cases e
    obtain ⟨v, w, rfl, h1, h2⟩ := AtL.two ha
    cases h1; cases h2
    exact ⟨_, _, rfl, k F l H _ (Later.refl hr) rfl⟩
  · cases e
theorem calld_min2 : CallD K T (fun xs H Q => ∃ i j, xs = [.int i, .int j] ∧ Q (.int (if j < i then j else i)) H) min2G := by
  intro F G l S H ds d S' xs Q hr ha e k
  unfold min2G at e
  split at e
  · cases e
    obtain ⟨v, w, rfl, h1, h2⟩ := AtL.two ha
    cases h1; cases h2
    exact ⟨_, _, rfl, k F l H _ (Later.refl hr) rfl⟩
  · cases e
def absG : GC := fun S as => match as with
  | [.int i] => some (.int (if i < 0 then -i else i), S)
  | _ => none
theorem calld_abs : CallD K T (fun xs H Q => ∃ i, xs = [.int i] ∧ Q (.int (if i < 0 then -i else i)) H) absG := by
  intro F G l S H ds d S' xs Q hr ha e k
  unfold absG at e
  split at e
  · cases e
    obtain ⟨v, rfl, h1⟩ := AtL.one ha
    cases h1
    exact ⟨_, rfl, k F l H _ (Later.refl hr) rfl⟩
  · cases e
def intG1 : GC := fun S as => match as with
  | [.int i] => some (.int i, S)
  | [.bl b] => some (.int (if b then 1 else 0), S)
  | _ => none
theorem calld_int : CallD K T (fun xs H Q => (∃ i, xs = [.int i] ∧ Q (.int i) H) ∨ ∃ k, xs = [.bl k] ∧ Q (.int (if k then 1 else 0)) H) intG1 := by
  intro F G l S H ds d S' xs Q hr ha e k
  unfold intG1 at e
  split at e
  · cases e
    obtain ⟨v, rfl, h1⟩ := AtL.one ha
    cases h1
    exact .inl ⟨_, rfl, k F l H _ (Later.refl hr) rfl⟩
  · cases e
    obtain ⟨v, rfl, h1⟩ := AtL.one ha
    cases h1
    exact .inr ⟨_, rfl, k F l H _ (Later.refl hr) rfl⟩
  · cases e
/-- list(x): frozen, or a new cell -/
def listG : GC := fun S as => match as with
  | [d] => (seqOf S d).map fun ds => (.lst ds, S)
  | _ => none
def listGC : GC := fun S as => match as with
  | [d] => (seqOf S d).map fun ds => (.loc S.length, S ++ [.lst ds])
  | _ => none
theorem calld_list : CallD K T (fun xs H Q => ∃ p ys, xs = [.ref p] ∧ (SqL K H p ys ∨ SqT K H p ys) ∧ ∀ l, H l = none → Q (.ref l) (upd H l (.lst ys))) listG := by
  intro F G l S H ds d S' xs Q hr ha e k
  unfold listG at e
  split at e
  · obtain ⟨v, rfl, hv⟩ := AtL.one ha
    rename_i c
    cases q : seqOf S c with
    | none => rw [q] at e; cases e
    | some es =>
      rw [q] at e; cases e
      obtain ⟨a, vs, rfl, h1, h2, h3⟩ := seqOf_at hr hv q
      refine ⟨a, vs, rfl, ?_, fun t ht => ?_⟩
      · rcases h1 with h1 | h1
        · exact .inl (.of h1)
        · exact .inr (.of h1)
      · have le : Le F (upd F t (.lst vs)) := Le.new (hr.fnone ht)
        exact k _ l _ _ (later_new (o := .lst vs) hr ht) ⟨t, _, rfl, upd_same, h3, AtL.mono le (Pre.refl _) _ _ h2⟩
  · cases e
theorem calld_listC : CallD K T (fun xs H Q => ∃ p ys, xs = [.ref p] ∧ (SqL K H p ys ∨ SqT K H p ys) ∧ ∀ l, H l = none → Q (.ref l) (upd H l (.lst ys))) listGC := by
  intro F G l S H ds d S' xs Q hr ha e k
  unfold listGC at e
  split at e
  · obtain ⟨v, rfl, hv⟩ := AtL.one ha
    rename_i c
    cases q : seqOf S c with
    | none => rw [q] at e; cases e
    | some es =>
      rw [q] at e; cases e
      obtain ⟨a, vs, rfl, h1, h2, h3⟩ := seqOf_at hr hv q
      refine ⟨a, vs, rfl, ?_, fun t ht => ?_⟩
      · rcases h1 with h1 | h1
        · exact .inl (.of h1)
        · exact .inr (.of h1)
      · obtain ⟨lt, at_⟩ := later_cell hr ht h2 h3
        exact k _ _ _ _ lt at_
  · cases e
/-- tuple(list) -/
def tupG : GC := fun S as => match as with
  | [.tup ds] => some (.tup ds, S)
  | [d] => (lstOf S d).map fun ds => (.tup ds, S)
  | _ => none
theorem calld_tup : CallD K T (fun xs H Q => ∃ p ys, xs = [.ref p] ∧ ((SqL K H p ys ∧ ∀ l, H l = none → Q (.ref l) (upd H l (.tup ys))) ∨ (SqT K H p ys ∧ Q (.ref p) H))) tupG := by
  intro F G l S H ds d S' xs Q hr ha e k
  unfold tupG at e
  split at e
  · cases e
    obtain ⟨v, rfl, hv⟩ := AtL.one ha
    have hv' := hv
    obtain ⟨a, vs, rfl, h1, h2, h3⟩ := hv
    exact ⟨a, vs, rfl, .inr ⟨.of (hr.fz _ _ h1), k F l H _ (Later.refl hr) hv'⟩⟩
  · obtain ⟨v, rfl, hv⟩ := AtL.one ha
    rename_i c _
    cases q : lstOf S c with
    | none => rw [q] at e; cases e
    | some es =>
      rw [q] at e; cases e
      obtain ⟨a, vs, rfl, h1, h2, h3⟩ := lstOf_at hr hv q
      refine ⟨a, vs, rfl, .inl ⟨.of h1, fun t ht => ?_⟩⟩
      have le : Le F (upd F t (.tup vs)) := Le.new (hr.fnone ht)
      exact k _ l _ _ (later_new (o := .tup vs) hr ht) ⟨t, _, rfl, upd_same, h3, AtL.mono le (Pre.refl _) _ _ h2⟩
  · cases e

/-! ### sorted -/
def ins {α : Type} (lt : α → α → Bool) (x : α) : List α → List α
  | [] => [x]
  | y :: ys => if lt y x then y :: ins lt x ys else x :: y :: ys
def isort {α : Type} (lt : α → α → Bool) : List α → List α
  | [] => []
  | x :: xs => ins lt x (isort lt xs)
theorem ins_perm {α : Type} (lt : α → α → Bool) (x : α) : ∀ ys : List α, (ins lt x ys).Perm (x :: ys)
  | [] => List.Perm.refl _
  | y :: ys => by
    unfold ins
    split
    · exact ((ins_perm lt x ys).cons y).trans (List.Perm.swap x y ys)
    · exact List.Perm.refl _
theorem isort_perm {α : Type} (lt : α → α → Bool) : ∀ xs : List α, (isort lt xs).Perm xs
  | [] => List.Perm.refl _
  | x :: xs => (ins_perm lt x _).trans ((isort_perm lt xs).cons x)
theorem ins_srtd {α : Type} {lt : α → α → Bool} (O : SrtO.Swo lt) (x : α) : ∀ {ys : List α}, SrtO.Srtd lt ys → SrtO.Srtd lt (ins lt x ys)
  | [], _ => SrtO.srtd_one x
  | y :: ys, h => by
    unfold ins
    obtain ⟨h1, h2⟩ := List.pairwise_cons.mp h
    split
    · rename_i hl
      refine List.pairwise_cons.mpr ⟨fun z hz => ?_, ins_srtd O x h2⟩
      rcases List.mem_cons.mp ((ins_perm lt x ys).mem_iff.mp hz) with rfl | hz
      · exact O.asym _ _ hl
      · exact h1 z hz
    · rename_i hl
      have hl : lt y x = false := by simpa using hl
      refine List.pairwise_cons.mpr ⟨fun z hz => ?_, h⟩
      rcases List.mem_cons.mp hz with rfl | hz
      · exact hl
      · exact O.tr x y z hl (h1 z hz)
theorem isort_srtd {α : Type} {lt : α → α → Bool} (O : SrtO.Swo lt) : ∀ xs : List α, SrtO.Srtd lt (isort lt xs)
  | [] => List.Pairwise.nil
  | x :: xs => ins_srtd O x (isort_srtd O xs)
theorem ins_cls {α : Type} {lt : α → α → Bool} (O : SrtO.Swo lt) (x z : α) : ∀ ys : List α, (ins lt x ys).filter (SrtO.eqv lt z) = (x :: ys).filter (SrtO.eqv lt z)
  | [] => rfl
  | y :: ys => by
    unfold ins
    split
    · rename_i hl
      rw [List.filter_cons, ins_cls O x z ys]
      by_cases h1 : SrtO.eqv lt z y = true
      · have h2 : SrtO.eqv lt z x = false := by
          cases q : SrtO.eqv lt z x with
          | false => rfl
          | true =>
            obtain ⟨a1, a2⟩ := SrtO.eqv_iff.mp h1
            obtain ⟨b1, b2⟩ := SrtO.eqv_iff.mp q
            have := O.tr x z y b1 a2
            rw [hl] at this; cases this
        simp [List.filter_cons, h1, h2]
      · simp [List.filter_cons, h1]
    · rfl
theorem isort_stb {α : Type} {lt : α → α → Bool} (O : SrtO.Swo lt) : ∀ xs : List α, SrtO.Stb lt (isort lt xs) xs
  | [] => SrtO.Stb.refl _
  | x :: xs => ⟨isort_perm lt _, fun z => by
    show (ins lt x (isort lt xs)).filter _ = _
    rw [ins_cls O, List.filter_cons, List.filter_cons, (isort_stb O xs).cls z]⟩
theorem isort_uniq {α : Type} {lt : α → α → Bool} (O : SrtO.Swo lt) {ys xs : List α} (h1 : SrtO.Srtd lt ys) (h2 : SrtO.Stb lt ys xs) : ys = isort lt xs :=
  SrtO.stb_uniq O h1 (isort_srtd O xs) (h2.trans ⟨(isort_stb O xs).perm.symm, fun z => ((isort_stb O xs).cls z).symm⟩)
theorem ins_at {F : Hp} {l : List Addr} {lt : D → D → Bool} {lt' : V → V → Bool} {d : D} {v : V} {ds : List D} {vs : List V} (hv : At K F l d v) (h : AtL K F l ds vs)
    (k : ∀ e w, e ∈ ds → w ∈ vs → At K F l e w → lt e d = lt' w v) : AtL K F l (ins lt d ds) (ins lt' v vs) := by
  induction ds generalizing vs with
  | nil => cases h; exact ⟨v, [], rfl, hv, rfl⟩
  | cons e es ih =>
    obtain ⟨w, ws, rfl, h1, h2⟩ := h
    unfold ins
    rw [k e w List.mem_cons_self List.mem_cons_self h1]
    split
    · exact ⟨w, _, rfl, h1, ih h2 fun e w he hw => k e w (List.mem_cons_of_mem _ he) (List.mem_cons_of_mem _ hw)⟩
    · exact ⟨v, _, rfl, hv, w, ws, rfl, h1, h2⟩
theorem isort_at {F : Hp} {l : List Addr} {lt : D → D → Bool} {lt' : V → V → Bool} : ∀ {ds : List D} {vs : List V}, AtL K F l ds vs →
    (∀ d v e w, d ∈ ds → v ∈ vs → e ∈ ds → w ∈ vs → At K F l d v → At K F l e w → lt e d = lt' w v) → AtL K F l (isort lt ds) (isort lt' vs)
  | [], vs, h, _ => by cases h; exact rfl
  | d :: ds, vs, h, k => by
    obtain ⟨v, vs', rfl, h1, h2⟩ := h
    refine ins_at h1 (isort_at h2 fun a b c e h1 h2 h3 h4 => k a b c e (List.mem_cons_of_mem _ h1) (List.mem_cons_of_mem _ h2) (List.mem_cons_of_mem _ h3) (List.mem_cons_of_mem _ h4)) fun e w he hw h3 => ?_
    exact k d v e w List.mem_cons_self List.mem_cons_self (List.mem_cons_of_mem _ ((isort_perm lt ds).mem_iff.mp he)) (List.mem_cons_of_mem _ ((isort_perm lt' vs').mem_iff.mp hw)) h1 h3
def ltInt : Int → Int → Bool := fun i j => decide (i < j)
theorem swo_int : SrtO.Swo ltInt := ⟨fun x y h => by simp only [ltInt, decide_eq_true_eq, decide_eq_false_iff_not] at *; omega, fun x y z h1 h2 => by simp only [ltInt, decide_eq_false_iff_not] at *; omega⟩
theorem isort_int {ys xs : List Int} (h1 : ys.Perm xs) (h2 : ys.Pairwise (· ≤ ·)) : ys = isort ltInt xs := by
  refine isort_uniq swo_int (h2.imp fun h => by simp only [ltInt, decide_eq_false_iff_not]; omega) ⟨h1, fun x => ?_⟩
  have e : SrtO.eqv ltInt x = fun y => x == y := by
    funext y
    simp only [SrtO.eqv, ltInt]
    by_cases h : x = y
    · subst h; simp
    · have : x < y ∨ y < x := by omega
      rcases this with q | q <;> simp [h, q]
  rw [e]
  have := h1.count_eq x
  rw [List.count_eq_length_filter, List.count_eq_length_filter] at this
  have f : ∀ l : List Int, l.filter (fun y => x == y) = List.replicate (l.filter (fun y => x == y)).length x := fun l =>
    List.eq_replicate_iff.mpr ⟨rfl, fun b hb => by have := (List.mem_filter.mp hb).2; simpa using (beq_iff_eq.mp this).symm⟩
  rw [f ys, f xs]
  congr 1
  have g : ∀ l : List Int, (l.filter fun y => x == y).length = (l.filter (fun y => y == x)).length := fun l => by
    congr 1
    congr 1
    funext y
    rw [Bool.eq_iff_iff, beq_iff_eq, beq_iff_eq]
    exact eq_comm
  rw [g, g]
  exact this
def sortI : GC := onInts fun ns => some (.lst ((isort ltInt ns).map D.int))
theorem calld_sortI : CallD K T (rSortedI K) sortI := by
  intro F G l S H ds d S' xs Q hr ha e k
  obtain ⟨a, ns, rfl, h1, h2, rfl, hlen⟩ := onInts_at hr ha e
  cases h2
  refine ⟨a, ns, rfl, .of h1, fun ns' p hp hs hn => ?_⟩
  have := isort_int hp hs
  subst this
  have le : Le F (upd F p (.lst ((isort ltInt ns).map V.int))) := Le.new (hr.fnone hn)
  refine k _ l _ _ (later_new (o := .lst ((isort ltInt ns).map V.int)) hr hn) ⟨p, _, rfl, upd_same, ?_, AtL.ints _⟩
  rw [List.length_map, (isort_perm ltInt ns).length_eq]
  exact hlen
/-- pairs of ints -/
def pairK : D → Int × Int
  | .tup [.int i, .int j] => (i, j)
  | _ => (0, 0)
def isPair : D → Bool
  | .tup [.int _, .int _] => true
  | _ => false
def ltPair : D → D → Bool := fun a b => SrtO.lexB (pairK a) (pairK b)
def sortP : GC := fun S as => match as with
  | [d] => match lstOf S d with
    | some ds => if ds.all isPair then some (.lst (isort ltPair ds), S) else none
    | none => none
  | _ => none
theorem isPair_eq {d : D} (h : isPair d = true) : ∃ i j, d = .tup [.int i, .int j] := by
  unfold isPair at h
  split at h
  · exact ⟨_, _, rfl⟩
  · cases h
open Classical in
theorem calld_sortP : CallD K T (rSortedPO K) sortP := by
  intro F G l S H ds d S' xs Q hr ha e k
  unfold sortP at e
  split at e
  · obtain ⟨v, rfl, hv⟩ := AtL.one ha
    split at e
    · rename_i es e1
      split at e
      · rename_i hall
        cases e
        obtain ⟨a, vs, rfl, h1, h2, h3⟩ := lstOf_at hr hv e1
        have key : ∀ v ∈ vs, ∀ d ∈ es, At K F l d v → ∃ t, v = .ref t ∧ H t = some (.tup [.int (pairK d).1, .int (pairK d).2]) := fun v _ d hd hat => by
          obtain ⟨i, j, rfl⟩ := isPair_eq (List.all_eq_true.mp hall d hd)
          obtain ⟨t, us, rfl, q1, _, q2⟩ := hat
          obtain ⟨x, y, rfl, q3, q4⟩ := AtL.two q2
          cases q3; cases q4
          exact ⟨t, rfl, hr.fz _ _ q1⟩
        let kk : V → Int × Int := fun v => match v with
          | .ref t => match H t with
            | some (.tup [.int i, .int j]) => (i, j)
            | _ => (0, 0)
          | _ => (0, 0)
        have kk_eq : ∀ v ∈ vs, ∀ d ∈ es, At K F l d v → kk v = pairK d := fun v hv d hd hat => by
          obtain ⟨t, rfl, q⟩ := key v hv d hd hat
          show (match H t with
            | some (.tup [.int i, .int j]) => (i, j)
            | _ => (0, 0)) = _
          rw [q]
        refine ⟨a, vs, kk, rfl, .of h1, fun v hv => ?_, fun ys p hs hb hn => ?_⟩
        · obtain ⟨i, hi⟩ := List.getElem?_of_mem hv
          obtain ⟨d, hd1, hd2⟩ := h2.get' hi
          have hd := List.mem_of_getElem? hd1
          obtain ⟨t, e, q⟩ := key v hv d hd hd2
          exact ⟨t, e, by rw [kk_eq v hv d hd hd2]; exact q⟩
        · have := isort_uniq (ltP_swo kk) hs hb
          subst this
          have le : Le F (upd F p (.lst (isort (ltP kk) vs))) := Le.new (hr.fnone hn)
          refine k _ l _ _ (later_new (o := .lst (isort (ltP kk) vs)) hr hn) ⟨p, _, rfl, upd_same, by rw [(isort_perm _ es).length_eq]; exact h3, AtL.mono le (Pre.refl _) _ _ ?_⟩
          refine isort_at h2 fun d v e w hd hv he hw hat hat' => ?_
          show SrtO.lexB (pairK e) (pairK d) = SrtO.lexB (kk w) (kk v)
          rw [kk_eq v hv d hd hat, kk_eq w hw e he hat']
      · cases e
    · cases e
  · cases e
end
end Aw

/-! Aw8: methods of lists, isinstance. -/
namespace Aw
open PySem L2 LamX

abbrev GM := Store → D → List D → Option (D × Store)
def MethD (K : PySem.W.Frag) (T : List (Addr × Str)) (r : V → List V → Hp → VK → Prop) (g : GM) : Prop := ∀ F G l S H o ds d S' x xs (Q : VK), HRel K T F G l S H → At K F l o x → AtL K F l ds xs → g S o ds = some (d, S') →
  (∀ F' l' H' v, Later K T F G l F' l' S' H' → At K F' l' d v → Q v H') → r x xs H Q
/-- a list's method -/
def methL (g : GM) (fo : Sem D) (fa : Sem (List D)) : Sem D := bindO fo fun o => fun r S => if (lstOf S o).isSome then bindO fa (fun as => fun _ S => stepO (g S o as)) r S else .stuck
theorem tyV_lst {K : PySem.W.Frag} {T : List (Addr × Str)} {F G H : Hp} {l : List Addr} {S : Store} (hr : HRel K T F G l S H) {d : D} {v : V} (hv : At K F l d v) (e : (lstOf S d).isSome = true) : tyV K "list" v H := by
  cases q : lstOf S d with
  | none => rw [q] at e; cases e
  | some ds =>
    obtain ⟨a, vs, rfl, h1, _⟩ := lstOf_at hr hv q
    exact .inl ⟨rfl, vs, .of h1⟩
theorem meth_wp {K : PySem.W.Frag} {T : List (Addr × Str)} {W : WX} {r : V → List V → Hp → VK → Prop} {g : GM} {fo : Sem D} {fa : Sem (List D)} (hg : MethD K T r g) {σ : St} {H : Hp} {Q : VK} (h : wp K T W (rE K) (methL g fo fa) σ H Q) :
    tBM K "list" r (wp K T W (rE K) fo) (wp K T W (rA K) fa) σ H Q := by
  obtain ⟨F, G, l, r0, S, hr, hs, hp⟩ := h
  refine wp_step hr hs hp fun F1 l1 S1 a x H1 lt1 hs1 ha hp1 => ?_
  by_cases hl : (lstOf S1 a).isSome = true
  · rw [if_pos hl] at hp1
    refine ⟨tyV_lst lt1.rel ha hl, ?_⟩
    refine wp_step lt1.rel hs1 hp1 fun F2 l2 S2 b y H2 lt2 hs2 hb hp2 => ?_
    cases e : g S2 a b with
    | none => simp only [e, stepO] at hp2; exact hp2.elim
    | some q =>
      simp only [e, stepO] at hp2
      exact hg F2 G l2 S2 H2 a b q.1 q.2 x y Q lt2.rel (At.mono lt2.le lt2.pre _ _ ha) hb e hp2
  · rw [if_neg hl] at hp1; exact hp1.elim
section
variable {X : Cx} {T : List (Addr × Str)} {W : WX} {p pos apos cpos : Pos} {e o : Expr} {es : List Expr} {name : Str} {id : String}
theorem pd_ml {r : V → List V → Hp → VK → Prop} {g : GM} {fo : Sem D} {fa : Sem (List D)} {id : String} (slot : Slot "list" name id) (hty : typeOf (.builtin id) = pure (.type "method_descriptor")) (hm : MtR X id r) (hg : MethD X.K T r g) (ho : PD X T W o fo) (ha : PDA X T W (e :: es) fa)
    (hbase : attributeBase o name X.env (eval o X.env) = eval o X.env := by rfl)
    (hfew : ((backTo cpos (starEach (e :: es) X.env)).all (fun x => !x.1) && (backToKw cpos (keywordEach [] X.env)).all (fun x => x.1.isSome) && decide ((e :: es).length + ([] : List Keyword).length + (if ([] : List Keyword).isEmpty then 0 else 1) < 30)) = true := by rfl)
    (hline : (apos.endLine == cpos.line) = true := by rfl) (hs : starEach (e :: es) X.env = (false, eval e X.env) :: starEach es X.env := by rfl) (hplain : (backTo cpos (starEach es X.env)).any (·.1) = false := by rfl) :
    PD X T W (.Call (.Attribute o name apos) (e :: es) [] cpos) (methL g fo fa) :=
  PE.imp (pe_bm PySem.F.plainAttrs_list slot hty hm ho ha hbase hfew hline hs hplain) fun _ _ _ q => meth_wp hg q
theorem pd_ml0 {r : V → List V → Hp → VK → Prop} {g : GM} {fo : Sem D} {id : String} (slot : Slot "list" name id) (hty : typeOf (.builtin id) = pure (.type "method_descriptor")) (hm : MtR X id r) (hg : MethD X.K T r g) (ho : PD X T W o fo)
    (hbase : attributeBase o name X.env (eval o X.env) = eval o X.env := by rfl) (hline : (apos.endLine == cpos.line) = true := by rfl) : PD X T W (.Call (.Attribute o name apos) [] [] cpos) (methL g fo nilA) :=
  PE.imp (pe_bm0 PySem.F.plainAttrs_list slot hty hm ho hbase hline) fun σ H Q q => by
  obtain ⟨F, G, l, r0, S, hr, hs, hp⟩ := q
  refine wp_step hr hs hp fun F1 l1 S1 a x H1 lt1 hs1 ha hp1 => ?_
  by_cases hl : (lstOf S1 a).isSome = true
  · rw [if_pos hl] at hp1
    refine ⟨tyV_lst lt1.rel ha hl, ?_⟩
    have hp2 : PostG X.K T W (rE X.K) F1 G l1 σ Q (stepO (g S1 a [])) := hp1
    cases e : g S1 a [] with
    | none => simp only [e, stepO] at hp2; exact hp2.elim
    | some q =>
      simp only [e, stepO] at hp2
      exact hg F1 G l1 S1 H1 a [] q.1 q.2 x [] Q lt1.rel ha rfl e hp2
  · rw [if_neg hl] at hp1; exact hp1.elim
end
section
variable {K : PySem.W.Frag} {T : List (Addr × Str)}
/-- a change of a list's cell by its items -/
def onCell (f : List D → List D → Option (D × List D)) : GM := fun S o as => match o with
  | .loc n => match S[n]? with
    | some (.lst ds) => match f ds as with
      | some (d, ds') => some (d, S.set n (.lst ds'))
      | none => none
    | _ => none
  | _ => none
theorem onCell_at {F G H : Hp} {l : List Addr} {S S' : Store} {o d : D} {as : List D} {x : V} {f : List D → List D → Option (D × List D)} (hr : HRel K T F G l S H) (hx : At K F l o x) (e : onCell f S o as = some (d, S')) :
    ∃ p vs ds ds', x = .ref p ∧ H p = some (.lst vs) ∧ AtL K F l ds vs ∧ ds.length ≤ sizeLine ∧ f ds as = some (d, ds') ∧ ∀ vs', AtL K F l ds' vs' → ds'.length ≤ sizeLine → Later K T F G l F l S' (upd H p (.lst vs')) := by
  unfold onCell at e
  split at e
  · split at e
    · rename_i n ds e1
      split at e
      · rename_i d' ds' e2
        cases e
        obtain ⟨p, vs, rfl, h1, h2, h3, h4⟩ := cell_lst hr hx e1
        exact ⟨p, vs, ds, ds', rfl, h1, h2, h3, e2, fun vs' a b => h4 ds' vs' a b⟩
      · cases e
    · cases e
  · cases e
def appendG : GM := onCell fun ds as => match as with
  | [d] => if ds.length < 100000 then some (.non, ds ++ [d]) else none
  | _ => none
theorem methd_append : MethD K T rAppend appendG := by
  intro F G l S H o as d S' x xs Q hr hx ha e k
  obtain ⟨p, vs, ds, ds', rfl, h1, h2, h3, h4, h5⟩ := onCell_at hr hx e
  split at h4
  · rename_i a
    split at h4
    · rename_i hl
      cases h4
      obtain ⟨v, rfl, hv⟩ := AtL.one ha
      refine ⟨p, vs, v, rfl, rfl, h1, by rw [h2.length]; exact Nat.lt_of_lt_of_le hl (by decide), ?_⟩
      exact k _ _ _ _ (h5 _ (h2.append ⟨v, [], rfl, hv, rfl⟩) (by rw [List.length_append]; exact sz_of hl)) rfl
    · cases h4
  · cases h4
def extendG : GM := fun S o as => match as with
  | [e] => match lstOf S e with
    | some es => onCell (fun ds _ => if ds.length + es.length ≤ 100000 then some (.non, ds ++ es) else none) S o []
    | none => none
  | _ => none
theorem methd_extend : MethD K T rExtend extendG := by
  intro F G l S H o as d S' x xs Q hr hx ha e k
  unfold extendG at e
  split at e
  · rename_i a
    split at e
    · rename_i es e1
      obtain ⟨v, rfl, hv⟩ := AtL.one ha
      obtain ⟨q, us, rfl, g1, g2, g3⟩ := lstOf_at hr hv e1
      obtain ⟨p, vs, ds, ds', rfl, h1, h2, h3, h4, h5⟩ := onCell_at hr hx e
      split at h4
      · rename_i hl
        cases h4
        refine ⟨p, q, vs, us, rfl, rfl, h1, g1, by rw [h2.length, g2.length]; exact sz_of hl, ?_⟩
        exact k _ _ _ _ (h5 _ (h2.append g2) (by rw [List.length_append]; exact sz_of hl)) rfl
      · cases h4
    · cases e
  · cases e
def insertG : GM := onCell fun ds as => match as with
  | [.int i, d] => if ds.length < 100000 ∧ 0 ≤ i ∧ i < 2 ^ 63 then some (.non, ds.take i.toNat ++ d :: ds.drop i.toNat) else none
  | _ => none
def popG : GM := onCell fun ds as => match as with
  | [] => match ds[ds.length - 1]? with
    | some d => some (d, ds.dropLast)
    | none => none
  | _ => none
theorem AtL.dropLast {F : Hp} {l : List Addr} {ds : List D} {vs : List V} (h : AtL K F l ds vs) : AtL K F l ds.dropLast vs.dropLast := by
  rw [List.dropLast_eq_take, List.dropLast_eq_take, h.length]
  exact h.take _
theorem methd_pop : MethD K T rPop popG := by
  intro F G l S H o as d S' x xs Q hr hx ha e k
  obtain ⟨p, vs, ds, ds', rfl, h1, h2, h3, h4, h5⟩ := onCell_at hr hx e
  split at h4
  · split at h4
    · rename_i d' e1
      cases h4; cases ha
      obtain ⟨v, q1, q2⟩ := h2.get e1
      refine ⟨p, vs, v, rfl, rfl, h1, by rw [h2.length]; exact q1, ?_⟩
      exact k _ _ _ _ (h5 _ h2.dropLast (by simp; omega)) q2
    · cases h4
  · cases h4
theorem AtL.eraseIdx {F : Hp} {l : List Addr} : ∀ {ds : List D} {vs : List V} (i : Nat), AtL K F l ds vs → AtL K F l (ds.eraseIdx i) (vs.eraseIdx i)
  | [], vs, i, h => by cases h; simp; exact rfl
  | d :: ds, vs, 0, h => by obtain ⟨v, vs', rfl, h1, h2⟩ := h; exact h2
  | d :: ds, vs, i + 1, h => by obtain ⟨v, vs', rfl, h1, h2⟩ := h; exact ⟨v, _, rfl, h1, AtL.eraseIdx i h2⟩
def popAtG : GM := onCell fun ds as => match as with
  | [.int i] => if -(2 ^ 63) ≤ i ∧ i < 2 ^ 63 then match seqIndex? i ds.length with
    | some k => match ds[k]? with
      | some d => some (d, ds.eraseIdx k)
      | none => none
    | none => none
    else none
  | _ => none
theorem methd_popAt : MethD K T rPopAt popAtG := by
  intro F G l S H o as d S' x xs Q hr hx ha e k
  obtain ⟨p, vs, ds, ds', rfl, h1, h2, h3, h4, h5⟩ := onCell_at hr hx e
  split at h4
  · split at h4
    · rename_i hb
      split at h4
      · rename_i j e2
        split at h4
        · rename_i d' e1
          cases h4
          obtain ⟨u, rfl, hu⟩ := AtL.one ha
          cases hu
          obtain ⟨v, q1, q2⟩ := h2.get e1
          refine ⟨p, vs, _, j, v, rfl, rfl, h1, hb.1, hb.2, by rw [h2.length]; exact e2, q1, ?_⟩
          exact k _ _ _ _ (h5 _ (h2.eraseIdx j) (by rw [List.length_eraseIdx]; split <;> omega)) q2
        · cases h4
      · cases h4
    · cases h4
  · cases h4
def reverseG : GM := onCell fun ds as => match as with
  | [] => some (.non, ds.reverse)
  | _ => none
theorem methd_reverse : MethD K T rReverse reverseG := by
  intro F G l S H o as d S' x xs Q hr hx ha e k
  obtain ⟨p, vs, ds, ds', rfl, h1, h2, h3, h4, h5⟩ := onCell_at hr hx e
  split at h4
  · cases h4; cases ha
    exact ⟨p, vs, rfl, rfl, h1, k _ _ _ _ (h5 _ h2.reverse (by simpa using h3)) rfl⟩
  · cases h4
def clearG : GM := onCell fun ds as => match as with
  | [] => some (.non, [])
  | _ => none
theorem methd_clear : MethD K T rClear clearG := by
  intro F G l S H o as d S' x xs Q hr hx ha e k
  obtain ⟨p, vs, ds, ds', rfl, h1, h2, h3, h4, h5⟩ := onCell_at hr hx e
  split at h4
  · cases h4; cases ha
    exact ⟨p, vs, rfl, rfl, h1, k _ _ _ _ (h5 [] rfl (Nat.zero_le _)) rfl⟩
  · cases h4
end

/-! ### isinstance -/
inductive Ty where
  | non | bool | int | str | tuple | list | dict
  deriving DecidableEq
def Ty.name : Ty → String
  | .non => "NoneType"
  | .bool => "bool"
  | .int => "int"
  | .str => "str"
  | .tuple => "tuple"
  | .list => "list"
  | .dict => "dict"
def isiB : Ty → Ty → Bool
  | .bool, .int => true
  | .non, .non => true
  | .bool, .bool => true
  | .int, .int => true
  | .str, .str => true
  | .tuple, .tuple => true
  | .list, .list => true
  | .dict, .dict => true
  | _, _ => false
theorem isiB_ok {K : PySem.W.Frag} (a b : Ty) : PySem.W.kitOne K (.type a.name) (.type b.name) = some (isiB a b) := by
  cases a <;> cases b <;> exact kit_ty (by decide +kernel)
def tyD0 : D → Option Ty
  | .non => some .non
  | .bl _ => some .bool
  | .int _ => some .int
  | .str _ => some .str
  | .tup _ => some .tuple
  | .lst _ => some .list
  | .dct _ _ _ => some .dict
  | _ => none
def tyD (S : Store) : D → Option Ty
  | .loc n => match S[n]? with
    | some (.lst _) => some .list
    | some (.dct _ _ _) => some .dict
    | some (.fz d) => tyD0 d
    | none => none
  | d => tyD0 d
inductive TyY (K : PySem.W.Frag) (H : Hp) : V → Value → Prop where
  | base {x : V} {t : Value} (h : TyOf K H x t) : TyY K H x t
  | fDict {a : Addr} {o : Obj} {kvs : List (Key × V)} (e : H a = some (.frz o (.dK kvs))) : TyY K H (.ref a) (.type "dict")
  | fDicT {a : Addr} {o : Obj} {kvs : List (List Key × V)} (e : H a = some (.frz o (.dT kvs))) : TyY K H (.ref a) (.type "dict")
  | sK {a : Addr} {xs : List V} (e : SqL K H a xs) : TyY K H (.ref a) (.type "list")
theorem kit_ofY {X : Cx} {pins : List (Addr × Obj)} {σ : St} {H : Hp} {s : Shared} {x : V} {u t : Value} (I : Inv X pins σ H s) (rx : RelV x u) (ty : TyY X.K H x t) : ∃ P : Heap → Prop, PySem.W.KitX X.K u t P ∧ P s.heap ∧ u ≠ .builtin "__main__.__loader__#opaque" := by
  cases ty with
  | base b => exact kit_of I rx (.base b)
  | fDict e => exact kit_of I rx (.fDict e)
  | @fDicT a ob kvs ea =>
    cases (show u = Value.ref a from rx)
    obtain ⟨_, _, _, xs, _, o, es, ep, h1, h2, _⟩ := (show ObjOk X.prog X.w H s.heap a (.frz ob (.dT kvs)) from I.hok a _ ea)
    exact ⟨_, PySem.W.kitx_dict, ⟨o, h1, h2.1⟩, fun z => nomatch z⟩
  | @sK a xs e =>
    cases (show u = Value.ref a from rx)
    obtain ⟨its, rv, pl, hz⟩ := I.list e
    obtain ⟨o, h1, h2⟩ := pl.isList
    exact ⟨_, PySem.W.kitx_list, ⟨o, h1, h2.1⟩, fun z => nomatch z⟩
/-- isinstance(x, c) -/
def rIsiY (K : PySem.W.Frag) : List V → Hp → VK → Prop := fun xs H Q => ∃ (x c : V) (t u : Value) (b : Bool), xs = [x, c] ∧ ClsV c u ∧ TyY K H x t ∧ PySem.W.kitOne K t u = some b ∧ Q (.bl b) H
theorem call_isiY {X : Cx} : CallR X (.builtin "isinstance") (rIsiY X.K) := by
  intro pins s σ H xs us Q I r h
  obtain ⟨x, c, t, u, b, rfl, k, ty, e, q⟩ := h
  obtain ⟨u1, u2, rfl, r1, r2⟩ := vals2 r
  have e2 := k.eq r2
  subst e2
  obtain ⟨P, Z, p, hx⟩ := kit_ofY I r1 ty
  exact PySem.W.kia_one Z I.kIn p e hx fun tk => ⟨.bl b, H, I.tok tk, rfl, q⟩
theorem tyD0_at {K : PySem.W.Frag} {T : List (Addr × Str)} {F G H : Hp} {l : List Addr} {S : Store} (hr : HRel K T F G l S H) {d : D} {v : V} {t : Ty} (hv : At K F l d v) (e : tyD0 d = some t) : TyY K H v (.type t.name) := by
  cases d with
  | non => cases hv; cases e; exact .base .non
  | bl b => cases hv; cases e; exact .base (.bl b)
  | int i => cases hv; cases e; exact .base (.int i)
  | str x => cases hv; cases e; exact .base (.str x)
  | tup ds => obtain ⟨a, vs, rfl, h1, _⟩ := hv; cases e; exact .base (.tup (hr.fz _ _ h1))
  | lst ds => obtain ⟨a, vs, rfl, h1, _⟩ := hv; cases e; exact .base (.lst (hr.fz _ _ h1))
  | dct t ks ws =>
    obtain ⟨a, vs, rfl, _, _, h | h⟩ := hv
    · obtain ⟨_, kvs, h1, _⟩ := h; cases e
      rcases hr.fw.rd h1.1 with h1 | ⟨od, h1⟩
      · exact .base (.dK h1)
      · exact .fDict h1
    · obtain ⟨_, kvs, h1, _⟩ := h; cases e
      rcases hr.fw.rd h1.1 with h1 | ⟨od, h1⟩
      · exact .base (.dT h1)
      · exact .fDicT h1
  | _ => cases e
theorem tyD_at {K : PySem.W.Frag} {T : List (Addr × Str)} {F G H : Hp} {l : List Addr} {S : Store} (hr : HRel K T F G l S H) {d : D} {v : V} {t : Ty} (hv : At K F l d v) (e : tyD S d = some t) : TyY K H v (.type t.name) := by
  cases d with
  | loc n =>
    obtain ⟨a, h1, rfl⟩ := hv
    simp only [tyD] at e
    cases q : S[n]? with
    | none => rw [q] at e; cases e
    | some c =>
      rw [q] at e
      obtain ⟨a', h2, h3⟩ := hr.cell n c q
      rw [h1] at h2; cases h2
      cases c with
      | lst ds =>
        cases e
        obtain ⟨_, _, vs, h5, _⟩ := h3
        exact .base (.lst h5)
      | dct t ks ws =>
        cases e
        obtain ⟨_, _, vs, _, h | h⟩ := h3
        · obtain ⟨_, kvs, q1, _⟩ := h; exact .base (.dK q1)
        · obtain ⟨_, kvs, q1, _⟩ := h; exact .base (.dT q1)
      | fz d => exact tyD0_at hr h3 e
  | _ => exact tyD0_at hr hv e
def isiE (t : Ty) (f : Sem D) : Sem D := bindO f fun d => fun _ S => match tyD S d with
  | some a => .ok (.bl (isiB a t)) S
  | none => .stuck
section
variable {X : Cx} {T : List (Addr × Str)} {W : WX} {p p2 pos : Pos} {e : Expr} {x : Str}
theorem pd_isi {f : Sem D} (t : Ty) (hi : Gl X "isinstance") (hm : X.mg "isinstance" = none) (hx : Gl X x) (hxm : X.mg x = none) (hv : bootBuiltins x = some (.type t.name)) (h : PD X T W e f) (hn : x ≠ "__name__" := by decide) (hdb : (x == ("__debug__" : Str)) = false := by decide)
    (hb : bootBuiltins "isinstance" = some (.builtin "isinstance") := by decide +kernel)
    (he : starEach [e, .Name x p2] X.env = (false, eval e X.env) :: starEach [.Name x p2] X.env := by rfl) (hpl : (backTo pos (starEach [.Name x p2] X.env)).any (·.1) = false := by rfl) : PD X T W (.Call (.Name "isinstance" p) [e, .Name x p2] [] pos) (isiE t f) :=
  PE.imp (pe_callB call_isiY hi hm hb (pa_cons h (pa_cons (pe_bltn (v := .ty t.name) hx hxm hv rfl hn hdb) pa_nil) he) (by decide) (by decide) he hpl) fun σ H Q q => by
  obtain ⟨F, G, l, r0, S, hr, hs, hp⟩ := q
  refine wp_step hr hs hp fun F1 l1 S1 a v H1 lt1 hs1 ha hp1 => ?_
  cases e1 : tyD S1 a with
  | none => rw [e1] at hp1; exact hp1.elim
  | some u =>
    rw [e1] at hp1
    exact ⟨v, .ty t.name, _, _, _, rfl, .ty _, tyD_at lt1.rel ha e1, isiB_ok u t, hp1 F1 l1 H1 _ (Later.refl lt1.rel) rfl⟩
end
end Aw

/-! Aw9: defs and their calls. -/
namespace Aw
open PySem L2 LamX

/-! ### names of cells, resolved -/
mutual
def resD (f : Nat → Option D) : D → Option D
  | .loc n => f n
  | .tup ds => (resL f ds).map .tup
  | .lst ds => (resL f ds).map .lst
  | .dct t ks ws => (resL f ws).map (.dct t ks)
  | d => some d
def resL (f : Nat → Option D) : List D → Option (List D)
  | [] => some []
  | d :: ds => match resD f d, resL f ds with
    | some e, some es => some (e :: es)
    | _, _ => none
end
/-- all cells are held to be frozen -/
def resLoc (S : Store) : Nat → Nat → Option D
  | 0, _ => none
  | k + 1, n => match S[n]? with
    | some (.lst ds) => (resL (resLoc S k) ds).map .lst
    | some (.dct t ks ws) => (resL (resLoc S k) ws).map (.dct ⟨t, false⟩ ks)
    | some (.fz d) => resD (resLoc S k) d
    | none => none
/-- frozen cells alone -/
def resFz (S : Store) : Nat → Nat → Option D
  | 0, _ => none
  | k + 1, n => match S[n]? with
    | some (.fz d) => resD (resFz S k) d
    | _ => none
/-- lists' cells are held to be frozen -/
def resLst (S : Store) : Nat → Nat → Option D
  | 0, _ => none
  | k + 1, n => match S[n]? with
    | some (.lst ds) => (resL (resLst S k) ds).map .lst
    | some (.fz d) => resD (resLst S k) d
    | _ => none
def resA (S : Store) (d : D) : Option D := resD (resLoc S 4) d
def resF (S : Store) (ds : List D) : Option (List D) := resL (resFz S 4) ds
section
variable {K : PySem.W.Frag} {T : List (Addr × Str)} {F F' G H H' : Hp} {l : List Addr} {S : Store}
mutual
theorem resD_at (e : Le F F') {f : Nat → Option D} (hf : ∀ n d v, f n = some d → At K F l (.loc n) v → At K F' [] d v) : ∀ (d d1 : D) (v : V), At K F l d v → resD f d = some d1 → At K F' [] d1 v
  | .non, d1, v, h, q => by cases q; exact h
  | .bl _, d1, v, h, q => by cases q; exact h
  | .int _, d1, v, h, q => by cases q; exact h
  | .str _, d1, v, h, q => by cases q; exact h
  | .fn _, d1, v, h, q => by cases q; exact h
  | .scr ns, d1, v, h, q => by
    cases q
    obtain ⟨a, h1, h2, h3⟩ := h
    exact ⟨a, h1, sql_le e h2, h3⟩
  | .loc n, d1, v, h, q => hf n d1 v q h
  | .tup ds, d1, v, h, q => by
    simp only [resD] at q
    cases q1 : resL f ds with
    | none => rw [q1] at q; cases q
    | some es =>
      rw [q1] at q; cases q
      obtain ⟨a, vs, h1, h2, h3, h4⟩ := h
      have h5 := resL_at e hf ds es vs h4 q1
      exact ⟨a, vs, h1, e.app h2, by rw [← h5.length, h4.length]; exact h3, h5⟩
  | .lst ds, d1, v, h, q => by
    simp only [resD] at q
    cases q1 : resL f ds with
    | none => rw [q1] at q; cases q
    | some es =>
      rw [q1] at q; cases q
      obtain ⟨a, vs, h1, h2, h3, h4⟩ := h
      have h5 := resL_at e hf ds es vs h4 q1
      exact ⟨a, vs, h1, e.app h2, by rw [← h5.length, h4.length]; exact h3, h5⟩
  | .dct t ks ws, d1, v, h, q => by
    simp only [resD] at q
    cases q1 : resL f ws with
    | none => rw [q1] at q; cases q
    | some es =>
      rw [q1] at q; cases q
      obtain ⟨a, vs, h1, h2, h3, h4⟩ := h
      refine ⟨a, vs, h1, resL_at e hf ws es vs h2 q1, h3, ?_⟩
      rcases h4 with ⟨ht, kvs, r1, r2⟩ | ⟨ht, kvs, r1, r2⟩
      · exact .inl ⟨ht, kvs, r1.mono e, r2⟩
      · exact .inr ⟨ht, kvs, r1.mono e, r2⟩
theorem resL_at (e : Le F F') {f : Nat → Option D} (hf : ∀ n d v, f n = some d → At K F l (.loc n) v → At K F' [] d v) : ∀ (ds ds1 : List D) (vs : List V), AtL K F l ds vs → resL f ds = some ds1 → AtL K F' [] ds1 vs
  | [], d1, v, h, q => by cases q; exact h
  | d :: ds, d1, v, h, q => by
    simp only [resL] at q
    obtain ⟨w, ws, rfl, h1, h2⟩ := h
    cases q1 : resD f d with
    | none => rw [q1] at q; cases q
    | some e1 =>
      rw [q1] at q
      cases q2 : resL f ds with
      | none => rw [q2] at q; cases q
      | some es =>
        rw [q2] at q; cases q
        exact ⟨w, ws, rfl, resD_at e hf d e1 w h1 q1, resL_at e hf ds es ws h2 q2⟩
end
/-- every cell frozen -/
def freezeF (F H : Hp) (l : List Addr) : Hp := fun a => match F a with
  | some o => some o
  | none => if a ∈ l then H a else none
theorem freezeF_leS : LeS F (freezeF F H l) := fun a o h => by simp [freezeF, h]
theorem freezeF_le : Le F (freezeF F H l) := freezeF_leS.w
theorem HRel.freezeAll (h : HRel K T F G l S H) : HRel K T (freezeF F H l) G [] [] H := by
  refine ⟨fun a o e => ?_, h.gr, fun a o e => ?_, fun i j a h1 => by simp at h1, rfl, fun a ha => by simp at ha, fun a ha => by simp at ha, fun a ha => by simp at ha, h.tabs, fun n c e => by simp at e, h.gc⟩
  · unfold freezeF at e
    split at e
    · rename_i q; cases e; exact h.fz a _ q
    · split at e
      · exact e
      · cases e
  · unfold freezeF at e
    split at e
    · rename_i q; exact h.fg a _ q
    · split at e
      · rename_i hm; exact h.gl a hm
      · cases e
theorem resLoc_at (h : HRel K T F G l S H) : ∀ (k n : Nat) (d : D) (v : V), resLoc S k n = some d → At K F l (.loc n) v → At K (freezeF F H l) [] d v
  | 0, _, _, _, e, _ => by cases e
  | k + 1, n, d, v, e, hv => by
    obtain ⟨a, h1, rfl⟩ := hv
    have mem : a ∈ l := List.mem_of_getElem? h1
    simp only [resLoc] at e
    split at e
    · rename_i ds q
      obtain ⟨a', h2, h3⟩ := h.cell n _ q
      rw [h1] at h2; cases h2
      obtain ⟨h4, h5, vs, h6, h7⟩ := h3
      cases q1 : resL (resLoc S k) ds with
      | none => rw [q1] at e; cases e
      | some es =>
        rw [q1] at e; cases e
        have h8 := resL_at freezeF_le (resLoc_at h k) ds es vs h7 q1
        exact ⟨a, vs, rfl, by simp [freezeF, h4, mem, h6], by rw [← h8.length, h7.length]; exact h5, h8⟩
    · rename_i ks ws q
      obtain ⟨a', h2, h3⟩ := h.cell n _ q
      rw [h1] at h2; cases h2
      obtain ⟨h4, h5, vs, h6, h7⟩ := h3
      cases q1 : resL (resLoc S k) ws with
      | none => rw [q1] at e; cases e
      | some es =>
        rw [q1] at e; cases e
        refine ⟨a, vs, rfl, resL_at freezeF_le (resLoc_at h k) ws es vs h6 q1, h5, ?_⟩
        rcases h7 with ⟨ht, kvs, r1, r2⟩ | ⟨ht, kvs, r1, r2⟩
        · exact .inl ⟨ht, kvs, .free (.inl (by simp [freezeF, h4, mem, r1])), r2⟩
        · exact .inr ⟨ht, kvs, .free (.inl (by simp [freezeF, h4, mem, r1])), r2⟩
    · rename_i d' q
      obtain ⟨a', h2, h3⟩ := h.cell n _ q
      rw [h1] at h2; cases h2
      exact resD_at freezeF_le (resLoc_at h k) d' d _ h3 e
    · cases e
theorem resA_at (h : HRel K T F G l S H) {d d1 : D} {v : V} (hv : At K F l d v) (e : resA S d = some d1) : At K (freezeF F H l) [] d1 v := resD_at freezeF_le (resLoc_at h 4) d d1 v hv e
theorem resFz_at (h : HRel K T F G l S H) : ∀ (k n : Nat) (d : D) (v : V), resFz S k n = some d → At K F l (.loc n) v → At K F [] d v
  | 0, _, _, _, e, _ => by cases e
  | k + 1, n, d, v, e, hv => by
    obtain ⟨a, h1, rfl⟩ := hv
    simp only [resFz] at e
    split at e
    · rename_i d' q
      obtain ⟨a', h2, h3⟩ := h.cell n _ q
      rw [h1] at h2; cases h2
      exact resD_at (Le.refl F) (resFz_at h k) d' d _ h3 e
    · cases e
theorem resF_at (h : HRel K T F G l S H) {ds ds1 : List D} {vs : List V} (hv : AtL K F l ds vs) (e : resF S ds = some ds1) : AtL K F [] ds1 vs := resL_at (Le.refl F) (resFz_at h 4) ds ds1 vs hv e

/-! ### the cells into the frame, and back -/
def rootG (F G H : Hp) (l : List Addr) : Hp := fun a => match F a with
  | some _ => none
  | none => if a ∈ l then H a else G a
theorem HRel.root (h : HRel K T F G l S H) : HRel K T F (rootG F G H l) [] [] H := by
  refine ⟨h.fz, fun a o e => ?_, fun a o e => by simp [rootG, e], fun i j a h1 => by simp at h1, rfl, fun a ha => by simp at ha, fun a ha => by simp at ha, fun a ha => by simp at ha, h.tabs, fun n c e => by simp at e, fun a o e => ?_⟩
  · unfold rootG at e
    split at e
    · cases e
    · split at e
      · exact e
      · exact h.gr a o e
  · unfold rootG at e
    split at e
    · cases e
    · split at e
      · rename_i ha; exact h.tb a ha o e
      · exact h.gc a o e
theorem HRel.unroot (h : HRel K T F G l S H) (le : Le F F') (h' : HRel K T F' (rootG F G H l) [] [] H') : HRel K T F' G l S H' := by
  have same : ∀ a, a ∈ l → F a = none → H' a = H a := fun a ha e => by
    cases e2 : H a with
    | none => exact absurd e2 (h.al a ha)
    | some o =>
      refine h'.gr a o ?_
      simp [rootG, e, ha, e2]
  have live : ∀ a, a ∈ l → H' a ≠ none ∧ ∀ o, H' a = some o → isCellO o = true := fun a ha => by
    cases e : F a with
    | none => rw [same a ha e]; exact ⟨h.al a ha, h.tb a ha⟩
    | some o =>
      rcases le a o e with e1 | ⟨_, od, e1⟩
      · rw [h'.fz a _ e1]
        exact ⟨by simp, fun o' q => by cases q; exact h.tb a ha o (h.fz a o e)⟩
      · rw [h'.fz a _ e1]
        exact ⟨by simp, fun o' q => by cases q; rfl⟩
  have free : ∀ a, a ∈ l → F a = none → F' a = none := fun a ha e => by
    cases e1 : F' a with
    | none => rfl
    | some o =>
      have := h'.fg a o e1
      simp only [rootG, e, if_pos ha] at this
      exact absurd this (h.al a ha)
  refine ⟨h'.fz, fun a o e => ?_, fun a o e => ?_, fun i j a h1 h2 h3 => h.nd i j a h1 h2 (by
    cases q : F a with
    | none => rfl
    | some o => rcases le a o q with z | ⟨_, od, z⟩ <;> (rw [z] at h3; cases h3)), h.len, h.gl, fun a ha => (live a ha).1, fun a ha o e => (live a ha).2 o e, h'.tabs, fun n c e => ?_, h.gc⟩
  · have nl : a ∉ l := fun z => by rw [h.gl a z] at e; cases e
    have nf : F a = none := by
      cases q : F a with
      | none => rfl
      | some u => rw [h.fg a u q] at e; cases e
    exact h'.gr a o (by simp [rootG, nf, nl, e])
  · cases q : G a with
    | none => rfl
    | some u =>
      have nl : a ∉ l := fun z => by rw [h.gl a z] at q; cases q
      have nf : F a = none := by
        cases q2 : F a with
        | none => rfl
        | some u2 => rw [h.fg a u2 q2] at q; cases q
      have := h'.fg a o e
      simp only [rootG, nf, if_neg nl] at this
      rw [q] at this; cases this
  · obtain ⟨a, h1, h2⟩ := h.cell n c e
    have mem : a ∈ l := List.mem_of_getElem? h1
    refine ⟨a, h1, ?_⟩
    cases c with
    | lst ds =>
      obtain ⟨h3, h4, vs, h5, h6⟩ := h2
      exact ⟨free a mem h3, h4, vs, (same a mem h3).trans h5, AtL.mono le (Pre.refl l) _ _ h6⟩
    | dct t ks ws =>
      obtain ⟨h3, h4, vs, h5, h6⟩ := h2
      refine ⟨free a mem h3, h4, vs, AtL.mono le (Pre.refl l) _ _ h5, ?_⟩
      rcases h6 with ⟨ht, kvs, r1, r2⟩ | ⟨ht, kvs, r1, r2⟩
      · exact .inl ⟨ht, kvs, (same a mem h3).trans r1, r2⟩
      · exact .inr ⟨ht, kvs, (same a mem h3).trans r1, r2⟩
    | fz d => exact At.mono le (Pre.refl l) _ _ h2
end

/-! ### a def without cells of others -/
inductive PR where
  | ok (d : D) | err (c : Ex) | stuck
abbrev FSem := List D → PR
def PostP (K : PySem.W.Frag) (T : List (Addr × Str)) (F G : Hp) (Q : VK) (E : XK) : PR → Prop
  | .ok d => ∀ F' H' v, Le F F' → HRel K T F' G [] [] H' → At K F' [] d v → Q v H'
  | .err c => ∀ F' H', Le F F' → HRel K T F' G [] [] H' → E (exV K c) none H'
  | .stuck => False
def spP (K : PySem.W.Frag) (T : List (Addr × Str)) (n : Nat) (f : FSem) : Sp := fun vs H Q E => ∃ F G ds, HRel K T F G [] [] H ∧ AtL K F [] ds vs ∧ ds.length = n ∧ PostP K T F G Q E (f ds)
def startE (n : Nat) (ds : List D) : Env := ds.map some ++ List.replicate (n - ds.length) none
def fnOut (n : Nat) (body : SemS) : FSem := fun ds => match body (startE n ds) [] with
  | .ret d S => match resA S d with
    | some d1 => .ok d1
    | none => .stuck
  | .nx _ _ => .ok .non
  | .err c _ _ => .err c
  | _ => .stuck
/-- a def that may be called by its name -/
structure FnD (P : Program) (w : World) (K : PySem.W.Frag) (T : List (Addr × Str)) (mg : Str → Option Value) (base : Heap) (x : Str) (k n : Nat) (f : FSem) : Prop where
  ex : ∃ (a : Addr) (fd : FuncData) (ps : List Str), mg x = some (.ref a) ∧ PySem.W.keepIn K (.ref a) = true ∧ Binds K fd ps [] ∧ ps.length = n ∧ FnOk P w K mg base (L2.CX P w) k a fd ps (spP K T n f)
/-- the context of a def's body -/
abbrev bodyCx (P : Program) (w : World) (K : PySem.W.Frag) (mg : Str → Option Value) (base : Heap) (N : List Str) (qual : Str) (sc : Scope) (f : Addr) (cdv : Value) (A : Around) (outer : List PySem.Env) (s : Shared) (H : Hp) (E : XK) : Cx :=
  cxOf (L2.CX P w) P w K mg base N qual sc f cdv A outer s H E
abbrev bodyW (E : XK) : WX := fun c d _ H => E c d H
theorem bodyCtx {P : Program} {w : World} {K : PySem.W.Frag} {mg : Str → Option Value} {base : Heap} {N ps : List Str} {qual : Str} {sc : Scope} {f : Addr} {cdv : Value} {A : Around} {outer : List PySem.Env} {s : Shared} {H : Hp} {E : XK} {k : Nat}
    (S : FnScope N ps sc) (hr : Room k (A.deeper (PyProof.Rows.envOfC qual sc s.heap.objs.size f cdv))) : Ctx (bodyCx P w K mg base N qual sc f cdv A outer s H E) (bodyW E) k :=
  ⟨rfl, S.nd, takes_of rfl rfl rfl rfl, passes_of rfl, hr⟩
theorem start_sl {K : PySem.W.Frag} {F : Hp} {N : List Str} {ds : List D} {vs : List V} (h : AtL K F [] ds vs) : Sl K F [] (startE N.length ds) (L2.start N vs) := by
  have e := h.length
  refine ⟨by simp [startE, L2.start, e], fun i d q => ?_⟩
  unfold startE at q
  by_cases hi : i < ds.length
  · rw [List.getElem?_append_left (by simpa using hi), List.getElem?_map] at q
    cases q1 : ds[i]? with
    | none => rw [q1] at q; cases q
    | some d' =>
      rw [q1] at q; cases q
      obtain ⟨v, q2, q3⟩ := h.get q1
      refine ⟨v, ?_, q3⟩
      unfold L2.start
      rw [List.getElem?_append_left (by simp [e]; exact hi), List.getElem?_map, q2]
      rfl
  · rw [List.getElem?_append_right (by simpa using hi), List.getElem?_replicate] at q
    split at q <;> cases q
section
variable {P : Program} {w : World} {K : PySem.W.Frag} {T : List (Addr × Str)} {mg : Str → Option Value} {base : Heap} {x qual : Str} {st : Stmt} {a : Addr} {fd : FuncData} {N ps : List Str} {k : Nat}
theorem fnP {body : SemS} {n : Nat} (F : Fun K x qual st a fd) (Sc : FnScope N ps (defScope st)) (hn : N.length = n)
    (hb : ∀ (cdv : Value) (A : Around) (outer : List PySem.Env) (s : Shared) (H : Hp) (E : XK), Ctx (bodyCx P w K mg base N qual (defScope st) a cdv A outer s H E) (bodyW E) k →
      PDB (bodyCx P w K mg base N qual (defScope st) a cdv A outer s H E) T (bodyW E) (defBody st) body) :
    FnOk P w K mg base (L2.CX P w) (k + 1) a fd ps (spP K T ps.length (fnOut n body)) := by
  subst hn
  obtain ⟨oc, od, kV, doc, pm, an, cdv, ct, osl, rfl, lk, hcd⟩ := F.ex
  refine fn_of lk hcd Sc (fun vs H Q E ⟨F, G, ds, _, h, e, _⟩ => by rw [h.length, e]) fun A outer s H vs Q E hr ⟨F, G, ds, h1, h2, h3, h4⟩ => ?_
  refine ⟨_, hb cdv A outer s H E (bodyCtx Sc hr), F, G, [], startE N.length ds, [], h1, start_sl h2, ?_⟩
  unfold fnOut at h4
  cases e : body (startE N.length ds) [] with
  | ret d S =>
    rw [e] at h4
    intro F' l' H' v lt hv
    cases q : resA S d with
    | none => simp only [q] at h4; exact h4.elim
    | some d1 =>
      simp only [q] at h4
      exact h4 _ H' v (lt.le.trans freezeF_le) lt.rel.freezeAll (resA_at lt.rel hv q)
  | nx r S =>
    rw [e] at h4
    exact fun F' l' σ' H' lt _ => h4 _ H' .non (lt.le.trans freezeF_le) lt.rel.freezeAll rfl
  | err c r S =>
    rw [e] at h4
    exact fun F' l' σ' H' lt _ => h4 _ H' (lt.le.trans freezeF_le) lt.rel.freezeAll
  | brk r S => rw [e] at h4; exact h4.elim
  | ct r S => rw [e] at h4; exact h4.elim
  | stuck => rw [e] at h4; exact h4.elim
end
/-! ### the call -/
def liftP : PR → Store → Out D
  | .ok d, S => .ok d S
  | .err c, S => .err c S
  | .stuck, _ => .stuck
/-- an answer that holds no address -/
def flatA : D → Bool
  | .non => true
  | .bl _ => true
  | .int _ => true
  | .str _ => true
  | _ => false
theorem flatA_at {K : PySem.W.Frag} {F F' : Hp} {l l' : List Addr} {d : D} {v : V} (h : At K F l d v) (f : flatA d = true) : At K F' l' d v := by
  cases d with
  | non => exact h
  | bl _ => exact h
  | int _ => exact h
  | str _ => exact h
  | _ => cases f
/-- the call with cells lent -/
def liftB : PR → Store → Out D
  | .ok d, S => if flatA d then .ok d S else .stuck
  | .err c, S => .err c S
  | .stuck, _ => .stuck
def callF (n : Nat) (f : FSem) (fa : Sem (List D)) : Sem D := bindO fa fun ds => fun _ S => match resF S ds with
  | some ds1 => if ds1.length = n then liftP (f ds1) S else .stuck
  | none => match resL (resLst S 4) ds with
    | some ds1 => if ds1.length = n then liftB (f ds1) S else .stuck
    | none => .stuck
def restr (F F' : Hp) : Hp := fun a => match F a with
  | some _ => F' a
  | none => none
theorem restr_le {F F' : Hp} (h : Le F F') : Le F (restr F F') := fun a o e => by
  have : restr F F' a = F' a := by simp [restr, e]
  rw [this]; exact h a o e
/-- the lists' cells frozen -/
def freezeL (F H : Hp) (l : List Addr) : Hp := fun a => match F a with
  | some o => some o
  | none => if a ∈ l then (match H a with
    | some (.lst vs) => some (.lst vs)
    | _ => none) else none
def rootL (F G H : Hp) (l : List Addr) : Hp := fun a => match freezeL F H l a with
  | some _ => none
  | none => if a ∈ l then H a else G a
section
variable {K : PySem.W.Frag} {T : List (Addr × Str)} {F F' G H H' : Hp} {l : List Addr} {S : Store}
theorem freezeL_leS : LeS F (freezeL F H l) := fun a o h => by simp [freezeL, h]
theorem freezeL_le : Le F (freezeL F H l) := freezeL_leS.w
theorem freezeL_H (h : HRel K T F G l S H) {a : Addr} {o : HO} (e : freezeL F H l a = some o) : H a = some o ∧ (F a = some o ∨ (F a = none ∧ a ∈ l)) := by
  unfold freezeL at e
  split at e
  · rename_i q; cases e; exact ⟨h.fz a _ q, .inl q⟩
  · rename_i q
    split at e
    · rename_i ha
      split at e
      · rename_i q2; cases e; exact ⟨q2, .inr ⟨q, ha⟩⟩
      · cases e
    · cases e
theorem HRel.freezeLst (h : HRel K T F G l S H) : HRel K T (freezeL F H l) (rootL F G H l) [] [] H := by
  refine ⟨fun a o e => (freezeL_H h e).1, fun a o e => ?_, fun a o e => by simp [rootL, e], fun i j a h1 => by simp at h1, rfl, fun a ha => by simp at ha, fun a ha => by simp at ha, fun a ha => by simp at ha, h.tabs, fun n c e => by simp at e, fun a o e => ?_⟩
  · unfold rootL at e
    split at e
    · cases e
    · split at e
      · exact e
      · exact h.gr a o e
  · unfold rootL at e
    split at e
    · cases e
    · split at e
      · rename_i ha; exact h.tb a ha o e
      · exact h.gc a o e
theorem resLst_at (h : HRel K T F G l S H) : ∀ (k n : Nat) (d : D) (v : V), resLst S k n = some d → At K F l (.loc n) v → At K (freezeL F H l) [] d v
  | 0, _, _, _, e, _ => by cases e
  | k + 1, n, d, v, e, hv => by
    obtain ⟨a, h1, rfl⟩ := hv
    have mem : a ∈ l := List.mem_of_getElem? h1
    simp only [resLst] at e
    split at e
    · rename_i ds q
      obtain ⟨a', h2, h3⟩ := h.cell n _ q
      rw [h1] at h2; cases h2
      obtain ⟨h4, h5, vs, h6, h7⟩ := h3
      cases q1 : resL (resLst S k) ds with
      | none => rw [q1] at e; cases e
      | some es =>
        rw [q1] at e; cases e
        have h8 := resL_at freezeL_le (resLst_at h k) ds es vs h7 q1
        exact ⟨a, vs, rfl, by simp [freezeL, h4, mem, h6], by rw [← h8.length, h7.length]; exact h5, h8⟩
    · rename_i d' q
      obtain ⟨a', h2, h3⟩ := h.cell n _ q
      rw [h1] at h2; cases h2
      exact resD_at freezeL_le (resLst_at h k) d' d _ h3 e
    · cases e
theorem HRel.lent (h : HRel K T F G l S H) (le : Le (freezeL F H l) F') (h' : HRel K T F' (rootL F G H l) [] [] H') : Le F (restr F F') ∧ HRel K T (restr F F') G l S H' := by
  have le' : Le F F' := freezeL_le.trans le
  have le2 := restr_le le'
  have rs : ∀ a o, restr F F' a = some o → F' a = some o ∧ F a ≠ none := fun a o e => by
    unfold restr at e
    split at e
    · rename_i q; exact ⟨e, by rw [q]; simp⟩
    · cases e
  -- what is the caller's own stays
  have same : ∀ a, a ∈ l → F a = none → H' a = H a := fun a ha e => by
    cases e2 : H a with
    | none => exact absurd e2 (h.al a ha)
    | some o =>
      by_cases hl : ∃ vs, o = .lst vs
      · obtain ⟨vs, rfl⟩ := hl
        exact h'.fz a _ (le.app (show freezeL F H l a = some (.lst vs) by simp [freezeL, e, ha, e2]))
      · refine h'.gr a o ?_
        have q : freezeL F H l a = none := by
          simp only [freezeL, e, ha, if_true, e2]
          split
          · rename_i vs q; cases q; exact absurd ⟨vs, rfl⟩ hl
          · rfl
        simp [rootL, q, ha, e2]
  have live : ∀ a, a ∈ l → H' a ≠ none ∧ ∀ o, H' a = some o → isCellO o = true := fun a ha => by
    cases e : F a with
    | none => rw [same a ha e]; exact ⟨h.al a ha, h.tb a ha⟩
    | some o =>
      rcases le' a o e with e1 | ⟨_, od, e1⟩
      · rw [h'.fz a _ e1]
        exact ⟨by simp, fun o' q => by cases q; exact h.tb a ha o (h.fz a o e)⟩
      · rw [h'.fz a _ e1]
        exact ⟨by simp, fun o' q => by cases q; rfl⟩
  have gk : ∀ a o, G a = some o → rootL F G H l a = some o := fun a o e => by
    have nl : a ∉ l := fun z => by rw [h.gl a z] at e; cases e
    have nf : F a = none := by
      cases q : F a with
      | none => rfl
      | some u => rw [h.fg a u q] at e; cases e
    simp [rootL, freezeL, nf, nl, e]
  refine ⟨le2, fun a o e => h'.fz a o (rs a o e).1, fun a o e => h'.gr a o (gk a o e), fun a o e => ?_, fun i j a h1 h2 h3 => h.nd i j a h1 h2 ?_, h.len, h.gl, fun a ha => (live a ha).1, fun a ha => (live a ha).2, h'.tabs, fun n c e => ?_, h.gc⟩
  · cases q : F a with
    | none => exact absurd q (rs a o e).2
    | some u => exact h.fg a u q
  · cases q : F a with
    | none => rfl
    | some o => rcases le2 a o q with z | ⟨_, od, z⟩ <;> (rw [z] at h3; cases h3)
  · obtain ⟨a, h1, h2⟩ := h.cell n c e
    have mem := List.mem_of_getElem? h1
    refine ⟨a, h1, ?_⟩
    cases c with
    | lst ds =>
      obtain ⟨h3, h4, vs, h5, h6⟩ := h2
      exact ⟨by simp [restr, h3], h4, vs, (same a mem h3).trans h5, AtL.mono le2 (Pre.refl l) _ _ h6⟩
    | dct t ks ws =>
      obtain ⟨h3, h4, vs, h5, h6⟩ := h2
      refine ⟨by simp [restr, h3], h4, vs, AtL.mono le2 (Pre.refl l) _ _ h5, ?_⟩
      rw [same a mem h3]; exact h6
    | fz d => exact At.mono le2 (Pre.refl l) _ _ h2
end
section
variable {X : Cx} {T : List (Addr × Str)} {W : WX} {k j n : Nat} {p pos : Pos} {e : Expr} {es : List Expr} {x : Str} {f : FSem} {fa : Sem (List D)}
theorem callF_wp {K : PySem.W.Frag} {σ : St} {H : Hp} {Q : VK} (h : wp K T W (rE K) (callF n f fa) σ H Q) : tCallSD (spP K T n f) [] (WE W) (wp K T W (rA K) fa) σ H Q := by
  obtain ⟨F, G, l, r0, S, hr, hs, hp⟩ := h
  refine wp_step hr hs hp fun F1 l1 S1 a xs H1 lt1 hs1 ha hp1 => ?_
  rw [List.append_nil]
  cases e1 : resF S1 a with
  | none =>
    simp only [e1] at hp1
    cases e3 : resL (resLst S1 4) a with
    | none => simp only [e3] at hp1; exact hp1.elim
    | some ds1 =>
      simp only [e3] at hp1
      by_cases hl : ds1.length = n
      · rw [if_pos hl] at hp1
        refine ⟨_, _, ds1, lt1.rel.freezeLst, resL_at freezeL_le (resLst_at lt1.rel 4) a ds1 xs ha e3, hl, ?_⟩
        cases e2 : f ds1 with
        | ok d =>
          rw [e2] at hp1
          simp only [liftB] at hp1
          split at hp1
          · rename_i hfl
            exact fun F' H' v le h' hv => let q := lt1.rel.lent le h'; hp1 _ l1 H' v ⟨q.1, Pre.refl _, q.2⟩ (flatA_at hv hfl)
          · exact hp1.elim
        | err c =>
          rw [e2] at hp1
          exact fun F' H' le h' => let q := lt1.rel.lent le h'; hp1 _ l1 H' ⟨q.1, Pre.refl _, q.2⟩
        | stuck => rw [e2] at hp1; exact hp1.elim
      · rw [if_neg hl] at hp1; exact hp1.elim
  | some ds1 =>
    simp only [e1] at hp1
    by_cases hl : ds1.length = n
    · rw [if_pos hl] at hp1
      refine ⟨F1, _, ds1, lt1.rel.root, resF_at lt1.rel ha e1, hl, ?_⟩
      cases e2 : f ds1 with
      | ok d =>
        rw [e2] at hp1
        exact fun F' H' v le h' hv => hp1 F' l1 H' v ⟨le, Pre.refl _, lt1.rel.unroot le h'⟩ (At.mono (Le.refl F') (fun n a e => by simp at e) _ _ hv)
      | err c =>
        rw [e2] at hp1
        exact fun F' H' le h' => hp1 F' l1 H' ⟨le, Pre.refl _, lt1.rel.unroot le h'⟩
      | stuck => rw [e2] at hp1; exact hp1.elim
    · rw [if_neg hl] at hp1; exact hp1.elim
theorem pd_call (hc : Ctx X W k) (F : FnD X.prog X.w X.K T X.mg X.base x j n f) (hj : j ≤ k) (hg : Gl X x) (ha : PDA X T W (e :: es) fa) (hdb : (x == ("__debug__" : Str)) = false := by decide)
    (he : starEach (e :: es) X.env = (false, eval e X.env) :: starEach es X.env := by rfl) (hpl : (backTo pos (starEach es X.env)).any (·.1) = false := by rfl) : PD X T W (.Call (.Name x p) (e :: es) [] pos) (callF n f fa) := by
  obtain ⟨a, fd, ps, hm, hk, hb, hl, hF⟩ := F.ex
  exact PE.imp (pe_callSD hF (hc.rm.mono hj) hg hm hk hb .nil (fun σ => passAt hc.tk σ) ha hdb he hpl) fun _ _ _ q => callF_wp q
end
end Aw

/-! Aw10: defs whose answer the caller may change. -/
namespace Aw
open PySem L2 LamX

mutual
def shD (n : Nat) : D → D
  | .loc m => .loc (n + m)
  | .tup ds => .tup (shL n ds)
  | .lst ds => .lst (shL n ds)
  | .dct t ks ws => .dct t ks (shL n ws)
  | d => d
def shL (n : Nat) : List D → List D
  | [] => []
  | d :: ds => shD n d :: shL n ds
end
def shC (n : Nat) : Cell → Cell
  | .lst ds => .lst (shL n ds)
  | .dct t ks ws => .dct t ks (shL n ws)
  | .fz d => .fz (shD n d)
theorem shL_len (n : Nat) : ∀ ds : List D, (shL n ds).length = ds.length
  | [] => rfl
  | d :: ds => by simp [shL, shL_len n ds]
section
variable {K : PySem.W.Frag} {T : List (Addr × Str)} {F F' G H H' : Hp} {l l' : List Addr} {S S' : Store}
mutual
theorem shD_at (l : List Addr) : ∀ (d : D) (v : V), At K F l' d v → At K F (l ++ l') (shD l.length d) v
  | .non, _, h => h
  | .bl _, _, h => h
  | .int _, _, h => h
  | .str _, _, h => h
  | .fn _, _, h => h
  | .scr _, _, h => h
  | .loc n, v, h => by
    obtain ⟨a, h1, h2⟩ := h
    refine ⟨a, ?_, h2⟩
    rw [List.getElem?_append_right (by omega)]
    rw [show l.length + n - l.length = n by omega]
    exact h1
  | .tup ds, v, h => by
    obtain ⟨a, vs, h1, h2, h3, h4⟩ := h
    exact ⟨a, vs, h1, h2, by rw [shL_len]; exact h3, shL_at l ds vs h4⟩
  | .lst ds, v, h => by
    obtain ⟨a, vs, h1, h2, h3, h4⟩ := h
    exact ⟨a, vs, h1, h2, by rw [shL_len]; exact h3, shL_at l ds vs h4⟩
  | .dct t ks ws, v, h => by
    obtain ⟨a, vs, h1, h2, h3, h4⟩ := h
    exact ⟨a, vs, h1, shL_at l ws vs h2, h3, h4⟩
theorem shL_at (l : List Addr) : ∀ (ds : List D) (vs : List V), AtL K F l' ds vs → AtL K F (l ++ l') (shL l.length ds) vs
  | [], _, h => h
  | d :: ds, vs, h => by
    obtain ⟨v, vs', h1, h2, h3⟩ := h
    exact ⟨v, vs', h1, shD_at l d v h2, shL_at l ds vs' h3⟩
end
theorem shC_ok (l : List Addr) {a : Addr} : ∀ {c : Cell}, CellOk K F l' H a c → CellOk K F (l ++ l') H a (shC l.length c)
  | .lst ds, ⟨h1, h2, vs, h3, h4⟩ => ⟨h1, by rw [shL_len]; exact h2, vs, h3, shL_at l ds vs h4⟩
  | .dct t ks ws, ⟨h1, h2, vs, h3, h4⟩ => ⟨h1, h2, vs, shL_at l ws vs h3, h4⟩
  | .fz d, h => shD_at l d _ h
theorem HRel.unrootR (h : HRel K T F G l S H) (le : Le F F') (h' : HRel K T F' (rootG F G H l) l' S' H') : HRel K T F' G (l ++ l') (S ++ S'.map (shC l.length)) H' := by
  have same : ∀ a, a ∈ l → F a = none → H' a = H a := fun a ha e => by
    cases e2 : H a with
    | none => exact absurd e2 (h.al a ha)
    | some o =>
      refine h'.gr a o ?_
      simp [rootG, e, ha, e2]
  have live : ∀ a, a ∈ l → H' a ≠ none ∧ ∀ o, H' a = some o → isCellO o = true := fun a ha => by
    cases e : F a with
    | none => rw [same a ha e]; exact ⟨h.al a ha, h.tb a ha⟩
    | some o =>
      rcases le a o e with e1 | ⟨_, od, e1⟩
      · rw [h'.fz a _ e1]
        exact ⟨by simp, fun o' q => by cases q; exact h.tb a ha o (h.fz a o e)⟩
      · rw [h'.fz a _ e1]
        exact ⟨by simp, fun o' q => by cases q; rfl⟩
  have free : ∀ a, a ∈ l → F a = none → F' a = none := fun a ha e => by
    cases e1 : F' a with
    | none => rfl
    | some o =>
      have := h'.fg a o e1
      simp only [rootG, e, if_pos ha] at this
      exact absurd this (h.al a ha)
  have apart : ∀ a, a ∈ l → a ∈ l' → F' a = none → False := fun a ha hb e => by
    have e1 : F a = none := by
      cases q : F a with
      | none => rfl
      | some o => rcases le a o q with z | ⟨_, od, z⟩ <;> (rw [z] at e; cases e)
    have := h'.gl a hb
    simp only [rootG, e1, if_pos ha] at this
    exact h.al a ha this
  have nf : ∀ a o, G a = some o → F a = none ∧ a ∉ l := fun a o e => by
    refine ⟨?_, fun z => by rw [h.gl a z] at e; cases e⟩
    cases q : F a with
    | none => rfl
    | some u => rw [h.fg a u q] at e; cases e
  have gsome : ∀ a o, G a = some o → rootG F G H l a = some o := fun a o e => by
    obtain ⟨a1, a2⟩ := nf a o e
    simp [rootG, a1, a2, e]
  refine ⟨h'.fz, fun a o e => h'.gr a o (gsome a o e), fun a o e => ?_, fun i j a h1 h2 h3 => ?_, by simp [h.len, h'.len], fun a ha => ?_, fun a ha => ?_, fun a ha o e => ?_, h'.tabs, fun n c e => ?_, h.gc⟩
  · cases q : G a with
    | none => rfl
    | some u =>
      have := h'.fg a o e
      rw [gsome a u q] at this; cases this
  · by_cases hi : i < l.length <;> by_cases hj : j < l.length
    · rw [List.getElem?_append_left hi] at h1
      rw [List.getElem?_append_left hj] at h2
      refine h.nd i j a h1 h2 ?_
      cases q : F a with
      | none => rfl
      | some o => rcases le a o q with z | ⟨_, od, z⟩ <;> (rw [z] at h3; cases h3)
    · rw [List.getElem?_append_left hi] at h1
      rw [List.getElem?_append_right (by omega)] at h2
      exact (apart a (List.mem_of_getElem? h1) (List.mem_of_getElem? h2) h3).elim
    · rw [List.getElem?_append_right (by omega)] at h1
      rw [List.getElem?_append_left hj] at h2
      exact (apart a (List.mem_of_getElem? h2) (List.mem_of_getElem? h1) h3).elim
    · rw [List.getElem?_append_right (by omega)] at h1
      rw [List.getElem?_append_right (by omega)] at h2
      have := h'.nd _ _ a h1 h2 h3
      omega
  · rcases List.mem_append.mp ha with ha | ha
    · exact h.gl a ha
    · cases q : G a with
      | none => rfl
      | some o =>
        have := h'.gl a ha
        rw [gsome a o q] at this; cases this
  · rcases List.mem_append.mp ha with ha | ha
    · exact (live a ha).1
    · exact h'.al a ha
  · rcases List.mem_append.mp ha with ha | ha
    · exact (live a ha).2 o e
    · exact h'.tb a ha o e
  · by_cases hn : n < S.length
    · rw [List.getElem?_append_left hn] at e
      obtain ⟨a, h1, h2⟩ := h.cell n c e
      have mem : a ∈ l := List.mem_of_getElem? h1
      refine ⟨a, Pre.app _ _ _ _ h1, ?_⟩
      cases c with
      | lst ds =>
        obtain ⟨h3, h4, vs, h5, h6⟩ := h2
        exact ⟨free a mem h3, h4, vs, (same a mem h3).trans h5, AtL.mono le (Pre.app _ _) _ _ h6⟩
      | dct t ks ws =>
        obtain ⟨h3, h4, vs, h5, h6⟩ := h2
        refine ⟨free a mem h3, h4, vs, AtL.mono le (Pre.app _ _) _ _ h5, ?_⟩
        rcases h6 with ⟨ht, kvs, r1, r2⟩ | ⟨ht, kvs, r1, r2⟩
        · exact .inl ⟨ht, kvs, (same a mem h3).trans r1, r2⟩
        · exact .inr ⟨ht, kvs, (same a mem h3).trans r1, r2⟩
      | fz d => exact At.mono le (Pre.app _ _) _ _ h2
    · rw [List.getElem?_append_right (by omega), List.getElem?_map] at e
      cases q : S'[n - S.length]? with
      | none => rw [q] at e; cases e
      | some c' =>
        rw [q] at e; cases e
        obtain ⟨a, h1, h2⟩ := h'.cell _ c' q
        refine ⟨a, ?_, shC_ok l h2⟩
        rw [List.getElem?_append_right (by rw [h.len]; omega), h.len]
        exact h1
end
inductive RR where
  | ok (d : D) (S : Store) | err (c : Ex) | stuck
abbrev RSem := List D → RR
def PostR (K : PySem.W.Frag) (T : List (Addr × Str)) (F G : Hp) (Q : VK) (E : XK) : RR → Prop
  | .ok d S => ∀ F' l' H' v, Le F F' → HRel K T F' G l' S H' → At K F' l' d v → Q v H'
  | .err c => ∀ F' H', Le F F' → HRel K T F' G [] [] H' → E (exV K c) none H'
  | .stuck => False
def spR (K : PySem.W.Frag) (T : List (Addr × Str)) (n : Nat) (f : RSem) : Sp := fun vs H Q E => ∃ F G ds, HRel K T F G [] [] H ∧ AtL K F [] ds vs ∧ ds.length = n ∧ PostR K T F G Q E (f ds)
def fnRaw (n : Nat) (body : SemS) : RSem := fun ds => match body (startE n ds) [] with
  | .ret d S => .ok d S
  | .nx _ S => .ok .non S
  | .err c _ _ => .err c
  | _ => .stuck
structure FnR (P : Program) (w : World) (K : PySem.W.Frag) (T : List (Addr × Str)) (mg : Str → Option Value) (base : Heap) (x : Str) (k n : Nat) (f : RSem) : Prop where
  ex : ∃ (a : Addr) (fd : FuncData) (ps : List Str), mg x = some (.ref a) ∧ PySem.W.keepIn K (.ref a) = true ∧ Binds K fd ps [] ∧ ps.length = n ∧ FnOk P w K mg base (L2.CX P w) k a fd ps (spR K T n f)
section
variable {P : Program} {w : World} {K : PySem.W.Frag} {T : List (Addr × Str)} {mg : Str → Option Value} {base : Heap} {x qual : Str} {st : Stmt} {a : Addr} {fd : FuncData} {N ps : List Str} {k : Nat}
theorem fnR {body : SemS} {n : Nat} (F : Fun K x qual st a fd) (Sc : FnScope N ps (defScope st)) (hn : N.length = n)
    (hb : ∀ (cdv : Value) (A : Around) (outer : List PySem.Env) (s : Shared) (H : Hp) (E : XK), Ctx (bodyCx P w K mg base N qual (defScope st) a cdv A outer s H E) (bodyW E) k →
      PDB (bodyCx P w K mg base N qual (defScope st) a cdv A outer s H E) T (bodyW E) (defBody st) body) :
    FnOk P w K mg base (L2.CX P w) (k + 1) a fd ps (spR K T ps.length (fnRaw n body)) := by
  subst hn
  obtain ⟨oc, od, kV, doc, pm, an, cdv, ct, osl, rfl, lk, hcd⟩ := F.ex
  refine fn_of lk hcd Sc (fun vs H Q E ⟨F, G, ds, _, h, e, _⟩ => by rw [h.length, e]) fun A outer s H vs Q E hr ⟨F, G, ds, h1, h2, h3, h4⟩ => ?_
  refine ⟨_, hb cdv A outer s H E (bodyCtx Sc hr), F, G, [], startE N.length ds, [], h1, start_sl h2, ?_⟩
  unfold fnRaw at h4
  cases e : body (startE N.length ds) [] with
  | ret d S =>
    rw [e] at h4
    exact fun F' l' H' v lt hv => h4 F' l' H' v lt.le lt.rel hv
  | nx r S =>
    rw [e] at h4
    exact fun F' l' σ' H' lt _ => h4 F' l' H' .non lt.le lt.rel rfl
  | err c r S =>
    rw [e] at h4
    exact fun F' l' σ' H' lt _ => h4 _ H' (lt.le.trans freezeF_le) lt.rel.freezeAll
  | brk r S => rw [e] at h4; exact h4.elim
  | ct r S => rw [e] at h4; exact h4.elim
  | stuck => rw [e] at h4; exact h4.elim
end
def liftR : RR → Store → Out D
  | .ok d S', S => .ok (shD S.length d) (S ++ S'.map (shC S.length))
  | .err c, S => .err c S
  | .stuck, _ => .stuck
def callFR (n : Nat) (f : RSem) (fa : Sem (List D)) : Sem D := bindO fa fun ds => fun _ S => match resF S ds with
  | some ds1 => if ds1.length = n then liftR (f ds1) S else .stuck
  | none => .stuck
section
variable {X : Cx} {T : List (Addr × Str)} {W : WX} {k j n : Nat} {p pos : Pos} {e : Expr} {es : List Expr} {x : Str} {f : RSem} {fa : Sem (List D)}
theorem callFR_wp {K : PySem.W.Frag} {σ : St} {H : Hp} {Q : VK} (h : wp K T W (rE K) (callFR n f fa) σ H Q) : tCallSD (spR K T n f) [] (WE W) (wp K T W (rA K) fa) σ H Q := by
  obtain ⟨F, G, l, r0, S, hr, hs, hp⟩ := h
  refine wp_step hr hs hp fun F1 l1 S1 a xs H1 lt1 hs1 ha hp1 => ?_
  rw [List.append_nil]
  cases e1 : resF S1 a with
  | none => simp only [e1] at hp1; exact hp1.elim
  | some ds1 =>
    simp only [e1] at hp1
    by_cases hl : ds1.length = n
    · rw [if_pos hl] at hp1
      refine ⟨F1, _, ds1, lt1.rel.root, resF_at lt1.rel ha e1, hl, ?_⟩
      cases e2 : f ds1 with
      | ok d S' =>
        rw [e2] at hp1
        intro F' l' H' v le h' hv
        have h2 := lt1.rel.unrootR le h'
        rw [lt1.rel.len] at h2
        have h3 := shD_at l1 d v hv
        rw [lt1.rel.len] at h3
        exact hp1 F' _ H' v ⟨le, Pre.app _ _, h2⟩ h3
      | err c =>
        rw [e2] at hp1
        exact fun F' H' le h' => hp1 F' l1 H' ⟨le, Pre.refl _, lt1.rel.unroot le h'⟩
      | stuck => rw [e2] at hp1; exact hp1.elim
    · rw [if_neg hl] at hp1; exact hp1.elim
theorem pd_callR (hc : Ctx X W k) (F : FnR X.prog X.w X.K T X.mg X.base x j n f) (hj : j ≤ k) (hg : Gl X x) (ha : PDA X T W (e :: es) fa) (hdb : (x == ("__debug__" : Str)) = false := by decide)
    (he : starEach (e :: es) X.env = (false, eval e X.env) :: starEach es X.env := by rfl) (hpl : (backTo pos (starEach es X.env)).any (·.1) = false := by rfl) : PD X T W (.Call (.Name x p) (e :: es) [] pos) (callFR n f fa) := by
  obtain ⟨a, fd, ps, hm, hk, hb, hl, hF⟩ := F.ex
  exact PE.imp (pe_callSD hF (hc.rm.mono hj) hg hm hk hb .nil (fun σ => passAt hc.tk σ) ha hdb he hpl) fun _ _ _ q => callFR_wp q
end

/-! ### further statements -/
section
variable {X : Cx} {T : List (Addr × Str)} {W : WX} {k : Nat} {pos spos py : Pos} {elt tg iter e : Expr} {ifs : List Expr} {scope : Scope} {own : List (Str × Nat)} {it : Sem (List D)} {t : Tgt} {c : Sem Bool} {el : Sem D}
/-- name = [..] -/
theorem pds_lc (i : Nat) {y : Str} (hc : Ctx X W k) (hsw : swapsWith (.ListComp elt [⟨tg, iter, ifs, 0⟩] scope pos) (some (.Name y py)) spos.line X.env = pure true) (hi : PDI X T W tg iter it) (ok : BlkOk X.N X.env.scope scope own) (hws : ∀ i ∈ t.slots, i ∈ own.map (·.2) := by decide)
    (hg : Blk X scope fun Y => PG Y tg (t.rd Y.K)) (ht : Blk X scope fun Y => PDTs Y T W0 ifs c) (he : Blk X scope fun Y => PD Y T W0 elt el) (hy : X.N[i]? = some y := by rfl) (hyl : X.env.scope.names.lookup y = some .local := by rfl) (hs : ∀ x, foldedSetIterable iter X.env x = pure x := by intro _; rfl) :
    PDS X T W (.Assign [.Name y py] (.ListComp elt [⟨tg, iter, ifs, 0⟩] scope pos) spos) (setS (lcE it t (own.map (·.2)) c el) (.one i)) :=
  PS.imp (ps_setLc (g := t.rd X.K) (tt := wp X.K T W0 rT c) (te := wp X.K T W0 (rE X.K) el) hc.calm hc.nd hy hyl hsw hi ok hg ht he hs) fun Dn σ H ⟨F, G, l, r, S, hr, hsl, hp⟩ => by
  have q : wp X.K T W (rE X.K) (lcE it t (own.map (·.2)) c el) σ H (fun x H1 => gName i x σ H1 Dn.nx) := wpS_step hr hsl hp fun F1 l1 S1 a x H1 lt hs1 ha hp1 => set_post (t := .one i) lt.rel hs1 ha hp1
  exact comp_wp (fin := fun xs S => .ok (.lst xs) S) hws fin_frozen q
theorem pds_lcC (i : Nat) {y : Str} (hc : Ctx X W k) (hsw : swapsWith (.ListComp elt [⟨tg, iter, ifs, 0⟩] scope pos) (some (.Name y py)) spos.line X.env = pure true) (hi : PDI X T W tg iter it) (ok : BlkOk X.N X.env.scope scope own) (hws : ∀ i ∈ t.slots, i ∈ own.map (·.2) := by decide)
    (hg : Blk X scope fun Y => PG Y tg (t.rd Y.K)) (ht : Blk X scope fun Y => PDTs Y T W0 ifs c) (he : Blk X scope fun Y => PD Y T W0 elt el) (hy : X.N[i]? = some y := by rfl) (hyl : X.env.scope.names.lookup y = some .local := by rfl) (hs : ∀ x, foldedSetIterable iter X.env x = pure x := by intro _; rfl) :
    PDS X T W (.Assign [.Name y py] (.ListComp elt [⟨tg, iter, ifs, 0⟩] scope pos) spos) (setS (lcC it t (own.map (·.2)) c el) (.one i)) :=
  PS.imp (ps_setLc (g := t.rd X.K) (tt := wp X.K T W0 rT c) (te := wp X.K T W0 (rE X.K) el) hc.calm hc.nd hy hyl hsw hi ok hg ht he hs) fun Dn σ H ⟨F, G, l, r, S, hr, hsl, hp⟩ => by
  have q : wp X.K T W (rE X.K) (lcC it t (own.map (·.2)) c el) σ H (fun x H1 => gName i x σ H1 Dn.nx) := wpS_step hr hsl hp fun F1 l1 S1 a x H1 lt hs1 ha hp1 => set_post (t := .one i) lt.rel hs1 ha hp1
  exact comp_wp (fin := fun xs S => .ok (.loc S.length) (S ++ [Cell.lst xs])) hws fin_cell q
end
section
variable {K : PySem.W.Frag} {T : List (Addr × Str)}
theorem methd_insert : MethD K T (fun x vs H Q => ∃ (l : Addr) (xs : List V) (i : Int) (y : V), x = .ref l ∧ vs = [.int i, y] ∧ H l = some (.lst xs) ∧ xs.length < sizeLine ∧ 0 ≤ i ∧ i < 2 ^ 63 ∧
    Q .non (upd H l (.lst (xs.take i.toNat ++ [y] ++ xs.drop i.toNat)))) insertG := by
  intro F G l S H o as d S' x xs Q hr hx ha e k
  obtain ⟨p, vs, ds, ds', rfl, h1, h2, h3, h4, h5⟩ := onCell_at hr hx e
  split at h4
  · rename_i i a
    split at h4
    · rename_i hl
      cases h4
      obtain ⟨u, v, rfl, hu, hv⟩ := AtL.two ha
      cases hu
      refine ⟨p, vs, i, v, rfl, rfl, h1, by rw [h2.length]; exact Nat.lt_of_lt_of_le hl.1 (by decide), hl.2.1, hl.2.2, ?_⟩
      refine k _ _ _ _ (h5 _ ?_ ?_) rfl
      · rw [List.append_assoc]
        exact (h2.take _).append ⟨v, _, rfl, hv, h2.drop _⟩
      · rw [List.length_append, List.length_cons, List.length_take, List.length_drop]
        have : ds.length < 100000 := hl.1
        exact sz_of (by omega)
    · cases h4
  · cases h4
end
/-! ### the proof's own steps: a cell is frozen -/
def fzCell (n : Nat) (S : Store) : Option Store := match S[n]? with
  | some (.lst ds) => some (S.set n (.fz (.lst ds)))
  | some (.dct t ks ws) => some (S.set n (.fz (.dct ⟨t, false⟩ ks ws)))
  | some (.fz _) => some S
  | none => none
/-- the cell that slot i names -/
def fzSlot (i : Nat) : Env → Store → Option (Env × Store) := fun r S => match r[i]? with
  | some (some (.loc n)) => (fzCell n S).map fun S' => (r, S')
  | _ => none
theorem fzCell_ok {K : PySem.W.Frag} {T : List (Addr × Str)} {F G H : Hp} {l : List Addr} {S S' : Store} {n : Nat} (h : HRel K T F G l S H) (e : fzCell n S = some S') : ∃ F', Later K T F G l F' l S' H := by
  unfold fzCell at e
  split at e
  · rename_i ds q
    cases e
    obtain ⟨p, h1, h2, h3, vs, h4, h5⟩ := h.cell n _ q
    have le : Le F (upd F p (.lst vs)) := Le.new h2
    exact ⟨_, le, Pre.refl l, h.frz h1 q h2 h4 ⟨p, vs, rfl, upd_same, h3, AtL.mono le (Pre.refl l) _ _ h5⟩⟩
  · rename_i ks ws q
    cases e
    obtain ⟨p, h1, h2, h3, vs, h4, h5⟩ := h.cell n _ q
    rcases h5 with ⟨ht, kvs, r1, r2⟩ | ⟨ht, kvs, r1, r2⟩
    · have le : Le F (upd F p (.dK kvs)) := Le.new h2
      exact ⟨_, le, Pre.refl l, h.frz h1 q h2 r1 ⟨p, vs, rfl, AtL.mono le (Pre.refl l) _ _ h4, h3, .inl ⟨ht, kvs, .free (.inl upd_same), r2⟩⟩⟩
    · have le : Le F (upd F p (.dT kvs)) := Le.new h2
      exact ⟨_, le, Pre.refl l, h.frz h1 q h2 r1 ⟨p, vs, rfl, AtL.mono le (Pre.refl l) _ _ h4, h3, .inr ⟨ht, kvs, .free (.inl upd_same), r2⟩⟩⟩
  · cases e; exact ⟨F, Later.refl h⟩
  · cases e
theorem fzSlot_ok {K : PySem.W.Frag} {T : List (Addr × Str)} (i : Nat) : GhostOk K T (fzSlot i) := by
  intro F G l r S σ H r' S' hr hs e
  unfold fzSlot at e
  split at e
  · rename_i n _
    cases q : fzCell n S with
    | none => rw [q] at e; cases e
    | some S2 =>
      rw [q] at e; cases e
      obtain ⟨F', lt⟩ := fzCell_ok hr q
      exact ⟨F', lt, hs.mono lt.le lt.pre⟩
  · cases e
/-- all cells -/
def fzFrom (n : Nat) : Nat → Store → Option Store
  | 0, S => some S
  | k + 1, S => match fzCell (n + k) S with
    | some S' => fzFrom n k S'
    | none => none
theorem fzFrom_ok {K : PySem.W.Frag} {T : List (Addr × Str)} {G H : Hp} {l : List Addr} (n : Nat) : ∀ (k : Nat) {F : Hp} {S S' : Store}, HRel K T F G l S H → fzFrom n k S = some S' → ∃ F', Later K T F G l F' l S' H
  | 0, F, S, S', h, e => by cases e; exact ⟨F, Later.refl h⟩
  | k + 1, F, S, S', h, e => by
    simp only [fzFrom] at e
    cases q : fzCell (n + k) S with
    | none => rw [q] at e; cases e
    | some S2 =>
      rw [q] at e
      obtain ⟨F1, lt1⟩ := fzCell_ok h q
      obtain ⟨F2, lt2⟩ := fzFrom_ok n k lt1.rel e
      exact ⟨F2, lt1.trans lt2⟩
def fzAll : Env → Store → Option (Env × Store) := fun r S => (fzFrom 0 S.length S).map fun S' => (r, S')
theorem fzAll_ok {K : PySem.W.Frag} {T : List (Addr × Str)} : GhostOk K T fzAll := by
  intro F G l r S σ H r' S' hr hs e
  unfold fzAll at e
  cases q : fzFrom 0 S.length S with
  | none => rw [q] at e; cases e
  | some S2 =>
    rw [q] at e; cases e
    obtain ⟨F', lt⟩ := fzFrom_ok 0 _ hr q
    exact ⟨F', lt, hs.mono lt.le lt.pre⟩
end Aw

/-! Aw11: one word for each construct. -/
namespace Aw
open PySem L2 LamX

/-- the built-ins that the text leaves as they are -/
structure Bt (mg : Str → Option Value) : Prop where
  len : mg "len" = none
  range : mg "range" = none
  abs : mg "abs" = none := by assumption
  all : mg "all" = none := by assumption
  any : mg "any" = none := by assumption
  dict : mg "dict" = none := by assumption
  enumerate : mg "enumerate" = none := by assumption
  int : mg "int" = none := by assumption
  bool : mg "bool" = none := by assumption
  str : mg "str" = none := by assumption
  isinstance : mg "isinstance" = none := by assumption
  list : mg "list" = none := by assumption
  max : mg "max" = none := by assumption
  min : mg "min" = none := by assumption
  repr : mg "repr" = none := by assumption
  reversed : mg "reversed" = none := by assumption
  set : mg "set" = none := by assumption
  sorted : mg "sorted" = none := by assumption
  sum : mg "sum" = none := by assumption
  tuple : mg "tuple" = none := by assumption
  zip : mg "zip" = none := by assumption
theorem boot_len' : bootBuiltins "len" = some (.builtin "len") := by decide +kernel
theorem boot_abs' : bootBuiltins "abs" = some (.builtin "abs") := by decide +kernel
theorem boot_all' : bootBuiltins "all" = some (.builtin "all") := by decide +kernel
theorem boot_any' : bootBuiltins "any" = some (.builtin "any") := by decide +kernel
theorem boot_max' : bootBuiltins "max" = some (.builtin "max") := by decide +kernel
theorem boot_min' : bootBuiltins "min" = some (.builtin "min") := by decide +kernel
theorem boot_sum' : bootBuiltins "sum" = some (.builtin "sum") := by decide +kernel
theorem boot_sorted' : bootBuiltins "sorted" = some (.builtin "sorted") := by decide +kernel
theorem boot_int' : bootBuiltins "int" = some (.type "int") := by decide +kernel
theorem boot_bool' : bootBuiltins "bool" = some (.type "bool") := by decide +kernel
theorem boot_str' : bootBuiltins "str" = some (.type "str") := by decide +kernel
theorem boot_list' : bootBuiltins "list" = some (.type "list") := by decide +kernel
theorem boot_tuple' : bootBuiltins "tuple" = some (.type "tuple") := by decide +kernel
theorem boot_dict' : bootBuiltins "dict" = some (.type "dict") := by decide +kernel

section
variable {X : Cx} {T : List (Addr × Str)} {W : WX} {k : Nat} {pos p p2 : Pos} {a b e : Expr} {fa fb f : Sem D}
/-! ### operators -/
def addG : G2 := orG addI (orG addL addT)
def addGC : G2 := orG addI (orG addLC addT)
def mulG : G2 := orG mulI repL
def mulGC : G2 := orG mulI repLC
theorem d_add (ha : PD X T W a fa) (hb : PD X T W b fb) : PD X T W (.BinOp a .Add b pos) (op2 addG fa fb) := pd_op (OpR.or op_add (OpR.or op_cat op_catA)) (opd_addI.or (opd_addL.or opd_addT)) ha hb
theorem d_addC (ha : PD X T W a fa) (hb : PD X T W b fb) : PD X T W (.BinOp a .Add b pos) (op2 addGC fa fb) := pd_op (OpR.or op_add (OpR.or op_cat op_catA)) (opd_addI.or (opd_addLC.or opd_addT)) ha hb
theorem d_sub (ha : PD X T W a fa) (hb : PD X T W b fb) : PD X T W (.BinOp a .Sub b pos) (op2 subI fa fb) := pd_op op_sub opd_subI ha hb
theorem d_mul (ha : PD X T W a fa) (hb : PD X T W b fb) : PD X T W (.BinOp a .Mult b pos) (op2 mulG fa fb) := pd_op (OpR.or (OpR.or op_mul op_mulW) op_rep) (opd_mulI.or opd_repL) ha hb
theorem d_mulC (ha : PD X T W a fa) (hb : PD X T W b fb) : PD X T W (.BinOp a .Mult b pos) (op2 mulGC fa fb) := pd_op (OpR.or (OpR.or op_mul op_mulW) op_rep) (opd_mulI.or opd_repLC) ha hb
theorem d_fdiv (ha : PD X T W a fa) (hb : PD X T W b fb) : PD X T W (.BinOp a .FloorDiv b pos) (op2 fdivI fa fb) := pd_op op_fdivW opd_fdivI ha hb
theorem d_mod (ha : PD X T W a fa) (hb : PD X T W b fb) : PD X T W (.BinOp a .Mod b pos) (op2 modI fa fb) := pd_op op_mod opd_modI ha hb
theorem d_pow (ha : PD X T W a fa) (hb : PD X T W b fb) : PD X T W (.BinOp a .Pow b pos) (op2 powI fa fb) := pd_op op_pow opd_powI ha hb
theorem d_shl (ha : PD X T W a fa) (hb : PD X T W b fb) : PD X T W (.BinOp a .LShift b pos) (op2 shlI fa fb) := pd_op op_shl opd_shlI ha hb
theorem d_shr (ha : PD X T W a fa) (hb : PD X T W b fb) : PD X T W (.BinOp a .RShift b pos) (op2 shrI fa fb) := pd_op op_shr opd_shrI ha hb
/-! ### comparisons -/
theorem d_lt (ha : PD X T W a fa) (hb : PD X T W b fb) : PD X T W (.Compare a [.Lt] [b] pos) (op2 ltI fa fb) := pd_cmp op_lt opd_ltI ha hb (nomark _)
theorem d_le (ha : PD X T W a fa) (hb : PD X T W b fb) : PD X T W (.Compare a [.LtE] [b] pos) (op2 leI fa fb) := pd_cmp op_le opd_leI ha hb (nomark _)
theorem d_gt (ha : PD X T W a fa) (hb : PD X T W b fb) : PD X T W (.Compare a [.Gt] [b] pos) (op2 gtI fa fb) := pd_cmp op_gt opd_gtI ha hb (nomark _)
theorem d_ge (ha : PD X T W a fa) (hb : PD X T W b fb) : PD X T W (.Compare a [.GtE] [b] pos) (op2 geI fa fb) := pd_cmp op_ge opd_geI ha hb (nomark _)
theorem t_lt (ha : PD X T W a fa) (hb : PD X T W b fb) : PDT X T W (.Compare a [.Lt] [b] pos) (testE (op2 ltI fa fb)) := pt_cmp' op_lt opd_ltI ha hb (nomark _)
theorem t_le (ha : PD X T W a fa) (hb : PD X T W b fb) : PDT X T W (.Compare a [.LtE] [b] pos) (testE (op2 leI fa fb)) := pt_cmp' op_le opd_leI ha hb (nomark _)
theorem t_gt (ha : PD X T W a fa) (hb : PD X T W b fb) : PDT X T W (.Compare a [.Gt] [b] pos) (testE (op2 gtI fa fb)) := pt_cmp' op_gt opd_gtI ha hb (nomark _)
theorem t_ge (ha : PD X T W a fa) (hb : PD X T W b fb) : PDT X T W (.Compare a [.GtE] [b] pos) (testE (op2 geI fa fb)) := pt_cmp' op_ge opd_geI ha hb (nomark _)
theorem d_eq (hc : Ctx X W k) (ha : PD X T W a fa) (hb : PD X T W b fb) : PD X T W (.Compare a [.Eq] [b] pos) (op2 eqG fa fb) := pd_cmp (op_eqD hc.rm.units) opd_eq ha hb (nomark _)
theorem d_ne (hc : Ctx X W k) (ha : PD X T W a fa) (hb : PD X T W b fb) : PD X T W (.Compare a [.NotEq] [b] pos) (op2 neG fa fb) := pd_cmp (op_neD hc.rm.units) opd_ne ha hb (nomark _)
theorem t_eq (hc : Ctx X W k) (ha : PD X T W a fa) (hb : PD X T W b fb) : PDT X T W (.Compare a [.Eq] [b] pos) (testE (op2 eqG fa fb)) := pt_cmp' (op_eqD hc.rm.units) opd_eq ha hb (nomark _)
theorem t_ne (hc : Ctx X W k) (ha : PD X T W a fa) (hb : PD X T W b fb) : PDT X T W (.Compare a [.NotEq] [b] pos) (testE (op2 neG fa fb)) := pt_cmp' (op_neD hc.rm.units) opd_ne ha hb (nomark _)
def inG : G2 := orG (boG inF false) (boG inDeep false)
def notInG : G2 := orG (boG inF true) (boG inDeep true)
theorem unitsIn (hc : Ctx X W k) : X.A.units + 65 < cLine := by
  have := hc.rm.un; omega
theorem d_in (hc : Ctx X W k) (ha : PD X T W a fa) (hb : PD X T W b fb) (hm : behindInMarks .In b = false := by with_unfolding_all rfl) : PD X T W (.Compare a [.In] [b] pos) (op2 inG fa fb) := pd_cmp (OpR.or op_in_seq (op_inD (unitsIn hc))) ((opd_inF false).or opd_inD) ha hb hm
theorem d_notIn (hc : Ctx X W k) (ha : PD X T W a fa) (hb : PD X T W b fb) (hm : behindInMarks .NotIn b = false := by with_unfolding_all rfl) : PD X T W (.Compare a [.NotIn] [b] pos) (op2 notInG fa fb) := pd_cmp (OpR.or op_notIn_seq (op_notInD (unitsIn hc))) ((opd_inF true).or opd_notInD) ha hb hm
theorem t_in (hc : Ctx X W k) (ha : PD X T W a fa) (hb : PD X T W b fb) (hm : behindInMarks .In b = false := by with_unfolding_all rfl) : PDT X T W (.Compare a [.In] [b] pos) (testE (op2 inG fa fb)) := pt_cmp' (OpR.or op_in_seq (op_inD (unitsIn hc))) ((opd_inF false).or opd_inD) ha hb hm
theorem t_notIn (hc : Ctx X W k) (ha : PD X T W a fa) (hb : PD X T W b fb) (hm : behindInMarks .NotIn b = false := by with_unfolding_all rfl) : PDT X T W (.Compare a [.NotIn] [b] pos) (testE (op2 notInG fa fb)) := pt_cmp' (OpR.or op_notIn_seq (op_notInD (unitsIn hc))) ((opd_inF true).or opd_notInD) ha hb hm
def isG : G2 := orG (isN false) (isB false)
def isNotG : G2 := orG (isN true) (isB true)
theorem d_is (ha : PD X T W a fa) (hb : PD X T W b fb) : PD X T W (.Compare a [.Is] [b] pos) (op2 isG fa fb) := pd_cmp (OpR.or op_isN op_isBl) (opd_isN.or opd_isB) ha hb (nomark _)
theorem d_isNot (ha : PD X T W a fa) (hb : PD X T W b fb) : PD X T W (.Compare a [.IsNot] [b] pos) (op2 isNotG fa fb) := pd_cmp (OpR.or op_notN op_notBl) (opd_notN.or opd_notB) ha hb (nomark _)
theorem t_is (ha : PD X T W a fa) (hb : PD X T W b fb) : PDT X T W (.Compare a [.Is] [b] pos) (testE (op2 isG fa fb)) := pt_cmp' (OpR.or op_isN op_isBl) (opd_isN.or opd_isB) ha hb (nomark _)
theorem t_isNot (ha : PD X T W a fa) (hb : PD X T W b fb) : PDT X T W (.Compare a [.IsNot] [b] pos) (testE (op2 isNotG fa fb)) := pt_cmp' (OpR.or op_notN op_notBl) (opd_notN.or opd_notB) ha hb (nomark _)
/-- a < b < c and its kin: one pair of rules a pair of operators -/
theorem d_ltlt {c : Expr} {fc : Sem D} (ha : PD X T W a fa) (hb : PD X T W b fb) (hc : PD X T W c fc) (hm : lastMarks [.Lt, .Lt] [b, c] = false := by with_unfolding_all rfl) : PD X T W (.Compare a [.Lt, .Lt] [b, c] pos) (chainE ltI ltI fa fb fc) := pd_chain op_lt op_lt opd_ltI opd_ltI ha hb hc hm
theorem t_ltlt {c : Expr} {fc : Sem D} (ha : PD X T W a fa) (hb : PD X T W b fb) (hc : PD X T W c fc) (hm : lastMarks [.Lt, .Lt] [b, c] = false := by with_unfolding_all rfl) : PDT X T W (.Compare a [.Lt, .Lt] [b, c] pos) (testE (chainE ltI ltI fa fb fc)) := pt_chain' op_lt op_lt opd_ltI opd_ltI ha hb hc hm
theorem d_lelt {c : Expr} {fc : Sem D} (ha : PD X T W a fa) (hb : PD X T W b fb) (hc : PD X T W c fc) (hm : lastMarks [.LtE, .Lt] [b, c] = false := by with_unfolding_all rfl) : PD X T W (.Compare a [.LtE, .Lt] [b, c] pos) (chainE leI ltI fa fb fc) := pd_chain op_le op_lt opd_leI opd_ltI ha hb hc hm
theorem t_lelt {c : Expr} {fc : Sem D} (ha : PD X T W a fa) (hb : PD X T W b fb) (hc : PD X T W c fc) (hm : lastMarks [.LtE, .Lt] [b, c] = false := by with_unfolding_all rfl) : PDT X T W (.Compare a [.LtE, .Lt] [b, c] pos) (testE (chainE leI ltI fa fb fc)) := pt_chain' op_le op_lt opd_leI opd_ltI ha hb hc hm
theorem d_lele {c : Expr} {fc : Sem D} (ha : PD X T W a fa) (hb : PD X T W b fb) (hc : PD X T W c fc) (hm : lastMarks [.LtE, .LtE] [b, c] = false := by with_unfolding_all rfl) : PD X T W (.Compare a [.LtE, .LtE] [b, c] pos) (chainE leI leI fa fb fc) := pd_chain op_le op_le opd_leI opd_leI ha hb hc hm
theorem t_lele {c : Expr} {fc : Sem D} (ha : PD X T W a fa) (hb : PD X T W b fb) (hc : PD X T W c fc) (hm : lastMarks [.LtE, .LtE] [b, c] = false := by with_unfolding_all rfl) : PDT X T W (.Compare a [.LtE, .LtE] [b, c] pos) (testE (chainE leI leI fa fb fc)) := pt_chain' op_le op_le opd_leI opd_leI ha hb hc hm
/-! ### items -/
theorem d_ix (ha : PD X T W a fa) (hb : PD X T W b fb) (hs : PlainIx b := by exact fun _ _ => rfl) : PD X T W (.Subscript a b pos) (op2 ixG fa fb) := pd_ix ix_seq opd_ix ha hb hs
def negG : Store → D → Option D := fun _ d => match d with
  | .int i => some (.int (-i))
  | _ => none
theorem d_neg (h : PD X T W a f) : PD X T W (.UnaryOp .USub a pos) (op1 negG f) := pd_neg h
theorem g_sub {o i : Expr} {fo fi : Sem D} (h : PG X (.Subscript o i pos) (gSub (wp X.K T W (rE X.K) fo) (wp X.K T W (rE X.K) fi) rSetL)) : PDG X T W (.Subscript o i pos) (subT setL fo fi) := pdg_sub setok_list h
end
end Aw

namespace Aw
open PySem L2 LamX
theorem subT_nx (g : GSet) (fo fi : Sem D) : ∀ d r S, (∃ r' S', subT g fo fi d r S = .nx r' S') ∨ (∃ c r' S', subT g fo fi d r S = .err c r' S') ∨ subT g fo fi d r S = .stuck := by
  intro d r S
  unfold subT thenS
  cases fo r S with
  | err c S' => exact .inr (.inl ⟨_, _, _, rfl⟩)
  | stuck => exact .inr (.inr rfl)
  | ok o S1 =>
    simp only
    cases fi r S1 with
    | err c S' => exact .inr (.inl ⟨_, _, _, rfl⟩)
    | stuck => exact .inr (.inr rfl)
    | ok i S2 =>
      simp only
      cases g S2 o i d with
      | none => exact .inr (.inr rfl)
      | some S' => exact .inl ⟨_, _, rfl⟩
/-- a def of the text, under its name -/
def TxF (K : PySem.W.Frag) (mg : Str → Option Value) (x : Str) (st : Stmt) : Prop := ∃ (a : Addr) (fd : FuncData), mg x = some (.ref a) ∧ Fun K x x st a fd
section
variable {P : Program} {w : World} {K : PySem.W.Frag} {T : List (Addr × Str)} {mg : Str → Option Value} {base : Heap} {x : Str} {st : Stmt} {k n : Nat} {f : FSem} {g : RSem}
/-- how arguments come to the parameters -/
abbrev BindsTx (x : Str) (st : Stmt) (ps : List Str) : Prop := ∀ (kV doc pm : Value) (an : Option Addr) (cdv ct : Value) (us : List Value), us.length = ps.length → bindArgs (PySem.W.fnOf x x (defArgs st) (defBody st) (defScope st) .none kV doc pm an cdv ct) ⟨us, []⟩ = pure (ps.zip us)
theorem fnD_mk (ps : List Str) (Tx : TxF K mg x st) (hn : ps.length = n) (hb : BindsTx x st ps) (h : ∀ (a : Addr) (fd : FuncData), Fun K x x st a fd → FnOk P w K mg base (L2.CX P w) k a fd ps (spP K T ps.length f)) : FnD P w K T mg base x k n f := by
  obtain ⟨a, fd, hm, F⟩ := Tx
  subst hn
  exact ⟨a, fd, ps, hm, F.kp, F.binds hb, rfl, h a fd F⟩
theorem fnR_mk (ps : List Str) (Tx : TxF K mg x st) (hn : ps.length = n) (hb : BindsTx x st ps) (h : ∀ (a : Addr) (fd : FuncData), Fun K x x st a fd → FnOk P w K mg base (L2.CX P w) k a fd ps (spR K T ps.length g)) : FnR P w K T mg base x k n g := by
  obtain ⟨a, fd, hm, F⟩ := Tx
  subst hn
  exact ⟨a, fd, ps, hm, F.kp, F.binds hb, rfl, h a fd F⟩
end
end Aw

/-! AwX: raise, try, isinstance of what was caught. -/
namespace Aw
open PySem L2 LamX

/-- an own exception class over ValueError, without a method -/
structure ExF (K : PySem.W.Frag) (mg : Str → Option Value) (x : Str) : Prop where
  gC : mg x = some (.ref (He.ga K x))
  ok : (He.Fa.exc x).ok K = true
/-- what isinstance looks at in such a class -/
def exIs (K : PySem.W.Frag) (x : Str) : Bool :=
  (PySem.W.clsIn K (He.ga K x)).isSome && (decide (PySem.W.findIn K (.ref (He.ga K x)) "__getattribute__" = some (some (.builtin "BaseException.__getattribute__"))) && ((PySem.W.findIn K (.ref (He.ga K x)) "__getattr__").isSome &&
    (decide (PySem.W.subIn K (.ref (He.ga K x)) (.type "BaseException") = some true) && (decide (PySem.W.findIn K (.ref (He.ga K x)) "__class__" = some (some (.builtin "object.__class__"))) &&
      (decide (PySem.W.specialIn K (.builtin "object.__class__") "__get__" = some (some (.builtin "getset_descriptor.__get__"))) && (decide (PySem.W.takesIn K (.builtin "object.__class__") = some true) && decide (PySem.W.mroIn K (He.ga K x) (.type "object") = some true)))))))
theorem exIs_kit {K : PySem.W.Frag} {x : Str} (h : exIs K x = true) {a : Addr} {ox : Obj} {od : Option Obj} : PySem.W.KitX K (.ref a) (.ref (He.ga K x)) fun h => PySem.W.InstAt h a ox (He.ga K x) od := by
  unfold exIs at h
  simp only [Bool.and_eq_true, decide_eq_true_eq] at h
  obtain ⟨h1, h2, h3, h4, h5, h6, h7, h8⟩ := h
  obtain ⟨gt, h3⟩ := Option.isSome_iff_exists.mp h3
  exact PySem.W.kitx_exc h1 h2 h3 h4 h5 h6 h7 h8
def raiseS (c : Ex) : SemS := fun r S => .err c r S
section
variable {X : Cx} {T : List (Addr × Str)} {W : WX} {k : Nat} {pos p p2 p3 pos2 : Pos}
theorem pds_raise {x m : Str} {j : Nat} (hc : Ctx X W k) (F : ExF X.K X.mg x) (hg : Gl X x) (hdb : (x == ("__debug__" : Str)) = false := by decide) : PDS X T W (.Raise (some (.Call (.Name x p) [.Constant (.str m) j p2] [] p3)) none pos) (raiseS (.own x)) := by
  have q := F.ok
  unfold He.Fa.ok at q
  simp only [Bool.and_eq_true, decide_eq_true_eq] at q
  obtain ⟨q1, q2, q3, q4⟩ := q
  exact PS.imp (ps_raise hc.calm hc.tk (pmk_own PySem.F.excBase_ValueError q1 F.gC q2 (raises_own q3 q4) hg hdb)) fun Dn σ H ⟨F', G, l, r, S, hr, hs, hp⟩ => hp F' l σ H (Later.refl hr) hs

/-! ### try -/
/-- which class is under which, as the text tells -/
abbrev ExT := Ex → Ex → Option Bool
def ExOk (K : PySem.W.Frag) (M : ExT) : Prop := ∀ c d b, M c d = some b → PySem.W.exmOne K (exV K c) (exV K d) = some b
/-- the clauses, one after the other; nothing else is run where a body is through -/
def hands (M : ExT) (c : Ex) : List (Ex × SemS) → SemS
  | [], r, S => .err c r S
  | (d, su) :: hs, r, S => match M c d with
    | some true => su r S
    | some false => hands M c hs r S
    | none => .stuck
def tryS (M : ExT) (b : SemS) (hs : List (Ex × SemS)) : SemS := fun r S => match b r S with
  | .err c r1 S1 => hands M c hs r1 S1
  | o => o
/-- an exception's class, by its value -/
def SuTs (K : PySem.W.Frag) (T : List (Addr × Str)) (su : SemS) : Addr → Value → Option Addr → TS := fun _ _ _ => wpS K T W0 su
theorem wp_hands {K : PySem.W.Frag} {M : ExT} (hM : ExOk K M) {W : WX} {Dn : Ends} {c : Ex} : ∀ (hs : List (Ex × SemS)) {F G H : Hp} {l : List Addr} {r : Env} {S : Store} {σ : St}, HRel K T F G l S H → Sl K F l r σ → (∀ d su, (d, su) ∈ hs → ∀ r S, ∀ c' r' S', su r S ≠ .err c' r' S') →
    PostS K T W F G l Dn (hands M c hs r S) → wMany K W Dn (hs.map fun q => (exV K q.1, SuTs K T q.2)) (exV K c) none σ H
  | [], F, G, H, l, r, S, σ, hr, hs, _, hp => hp F l σ H (Later.refl hr) hs
  | (d, su) :: hs', F, G, H, l, r, S, σ, hr, hs, hne, hp => by
    simp only [hands] at hp
    cases e : M c d with
    | none => rw [e] at hp; exact hp.elim
    | some b =>
      rw [e] at hp
      refine ⟨b, hM c d b e, fun hb a _ => ?_, fun hb => ?_⟩
      · subst hb
        refine ⟨F, G, l, r, S, hr, hs, ?_⟩
        simp only at hp
        have hn := hne d su List.mem_cons_self r S
        show PostS K T W0 F G l Dn (su r S)
        cases e2 : su r S with
        | err c' r' S' => exact absurd e2 (hn c' r' S')
        | nx r' S' => rw [e2] at hp; exact hp
        | ret d' S' => rw [e2] at hp; exact hp
        | brk r' S' => rw [e2] at hp; exact hp
        | ct r' S' => rw [e2] at hp; exact hp
        | stuck => rw [e2] at hp; exact hp
      · subst hb
        exact wp_hands hM hs' hr hs (fun d su h => hne d su (List.mem_cons_of_mem _ h)) hp
/-- within a suite -/
structure CtxH (X : Cx) (k : Nat) : Prop where
  nd : X.N.Nodup
  rm : Room k X.A
inductive Hds (X : Cx) (T : List (Addr × Str)) : List ExceptHandler → List (Ex × SemS) → Prop
  | nil : Hds X T [] []
  | cons {x : Str} {c : Ex} {su : SemS} {b₀ : Stmt} {suite : List Stmt} {np pos' : Pos} {hds : List ExceptHandler} {l : List (Ex × SemS)} (hc : Names X x (exV X.K c)) (hne : ∀ r S c' r' S', su r S ≠ .err c' r' S')
      (hsu : ∀ (a : Addr) (oe : Obj) (pn : List (Addr × Obj)), PDB (X.suite a ((a, oe) :: pn)) T W0 (b₀ :: suite) su) (r : Hds X T hds l) : Hds X T (.ExceptHandler (some (.Name x np)) none (b₀ :: suite) pos' :: hds) ((c, su) :: l)
theorem Hds.ok : ∀ {hds : List ExceptHandler} {l : List (Ex × SemS)}, Hds X T hds l → HdsOk X hds (l.map fun q => (exV X.K q.1, SuTs X.K T q.2)) ∧ ∀ d su, (d, su) ∈ l → ∀ r S c' r' S', su r S ≠ .err c' r' S'
  | _, _, .nil => ⟨.nil, fun _ _ h => by simp at h⟩
  | _, _, .cons hc hne hsu r => by
    obtain ⟨h1, h2⟩ := Hds.ok r
    refine ⟨.cons hc (fun a oe cls d pn _ _ => hsu a oe pn) h1, fun d su h => ?_⟩
    rcases List.mem_cons.mp h with h | h
    · cases h; exact hne
    · exact h2 d su h
theorem pds_try {body : List Stmt} {h0 : ExceptHandler} {hds : List ExceptHandler} {M : ExT} {b : SemS} {l : List (Ex × SemS)} (hc : Ctx X W k) (hs : X.stack = X.env :: X.outer) (hf : X.env.frame = some X.env.locals) (hM : ExOk X.K M)
    (hb : ∀ (W' : WX) (pn : List (Addr × Obj)) (xe : Value → Shared → Prop), Ctx (X.tr pn xe) W' k → PDB (X.tr pn xe) T W' body b) (hh : Hds X T (h0 :: hds) l) : PDS X T W (.Try body (h0 :: hds) [] [] pos) (tryS M b l) := by
  obtain ⟨h1, h2⟩ := hh.ok
  refine PS.imp (ps_try_many (tb := fun W' => wpS X.K T W' b) hs hf hc.tk (fun W' pn xe tk po => hb W' pn xe ⟨hc.calm, hc.nd, tk, po, hc.rm⟩) h1) fun Dn σ H ⟨F, G, l', r, S, hr, hsl, hp⟩ => ?_
  refine ⟨F, G, l', r, S, hr, hsl, ?_⟩
  unfold tryS at hp
  cases e : b r S with
  | err c r1 S1 =>
    rw [e] at hp
    exact fun F' l1 σ' H' lt hs' => wp_hands hM l lt.rel hs' h2 (hp.mono lt.le lt.pre)
  | nx r' S' => rw [e] at hp; exact hp
  | ret d' S' => rw [e] at hp; exact hp
  | brk r' S' => rw [e] at hp; exact hp
  | ct r' S' => rw [e] at hp; exact hp
  | stuck => rw [e] at hp; exact hp
/-! ### except X as e -/
def unsetR (i : Nat) : R → R
  | .nx r S => .nx (r.set i none) S
  | .brk r S => .brk (r.set i none) S
  | .ct r S => .ct (r.set i none) S
  | .ret d S => .ret d S
  | .err c r S => .err c r S
  | .stuck => .stuck
open Classical in
/-- the same whatever the exception's own address is -/
noncomputable def uniR (f : Addr → R) : R := if ∀ a, f a = f 0 then f 0 else .stuck
theorem uniR_of {f : Addr → R} {o : R} (h : ∀ a, f a = o) : uniR f = o := by
  unfold uniR
  rw [if_pos fun a => by rw [h a, h 0], h 0]
theorem uniR_at {f : Addr → R} (h : uniR f ≠ .stuck) (a : Addr) : uniR f = f a := by
  unfold uniR at h ⊢
  split
  · rename_i q; exact (q a).symm
  · rename_i q
    rw [if_neg q] at h
    exact absurd rfl h
noncomputable def tryAsS (M : ExT) (b : SemS) (d : Ex) (i : Nat) (su : Addr → Ex → SemS) : SemS := fun r S => match b r S with
  | .err c r1 S1 => (match M c d with
    | some true => uniR fun a => unsetR i (su a c (r1.set i (some (.fn a))) S1)
    | some false => .err c r1 S1
    | none => .stuck)
  | o => o
theorem unset_post {K : PySem.W.Frag} {W : WX} {F G : Hp} {l : List Addr} {Dn : Ends} {i : Nat} {o : R} (hn : ∀ c r S, o ≠ .err c r S) (h : PostS K T W F G l Dn (unsetR i o)) :
    PostS K T W0 F G l { nx := fun σ' H' => Dn.nx (σ'.set i none) H', rt := Dn.rt, bk := fun σ' H' => Dn.bk (σ'.set i none) H', ct := fun σ' H' => Dn.ct (σ'.set i none) H' } o := by
  cases o with
  | err c r S => exact absurd rfl (hn c r S)
  | nx r S => exact fun F' l' σ' H' lt hs => h F' l' _ H' lt (hs.unset i)
  | brk r S => exact fun F' l' σ' H' lt hs => h F' l' _ H' lt (hs.unset i)
  | ct r S => exact fun F' l' σ' H' lt hs => h F' l' _ H' lt (hs.unset i)
  | ret d S => exact h
  | stuck => exact h
theorem pds_tryAs {body suite : List Stmt} {x n : Str} {b₀ : Stmt} {np pos' : Pos} {M : ExT} {b : SemS} {d : Ex} {su : Addr → Ex → SemS} (i : Nat) (hc : Ctx X W k) (hs : X.stack = X.env :: X.outer) (hf : X.env.frame = some X.env.locals) (hM : ExOk X.K M)
    (hi : X.N[i]? = some n) (hl : X.env.kindOf n = some .local) (hx : Names X x (exV X.K d)) (hne : ∀ a c r S c' r' S', su a c r S ≠ .err c' r' S')
    (hb : ∀ (W' : WX) (pn : List (Addr × Obj)) (xe : Value → Shared → Prop), Ctx (X.tr pn xe) W' k → PDB (X.tr pn xe) T W' body b)
    (hsu : ∀ (a : Addr) (oe : Obj) (c : Ex) (pn : List (Addr × Obj)), Zc (exV X.K c) none oe → (∃ vs, oe.data = .fields vs) → PDB (X.suite a ((a, oe) :: pn)) T W0 (b₀ :: suite) (su a c)) :
    PDS X T W (.Try body [.ExceptHandler (some (.Name x np)) (some n) (b₀ :: suite) pos'] [] [] pos) (tryAsS M b d i su) := by
  refine PS.imp (ps_try_as (i := i) (tb := fun W' => wpS X.K T W' b) (ts := fun a cls dd Dn σ H => ∃ c : Ex, cls = exV X.K c ∧ dd = none ∧ wpS X.K T W0 (su a c) Dn σ H) hs hf hc.nd hi hl hx hc.tk
    (fun W' pn xe tk po => hb W' pn xe ⟨hc.calm, hc.nd, tk, po, hc.rm⟩) fun a oe cls dd pn hz hd => ⟨fun pins s σ H Dn I ⟨c, e1, e2, h⟩ => ?_⟩) fun Dn σ H ⟨F, G, l, r, S, hr, hsl, hp⟩ => ?_
  · subst e1 e2
    exact (hsu a oe c pn hz hd).run pins s σ H Dn I h
  · refine ⟨F, G, l, r, S, hr, hsl, ?_⟩
    unfold tryAsS at hp
    cases e : b r S with
    | err c r1 S1 =>
      rw [e] at hp
      simp only at hp
      intro F' l1 σ' H' lt hs'
      cases e1 : M c d with
      | none => rw [e1] at hp; exact hp.elim
      | some z =>
        rw [e1] at hp
        refine ⟨z, hM c d z e1, fun hz a ha => ?_, fun hz => ?_⟩
        · subst hz
          simp only at hp
          have hst : uniR (fun a => unsetR i (su a c (r1.set i (some (.fn a))) S1)) ≠ .stuck := fun q => by rw [q] at hp; exact hp
          rw [uniR_at hst a] at hp
          refine ⟨c, rfl, rfl, F', G, l1, r1.set i (some (.fn a)), S1, lt.rel, hs'.set (show At X.K F' l1 (.fn a) (.ref a) from rfl) i, ?_⟩
          exact unset_post (fun c' r' S' => hne a c _ _ c' r' S') (hp.mono lt.le lt.pre)
        · subst hz
          exact hp F' l1 σ' H' lt hs'
    | nx r' S' => rw [e] at hp; exact hp
    | ret d' S' => rw [e] at hp; exact hp
    | brk r' S' => rw [e] at hp; exact hp
    | ct r' S' => rw [e] at hp; exact hp
    | stuck => rw [e] at hp; exact hp
/-- isinstance(e, C) of the exception in hand -/
def IsOk (K : PySem.W.Frag) (M : ExT) : Prop := ∀ c d b, M c d = some b → PySem.W.kitOne K (exV K c) (exV K d) = some b ∧ ∃ x, c = .own x ∧ exIs K x = true
def isxE (a : Addr) (c : Ex) (M : ExT) (i : Nat) (d : Ex) : Sem D := fun r S => match r[i]? with
  | some (some (.fn b)) => if b = a then (match M c d with
    | some z => .ok (.bl z) S
    | none => .stuck) else .stuck
  | _ => .stuck
theorem call_isx {a : Addr} {oe : Obj} {x : Str} (hp : (a, oe) ∈ X.pn) (hz : Zc (.ref (He.ga X.K x)) none oe) (hf : ∃ vs, oe.data = .fields vs) (hk : exIs X.K x = true) :
    CallR X (.builtin "isinstance") (fun xs H Q => ∃ (c : V) (u : Value) (b : Bool), xs = [.ref a, c] ∧ ClsV c u ∧ PySem.W.kitOne X.K (.ref (He.ga X.K x)) u = some b ∧ Q (.bl b) H) := by
  intro pins s σ H xs us Q I r h
  obtain ⟨c, u, b, rfl, k, e, q⟩ := h
  obtain ⟨u1, u2, rfl, r1, r2⟩ := vals2 r
  have e2 := k.eq r2
  subst e2
  obtain rfl : u1 = Value.ref a := r1
  have pin := (I.pin (a, oe) (List.mem_append_left _ hp)).1
  obtain ⟨vs, hf⟩ := hf
  refine PySem.W.kia_one (exIs_kit hk (ox := oe) (od := none)) I.kIn ⟨pin, hz.1, ?_, ?_⟩ e (fun z => nomatch z) fun tk => ⟨.bl b, H, I.tok tk, rfl, q⟩
  · unfold PySem.W.notCls; rw [hf]
  · rw [hz.2]; exact True.intro
theorem pd_isx (i : Nat) {a : Addr} {oe : Obj} {c d : Ex} {y z : Str} {M : ExT} {cv : V} (hp : (a, oe) ∈ X.pn) (hz : Zc (exV X.K c) none oe) (hf : ∃ vs, oe.data = .fields vs) (hM : IsOk X.K M) (hg : Gl X "isinstance") (hm : X.mg "isinstance" = none)
    (hcv : ClsV cv (exV X.K d)) (hy : PE X (.Name y p2) (tC cv)) (hN : X.N[i]? = some z) (hv : Vis X.env.scope z) (hdz : (z == ("__debug__" : Str)) = false := by decide) (hcd : (z == ("__classdict__" : Str)) = false := by decide)
    (hb : bootBuiltins "isinstance" = some (.builtin "isinstance") := by decide +kernel)
    (he : starEach [.Name z p, .Name y p2] X.env = (false, eval (.Name z p) X.env) :: starEach [.Name y p2] X.env := by rfl) (hpl : (backTo pos (starEach [.Name y p2] X.env)).any (·.1) = false := by rfl) :
    PD X T W (.Call (.Name "isinstance" p3) [.Name z p, .Name y p2] [] pos) (isxE a c M i d) := by
  cases e1 : M c d with
  | none =>
    refine ⟨fun pins s σ H Q I ⟨F, G, l, r, S, hr, hs, hq⟩ => ?_⟩
    have : isxE a c M i d r S = .stuck := by
      unfold isxE
      split
      · split
        · rw [e1]
        · rfl
      · rfl
    rw [this] at hq
    exact hq.elim
  | some bb =>
    obtain ⟨hk, x, hcx, hex⟩ := hM c d bb e1
    subst hcx
    refine PE.imp (pe_callB (call_isx hp hz hf hex) hg hm hb (pa_cons (pe_var hN hv hdz hcd) (pa_cons hy pa_nil)) (by decide) (by decide) he hpl) fun σ H Q ⟨F, G, l, r, S, hr, hs, hq⟩ => ?_
    unfold isxE at hq
    split at hq
    · rename_i b hri
      split at hq
      · rename_i hba
        subst hba
        rw [e1] at hq
        obtain ⟨v, q1, q2⟩ := hs.2 i _ hri
        have q2 : v = .ref b := q2
        subst q2
        exact ⟨_, q1, cv, _, bb, rfl, hcv, hk, hq F l H _ (Later.refl hr) rfl⟩
      · exact hq.elim
    · exact hq.elim
end
end Aw
namespace Aw
open PySem L2 LamX
section
variable {X : Cx} {T : List (Addr × Str)} {W : WX} {k : Nat} {pos : Pos} {e : Expr}
/-- name = e, within a suite -/
theorem pds_setH (i : Nat) {x : Str} {pos' : Pos} {f : Sem D} (nd : X.N.Nodup) (h : PD X T W e f) (hi : X.N[i]? = some x := by rfl) (hx : Loc X.env.scope x := by first | exact Or.inl rfl | exact Or.inr rfl)
    (hs : swapsWith e (some (.Name x pos')) pos.line X.env = pure false := by rfl) (hf : X.fn x = true ∨ X.env.scope.names.lookup x = some .local := by first | exact .inl rfl | exact .inr rfl | assumption) : PDS X T W (.Assign [.Name x pos'] e pos) (setS f (.one i)) :=
  PS.imp (ps_set nd hi hx h hs hf) fun Dn σ H ⟨F, G, l, r, S, hr, hsl, hp⟩ => wpS_step hr hsl hp fun F1 l1 S1 a v H1 lt hs1 ha hp1 => set_post (t := .one i) lt.rel hs1 ha hp1
/-- nothing is let out -/
def NoE {α : Type} (f : Sem α) : Prop := ∀ r S c S', f r S ≠ .err c S'
def NoS (f : SemS) : Prop := ∀ r S c r' S', f r S ≠ .err c r' S'
theorem noE_ret {α : Type} (a : α) : NoE (retO a) := fun _ _ _ _ h => by cases h
theorem noE_bind {α β : Type} {f : Sem α} {g : α → Sem β} (hf : NoE f) (hg : ∀ a, NoE (g a)) : NoE (bindO f g) := fun r S c S' h => by
  unfold bindO at h
  cases e : f r S with
  | ok a S1 => rw [e] at h; exact hg a _ _ _ _ h
  | err c1 S1 => exact hf _ _ _ _ e
  | stuck => rw [e] at h; cases h
theorem noE_var (i : Nat) : NoE (vE i) := fun r S c S' h => by
  unfold vE at h
  split at h <;> cases h
theorem noE_nil : NoE nilA := noE_ret _
theorem noE_cons {f : Sem D} {g : Sem (List D)} (hf : NoE f) (hg : NoE g) : NoE (consA f g) := noE_bind hf fun _ => noE_bind hg fun _ => noE_ret _
theorem noE_lst {f : Sem (List D)} (hf : NoE f) : NoE (lstE f) := noE_bind hf fun ds r S c S' h => by
  split at h <;> cases h
theorem noE_tup {f : Sem (List D)} (hf : NoE f) : NoE (tupE f) := noE_bind hf fun ds r S c S' h => by
  split at h <;> cases h
theorem noE_op2 {g : G2} {f f' : Sem D} (hf : NoE f) (hf' : NoE f') : NoE (op2 g f f') := noE_bind hf fun a => noE_bind hf' fun b r S c S' h => by
  unfold stepO at h
  split at h <;> cases h
theorem noE_isx {a : Addr} {c d : Ex} {M : ExT} {i : Nat} : NoE (isxE a c M i d) := fun r S c' S' h => by
  unfold isxE at h
  split at h
  · split at h
    · split at h <;> cases h
    · cases h
  · cases h
theorem noS_set {f : Sem D} {t : Tgt} (hf : NoE f) : NoS (setS f t) := fun r S c r' S' h => by
  unfold setS thenS at h
  cases e : f r S with
  | ok a S1 =>
    rw [e] at h
    simp only at h
    split at h <;> cases h
  | err c1 S1 => exact hf _ _ _ _ e
  | stuck => rw [e] at h; cases h
theorem noS_ret {f : Sem D} (hf : NoE f) : NoS (retS f) := fun r S c r' S' h => by
  unfold retS thenS at h
  cases e : f r S with
  | ok a S1 => rw [e] at h; cases h
  | err c1 S1 => exact hf _ _ _ _ e
  | stuck => rw [e] at h; cases h
theorem noS_seq {f g : SemS} (hf : NoS f) (hg : NoS g) : NoS (seqS f g) := fun r S c r' S' h => by
  unfold seqS at h
  cases e : f r S with
  | nx r1 S1 => rw [e] at h; exact hg _ _ _ _ _ h
  | err c1 r1 S1 => exact hf _ _ _ _ _ e
  | ret d S1 => rw [e] at h; cases h
  | brk r1 S1 => rw [e] at h; cases h
  | ct r1 S1 => rw [e] at h; cases h
  | stuck => rw [e] at h; cases h
end
end Aw
namespace Aw
open PySem L2 LamX
/-- a table of classes, looked up -/
def exLook (L : List (Ex × Ex × Bool)) : ExT := fun c d => (L.find? fun p => decide (p.1 = c) && decide (p.2.1 = d)).map fun p => p.2.2
def exOk (K : PySem.W.Frag) (L : List (Ex × Ex × Bool)) : Bool := L.all fun p => decide (PySem.W.exmOne K (exV K p.1) (exV K p.2.1) = some p.2.2) && (decide (PySem.W.kitOne K (exV K p.1) (exV K p.2.1) = some p.2.2) && (match p.1 with
  | .own x => exIs K x
  | _ => false))
theorem exLook_mem {L : List (Ex × Ex × Bool)} {c d : Ex} {b : Bool} (h : exLook L c d = some b) : (c, d, b) ∈ L := by
  unfold exLook at h
  cases e : L.find? (fun p => decide (p.1 = c) && decide (p.2.1 = d)) with
  | none => rw [e] at h; cases h
  | some p =>
    rw [e] at h; cases h
    have h1 := List.find?_some e
    simp only [Bool.and_eq_true, decide_eq_true_eq] at h1
    have h2 := List.mem_of_find?_eq_some e
    rw [← h1.1, ← h1.2]; exact h2
theorem exOk_at {K : PySem.W.Frag} {L : List (Ex × Ex × Bool)} (h : exOk K L = true) : ExOk K (exLook L) ∧ IsOk K (exLook L) := by
  have key : ∀ c d b, exLook L c d = some b → PySem.W.exmOne K (exV K c) (exV K d) = some b ∧ PySem.W.kitOne K (exV K c) (exV K d) = some b ∧ ∃ x, c = .own x ∧ exIs K x = true := by
    intro c d b e
    have h1 := List.all_eq_true.mp h _ (exLook_mem e)
    simp only [Bool.and_eq_true, decide_eq_true_eq] at h1
    refine ⟨h1.1, h1.2.1, ?_⟩
    cases c with
    | own x => exact ⟨x, rfl, h1.2.2⟩
    | bt n => exact absurd h1.2.2 (by simp)
  exact ⟨fun c d b e => (key c d b e).1, fun c d b e => (key c d b e).2⟩
end Aw

/-! AwL: lists and tuples of ranges. -/
namespace Aw
open PySem L2 LamX
theorem rgV_at {K : PySem.W.Frag} {F : Hp} {l : List Addr} (a b : Int) : AtL K F l (rangeD a (b - a).toNat) (rgV a b) := by
  have e1 : rangeD a (b - a).toNat = ((List.range (b - a).toNat).map fun i => a + (i : Nat)).map D.int := by rw [List.map_map]; rfl
  have e2 : rgV a b = ((List.range (b - a).toNat).map fun i => a + (i : Nat)).map V.int := by rw [List.map_map]; rfl
  rw [e1, e2]
  exact AtL.ints _
def rgOkB (a b : Int) : Bool := inR a && (inR b && decide ((b - a).toNat ≤ 100000))
theorem rgOk_of {a b : Int} (h : rgOkB a b = true) : RgOk a b ∧ (b - a).toNat ≤ sizeLine := by
  unfold rgOkB at h
  simp only [Bool.and_eq_true, decide_eq_true_eq] at h
  obtain ⟨h1, h2, h3⟩ := h
  obtain ⟨a1, a2⟩ := inR_iff h1
  obtain ⟨b1, b2⟩ := inR_iff h2
  exact ⟨⟨a1, a2, b1, b2, Nat.le_trans h3 (by decide)⟩, sz_of h3⟩
/-- the two ends -/
def ends1 (f : Sem D) : Sem (Int × Int) := bindO f fun d => match d with
  | .int j => retO (0, j)
  | _ => fun _ _ => .stuck
def ends2 (f g : Sem D) : Sem (Int × Int) := bindO f fun d => bindO g fun e => match d, e with
  | .int i, .int j => retO (i, j)
  | _, _ => fun _ _ => .stuck
def rgLst (f : Sem (Int × Int)) : Sem D := bindO f fun p => fun _ S => if rgOkB p.1 p.2 then .ok (.lst (rangeD p.1 (p.2 - p.1).toNat)) S else .stuck
def rgLstC (f : Sem (Int × Int)) : Sem D := bindO f fun p => fun _ S => if rgOkB p.1 p.2 then .ok (.loc S.length) (S ++ [.lst (rangeD p.1 (p.2 - p.1).toNat)]) else .stuck
def rgTup (f : Sem (Int × Int)) : Sem D := bindO f fun p => fun _ S => if rgOkB p.1 p.2 then .ok (.tup (rangeD p.1 (p.2 - p.1).toNat)) S else .stuck
theorem rangeD_len (a : Int) (n : Nat) : (rangeD a n).length = n := by simp [rangeD]
section
variable {X : Cx} {T : List (Addr × Str)} {W : WX} {k : Nat} {pos p p2 p3 : Pos} {e e2 : Expr}
def rP : Rl (Int × Int) (Int × Int) := fun _ _ a b => b = a
/-- a range as an argument -/
def PDR (X : Cx) (T : List (Addr × Str)) (W : WX) (e : Expr) (f : Sem (Int × Int)) : Prop := PRg X e fun σ H Q => wp X.K T W rP f σ H fun q H1 => Q q.1 q.2 H1
theorem PRg.imp {t t' : St → Hp → (Int → Int → Hp → Prop) → Prop} (h : PRg X e t) (k : ∀ σ H Q, t' σ H Q → t σ H Q) : PRg X e t' := fun pins s σ H Q I q => h pins s σ H Q I (k σ H Q q)
theorem pdr_1 {f : Sem D} (hg : Gl X "range") (hm : X.mg "range" = none) (h : PD X T W e f) (na : starEach [e] X.env = (false, eval e X.env) :: starEach [] X.env := by rfl) : PDR X T W (.Call (.Name "range" p) [e] [] pos) (ends1 f) :=
  PRg.imp (prg_1 hg hm h na) fun σ H Q q => by
  obtain ⟨F, G, l, r, S, hr, hs, hp⟩ := q
  refine wp_step (rl' := rP) hr hs hp fun F1 l1 S1 a x H1 lt hs1 ha hp1 => ?_
  cases a with
  | int j => cases ha; exact ⟨j, rfl, hp1 F1 l1 H1 _ (Later.refl lt.rel) rfl⟩
  | _ => exact hp1.elim
theorem pdr_2 {f g : Sem D} (hg : Gl X "range") (hm : X.mg "range" = none) (h : PD X T W e f) (h2 : PD X T W e2 g) (na : starEach [e, e2] X.env = (false, eval e X.env) :: starEach [e2] X.env := by rfl) (nb : starEach [e2] X.env = (false, eval e2 X.env) :: starEach [] X.env := by rfl)
    (hp : (backTo pos (starEach [e2] X.env)).any (·.1) = false := by rfl) : PDR X T W (.Call (.Name "range" p) [e, e2] [] pos) (ends2 f g) :=
  PRg.imp (prg_2 hg hm h h2 na nb hp) fun σ H Q q => by
  obtain ⟨F, G, l, r, S, hr, hs, hp⟩ := q
  refine wp_step (rl' := rP) hr hs hp fun F1 l1 S1 a x H1 lt hs1 ha hp1 => ?_
  refine wp_step (rl' := rP) lt.rel hs1 hp1 fun F2 l2 S2 b y H2 lt2 hs2 hb hp2 => ?_
  cases a with
  | int i =>
    cases b with
    | int j => cases ha; cases hb; exact ⟨i, j, rfl, rfl, hp2 F2 l2 H2 _ (Later.refl lt2.rel) rfl⟩
    | _ => exact hp2.elim
  | _ => cases b <;> exact hp2.elim
theorem pd_rgLst {f : Sem (Int × Int)} (hc : Ctx X W k) (hg : Gl X "list") (hm : X.mg "list" = none) (h : PDR X T W e f) (na : starEach [e] X.env = (false, eval e X.env) :: starEach [] X.env := by rfl) : PD X T W (.Call (.Name "list" p) [e] [] pos) (rgLst f) :=
  PE.imp (pe_listRg hc.calm hg hm h na) fun σ H Q q => by
  obtain ⟨F, G, l, r, S, hr, hs, hp⟩ := q
  refine wp_step (rl := rP) hr hs hp fun F1 l1 S1 a x H1 lt hs1 ha hp1 => ?_
  have ha : x = a := ha
  subst ha
  by_cases hb : rgOkB x.1 x.2 = true
  · rw [if_pos hb] at hp1
    obtain ⟨h1, h2⟩ := rgOk_of hb
    exact ⟨h1, fun q hq => newList_frozen lt.rel (rgV_at x.1 x.2) (by rw [rangeD_len]; exact h2) hp1 hq⟩
  · rw [if_neg hb] at hp1; exact hp1.elim
theorem pd_rgLstC {f : Sem (Int × Int)} (hc : Ctx X W k) (hg : Gl X "list") (hm : X.mg "list" = none) (h : PDR X T W e f) (na : starEach [e] X.env = (false, eval e X.env) :: starEach [] X.env := by rfl) : PD X T W (.Call (.Name "list" p) [e] [] pos) (rgLstC f) :=
  PE.imp (pe_listRg hc.calm hg hm h na) fun σ H Q q => by
  obtain ⟨F, G, l, r, S, hr, hs, hp⟩ := q
  refine wp_step (rl := rP) hr hs hp fun F1 l1 S1 a x H1 lt hs1 ha hp1 => ?_
  have ha : x = a := ha
  subst ha
  by_cases hb : rgOkB x.1 x.2 = true
  · rw [if_pos hb] at hp1
    obtain ⟨h1, h2⟩ := rgOk_of hb
    exact ⟨h1, fun q hq => newList_cell lt.rel (rgV_at x.1 x.2) (by rw [rangeD_len]; exact h2) hp1 hq⟩
  · rw [if_neg hb] at hp1; exact hp1.elim
theorem pd_rgTup {f : Sem (Int × Int)} (hc : Ctx X W k) (hg : Gl X "tuple") (hm : X.mg "tuple" = none) (h : PDR X T W e f) (na : starEach [e] X.env = (false, eval e X.env) :: starEach [] X.env := by rfl) : PD X T W (.Call (.Name "tuple" p) [e] [] pos) (rgTup f) :=
  PE.imp (pe_tupRg hc.calm hg hm h na) fun σ H Q q => by
  obtain ⟨F, G, l, r, S, hr, hs, hp⟩ := q
  refine wp_step (rl := rP) hr hs hp fun F1 l1 S1 a x H1 lt hs1 ha hp1 => ?_
  have ha : x = a := ha
  subst ha
  by_cases hb : rgOkB x.1 x.2 = true
  · rw [if_pos hb] at hp1
    obtain ⟨h1, h2⟩ := rgOk_of hb
    refine ⟨h1, fun q hq => ?_⟩
    have le : Le F1 (upd F1 q (.tup (rgV x.1 x.2))) := Le.new (lt.rel.fnone hq)
    exact hp1 _ l1 _ _ (later_new (o := .tup (rgV x.1 x.2)) lt.rel hq) ⟨q, _, rfl, upd_same, by rw [rangeD_len]; exact h2, rgV_at x.1 x.2⟩
  · rw [if_neg hb] at hp1; exact hp1.elim
end
end Aw

/-! Aw12: how the readings are reckoned out (no program in sight). -/
namespace Aw
open PySem L2 LamX

def Out.bnd {α β : Type} (o : Out α) (k : α → Store → Out β) : Out β := match o with
  | .ok a S => k a S
  | .err c S => .err c S
  | .stuck => .stuck
def Out.thn {α : Type} (o : Out α) (r : Env) (k : α → Store → R) : R := match o with
  | .ok a S => k a S
  | .err c S => .err c r S
  | .stuck => .stuck
def R.sq (o : R) (k : Env → Store → R) : R := match o with
  | .nx r S => k r S
  | o => o
section
variable {α β : Type} {r : Env} {S : Store}
theorem bnd_ok (a : α) (S : Store) (k : α → Store → Out β) : (Out.ok a S).bnd k = k a S := Eq.trans rfl rfl
theorem bnd_err (c : Ex) (S : Store) (k : α → Store → Out β) : (Out.err c S : Out α).bnd k = .err c S := Eq.trans rfl rfl
theorem thn_ok (a : α) (S : Store) (r : Env) (k : α → Store → R) : (Out.ok a S).thn r k = k a S := Eq.trans rfl rfl
theorem thn_err (c : Ex) (S : Store) (r : Env) (k : α → Store → R) : (Out.err c S : Out α).thn r k = .err c r S := Eq.trans rfl rfl
theorem sq_nx (r : Env) (S : Store) (k : Env → Store → R) : (R.nx r S).sq k = k r S := Eq.trans rfl rfl
theorem sq_ret (d : D) (S : Store) (k : Env → Store → R) : (R.ret d S).sq k = .ret d S := Eq.trans rfl rfl
theorem sq_brk (r : Env) (S : Store) (k : Env → Store → R) : (R.brk r S).sq k = .brk r S := Eq.trans rfl rfl
theorem sq_ct (r : Env) (S : Store) (k : Env → Store → R) : (R.ct r S).sq k = .ct r S := Eq.trans rfl rfl
theorem sq_err (c : Ex) (r : Env) (S : Store) (k : Env → Store → R) : (R.err c r S).sq k = .err c r S := Eq.trans rfl rfl
theorem x_bind (f : Sem α) (g : α → Sem β) : bindO f g r S = (f r S).bnd fun a S' => g a r S' := by
  unfold bindO Out.bnd; cases f r S <;> rfl
theorem x_then (f : Sem α) (g : α → SemS) : thenS f g r S = (f r S).thn r fun a S' => g a r S' := by
  unfold thenS Out.thn; cases f r S <;> rfl
theorem x_seq (f g : SemS) : seqS f g r S = (f r S).sq g := by
  unfold seqS R.sq; cases f r S <;> rfl
theorem x_ret (a : α) : retO a r S = .ok a S := Eq.trans rfl rfl
theorem x_op2 (g : G2) (fa fb : Sem D) : op2 g fa fb r S = (fa r S).bnd fun a S1 => (fb r S1).bnd fun b S2 => stepO (g S2 a b) := by
  unfold op2; rw [x_bind]; congr 1
theorem x_op1 (g : Store → D → Option D) (f : Sem D) : op1 g f r S = (f r S).bnd fun a S1 => stepO ((g S1 a).map fun d => (d, S1)) := by
  unfold op1; rw [x_bind]; congr 1; funext a S1; cases g S1 a <;> rfl
theorem x_step (d : D) (S : Store) : stepO (some (d, S)) = .ok d S := Eq.trans rfl rfl
theorem x_nilA : nilA r S = .ok [] S := Eq.trans rfl rfl
theorem x_consA (f : Sem D) (g : Sem (List D)) : consA f g r S = (f r S).bnd fun a S1 => (g r S1).bnd fun as S2 => .ok (a :: as) S2 := by
  unfold consA; rw [x_bind]; congr 1
theorem x_callB (g : GC) (f : Sem (List D)) : callB g f r S = (f r S).bnd fun as S1 => stepO (g S1 as) := by
  unfold callB; rw [x_bind]
theorem x_testE (f : Sem D) : testE f r S = (f r S).bnd fun d S1 => toB d r S1 := by unfold testE; rw [x_bind]
theorem x_toB (b : Bool) : toB (.bl b) r S = .ok b S := Eq.trans rfl rfl
theorem x_var {i : Nat} {d : D} (h : r[i]? = some (some d)) : vE i r S = .ok (norm S d) S := by unfold vE; rw [h]
theorem x_v0 (d : D) : vE 0 (some d :: r) S = .ok (norm S d) S := Eq.trans rfl rfl
theorem x_vs (i : Nat) (x : Option D) : vE (i + 1) (x :: r) S = vE i r S := Eq.trans rfl rfl
theorem n_int (i : Int) : norm S (.int i) = .int i := Eq.trans rfl rfl
theorem n_bl (i : Bool) : norm S (.bl i) = .bl i := Eq.trans rfl rfl
theorem n_str (i : PySem.Str) : norm S (.str i) = .str i := Eq.trans rfl rfl
theorem n_non : norm S .non = .non := Eq.trans rfl rfl
theorem n_lst (i : List D) : norm S (.lst i) = .lst i := Eq.trans rfl rfl
theorem n_tup (i : List D) : norm S (.tup i) = .tup i := Eq.trans rfl rfl
theorem n_scr (i : List Int) : norm S (.scr i) = .scr i := Eq.trans rfl rfl
theorem x_if (c : Sem Bool) (f g : SemS) : ifS c f g r S = (c r S).thn r fun b S1 => if b = true then f r S1 else g r S1 := by
  unfold ifS; rw [x_then]; congr 1; funext b S1; cases b <;> rfl
theorem x_retS (f : Sem D) : retS f r S = (f r S).thn r fun d S1 => .ret d S1 := by unfold retS; rw [x_then]
theorem x_dropS (f : Sem D) : dropS f r S = (f r S).thn r fun _ S1 => .nx r S1 := by unfold dropS; rw [x_then]
theorem x_setS (f : Sem D) (i : Nat) : setS f (.one i) r S = (f r S).thn r fun d S1 => .nx (r.set i (some d)) S1 := by unfold setS; rw [x_then]; rfl
theorem x_setM (f : Sem D) (is : List Nat) : setS f (.many is) r S = (f r S).thn r fun d S1 => match (Tgt.many is).set d r with
  | some r' => .nx r' S1
  | none => .stuck := by
  unfold setS; rw [x_then]
  all_goals (
    cases f r S with
    | ok a S' => simp only [thn_ok]; cases (Tgt.many is).set a r <;> rfl
    | err c S' => rfl
    | stuck => rfl)
theorem x_skip : skipS r S = .nx r S := Eq.trans rfl rfl
theorem x_andT (f g : Sem Bool) : andT f g r S = (f r S).bnd fun b S1 => if b = true then g r S1 else .ok false S1 := by
  unfold andT; rw [x_bind]; congr 1; funext b S1; cases b <;> rfl
theorem x_orT (f g : Sem Bool) : orT f g r S = (f r S).bnd fun b S1 => if b = true then .ok true S1 else g r S1 := by
  unfold orT; rw [x_bind]; congr 1; funext b S1; cases b <;> rfl
theorem x_notT (f : Sem Bool) : notT f r S = (f r S).bnd fun b S1 => .ok (!b) S1 := by unfold notT; rw [x_bind]; rfl
theorem x_ifE {α : Type} (c : Sem Bool) (f g : Sem α) : ifE c f g r S = (c r S).bnd fun b S1 => if b = true then f r S1 else g r S1 := by
  unfold ifE; rw [x_bind]; congr 1; funext b S1; cases b <;> rfl
def Out.bnB (o : Out D) (k : Bool → Store → Out D) : Out D := o.bnd fun d S => match d with
  | .bl b => k b S
  | _ => .stuck
theorem bnB_ok (b : Bool) (S : Store) (k : Bool → Store → Out D) : (Out.ok (.bl b) S).bnB k = k b S := Eq.trans rfl rfl
theorem x_andE (f g : Sem D) : andE f g r S = (f r S).bnB fun b S1 => if b = true then g r S1 else .ok (.bl false) S1 := by
  unfold andE Out.bnB; rw [x_bind]; congr 1; funext d S1; cases d with
  | bl b => cases b <;> rfl
  | _ => rfl
theorem x_orE (f g : Sem D) : orE f g r S = (f r S).bnB fun b S1 => if b = true then .ok (.bl true) S1 else g r S1 := by
  unfold orE Out.bnB; rw [x_bind]; congr 1; funext d S1; cases d with
  | bl b => cases b <;> rfl
  | _ => rfl
theorem x_notE (f : Sem D) : notE f r S = (f r S).bnB fun b S1 => .ok (.bl (!b)) S1 := by
  unfold notE Out.bnB; rw [x_bind]; congr 1; funext d S1; cases d <;> rfl
theorem x_chain (g g' : G2) (fa fb fc : Sem D) : chainE g g' fa fb fc r S = (fa r S).bnd fun a S1 => (fb r S1).bnd fun b S2 => (stepO (g S2 a b)).bnB fun z S3 => if z = true then (fc r S3).bnd fun c S4 => stepO (g' S4 b c) else .ok (.bl false) S3 := by
  unfold chainE; rw [x_bind]; congr 1; funext a S1; rw [x_bind]; congr 1; funext b S2; rw [x_bind]; unfold Out.bnB; congr 1; funext d S3
  cases d with
  | bl z => cases z with
    | true => show bindO fc _ r S3 = _; rw [x_bind]; rfl
    | false => rfl
  | _ => rfl
theorem x_tupE (f : Sem (List D)) : tupE f r S = (f r S).bnd fun ds S1 => if ds.length ≤ 100000 then .ok (.tup ds) S1 else .stuck := by
  unfold tupE; rw [x_bind]; congr 1; funext ds S1; split <;> rfl
theorem x_lstE (f : Sem (List D)) : lstE f r S = (f r S).bnd fun ds S1 => if ds.length ≤ 100000 then .ok (.lst ds) S1 else .stuck := by
  unfold lstE; rw [x_bind]; congr 1; funext ds S1; split <;> rfl
theorem x_lstC (f : Sem (List D)) : lstC f r S = (f r S).bnd fun ds S1 => if ds.length ≤ 100000 then .ok (.loc S1.length) (S1 ++ [.lst ds]) else .stuck := by
  unfold lstC; rw [x_bind]; rfl
theorem x_methL (g : GM) (fo : Sem D) (fa : Sem (List D)) : methL g fo fa r S = (fo r S).bnd fun o S1 => if (lstOf S1 o).isSome then (fa r S1).bnd fun as S2 => stepO (g S2 o as) else .stuck := by
  unfold methL; rw [x_bind]; congr 1
theorem x_for (it : Sem (List D)) (t : Tgt) (b : SemS) : forS it t b r S = (it r S).thn r fun ds S1 => loopS t b ds r S1 := by unfold forS; rw [x_then]
theorem x_itSeq (f : Sem D) : itSeq f r S = (f r S).bnd fun d S1 => asSeq S1 d r S1 := by unfold itSeq; rw [x_bind]
theorem x_asSeq (ds : List D) : asSeq S (.lst ds) r S = .ok ds S := Eq.trans rfl rfl
theorem x_asSeqT (ds : List D) : asSeq S (.tup ds) r S = .ok ds S := Eq.trans rfl rfl
theorem x_asSeqS (ns : List Int) : asSeq S (.scr ns) r S = .ok (ns.map D.int) S := Eq.trans rfl rfl
theorem x_range1 (f : Sem (List D)) : itRange1 f r S = (f r S).bnd fun as S1 => rangeI1 as r S1 := by unfold itRange1; rw [x_bind]
theorem x_range2 (f : Sem (List D)) : itRange2 f r S = (f r S).bnd fun as S1 => rangeI2 as r S1 := by unfold itRange2; rw [x_bind]
/-- the numbers below n -/
def upto (n : Nat) : List D := (List.range n).map fun i => D.int (i : Nat)
theorem rangeD0 (n : Nat) : rangeD 0 n = upto n := by
  unfold rangeD upto; congr 1; funext i; rw [Int.zero_add]
theorem x_rangeI1 {n : Nat} (h : n < 2 ^ 62) : rangeI1 [.int (n : Nat)] r S = .ok (upto n) S := by
  have h' : inR (n : Nat) = true := by
    unfold inR
    simp only [Bool.and_eq_true, decide_eq_true_eq]; omega
  simp only [rangeI1, h', if_true, retO, Int.toNat_natCast, rangeD0]
theorem x_rangeI2 {i n : Nat} (hi : i < 2 ^ 62) (h : n < 2 ^ 62) : rangeI2 [.int (i : Nat), .int (n : Nat)] r S = .ok ((List.range (n - i)).map fun j => D.int ((i + j : Nat) : Int)) S := by
  have h' : inR (n : Nat) = true := by
    unfold inR
    simp only [Bool.and_eq_true, decide_eq_true_eq]; omega
  have h2 : inR (i : Nat) = true := by
    unfold inR
    simp only [Bool.and_eq_true, decide_eq_true_eq]; omega
  have e : (((n : Nat) : Int) - (i : Nat)).toNat = n - i := by omega
  simp only [rangeI2, h', h2, Bool.and_self, if_true, retO, e, rangeD]
  congr 1
theorem x_enum (f : Sem (List D)) : itEnum f r S = (f r S).bnd fun as S1 => (asLst as r S1).bnd fun ds S2 => .ok (enumFrom 0 ds) S2 := by
  unfold itEnum; rw [x_bind]; congr 1
theorem x_asLst (ds : List D) : asLst [.lst ds] r S = .ok ds S := Eq.trans rfl rfl
theorem x_lcE (it : Sem (List D)) (t : Tgt) (vs : List Nat) (c : Sem Bool) (e : Sem D) : lcE it t vs c e r S = (it r S).bnd fun ds S1 => if ds.length ≤ 100000 then (loopC t c e (wipeD r vs) ds S1).bnd fun xs S2 => .ok (.lst xs) S2 else .stuck := by
  unfold lcE compE; rw [x_bind, x_bind]
  cases it r S with
  | ok ds S1 =>
    simp only [bnd_ok]
    split
    · rfl
    · rfl
  | err c S1 => rfl
  | stuck => rfl
theorem x_lcC (it : Sem (List D)) (t : Tgt) (vs : List Nat) (c : Sem Bool) (e : Sem D) : lcC it t vs c e r S = (it r S).bnd fun ds S1 => if ds.length ≤ 100000 then (loopC t c e (wipeD r vs) ds S1).bnd fun xs S2 => .ok (.loc S2.length) (S2 ++ [.lst xs]) else .stuck := by
  unfold lcC compE; rw [x_bind, x_bind]
  cases it r S with
  | ok ds S1 =>
    simp only [bnd_ok]
    split
    · rfl
    · rfl
  | err c S1 => rfl
  | stuck => rfl
theorem x_ghost (g : Env → Store → Option (Env × Store)) (f : SemS) {r' : Env} {S' : Store} (h : g r S = some (r', S')) : ghostS g f r S = f r' S' := by unfold ghostS; rw [h]
theorem x_asg (f : Sem D) (g : GSet) (fo fi : Sem D) : asgS f (subT g fo fi) r S = (f r S).thn r fun d S1 => (fo r S1).thn r fun o S2 => (fi r S2).thn r fun i S3 => match g S3 o i d with
  | some S' => .nx r S'
  | none => .stuck := by
  unfold asgS; rw [x_then]
  cases f r S with
  | ok d S1 =>
    simp only [thn_ok]; unfold subT; rw [x_then]
    cases fo r S1 with
    | ok o S2 =>
      simp only [thn_ok]; rw [x_then]
      all_goals (
        cases fi r S2 with
        | ok i S3 => simp only [thn_ok]; cases g S3 o i d <;> rfl
        | err c S' => rfl
        | stuck => rfl)
    | err c S' => rfl
    | stuck => rfl
  | err c S' => rfl
  | stuck => rfl
theorem x_isi (t : Ty) (f : Sem D) : isiE t f r S = (f r S).bnd fun d S1 => match tyD S1 d with
  | some a => .ok (.bl (isiB a t)) S1
  | none => .stuck := by
  unfold isiE; rw [x_bind]
  all_goals (
    cases f r S with
    | ok d S1 => simp only [bnd_ok]; cases tyD S1 d <;> rfl
    | err c S' => rfl
    | stuck => rfl)
theorem x_slice (g : Store → D → Option Int → Option Int → Option (D × Store)) (f : Sem D) (lo hi : Sem (Option Int)) : sliceE g f lo hi r S = (f r S).bnd fun a S1 => (lo r S1).bnd fun i S2 => (hi r S2).bnd fun j S3 => stepO (g S3 a i j) := by
  unfold sliceE; rw [x_bind]; congr 1
theorem x_part {f : Sem D} {i : Int} {S1 : Store} (h : f r S = .ok (.int i) S1) : partO f r S = .ok (some i) S1 := by unfold partO; rw [x_bind, h]; rfl
theorem x_noPart : noPartO r S = .ok none S := Eq.trans rfl rfl
theorem x_rev (f : Sem D) : revE f r S = (f r S).bnd fun a S1 => match lstOf S1 a with
  | some ds => .ok (.lst ds.reverse) S1
  | none => .stuck := by
  unfold revE; rw [x_bind]
  all_goals (
    cases f r S with
    | ok d S1 => simp only [bnd_ok]; cases lstOf S1 d <;> rfl
    | err c S' => rfl
    | stuck => rfl)
theorem x_call {n : Nat} {f : FSem} {fa : Sem (List D)} {ds ds1 : List D} {S1 : Store} (h : fa r S = .ok ds S1) (h1 : resF S1 ds = some ds1) (h2 : ds1.length = n) : callF n f fa r S = liftP (f ds1) S1 := by
  unfold callF; rw [x_bind, h]; simp only [bnd_ok, h1, h2, if_true]
theorem x_callB' {n : Nat} {f : FSem} {fa : Sem (List D)} {ds ds1 : List D} {S1 : Store} (h : fa r S = .ok ds S1) (h1 : resF S1 ds = none) (h0 : resL (resLst S1 4) ds = some ds1) (h2 : ds1.length = n) : callF n f fa r S = liftB (f ds1) S1 := by
  unfold callF; rw [x_bind, h]; simp only [bnd_ok, h1, h0, h2, if_true]
theorem x_callR {n : Nat} {f : RSem} {fa : Sem (List D)} {ds ds1 : List D} {S1 : Store} (h : fa r S = .ok ds S1) (h1 : resF S1 ds = some ds1) (h2 : ds1.length = n) : callFR n f fa r S = liftR (f ds1) S1 := by
  unfold callFR; rw [x_bind, h]; simp only [bnd_ok, h1, h2, if_true]

/-! ### data without cells -/
mutual
/-- no cell's name within -/
def pureD : D → Bool
  | .loc _ => false
  | .tup ds => pureL ds
  | .lst ds => pureL ds
  | .dct _ _ ws => pureL ws
  | _ => true
def pureL : List D → Bool
  | [] => true
  | d :: ds => pureD d && pureL ds
end
mutual
theorem resD_pure (f : Nat → Option D) : ∀ d : D, pureD d = true → resD f d = some d
  | .non, _ => rfl
  | .bl _, _ => rfl
  | .int _, _ => rfl
  | .str _, _ => rfl
  | .fn _, _ => rfl
  | .scr _, _ => rfl
  | .loc _, h => by cases h
  | .tup ds, h => by simp only [resD, resL_pure f ds h, Option.map_some]
  | .lst ds, h => by simp only [resD, resL_pure f ds h, Option.map_some]
  | .dct t ks ws, h => by simp only [resD, resL_pure f ws h, Option.map_some]
theorem resL_pure (f : Nat → Option D) : ∀ ds : List D, pureL ds = true → resL f ds = some ds
  | [], _ => rfl
  | d :: ds, h => by
    simp only [pureL, Bool.and_eq_true] at h
    simp only [resL, resD_pure f d h.1, resL_pure f ds h.2]
end
mutual
theorem shD_pure (n : Nat) : ∀ d : D, pureD d = true → shD n d = d
  | .non, _ => rfl
  | .bl _, _ => rfl
  | .int _, _ => rfl
  | .str _, _ => rfl
  | .fn _, _ => rfl
  | .scr _, _ => rfl
  | .loc _, h => by cases h
  | .tup ds, h => by simp only [shD, shL_pure n ds h]
  | .lst ds, h => by simp only [shD, shL_pure n ds h]
  | .dct t ks ws, h => by simp only [shD, shL_pure n ws h]
theorem shL_pure (n : Nat) : ∀ ds : List D, pureL ds = true → shL n ds = ds
  | [], _ => rfl
  | d :: ds, h => by
    simp only [pureL, Bool.and_eq_true] at h
    simp only [shL, shD_pure n d h.1, shL_pure n ds h.2]
end
theorem pureL_map {α : Type} (f : α → D) (h : ∀ x, pureD (f x) = true) : ∀ xs : List α, pureL (xs.map f) = true
  | [] => rfl
  | x :: xs => by simp only [List.map_cons, pureL, h x, pureL_map f h xs, Bool.and_self]
theorem pureL_of : ∀ (ds : List D), (∀ d ∈ ds, pureD d = true) → pureL ds = true
  | [], _ => rfl
  | d :: ds, h => by
    simp only [pureL, Bool.and_eq_true]
    exact ⟨h d List.mem_cons_self, pureL_of ds fun e he => h e (List.mem_cons_of_mem _ he)⟩
theorem norm_pure (S : Store) : ∀ d : D, pureD d = true → norm S d = d
  | .non, _ => rfl
  | .bl _, _ => rfl
  | .int _, _ => rfl
  | .str _, _ => rfl
  | .fn _, _ => rfl
  | .scr _, _ => rfl
  | .loc _, h => by cases h
  | .tup ds, h => rfl
  | .lst ds, h => rfl
  | .dct t ks ws, h => rfl
theorem resF_pure (S : Store) (ds : List D) (h : pureL ds = true) : resF S ds = some ds := resL_pure _ ds h
theorem resA_pure (S : Store) (d : D) (h : pureD d = true) : resA S d = some d := resD_pure _ d h

/-! ### items -/
theorem ixN_nat {n k : Nat} (h : k < n) : ixN n (k : Nat) = some k := by
  unfold ixN; simp [h]
theorem atI_nat {α : Type} {xs : List α} {k : Nat} {x : α} (h : xs[k]? = some x) : atI xs (k : Nat) = some x := by
  have hk := (List.getElem?_eq_some_iff.mp h).1
  unfold atI; rw [ixN_nat hk]; exact h
theorem ix_lst {S : Store} {ds : List D} {k : Nat} {d : D} (h : ds[k]? = some d) : ixG S (.lst ds) (.int (k : Nat)) = some (norm S d, S) := by
  unfold ixG; simp only [seqOf, lstOf, atI_nat h]
theorem ix_tup {S : Store} {ds : List D} {k : Nat} {d : D} (h : ds[k]? = some d) : ixG S (.tup ds) (.int (k : Nat)) = some (norm S d, S) := by
  unfold ixG; simp only [seqOf, atI_nat h]
theorem ix_scr {S : Store} {ns : List Int} {k : Nat} {n : Int} (h : ns[k]? = some n) : ixG S (.scr ns) (.int (k : Nat)) = some (.int n, S) := by
  unfold ixG; simp only [seqOf, lstOf, atI_nat h]
theorem ix_loc {S : Store} {n : Nat} {ds : List D} {k : Nat} {d : D} (hn : S[n]? = some (.lst ds)) (h : ds[k]? = some d) : ixG S (.loc n) (.int (k : Nat)) = some (norm S d, S) := by
  unfold ixG; simp only [seqOf, lstOf, hn, atI_nat h]
theorem len_lst {S : Store} {ds : List D} : lenG S [.lst ds] = some (.int (ds.length : Nat), S) := Eq.trans rfl rfl
theorem len_tup {S : Store} {ds : List D} : lenG S [.tup ds] = some (.int (ds.length : Nat), S) := Eq.trans rfl rfl
theorem len_scr {S : Store} {ds : List Int} : lenG S [.scr ds] = some (.int (ds.length : Nat), S) := Eq.trans rfl rfl
theorem len_loc {S : Store} {n : Nat} {ds : List D} (hn : S[n]? = some (.lst ds)) : lenG S [.loc n] = some (.int (ds.length : Nat), S) := by
  unfold lenG lenOf; simp only [seqOf, lstOf, hn, Option.map_some]

/-! ### loops -/
theorem loop_inv {t : Tgt} {b : SemS} (I : Nat → Env → Store → Prop) : ∀ {ds : List D} {k : Nat} {r : Env} {S : Store}, I k r S →
    (∀ i d r S, ds[i]? = some d → I (k + i) r S → ∃ r1, t.set d r = some r1 ∧ ∃ r2 S2, (b r1 S = .nx r2 S2 ∨ b r1 S = .ct r2 S2) ∧ I (k + i + 1) r2 S2) →
    ∃ r' S', loopS t b ds r S = .nx r' S' ∧ I (k + ds.length) r' S'
  | [], k, r, S, h, _ => ⟨r, S, rfl, h⟩
  | d :: ds, k, r, S, h, hs => by
    obtain ⟨r1, h1, r2, S2, h2, h3⟩ := hs 0 d r S rfl h
    obtain ⟨r', S', h4, h5⟩ := loop_inv I (t := t) (b := b) (ds := ds) (k := k + 1) h3 fun i e r S he hi => by
      have := hs (i + 1) e r S (by simpa using he) (by rw [show k + (i + 1) = k + 1 + i by omega]; exact hi)
      rw [show k + (i + 1) = k + 1 + i by omega] at this
      exact this
    refine ⟨r', S', ?_, by rw [List.length_cons, show k + (ds.length + 1) = k + 1 + ds.length by omega]; exact h5⟩
    unfold loopS
    rw [h1]
    rcases h2 with h2 | h2 <;> simp only [h2] <;> exact h4
theorem loop_inv0 {t : Tgt} {b : SemS} (I : Nat → Env → Store → Prop) {ds : List D} {r : Env} {S : Store} (h0 : I 0 r S)
    (hs : ∀ i d r S, ds[i]? = some d → I i r S → ∃ r1, t.set d r = some r1 ∧ ∃ r2 S2, (b r1 S = .nx r2 S2 ∨ b r1 S = .ct r2 S2) ∧ I (i + 1) r2 S2) :
    ∃ r' S', loopS t b ds r S = .nx r' S' ∧ I ds.length r' S' := by
  obtain ⟨r', S', h1, h2⟩ := loop_inv I (k := 0) (ds := ds) (t := t) (b := b) h0 fun i d r S hd hi => by
    rw [Nat.zero_add] at hi ⊢
    exact hs i d r S hd hi
  exact ⟨r', S', h1, by rw [Nat.zero_add] at h2; exact h2⟩
/-- a loop that may be left by return at a place: the first one -/
theorem loop_find {t : Tgt} {b : SemS} (I : Nat → Env → Store → Prop) (p : Nat → Bool) (Z : Nat → R → Prop) : ∀ {ds : List D} {k : Nat} {r : Env} {S : Store}, I k r S →
    (∀ i d r S, ds[i]? = some d → I (k + i) r S → ∃ r1, t.set d r = some r1 ∧ if p (k + i) = true then (∃ d' S', b r1 S = .ret d' S') ∧ Z (k + i) (b r1 S) else ∃ r2 S2, (b r1 S = .nx r2 S2 ∨ b r1 S = .ct r2 S2) ∧ I (k + i + 1) r2 S2) →
    (∃ r' S', loopS t b ds r S = .nx r' S' ∧ I (k + ds.length) r' S' ∧ ∀ i, i < ds.length → p (k + i) = false) ∨ (∃ i, i < ds.length ∧ p (k + i) = true ∧ (∀ j, j < i → p (k + j) = false) ∧ Z (k + i) (loopS t b ds r S))
  | [], k, r, S, h, _ => .inl ⟨r, S, rfl, h, fun i hi => by simp at hi⟩
  | d :: ds, k, r, S, h, hs => by
    obtain ⟨r1, h1, h2⟩ := hs 0 d r S rfl h
    by_cases hp : p (k + 0) = true
    · rw [if_pos hp] at h2
      obtain ⟨⟨d', S', h3⟩, h4⟩ := h2
      refine .inr ⟨0, by simp, hp, fun j hj => by omega, ?_⟩
      unfold loopS
      rw [h1]
      rw [h3] at h4
      simp only [h3]
      exact h4
    · rw [if_neg hp] at h2
      obtain ⟨r2, S2, h2, h3⟩ := h2
      have e : loopS t b (d :: ds) r S = loopS t b ds r2 S2 := by
        conv => lhs; unfold loopS
        rw [h1]
        rcases h2 with h2 | h2 <;> simp only [h2]
      rw [e]
      rcases loop_find I p Z (t := t) (b := b) (ds := ds) (k := k + 1) h3 fun i e r S he hi => by
        have := hs (i + 1) e r S (by simpa using he) (by rw [show k + (i + 1) = k + 1 + i by omega]; exact hi)
        rw [show k + (i + 1) = k + 1 + i by omega] at this
        exact this with ⟨r', S', h4, h5, h6⟩ | ⟨i, h4, h5, h6, h7⟩
      · refine .inl ⟨r', S', h4, by rw [List.length_cons, show k + (ds.length + 1) = k + 1 + ds.length by omega]; exact h5, fun i hi => ?_⟩
        cases i with
        | zero => simpa using hp
        | succ i =>
          have := h6 i (by simpa using hi)
          rw [show k + (i + 1) = k + 1 + i by omega]; exact this
      · refine .inr ⟨i + 1, by simpa using h4, by rw [show k + (i + 1) = k + 1 + i by omega]; exact h5, fun j hj => ?_, by rw [show k + (i + 1) = k + 1 + i by omega]; exact h7⟩
        cases j with
        | zero => simpa using hp
        | succ j =>
          rw [show k + (j + 1) = k + 1 + j by omega]
          exact h6 j (by omega)
/-- comprehensions whose parts change no cell -/
theorem loopC_map {α : Type} {t : Tgt} {c : Sem Bool} {e : Sem D} {r : Env} {S : Store} (enc g : α → D) (p : α → Bool) : ∀ {xs : List α}, (∀ x ∈ xs, ∃ r1, t.set (enc x) r = some r1 ∧ c r1 S = .ok (p x) S ∧ (p x = true → e r1 S = .ok (g x) S)) →
    loopC t c e r (xs.map enc) S = .ok ((xs.filter p).map g) S
  | [], _ => rfl
  | x :: xs, h => by
    obtain ⟨r1, h1, h2, h3⟩ := h x List.mem_cons_self
    have ih := loopC_map (t := t) (c := c) (e := e) (r := r) (S := S) enc g p (xs := xs) fun y hy => h y (List.mem_cons_of_mem _ hy)
    rw [List.map_cons]
    unfold loopC
    rw [h1]
    simp only [h2]
    cases q : p x with
    | false => simp only [ih, List.filter_cons, q]; rfl
    | true => simp only [h3 q, ih, List.filter_cons, q]; rfl
theorem loopC_all {α : Type} {t : Tgt} {e : Sem D} {r : Env} {S : Store} (enc g : α → D) {xs : List α} (h : ∀ x ∈ xs, ∃ r1, t.set (enc x) r = some r1 ∧ e r1 S = .ok (g x) S) :
    loopC t yesT e r (xs.map enc) S = .ok (xs.map g) S := by
  have := loopC_map (t := t) (c := yesT) (e := e) (r := r) (S := S) enc g (fun _ => true) (xs := xs) fun x hx => by
    obtain ⟨r1, h1, h2⟩ := h x hx
    exact ⟨r1, h1, rfl, fun _ => h2⟩
  rw [this, List.filter_eq_self.mpr (by simp)]
theorem lc_map {α : Type} {it : Sem (List D)} {t : Tgt} {ws : List Nat} {c : Sem Bool} {e : Sem D} {r : Env} {S S1 : Store} (enc g : α → D) (p : α → Bool) {xs : List α} (hi : it r S = .ok (xs.map enc) S1) (hl : xs.length ≤ 100000)
    (h : ∀ x ∈ xs, ∃ r1, t.set (enc x) (wipeD r ws) = some r1 ∧ c r1 S1 = .ok (p x) S1 ∧ (p x = true → e r1 S1 = .ok (g x) S1)) : lcE it t ws c e r S = .ok (.lst ((xs.filter p).map g)) S1 := by
  rw [x_lcE, hi, bnd_ok, if_pos (by simpa using hl), loopC_map enc g p h, bnd_ok]
theorem lc_all {α : Type} {it : Sem (List D)} {t : Tgt} {ws : List Nat} {e : Sem D} {r : Env} {S S1 : Store} (enc g : α → D) {xs : List α} (hi : it r S = .ok (xs.map enc) S1) (hl : xs.length ≤ 100000)
    (h : ∀ x ∈ xs, ∃ r1, t.set (enc x) (wipeD r ws) = some r1 ∧ e r1 S1 = .ok (g x) S1) : lcE it t ws yesT e r S = .ok (.lst (xs.map g)) S1 := by
  rw [x_lcE, hi, bnd_ok, if_pos (by simpa using hl), loopC_all enc g h, bnd_ok]
theorem lcC_all {α : Type} {it : Sem (List D)} {t : Tgt} {ws : List Nat} {e : Sem D} {r : Env} {S S1 : Store} (enc g : α → D) {xs : List α} (hi : it r S = .ok (xs.map enc) S1) (hl : xs.length ≤ 100000)
    (h : ∀ x ∈ xs, ∃ r1, t.set (enc x) (wipeD r ws) = some r1 ∧ e r1 S1 = .ok (g x) S1) : lcC it t ws yesT e r S = .ok (.loc S1.length) (S1 ++ [.lst (xs.map g)]) := by
  rw [x_lcC, hi, bnd_ok, if_pos (by simpa using hl), loopC_all enc g h, bnd_ok]
theorem out_ret {n : Nat} {b : SemS} {ds : List D} {d d1 : D} {S : Store} (h : b (startE n ds) [] = .ret d S) (h1 : resA S d = some d1) : fnOut n b ds = .ok d1 := by
  unfold fnOut; rw [h]; simp only [h1]
theorem out_pure {n : Nat} {b : SemS} {ds : List D} {d : D} {S : Store} (h : b (startE n ds) [] = .ret d S) (h1 : pureD d = true) : fnOut n b ds = .ok d := out_ret h (resA_pure S d h1)
theorem raw_ret {n : Nat} {b : SemS} {ds : List D} {d : D} {S : Store} (h : b (startE n ds) [] = .ret d S) : fnRaw n b ds = .ok d S := by
  unfold fnRaw; rw [h]
end
end Aw

/-! Aw13: Lean values as plain data. -/
namespace Aw
open PySem L2 LamX

class En (α : Type) [DecidableEq α] where
  e : α → D
  p : α → PyData
  dep : Nat
  py : ∀ (f : Nat → Option PyData) (a : α), pyD f (e a) = some (p a)
  pu : ∀ a : α, pureD (e a) = true
  lay : ∀ a : α, (p a).canLay0 = true
  dp : ∀ a : α, (p a).depth ≤ dep
  eqv : ∀ a b : α, PyData.eqv (p a) (p b) = decide (a = b)
theorem dec_beq {α : Type} [BEq α] [LawfulBEq α] [DecidableEq α] (a b : α) : (a == b) = decide (a = b) := by
  rw [Bool.eq_iff_iff, beq_iff_eq, decide_eq_true_eq]
instance : En Int where
  e := .int
  p := .int
  dep := 0
  py _ _ := rfl
  pu _ := rfl
  lay _ := rfl
  dp _ := Nat.le_refl _
  eqv a b := by simp only [PyData.eqv]; exact dec_beq a b
instance : En Nat where
  e n := .int (n : Nat)
  p n := .int (n : Nat)
  dep := 0
  py _ _ := rfl
  pu _ := rfl
  lay _ := rfl
  dp _ := Nat.le_refl _
  eqv a b := by simp only [PyData.eqv]; rw [dec_beq]; exact decide_eq_decide.mpr Int.ofNat_inj
instance : En Bool where
  e := .bl
  p := .bool
  dep := 0
  py _ _ := rfl
  pu _ := rfl
  lay _ := rfl
  dp _ := Nat.le_refl _
  eqv a b := by simp only [PyData.eqv]; exact dec_beq a b
section
variable {α β : Type} [DecidableEq α] [En α] [DecidableEq β] [En β]
theorem py_map (f : Nat → Option PyData) : ∀ xs : List α, pyL f (xs.map En.e) = some (xs.map En.p)
  | [] => rfl
  | x :: xs => by simp only [List.map_cons, pyL, En.py, py_map f xs]
theorem lay_map : ∀ xs : List α, PyData.canLayAll0 (xs.map En.p) = true
  | [] => rfl
  | x :: xs => by simp only [List.map_cons, PyData.canLayAll0, En.lay, lay_map xs, Bool.and_self]
theorem dep_map : ∀ xs : List α, PyData.depthAll (xs.map En.p) ≤ En.dep α
  | [] => Nat.zero_le _
  | x :: xs => by
    rw [List.map_cons, PyData.depthAll]
    exact Nat.max_le.mpr ⟨En.dp x, dep_map xs⟩
theorem eqvAll_en : ∀ xs ys : List α, PyData.eqvAll (xs.map En.p) (ys.map En.p) = decide (xs = ys)
  | [], [] => by simp only [List.map_nil, PyData.eqvAll, decide_true]
  | [], _ :: _ => by simp [PyData.eqvAll]
  | _ :: _, [] => by simp [PyData.eqvAll]
  | x :: xs, y :: ys => by
    rw [List.map_cons, List.map_cons, PyData.eqvAll, En.eqv x y, eqvAll_en xs ys, ← Bool.decide_and]
    exact decide_eq_decide.mpr (by rw [List.cons.injEq])
instance : En (List α) where
  e xs := .lst (xs.map En.e)
  p xs := .list (xs.map En.p)
  dep := En.dep α + 1
  py f xs := by simp only [pyD, py_map, Option.map_some]
  pu xs := pureL_map _ En.pu xs
  lay xs := by simp only [PyData.canLay0]; exact lay_map xs
  dp xs := by simp only [PyData.depth]; exact Nat.succ_le_succ (dep_map xs)
  eqv xs ys := by simp only [PyData.eqv]; exact eqvAll_en xs ys
instance : En (α × β) where
  e q := .tup [En.e q.1, En.e q.2]
  p q := .tuple [En.p q.1, En.p q.2]
  dep := max (En.dep α) (En.dep β) + 1
  py f q := by simp only [pyD, pyL, En.py, Option.map_some]
  pu q := by simp only [pureD, pureL, En.pu, Bool.and_self]
  lay q := by simp only [PyData.canLay0, PyData.canLayAll0, En.lay, Bool.and_self]
  dp q := by
    simp only [PyData.depth, PyData.depthAll]
    have h1 := En.dp q.1
    have h2 := En.dp q.2
    omega
  eqv a b := by
    simp only [PyData.eqv, PyData.eqvAll]
    rw [En.eqv, En.eqv, Bool.and_true, ← Bool.decide_and]
    exact decide_eq_decide.mpr ⟨fun e => Prod.ext e.1 e.2, fun e => by rw [e]; exact ⟨rfl, rfl⟩⟩
end
abbrev en {α : Type} [DecidableEq α] [En α] (a : α) : D := En.e a
/-- it is within what == reads -/
class Low (α : Type) [DecidableEq α] [En α] : Prop where
  le : En.dep α ≤ 30
instance : Low Int := ⟨by decide⟩
instance : Low Nat := ⟨by decide⟩
instance : Low Bool := ⟨by decide⟩
section
variable {α β : Type} [DecidableEq α] [En α] [DecidableEq β] [En β] {S : Store}
theorem en_py (a : α) : pyS S (En.e a) = some (En.p a) := En.py _ a
theorem en_norm (a : α) : norm S (En.e a) = En.e a := norm_pure S _ (En.pu a)
theorem en_shaped (hd : En.dep α ≤ 60) (a : α) : SeqAt.shaped (En.p a) = true := by
  unfold SeqAt.shaped
  rw [En.lay, Bool.true_and, decide_eq_true_eq]
  exact Nat.le_trans (En.dp a) (by omega)
theorem eqB_en (hd : En.dep α ≤ 60 := by decide) (a b : α) : eqB S (En.e a) (En.e b) = some (decide (a = b)) := by
  unfold eqB
  simp only [en_py, en_shaped hd, Bool.and_self, if_true, En.eqv]
theorem eqG_en (hd : En.dep α ≤ 60 := by decide) (a b : α) : eqG S (En.e a) (En.e b) = some (.bl (decide (a = b)), S) := by
  unfold eqG; rw [eqB_en hd]; rfl
theorem neG_en (hd : En.dep α ≤ 60 := by decide) (a b : α) : neG S (En.e a) (En.e b) = some (.bl (!decide (a = b)), S) := by
  unfold neG; rw [eqB_en hd]; rfl
theorem eqG_py {a b : D} {x y : α} (hd : En.dep α ≤ 60) (ha : pyS S a = some (En.p x)) (hb : pyS S b = some (En.p y)) : eqG S a b = some (.bl (decide (x = y)), S) := by
  unfold eqG eqB
  simp only [ha, hb, en_shaped hd, Bool.and_self, if_true, En.eqv, Option.map_some]
theorem neG_py {a b : D} {x y : α} (hd : En.dep α ≤ 60) (ha : pyS S a = some (En.p x)) (hb : pyS S b = some (En.p y)) : neG S a b = some (.bl (!decide (x = y)), S) := by
  unfold neG eqB
  simp only [ha, hb, en_shaped hd, Bool.and_self, if_true, En.eqv, Option.map_some]
theorem eq_int (i j : Int) : eqG S (.int i) (.int j) = some (.bl (decide (i = j)), S) := eqG_en (α := Int) (by decide) i j
theorem ne_int (i j : Int) : neG S (.int i) (.int j) = some (.bl (!decide (i = j)), S) := neG_en (α := Int) (by decide) i j
theorem eq_bl (i j : Bool) : eqG S (.bl i) (.bl j) = some (.bl (decide (i = j)), S) := eqG_en (α := Bool) (by decide) i j
theorem ne_bl (i j : Bool) : neG S (.bl i) (.bl j) = some (.bl (!decide (i = j)), S) := neG_en (α := Bool) (by decide) i j
theorem en_resF1 (a : D) (h : pureD a = true) : resF S [a] = some [a] := resF_pure S _ (by simp only [pureL, h, Bool.and_self])
theorem en_get {xs : List α} {k : Nat} {x : α} (h : xs[k]? = some x) : (xs.map (En.e (α := α)))[k]? = some (En.e x) := by
  rw [List.getElem?_map, h]; rfl
theorem ix_en {xs : List α} {k : Nat} {x : α} (h : xs[k]? = some x) : ixG S (.lst (xs.map En.e)) (.int (k : Nat)) = some (En.e x, S) := by
  rw [ix_lst (en_get h), en_norm]
theorem upto_en (n : Nat) : upto n = (List.range n).map En.e := rfl
/-- whole numbers within a list -/
theorem intsFlat (ns : List Int) : (ns.map D.int).all flatD = true := by
  induction ns with
  | nil => rfl
  | cons n ns ih => rw [List.map_cons, List.all_cons, ih]; rfl
theorem anyInt (x : Int) (ns : List Int) : (ns.map D.int).any (fun y => eqF y (.int x)) = decide (x ∈ ns) := by
  induction ns with
  | nil => rfl
  | cons n ns ih =>
    rw [List.map_cons, List.any_cons, ih]
    show ((n == x) || decide (x ∈ ns)) = _
    rw [dec_beq, ← Bool.decide_or]
    exact decide_eq_decide.mpr (by rw [List.mem_cons]; exact or_congr eq_comm Iff.rfl)
theorem in_int {b : D} {x : Int} {ns : List Int} (h : seqOf S b = some (ns.map D.int)) : inG S (.int x) b = some (.bl (decide (x ∈ ns)), S) := by
  unfold inG orG boG inF
  simp only [h, flatD, intsFlat, Bool.and_self, if_true, anyInt, Bool.false_eq_true, if_false]
theorem notIn_int {b : D} {x : Int} {ns : List Int} (h : seqOf S b = some (ns.map D.int)) : notInG S (.int x) b = some (.bl (!decide (x ∈ ns)), S) := by
  unfold notInG orG boG inF
  simp only [h, flatD, intsFlat, Bool.and_self, if_true, anyInt]
theorem nat_int (ns : List Nat) : ns.map (En.e (α := Nat)) = (ns.map fun n : Nat => (n : Int)).map D.int := by
  rw [List.map_map]; rfl
theorem in_nat {b : D} {x : Nat} {ns : List Nat} (h : seqOf S b = some (ns.map En.e)) : inG S (.int (x : Nat)) b = some (.bl (decide (x ∈ ns)), S) := by
  rw [in_int (ns := ns.map fun n : Nat => (n : Int)) (by rw [h, nat_int])]
  have : ((x : Nat) : Int) ∈ ns.map (fun n : Nat => (n : Int)) ↔ x ∈ ns := by
    rw [List.mem_map]
    exact ⟨fun ⟨a, h1, h2⟩ => (Int.ofNat_inj.mp h2) ▸ h1, fun h => ⟨x, h, rfl⟩⟩
  rw [decide_eq_decide.mpr this]
theorem notIn_nat {b : D} {x : Nat} {ns : List Nat} (h : seqOf S b = some (ns.map En.e)) : notInG S (.int (x : Nat)) b = some (.bl (!decide (x ∈ ns)), S) := by
  rw [notIn_int (ns := ns.map fun n : Nat => (n : Int)) (by rw [h, nat_int])]
  have : ((x : Nat) : Int) ∈ ns.map (fun n : Nat => (n : Int)) ↔ x ∈ ns := by
    rw [List.mem_map]
    exact ⟨fun ⟨a, h1, h2⟩ => (Int.ofNat_inj.mp h2) ▸ h1, fun h => ⟨x, h, rfl⟩⟩
  rw [decide_eq_decide.mpr this]
end
end Aw


/-! Aw14: tables of truths; more of reckoning. -/
namespace Aw
open PySem L2 LamX
theorem loopC_new0 {α : Type} {t : Tgt} {e : Sem D} {r : Env} {S0 : Store} (enc : α → D) (g : α → Cell) : ∀ {xs : List α} (S1 : Store), (∀ x ∈ xs, ∀ S1 : Store, ∃ r1, t.set (enc x) r = some r1 ∧ e r1 (S0 ++ S1) = .ok (.loc (S0.length + S1.length)) (S0 ++ (S1 ++ [g x]))) →
    loopC t yesT e r (xs.map enc) (S0 ++ S1) = .ok ((List.range xs.length).map fun i => D.loc (S0.length + S1.length + i)) (S0 ++ (S1 ++ xs.map g))
  | [], S1, _ => by simp [loopC]
  | x :: xs, S1, h => by
    obtain ⟨r1, h1, h2⟩ := h x List.mem_cons_self S1
    have ih := loopC_new0 (t := t) (e := e) (r := r) (S0 := S0) enc g (xs := xs) (S1 ++ [g x]) fun y hy => h y (List.mem_cons_of_mem _ hy)
    rw [List.map_cons]
    unfold loopC
    rw [h1]
    have q : yesT r1 (S0 ++ S1) = .ok true (S0 ++ S1) := rfl
    simp only [q, h2]
    rw [ih]
    simp only [List.length_cons, List.range_succ_eq_map, List.map_cons, List.map_map, List.length_append, List.length_nil, List.append_assoc, List.cons_append, List.nil_append]
    congr 1
    rw [List.cons.injEq]
    refine ⟨by simp, ?_⟩
    apply List.map_congr_left
    intro i _
    simp only [Function.comp, Nat.succ_eq_add_one]
    congr 1
    omega
theorem loopC_new {α : Type} {t : Tgt} {e : Sem D} {r : Env} {S0 : Store} (enc : α → D) (g : α → Cell) {xs : List α} (h : ∀ x ∈ xs, ∀ S1 : Store, ∃ r1, t.set (enc x) r = some r1 ∧ e r1 (S0 ++ S1) = .ok (.loc (S0.length + S1.length)) (S0 ++ (S1 ++ [g x]))) :
    loopC t yesT e r (xs.map enc) S0 = .ok ((List.range xs.length).map fun i => D.loc (S0.length + i)) (S0 ++ xs.map g) := by
  have := loopC_new0 enc g [] h
  simpa using this
theorem lcC_new {α : Type} {it : Sem (List D)} {t : Tgt} {ws : List Nat} {e : Sem D} {r : Env} {S S0 : Store} (enc : α → D) (g : α → Cell) {xs : List α} (hi : it r S = .ok (xs.map enc) S0) (hl : xs.length ≤ 100000)
    (h : ∀ x ∈ xs, ∀ S1 : Store, ∃ r1, t.set (enc x) (wipeD r ws) = some r1 ∧ e r1 (S0 ++ S1) = .ok (.loc (S0.length + S1.length)) (S0 ++ (S1 ++ [g x]))) :
    lcC it t ws yesT e r S = .ok (.loc (S0.length + xs.length)) (S0 ++ xs.map g ++ [.lst ((List.range xs.length).map fun i => D.loc (S0.length + i))]) := by
  rw [x_lcC, hi, bnd_ok, if_pos (by simpa using hl), loopC_new enc g h, bnd_ok]
  simp

theorem upto_get {n i : Nat} (h : i < n) : (upto n)[i]? = some (.int (i : Nat)) := by
  simp [upto, h]
theorem upto_len (n : Nat) : (upto n).length = n := by simp [upto]
theorem upto_at {n i : Nat} {d : D} (h : (upto n)[i]? = some d) : i < n ∧ d = .int (i : Nat) := by
  have h1 : i < n := by
    have := (List.getElem?_eq_some_iff.mp h).1
    simpa [upto] using this
  rw [upto_get h1] at h
  exact ⟨h1, (Option.some.inj h).symm⟩
/-! ### tables -/
abbrev Tb := List (List Bool)
def ent (t : Tb) (i j : Nat) : Bool := (t.getD i []).getD j false
def setE (t : Tb) (i j : Nat) (b : Bool) : Tb := t.set i ((t.getD i []).set j b)
structure Sq (n : Nat) (t : Tb) : Prop where
  len : t.length = n
  row : ∀ i, i < n → (t.getD i []).length = n
theorem Sq.get {n : Nat} {t : Tb} (h : Sq n t) {i : Nat} (hi : i < n) : t[i]? = some (t.getD i []) := by
  have : i < t.length := by rw [h.len]; exact hi
  rw [List.getElem?_eq_getElem this, List.getD_eq_getElem?_getD, List.getElem?_eq_getElem this]; rfl
theorem Sq.get2 {n : Nat} {t : Tb} (h : Sq n t) {i j : Nat} (hi : i < n) (hj : j < n) : (t.getD i [])[j]? = some (ent t i j) := by
  have : j < (t.getD i []).length := by rw [h.row i hi]; exact hj
  unfold ent
  rw [List.getElem?_eq_getElem this, List.getD_eq_getElem?_getD (l := t.getD i []), List.getElem?_eq_getElem this]; rfl
theorem ent_of {t : Tb} {row : List Bool} {i j : Nat} {b : Bool} (h : t[i]? = some row) (h2 : row[j]? = some b) : ent t i j = b := by
  unfold ent
  rw [List.getD_eq_getElem?_getD (l := t), h, Option.getD_some, List.getD_eq_getElem?_getD, h2, Option.getD_some]
theorem Sq.setE {n : Nat} {t : Tb} (h : Sq n t) (i j : Nat) (b : Bool) : Sq n (setE t i j b) := by
  refine ⟨by simp [Aw.setE, h.len], fun k hk => ?_⟩
  unfold Aw.setE
  rw [List.getD_eq_getElem?_getD, List.getElem?_set]
  by_cases e : i = k
  · subst e
    rw [if_pos rfl, if_pos (by rw [h.len]; exact hk)]
    simp only [Option.getD_some, List.length_set]
    exact h.row i hk
  · rw [if_neg e, ← List.getD_eq_getElem?_getD]
    exact h.row k hk
theorem Sq.ent_setE {n : Nat} {t : Tb} (h : Sq n t) {i j : Nat} (hi : i < n) (hj : j < n) (b : Bool) (i' j' : Nat) : ent (Aw.setE t i j b) i' j' = if i = i' ∧ j = j' then b else ent t i' j' := by
  unfold ent Aw.setE
  rw [List.getD_eq_getElem?_getD (l := t.set _ _), List.getElem?_set]
  by_cases e : i = i'
  · subst e
    rw [if_pos rfl, if_pos (by rw [h.len]; exact hi), Option.getD_some, List.getD_eq_getElem?_getD (l := List.set _ _ _), List.getElem?_set]
    by_cases e2 : j = j'
    · subst e2
      rw [if_pos rfl, if_pos (by rw [h.row i hi]; exact hj), if_pos ⟨rfl, rfl⟩]; rfl
    · rw [if_neg e2, if_neg (fun q => e2 q.2), ← List.getD_eq_getElem?_getD]
  · rw [if_neg e, if_neg (fun q => e q.1), ← List.getD_eq_getElem?_getD]
/-- a table: nobody beats himself; of two things one beats the other -/
structure IsTb (n : Nat) (t : Tb) : Prop where
  sq : Sq n t
  self : ∀ i, i < n → ent t i i = false
  two : ∀ i j, i < n → j < n → i ≠ j → ent t i j = !ent t j i
theorem sq_of (n : Nat) (f : Nat → Nat → Bool) : Sq n ((List.range n).map fun i => (List.range n).map (f i)) := by
  refine ⟨by simp, fun i hi => ?_⟩
  rw [List.getD_eq_getElem?_getD, List.getElem?_map, List.getElem?_range hi]
  simp
theorem sq_ext {n : Nat} {t u : Tb} (h : Sq n t) (h' : Sq n u) (e : ∀ i j, i < n → j < n → ent t i j = ent u i j) : t = u := by
  apply List.ext_getElem?
  intro i
  by_cases hi : i < n
  · rw [h.get hi, h'.get hi]
    congr 1
    apply List.ext_getElem?
    intro j
    by_cases hj : j < n
    · rw [h.get2 hi hj, h'.get2 hi hj, e i j hi hj]
    · rw [List.getElem?_eq_none (by rw [h.row i hi]; omega), List.getElem?_eq_none (by rw [h'.row i hi]; omega)]
  · rw [List.getElem?_eq_none (by rw [h.len]; omega), List.getElem?_eq_none (by rw [h'.len]; omega)]
/-- a table's rows as cells -/
abbrev rowC (row : List Bool) : Cell := .lst (row.map En.e)
theorem ix_tb {S : Store} {n : Nat} {t : Tb} (h : Sq n t) {i : Nat} (hi : i < n) : ixG S (.lst (t.map En.e)) (.int (i : Nat)) = some (En.e (t.getD i []), S) := ix_en (h.get hi)
theorem ix_tb2 {S : Store} {n : Nat} {t : Tb} (h : Sq n t) {i j : Nat} (hi : i < n) (hj : j < n) : ixG S (.lst ((t.getD i []).map En.e)) (.int (j : Nat)) = some (.bl (ent t i j), S) := ix_en (h.get2 hi hj)
theorem set_cell {S : Store} {n k : Nat} {ds : List D} {d : D} (h : S[n]? = some (.lst ds)) (hk : k < ds.length) : setL S (.loc n) (.int (k : Nat)) d = some (S.set n (.lst (ds.set k d))) := by
  unfold setL
  simp only [h, ixN_nat hk]
theorem app_cell {S : Store} {n : Nat} {ds : List D} {d : D} (h : S[n]? = some (.lst ds)) (hl : ds.length < 100000) : appendG S (.loc n) [d] = some (.non, S.set n (.lst (ds ++ [d]))) := by
  unfold appendG onCell
  simp only [h, hl, if_true]
theorem lst_cell {S : Store} {n : Nat} {ds : List D} (h : S[n]? = some (.lst ds)) : lstOf S (.loc n) = some ds := by
  simp only [lstOf, h]
theorem add_int {S : Store} (i j : Int) : addG S (.int i) (.int j) = some (.int (i + j), S) := Eq.trans rfl rfl
theorem add_one {S : Store} (i : Nat) : addG S (.int (i : Nat)) (.int 1) = some (.int ((i + 1 : Nat) : Int), S) := Eq.trans rfl rfl
theorem add_nat {S : Store} (i j : Nat) : addG S (.int (i : Nat)) (.int (j : Nat)) = some (.int ((i + j : Nat) : Int), S) := Eq.trans rfl rfl
theorem mul_ok {S : Store} {i j : Int} (h : j.natAbs < 18446744073709551616) : mulG S (.int i) (.int j) = some (.int (i * j), S) := by
  unfold mulG orG mulI intG mulOk
  simp only [h, decide_true, Bool.true_or, if_true]
theorem mod_ok {S : Store} {i j : Int} (h : 0 < j) : modI S (.int i) (.int j) = some (.int (i % j), S) := by
  unfold modI intG
  simp only [h, decide_true, if_true]
theorem fdiv_ok {S : Store} {i j : Int} (h : 0 < j) (h2 : j.natAbs.log2 < 9000) : fdivI S (.int i) (.int j) = some (.int (i / j), S) := by
  unfold fdivI intG
  simp only [h, h2, decide_true, Bool.and_self, if_true]
section
variable {α : Type} [DecidableEq α] [En α] {S : Store} {r : Env}
theorem en_list (xs : List α) : En.e xs = D.lst (xs.map En.e) := Eq.trans rfl rfl
theorem len_en (xs : List α) : lenG S [En.e xs] = some (.int (xs.length : Nat), S) := by
  rw [en_list, len_lst, List.length_map]
theorem asSeq_en (xs : List α) : asSeq S (En.e xs) r S = .ok (xs.map En.e) S := Eq.trans rfl rfl
theorem asLst_en (xs : List α) : asLst [En.e xs] r S = .ok (xs.map En.e) S := Eq.trans rfl rfl
theorem lstOf_en (xs : List α) : lstOf S (En.e xs) = some (xs.map En.e) := Eq.trans rfl rfl
theorem seqOf_en (xs : List α) : seqOf S (En.e xs) = some (xs.map En.e) := Eq.trans rfl rfl
theorem ix_enl {xs : List α} {k : Nat} {x : α} (h : xs[k]? = some x) : ixG S (En.e xs) (.int (k : Nat)) = some (En.e x, S) := ix_en h
theorem list_en (xs : List α) : listG S [En.e xs] = some (En.e xs, S) := Eq.trans rfl rfl
theorem en_bl (b : Bool) : En.e b = D.bl b := Eq.trans rfl rfl
theorem en_int (b : Int) : En.e b = D.int b := Eq.trans rfl rfl
theorem en_nat (b : Nat) : En.e b = D.int (b : Nat) := Eq.trans rfl rfl
theorem en_pair {β : Type} [DecidableEq β] [En β] (p : α × β) : En.e p = D.tup [En.e p.1, En.e p.2] := Eq.trans rfl rfl
theorem ix_fst {β : Type} [DecidableEq β] [En β] (p : α × β) : ixG S (En.e p) (.int 0) = some (En.e p.1, S) := by
  rw [en_pair, show (0 : Int) = ((0 : Nat) : Int) from rfl, ix_tup (d := En.e p.1) rfl, en_norm]
theorem ix_snd {β : Type} [DecidableEq β] [En β] (p : α × β) : ixG S (En.e p) (.int 1) = some (En.e p.2, S) := by
  rw [en_pair, show (1 : Int) = ((1 : Nat) : Int) from rfl, ix_tup (d := En.e p.2) rfl, en_norm]
theorem is_lst (xs : List α) : tyD S (En.e xs) = some .list := Eq.trans rfl rfl
end
/-! ### calls, step by step -/
def callV (n : Nat) (f : FSem) (ds : List D) (S : Store) : Out D := match resF S ds with
  | some ds1 => if ds1.length = n then liftP (f ds1) S else .stuck
  | none => match resL (resLst S 4) ds with
    | some ds1 => if ds1.length = n then liftB (f ds1) S else .stuck
    | none => .stuck
def callRV (n : Nat) (f : RSem) (ds : List D) (S : Store) : Out D := match resF S ds with
  | some ds1 => if ds1.length = n then liftR (f ds1) S else .stuck
  | none => .stuck
section
variable {r : Env} {S : Store}
theorem x_callF (n : Nat) (f : FSem) (fa : Sem (List D)) : callF n f fa r S = (fa r S).bnd fun ds S1 => callV n f ds S1 := by
  unfold callF; rw [x_bind]; rfl
theorem x_callFR (n : Nat) (f : RSem) (fa : Sem (List D)) : callFR n f fa r S = (fa r S).bnd fun ds S1 => callRV n f ds S1 := by
  unfold callFR; rw [x_bind]; rfl
theorem callV_of {n : Nat} {f : FSem} {ds ds1 : List D} (h : resF S ds = some ds1) (hl : ds1.length = n) : callV n f ds S = liftP (f ds1) S := by
  unfold callV; simp only [h, hl, if_true]
theorem callRV_of {n : Nat} {f : RSem} {ds ds1 : List D} (h : resF S ds = some ds1) (hl : ds1.length = n) : callRV n f ds S = liftR (f ds1) S := by
  unfold callRV; simp only [h, hl, if_true]
theorem callV_lent {n : Nat} {f : FSem} {ds ds1 : List D} (h0 : resF S ds = none) (h : resL (resLst S 4) ds = some ds1) (hl : ds1.length = n) : callV n f ds S = liftB (f ds1) S := by
  unfold callV; simp only [h0, h, hl, if_true]
theorem liftP_ok (d : D) (S : Store) : liftP (.ok d) S = .ok d S := Eq.trans rfl rfl
theorem liftR_ok (d : D) (S' S : Store) : liftR (.ok d S') S = .ok (shD S.length d) (S ++ S'.map (shC S.length)) := Eq.trans rfl rfl
theorem liftB_bl (b : Bool) (S : Store) : liftB (.ok (.bl b)) S = .ok (.bl b) S := Eq.trans rfl rfl
theorem liftB_int (b : Int) (S : Store) : liftB (.ok (.int b)) S = .ok (.int b) S := Eq.trans rfl rfl
theorem callV1 {f : FSem} {a : D} (h : pureD a = true) : callV 1 f [a] S = liftP (f [a]) S := callV_of (resF_pure S _ (by simp only [pureL, h, Bool.and_self])) rfl
theorem callV2 {f : FSem} {a b : D} (h : pureD a = true) (h2 : pureD b = true) : callV 2 f [a, b] S = liftP (f [a, b]) S := callV_of (resF_pure S _ (by simp only [pureL, h, h2, Bool.and_self])) rfl
theorem callV3 {f : FSem} {a b c : D} (h : pureD a = true) (h2 : pureD b = true) (h3 : pureD c = true) : callV 3 f [a, b, c] S = liftP (f [a, b, c]) S := callV_of (resF_pure S _ (by simp only [pureL, h, h2, h3, Bool.and_self])) rfl
theorem callV4 {f : FSem} {a b c d : D} (h : pureD a = true) (h2 : pureD b = true) (h3 : pureD c = true) (h4 : pureD d = true) : callV 4 f [a, b, c, d] S = liftP (f [a, b, c, d]) S := callV_of (resF_pure S _ (by simp only [pureL, h, h2, h3, h4, Bool.and_self])) rfl
theorem callRV1 {f : RSem} {a : D} (h : pureD a = true) : callRV 1 f [a] S = liftR (f [a]) S := callRV_of (resF_pure S _ (by simp only [pureL, h, Bool.and_self])) rfl
theorem callRV2 {f : RSem} {a b : D} (h : pureD a = true) (h2 : pureD b = true) : callRV 2 f [a, b] S = liftR (f [a, b]) S := callRV_of (resF_pure S _ (by simp only [pureL, h, h2, Bool.and_self])) rfl
theorem callRV3 {f : RSem} {a b c : D} (h : pureD a = true) (h2 : pureD b = true) (h3 : pureD c = true) : callRV 3 f [a, b, c] S = liftR (f [a, b, c]) S := callRV_of (resF_pure S _ (by simp only [pureL, h, h2, h3, Bool.and_self])) rfl
theorem callRV4 {f : RSem} {a b c d : D} (h : pureD a = true) (h2 : pureD b = true) (h3 : pureD c = true) (h4 : pureD d = true) : callRV 4 f [a, b, c, d] S = liftR (f [a, b, c, d]) S := callRV_of (resF_pure S _ (by simp only [pureL, h, h2, h3, h4, Bool.and_self])) rfl
theorem p_int (i : Int) : pureD (.int i) = true := Eq.trans rfl rfl
theorem p_bl (i : Bool) : pureD (.bl i) = true := Eq.trans rfl rfl
theorem p_scr (i : List Int) : pureD (.scr i) = true := Eq.trans rfl rfl
theorem p_non : pureD .non = true := Eq.trans rfl rfl
theorem p_str (i : PySem.Str) : pureD (.str i) = true := Eq.trans rfl rfl
theorem p_lst (xs : List D) : pureD (.lst xs) = pureL xs := Eq.trans rfl rfl
theorem p_tup (xs : List D) : pureD (.tup xs) = pureL xs := Eq.trans rfl rfl
theorem p_nil : pureL [] = true := Eq.trans rfl rfl
theorem p_cons (x : D) (xs : List D) : pureL (x :: xs) = (pureD x && pureL xs) := Eq.trans rfl rfl
theorem p_en {α : Type} [DecidableEq α] [En α] (a : α) : pureD (En.e a) = true := En.pu a
theorem p_ens {α : Type} [DecidableEq α] [En α] (xs : List α) : pureL (xs.map En.e) = true := pureL_map _ En.pu xs
end

/-! ### ends of a statement -/
def R.Wd (o : R) (N C B : Env → Store → Prop) (T : D → Store → Prop) (E : Ex → Env → Store → Prop) : Prop := match o with
  | .nx r S => N r S
  | .ct r S => C r S
  | .brk r S => B r S
  | .ret d S => T d S
  | .err c r S => E c r S
  | .stuck => False
/-- held shut, so that nothing reckons it out unasked -/
structure R.W (o : R) (N C B : Env → Store → Prop) (T : D → Store → Prop) (E : Ex → Env → Store → Prop) : Prop where
  run : o.Wd N C B T E
def Out.Pd {α : Type} (o : Out α) (G : α → Store → Prop) : Prop := match o with
  | .ok a S => G a S
  | _ => False
structure Out.P {α : Type} (o : Out α) (G : α → Store → Prop) : Prop where
  run : o.Pd G
theorem P_ok {α : Type} (a : α) (S : Store) (G : α → Store → Prop) : (Out.ok a S).P G = G a S := propext ⟨fun h => h.run, fun h => ⟨h⟩⟩
theorem P_of {α : Type} {o : Out α} {a : α} {S : Store} {G : α → Store → Prop} (h : o = .ok a S) (k : G a S) : o.P G := by rw [h, P_ok]; exact k
section
variable {o : R} {N C B : Env → Store → Prop} {T : D → Store → Prop} {E : Ex → Env → Store → Prop}
theorem W_nx {r : Env} {S : Store} (h : N r S) : (R.nx r S).W N C B T E := ⟨h⟩
theorem W_ct {r : Env} {S : Store} (h : C r S) : (R.ct r S).W N C B T E := ⟨h⟩
theorem W_brk {r : Env} {S : Store} (h : B r S) : (R.brk r S).W N C B T E := ⟨h⟩
theorem W_ret {d : D} {S : Store} (h : T d S) : (R.ret d S).W N C B T E := ⟨h⟩
theorem W_err {c : Ex} {r : Env} {S : Store} (h : E c r S) : (R.err c r S).W N C B T E := ⟨h⟩
theorem W_sq {k : Env → Store → R} (h : o.W (fun r S => (k r S).W N C B T E) C B T E) : (o.sq k).W N C B T E := by
  cases o with
  | nx r S => exact h.run
  | _ => exact ⟨h.run⟩
variable {r : Env} {S S1 : Store} {d : D} {f : Sem D} {g : SemS}
/-- an expression ahead of the rest -/
theorem W_thn {α : Type} {e : Sem α} {k : α → Store → R} (h : ∀ G : α → Store → Prop, (∀ a S1, (k a S1).W N C B T E → G a S1) → (e r S).P G) : ((e r S).thn r k).W N C B T E := by
  have q := (h _ fun a S1 q => q).run
  revert q
  cases e r S with
  | ok d S1 => exact fun q => q
  | err c S1 => exact fun q => q.elim
  | stuck => exact fun q => q.elim
theorem Cs_set {i : Nat} (h : ∀ G : D → Store → Prop, (∀ d S1, (g (r.set i (some d)) S1).W N C B T E → G d S1) → (f r S).P G) : (seqS (setS f (.one i)) g r S).W N C B T E := by
  rw [x_seq, x_setS]
  exact W_sq (W_thn fun G hG => h G fun d S1 q => hG d S1 ⟨q⟩)
theorem Ce_set {i : Nat} (h : ∀ G : D → Store → Prop, (∀ d S1, N (r.set i (some d)) S1 → G d S1) → (f r S).P G) : (setS f (.one i) r S).W N C B T E := by
  rw [x_setS]
  exact W_thn fun G hG => h G fun d S1 q => hG d S1 ⟨q⟩
theorem Cs_drop (h : ∀ G : D → Store → Prop, (∀ d S1, (g r S1).W N C B T E → G d S1) → (f r S).P G) : (seqS (dropS f) g r S).W N C B T E := by
  rw [x_seq, x_dropS]
  exact W_sq (W_thn fun G hG => h G fun d S1 q => hG d S1 ⟨q⟩)
theorem Ce_drop (h : ∀ G : D → Store → Prop, (∀ d S1, N r S1 → G d S1) → (f r S).P G) : (dropS f r S).W N C B T E := by
  rw [x_dropS]
  exact W_thn fun G hG => h G fun d S1 q => hG d S1 ⟨q⟩
theorem Ce_ret (h : ∀ G : D → Store → Prop, (∀ d S1, T d S1 → G d S1) → (f r S).P G) : (retS f r S).W N C B T E := by
  rw [x_retS]
  exact W_thn fun G hG => h G fun d S1 q => hG d S1 ⟨q⟩
theorem Cs_if {c : Sem Bool} {a b : SemS} (h : ∀ G : Bool → Store → Prop, (∀ z S1, ((if z = true then a else b) r S1).W (fun r S => (g r S).W N C B T E) C B T E → G z S1) → (c r S).P G) : (seqS (ifS c a b) g r S).W N C B T E := by
  rw [x_seq]; refine W_sq ?_; rw [x_if]
  refine W_thn fun G hG => h G fun z S1 q => hG z S1 ?_
  cases z <;> exact q
theorem Ce_if {c : Sem Bool} {a b : SemS} (h : ∀ G : Bool → Store → Prop, (∀ z S1, ((if z = true then a else b) r S1).W N C B T E → G z S1) → (c r S).P G) : (ifS c a b r S).W N C B T E := by
  rw [x_if]
  refine W_thn fun G hG => h G fun z S1 q => hG z S1 ?_
  cases z <;> exact q
theorem Cs_for {it : Sem (List D)} {t : Tgt} {b : SemS} (h : ∀ G : List D → Store → Prop, (∀ ds S1, (loopS t b ds r S1).W (fun r S => (g r S).W N C B T E) C B T E → G ds S1) → (it r S).P G) : (seqS (forS it t b) g r S).W N C B T E := by
  rw [x_seq]; refine W_sq ?_; rw [x_for]
  exact W_thn h
theorem Ce_for {it : Sem (List D)} {t : Tgt} {b : SemS} (h : ∀ G : List D → Store → Prop, (∀ ds S1, (loopS t b ds r S1).W N C B T E → G ds S1) → (it r S).P G) : (forS it t b r S).W N C B T E := by
  rw [x_for]
  exact W_thn h
theorem Ce_asg {w : GSet} {fo fi : Sem D} (h : ∀ G : D → Store → Prop, (∀ d S4, N r S4 → G d S4) → (f r S).P fun d S1 => (fo r S1).P fun o S2 => (fi r S2).P fun i S3 => ∃ S4, w S3 o i d = some S4 ∧ G d S4) : (asgS f (subT w fo fi) r S).W N C B T E := by
  rw [x_asg]
  refine W_thn fun G hG => ?_
  have := h (fun _ S4 => N r S4) fun d S1 q => q
  revert this
  cases f r S with
  | ok d S1 =>
    rw [P_ok, P_ok]
    refine fun this => hG d S1 ?_
    refine W_thn fun G hG => ?_
    revert this
    cases fo r S1 with
    | ok o S2 =>
      rw [P_ok, P_ok]
      refine fun this => hG o S2 ?_
      refine W_thn fun G hG => ?_
      revert this
      cases fi r S2 with
      | ok i S3 =>
        rw [P_ok, P_ok]
        rintro ⟨S4, h1, h2⟩
        refine hG i S3 ?_
        rw [h1]; exact ⟨h2⟩
      | err c S1 => exact fun q => q.run.elim
      | stuck => exact fun q => q.run.elim
    | err c S1 => exact fun q => q.run.elim
    | stuck => exact fun q => q.run.elim
  | err c S1 => exact fun q => q.run.elim
  | stuck => exact fun q => q.run.elim
theorem Cs_asg {w : GSet} {fo fi : Sem D} (h : ∀ G : D → Store → Prop, (∀ d S4, (g r S4).W N C B T E → G d S4) → (f r S).P fun d S1 => (fo r S1).P fun o S2 => (fi r S2).P fun i S3 => ∃ S4, w S3 o i d = some S4 ∧ G d S4) : (seqS (asgS f (subT w fo fi)) g r S).W N C B T E := by
  rw [x_seq]
  exact W_sq (Ce_asg h)
theorem Ws_set {i : Nat} (h : f r S = .ok d S1) (k : (g (r.set i (some d)) S1).W N C B T E) : (seqS (setS f (.one i)) g r S).W N C B T E := Cs_set fun G hG => P_of h (hG _ _ k)
theorem We_set {i : Nat} (h : f r S = .ok d S1) (k : N (r.set i (some d)) S1) : (setS f (.one i) r S).W N C B T E := Ce_set fun G hG => P_of h (hG _ _ k)
theorem Ws_drop (h : f r S = .ok d S1) (k : (g r S1).W N C B T E) : (seqS (dropS f) g r S).W N C B T E := Cs_drop fun G hG => P_of h (hG _ _ k)
theorem We_drop (h : f r S = .ok d S1) (k : N r S1) : (dropS f r S).W N C B T E := Ce_drop fun G hG => P_of h (hG _ _ k)
theorem We_ret (h : f r S = .ok d S1) (k : T d S1) : (retS f r S).W N C B T E := Ce_ret fun G hG => P_of h (hG _ _ k)
theorem Ws_if {c : Sem Bool} {z : Bool} {a b : SemS} (h : c r S = .ok z S1) (k : ((if z = true then a else b) r S1).W (fun r S => (g r S).W N C B T E) C B T E) : (seqS (ifS c a b) g r S).W N C B T E := Cs_if fun G hG => P_of h (hG _ _ k)
theorem We_if {c : Sem Bool} {z : Bool} {a b : SemS} (h : c r S = .ok z S1) (k : ((if z = true then a else b) r S1).W N C B T E) : (ifS c a b r S).W N C B T E := Ce_if fun G hG => P_of h (hG _ _ k)
theorem Ws_setX {i : Nat} {c : Ex} (h : f r S = .err c S1) (k : E c r S1) : (seqS (setS f (.one i)) g r S).W N C B T E := by
  rw [x_seq, x_setS, h, thn_err, sq_err]; exact ⟨k⟩
theorem We_setX {i : Nat} {c : Ex} (h : f r S = .err c S1) (k : E c r S1) : (setS f (.one i) r S).W N C B T E := by
  rw [x_setS, h, thn_err]; exact ⟨k⟩
theorem Ws_dropX {c : Ex} (h : f r S = .err c S1) (k : E c r S1) : (seqS (dropS f) g r S).W N C B T E := by
  rw [x_seq, x_dropS, h, thn_err, sq_err]; exact ⟨k⟩
theorem We_dropX {c : Ex} (h : f r S = .err c S1) (k : E c r S1) : (dropS f r S).W N C B T E := by
  rw [x_dropS, h, thn_err]; exact ⟨k⟩
theorem W_mono {N' C' B' : Env → Store → Prop} {T' : D → Store → Prop} {E' : Ex → Env → Store → Prop} (h : o.W N C B T E) (hN : ∀ r S, N r S → N' r S) (hC : ∀ r S, C r S → C' r S) (hB : ∀ r S, B r S → B' r S) (hT : ∀ d S, T d S → T' d S) (hE : ∀ c r S, E c r S → E' c r S) : o.W N' C' B' T' E' := by
  have h := h.run
  revert h
  cases o with
  | nx r S => exact fun h => ⟨hN _ _ h⟩
  | ct r S => exact fun h => ⟨hC _ _ h⟩
  | brk r S => exact fun h => ⟨hB _ _ h⟩
  | ret d S => exact fun h => ⟨hT _ _ h⟩
  | err c r S => exact fun h => ⟨hE _ _ _ h⟩
  | stuck => exact fun h => h.elim
/-- the test fails: the rest -/
theorem Ws_no {c : Sem Bool} {a : SemS} (h : c r S = .ok false S1) (k : (g r S1).W N C B T E) : (seqS (ifS c a skipS) g r S).W N C B T E := Ws_if h ⟨k⟩
theorem We_no {c : Sem Bool} {a : SemS} (h : c r S = .ok false S1) (k : N r S1) : (ifS c a skipS r S).W N C B T E := We_if h ⟨k⟩
theorem Ws_seq {f : SemS} (h : (f r S).W (fun r S => (g r S).W N C B T E) C B T E) : (seqS f g r S).W N C B T E := by
  rw [x_seq]; exact W_sq h
theorem Ws_ghost {q : Env → Store → Option (Env × Store)} {f : SemS} {r' : Env} (h : q r S = some (r', S1)) (k : (seqS f g r' S1).W N C B T E) : (seqS (ghostS q f) g r S).W N C B T E := by
  rw [x_seq, x_ghost q f h, ← x_seq]; exact k
theorem We_ghost {q : Env → Store → Option (Env × Store)} {f : SemS} {r' : Env} (h : q r S = some (r', S1)) (k : (f r' S1).W N C B T E) : (ghostS q f r S).W N C B T E := by
  rw [x_ghost q f h]; exact k
theorem We_asg {w : GSet} {fo fi : Sem D} {o i : D} {S2 S3 S4 : Store} (h : f r S = .ok d S1) (h1 : fo r S1 = .ok o S2) (h2 : fi r S2 = .ok i S3) (h3 : w S3 o i d = some S4) (k : N r S4) : (asgS f (subT w fo fi) r S).W N C B T E :=
  Ce_asg fun G hG => P_of h (P_of h1 (P_of h2 ⟨S4, h3, hG _ _ k⟩))
theorem Ws_asg {w : GSet} {fo fi : Sem D} {o i : D} {S2 S3 S4 : Store} (h : f r S = .ok d S1) (h1 : fo r S1 = .ok o S2) (h2 : fi r S2 = .ok i S3) (h3 : w S3 o i d = some S4) (k : (g r S4).W N C B T E) : (seqS (asgS f (subT w fo fi)) g r S).W N C B T E := Ws_seq (We_asg h h1 h2 h3 k)
theorem W_loop {t : Tgt} {b : SemS} (I : Nat → Env → Store → Prop) : ∀ {ds : List D} {k : Nat} {r : Env} {S : Store}, I k r S →
    (∀ i d r S, ds[i]? = some d → I (k + i) r S → ∃ r1, t.set d r = some r1 ∧ (b r1 S).W (I (k + i + 1)) (I (k + i + 1)) N T E) → (∀ r S, I (k + ds.length) r S → N r S) →
    (loopS t b ds r S).W N C B T E
  | [], k, r, S, h, _, hn => ⟨hn r S h⟩
  | d :: ds, k, r, S, h, hs, hn => by
    obtain ⟨r1, h1, h2⟩ := hs 0 d r S rfl h
    have ih : ∀ r2 S2, I (k + 1) r2 S2 → (loopS t b ds r2 S2).W N C B T E := fun r2 S2 h3 => W_loop I (t := t) (b := b) (ds := ds) (k := k + 1) h3 (fun i e r S he hi => by
      have := hs (i + 1) e r S (by simpa using he) (by rw [show k + (i + 1) = k + 1 + i by omega]; exact hi)
      rw [show k + (i + 1) = k + 1 + i by omega] at this
      exact this) (fun r S h => hn r S (by rw [List.length_cons, show k + (ds.length + 1) = k + 1 + ds.length by omega]; exact h))
    unfold loopS
    simp only [h1]
    have h2 := h2.run
    revert h2
    cases b r1 S with
    | nx r2 S2 => exact fun h2 => ih r2 S2 h2
    | ct r2 S2 => exact fun h2 => ih r2 S2 h2
    | brk r2 S2 => exact fun h2 => ⟨h2⟩
    | ret d2 S2 => exact fun h2 => ⟨h2⟩
    | err c2 r2 S2 => exact fun h2 => ⟨h2⟩
    | stuck => exact fun h2 => ⟨h2⟩
/-- a for loop: I i holds ahead of round i -/
theorem W_for {t : Tgt} {b : SemS} (I : Nat → Env → Store → Prop) {ds : List D} {r : Env} {S : Store} (h0 : I 0 r S)
    (hs : ∀ i d r S, ds[i]? = some d → I i r S → ∃ r1, t.set d r = some r1 ∧ (b r1 S).W (I (i + 1)) (I (i + 1)) N T E) (hn : ∀ r S, I ds.length r S → N r S) : (loopS t b ds r S).W N C B T E :=
  W_loop I (k := 0) h0 (fun i d r S h1 h2 => by rw [Nat.zero_add] at h2 ⊢; exact hs i d r S h1 h2) (fun r S h => hn r S (by rw [Nat.zero_add] at h; exact h))
theorem We_for {it : Sem (List D)} {t : Tgt} {b : SemS} (I : Nat → Env → Store → Prop) {ds : List D} (hi : it r S = .ok ds S1) (h0 : I 0 r S1)
    (hs : ∀ i d r S, ds[i]? = some d → I i r S → ∃ r1, t.set d r = some r1 ∧ (b r1 S).W (I (i + 1)) (I (i + 1)) N T E) (hn : ∀ r S, I ds.length r S → N r S) : (forS it t b r S).W N C B T E := by
  rw [x_for, hi, thn_ok]; exact W_for I h0 hs hn
theorem Ws_for {it : Sem (List D)} {t : Tgt} {b : SemS} (I : Nat → Env → Store → Prop) {ds : List D} (hi : it r S = .ok ds S1) (h0 : I 0 r S1)
    (hs : ∀ i d r S, ds[i]? = some d → I i r S → ∃ r1, t.set d r = some r1 ∧ (b r1 S).W (I (i + 1)) (I (i + 1)) (fun r S => (g r S).W N C B T E) T E) (hn : ∀ r S, I ds.length r S → (g r S).W N C B T E) : (seqS (forS it t b) g r S).W N C B T E :=
  Ws_seq (We_for I hi h0 hs hn)
/-- while: a measure that falls -/
theorem W_while {c : Sem Bool} {b : SemS} (I : Nat → Env → Store → Prop) (hs : ∀ m r S, I m r S → ∃ z S1, c r S = .ok z S1 ∧ if z = true then (b r S1).W (fun r2 S2 => ∃ m', m' < m ∧ I m' r2 S2) (fun r2 S2 => ∃ m', m' < m ∧ I m' r2 S2) N T E else N r S1) :
    ∀ (n m : Nat) {r : Env} {S : Store}, m < n → I m r S → (whileS c b n r S).W N C B T E
  | 0, m, _, _, h, _ => by omega
  | n + 1, m, r, S, h, hi => by
    obtain ⟨z, S1, h1, h2⟩ := hs m r S hi
    unfold whileS
    rw [h1]
    cases z with
    | false => exact ⟨h2⟩
    | true =>
      simp only [if_true] at h2
      have h2 := h2.run
      simp only
      revert h2
      cases b r S1 with
      | nx r2 S2 => exact fun ⟨m', h3, h4⟩ => W_while I hs n m' (by omega) h4
      | ct r2 S2 => exact fun ⟨m', h3, h4⟩ => W_while I hs n m' (by omega) h4
      | brk r2 S2 => exact fun h2 => ⟨h2⟩
      | ret d2 S2 => exact fun h2 => ⟨h2⟩
      | err c2 r2 S2 => exact fun h2 => ⟨h2⟩
      | stuck => exact fun h2 => ⟨h2⟩
end
abbrev noN : Env → Store → Prop := fun _ _ => False
abbrev noE : Ex → Env → Store → Prop := fun _ _ _ => False
theorem out_W {n : Nat} {b : SemS} {ds : List D} {Q : D → Prop} (h : (b (startE n ds) []).W (fun _ _ => Q .non) noN noN (fun d S => ∃ d1, resA S d = some d1 ∧ Q d1) noE) : ∃ d, fnOut n b ds = .ok d ∧ Q d := by
  unfold fnOut
  have h := h.run
  revert h
  cases b (startE n ds) [] with
  | nx r S => exact fun h => ⟨_, rfl, h⟩
  | ret d S => exact fun ⟨d1, h1, h2⟩ => ⟨d1, by simp only [h1], h2⟩
  | ct r S => exact fun h => h.elim
  | brk r S => exact fun h => h.elim
  | err c r S => exact fun h => h.elim
  | stuck => exact fun h => h.elim
theorem raw_W {n : Nat} {b : SemS} {ds : List D} {Q : D → Store → Prop} (h : (b (startE n ds) []).W (fun _ S => Q .non S) noN noN Q noE) : ∃ d S, fnRaw n b ds = .ok d S ∧ Q d S := by
  unfold fnRaw
  have h := h.run
  revert h
  cases b (startE n ds) [] with
  | nx r S => exact fun h => ⟨_, _, rfl, h⟩
  | ret d S => exact fun h => ⟨d, S, rfl, h⟩
  | ct r S => exact fun h => h.elim
  | brk r S => exact fun h => h.elim
  | err c r S => exact fun h => h.elim
  | stuck => exact fun h => h.elim
/-- .. that may let out an exception -/
theorem out_WE {n : Nat} {b : SemS} {ds : List D} {Q : D → Prop} {X : Ex → Prop} (h : (b (startE n ds) []).W (fun _ _ => Q .non) noN noN (fun d S => ∃ d1, resA S d = some d1 ∧ Q d1) (fun c _ _ => X c)) : (∃ d, fnOut n b ds = .ok d ∧ Q d) ∨ ∃ c, fnOut n b ds = .err c ∧ X c := by
  unfold fnOut
  have h := h.run
  revert h
  cases b (startE n ds) [] with
  | nx r S => exact fun h => .inl ⟨_, rfl, h⟩
  | ret d S => exact fun ⟨d1, h1, h2⟩ => .inl ⟨d1, by simp only [h1], h2⟩
  | ct r S => exact fun h => h.elim
  | brk r S => exact fun h => h.elim
  | err c r S => exact fun h => .inr ⟨c, rfl, h⟩
  | stuck => exact fun h => h.elim
theorem raw_WE {n : Nat} {b : SemS} {ds : List D} {Q : D → Store → Prop} {X : Ex → Prop} (h : (b (startE n ds) []).W (fun _ S => Q .non S) noN noN Q (fun c _ _ => X c)) : (∃ d S, fnRaw n b ds = .ok d S ∧ Q d S) ∨ ∃ c, fnRaw n b ds = .err c ∧ X c := by
  unfold fnRaw
  have h := h.run
  revert h
  cases b (startE n ds) [] with
  | nx r S => exact fun h => .inl ⟨_, _, rfl, h⟩
  | ret d S => exact fun h => .inl ⟨d, S, rfl, h⟩
  | ct r S => exact fun h => h.elim
  | brk r S => exact fun h => h.elim
  | err c r S => exact fun h => .inr ⟨c, rfl, h⟩
  | stuck => exact fun h => h.elim
/-- .. of a known answer -/
theorem out_eq {n : Nat} {b : SemS} {ds : List D} {d0 : D} (h : (b (startE n ds) []).W (fun _ _ => d0 = .non) noN noN (fun d S => resA S d = some d0) noE) : fnOut n b ds = .ok d0 := by
  unfold fnOut
  have h := h.run
  revert h
  cases b (startE n ds) [] with
  | nx r S => exact fun h => by rw [show d0 = .non from h]
  | ret d S => exact fun h => by simp only [show resA S d = some d0 from h]
  | ct r S => exact fun h => h.elim
  | brk r S => exact fun h => h.elim
  | err c r S => exact fun h => h.elim
  | stuck => exact fun h => h.elim
theorem resLoc_lst {S : Store} {n : Nat} {ds : List D} (k : Nat) (h : S[n]? = some (.lst ds)) : resLoc S (k + 1) n = (resL (resLoc S k) ds).map .lst := by
  simp only [resLoc, h]
theorem resLst_lst {S : Store} {n : Nat} {ds : List D} (k : Nat) (h : S[n]? = some (.lst ds)) : resLst S (k + 1) n = (resL (resLst S k) ds).map .lst := by
  simp only [resLst, h]
theorem resLoc_fz {S : Store} {n : Nat} {d : D} (k : Nat) (h : S[n]? = some (.fz d)) : resLoc S (k + 1) n = resD (resLoc S k) d := by
  simp only [resLoc, h]
theorem shC_row (n : Nat) (row : List Bool) : shC n (rowC row) = rowC row := by
  show Cell.lst (shL n _) = _
  rw [shL_pure n _ (p_ens row)]
theorem shD_loc (n k : Nat) : shD n (.loc k) = .loc (n + k) := Eq.trans rfl rfl
theorem resA_loc (S : Store) (n : Nat) : resA S (.loc n) = resLoc S (3 + 1) n := rfl
theorem resA_lst {S : Store} {n : Nat} {ds : List D} (h : S[n]? = some (.lst ds)) (hp : pureL ds = true) : resA S (.loc n) = some (.lst ds) := by
  rw [resA_loc, resLoc_lst 3 h, resL_pure _ _ hp]; rfl
theorem resL_locs {f : Nat → Option D} {g : Nat → D} : ∀ {is : List Nat}, (∀ i ∈ is, f i = some (g i)) → resL f (is.map D.loc) = some (is.map g)
  | [], _ => rfl
  | i :: is, h => by
    simp only [List.map_cons, resL, resD, h i List.mem_cons_self, resL_locs fun j hj => h j (List.mem_cons_of_mem _ hj)]
theorem pyLoc_lst {S : Store} {n : Nat} {ds : List D} (k : Nat) (h : S[n]? = some (.lst ds)) : pyLoc S (k + 1) n = (pyL (pyLoc S k) ds).map .list := by
  simp only [pyLoc, h]
theorem pyLoc_fz {S : Store} {n : Nat} {d : D} (k : Nat) (h : S[n]? = some (.fz d)) : pyLoc S (k + 1) n = pyD (pyLoc S k) d := by
  simp only [pyLoc, h]
theorem pyL_locs {f : Nat → Option PySem.PyData} {g : Nat → PySem.PyData} : ∀ {is : List Nat}, (∀ i ∈ is, f i = some (g i)) → pyL f (is.map D.loc) = some (is.map g)
  | [], _ => rfl
  | i :: is, h => by
    simp only [List.map_cons, pyL, pyD, h i List.mem_cons_self, pyL_locs fun j hj => h j (List.mem_cons_of_mem _ hj)]
theorem flat_one {α : Type} (d : α) : ∀ n : Nat, (List.replicate n [d]).flatten = List.replicate n d
  | 0 => rfl
  | n + 1 => by rw [List.replicate_succ, List.replicate_succ, List.flatten_cons, flat_one d n]; rfl
theorem rep_one {S : Store} (b : Bool) {n : Nat} (hn : n ≤ 100000) : mulGC S (.lst [.bl b]) (.int (n : Nat)) = some (.loc S.length, S ++ [rowC (List.replicate n b)]) := by
  unfold mulGC orG mulI intG repLC
  simp only [lstOf]
  rw [if_pos ⟨by simp; omega, by omega, by omega⟩]
  simp only [Int.toNat_natCast, flat_one, rowC, List.map_replicate]
  rfl
theorem fdiv_lit {S : Store} {i j : Int} (h : 0 < j) (h2 : j < 1000000) : fdivI S (.int i) (.int j) = some (.int (i / j), S) := by
  refine fdiv_ok h ?_
  have h3 : j.natAbs < 2 ^ 20 := Nat.lt_of_lt_of_le (show j.natAbs < 1000000 by omega) (by decide)
  exact Nat.lt_trans ((Nat.log2_lt (by omega)).mpr h3) (by decide)
theorem mul_lit {S : Store} {i j : Int} (h : 0 ≤ j) (h2 : j < 1000000) : mulG S (.int i) (.int j) = some (.int (i * j), S) := mul_ok (by omega)
theorem sub_int {S : Store} (i j : Int) : subI S (.int i) (.int j) = some (.int (i - j), S) := Eq.trans rfl rfl
theorem lt_int {S : Store} (i j : Int) : ltI S (.int i) (.int j) = some (.bl (decide (i < j)), S) := Eq.trans rfl rfl
theorem le_int {S : Store} (i j : Int) : leI S (.int i) (.int j) = some (.bl (decide (i ≤ j)), S) := Eq.trans rfl rfl
theorem gt_int {S : Store} (i j : Int) : gtI S (.int i) (.int j) = some (.bl (decide (j < i)), S) := Eq.trans rfl rfl
theorem ge_int {S : Store} (i j : Int) : geI S (.int i) (.int j) = some (.bl (decide (j ≤ i)), S) := Eq.trans rfl rfl
theorem min_int {S : Store} (i j : Int) : min2G S [.int i, .int j] = some (.int (if j < i then j else i), S) := Eq.trans rfl rfl
theorem max_int {S : Store} (i j : Int) : max2G S [.int i, .int j] = some (.int (if j > i then j else i), S) := Eq.trans rfl rfl
theorem neg_int {S : Store} (i : Int) : negG S (.int i) = some (.int (-i)) := Eq.trans rfl rfl
theorem ins_cell {S : Store} {n i : Nat} {ds : List D} {d : D} (h : S[n]? = some (.lst ds)) (hl : ds.length < 100000) (hi : i ≤ ds.length) : insertG S (.loc n) [.int (i : Nat), d] = some (.non, S.set n (.lst (ds.take i ++ d :: ds.drop i))) := by
  unfold insertG onCell
  simp only [h]
  rw [if_pos ⟨hl, by omega, by omega⟩]
  simp only [Int.toNat_natCast]
theorem norm_loc {S : Store} {n : Nat} {ds : List D} (h : S[n]? = some (.lst ds)) : norm S (.loc n) = .loc n := by
  unfold norm normL; simp only [h]
end Aw


/-! Aw15: tables in cells, slices, == of like things, sorted pairs. -/
namespace Aw
open PySem (PyData)
theorem en_dep_tb : En.dep Tb ≤ 60 := by decide
/-- a table whose rows' cells begin at b, the rows' names in the cell F -/
structure TbAt (S : Store) (F b : Nat) (t : Tb) : Prop where
  top : S[F]? = some (.lst ((List.range t.length).map fun i => D.loc (b + i)))
  row : ∀ (i : Nat) (row : List Bool), t[i]? = some row → S[b + i]? = some (rowC row)
theorem locs_eq (b n : Nat) : ((List.range n).map fun i => D.loc (b + i)) = ((List.range n).map fun i => b + i).map D.loc := by
  rw [List.map_map]; rfl
theorem rows_map {β : Type} (f : List Bool → β) (t : Tb) : (List.range t.length).map (fun i => f (t.getD i [])) = t.map f := by
  apply List.ext_getElem?
  intro i
  by_cases hi : i < t.length
  · rw [List.getElem?_map, List.getElem?_range hi, List.getElem?_map, List.getElem?_eq_getElem hi]
    simp [List.getD_eq_getElem?_getD, hi]
  · rw [List.getElem?_eq_none (by simp; omega), List.getElem?_eq_none (by simp; omega)]
section
variable {S : Store} {F b : Nat} {t : Tb}
theorem TbAt.res (h : TbAt S F b t) (k : Nat) : resLoc S (k + 2) F = some (En.e t) := by
  rw [resLoc_lst (k + 1) h.top, locs_eq, resL_locs (g := fun j => En.e (t.getD (j - b) []))]
  · rw [List.map_map]
    have : (List.range t.length).map ((fun j => En.e (t.getD (j - b) [])) ∘ fun i => b + i) = (List.range t.length).map (fun i => (En.e (α := List Bool)) (t.getD i [])) := by
      apply List.map_congr_left
      intro i _
      simp [Function.comp]
    rw [this, rows_map (En.e (α := List Bool))]; rfl
  · intro j hj
    obtain ⟨i, hi, rfl⟩ := List.mem_map.mp hj
    have hi := List.mem_range.mp hi
    have hg : t[i]? = some (t.getD i []) := by rw [List.getD_eq_getElem?_getD, List.getElem?_eq_getElem hi]; rfl
    rw [resLoc_lst k (h.row i _ hg), resL_pure _ _ (p_ens _), Nat.add_sub_cancel_left]; rfl
theorem pyL_drop {f : Nat → Option PyData} {g : Nat → PyData} (is : List Nat) (h : ∀ i ∈ is, f i = some (g i)) : pyL f (is.map D.loc) = some (is.map g) := pyL_locs h
/-- the rows from the c-th on, as they are read -/
theorem TbAt.pyFrom {S : Store} {F b : Nat} {t : Tb} (c : Nat) (h : ∀ (i : Nat) (row : List Bool), c ≤ i → t[i]? = some row → S[b + i]? = some (rowC row)) (k : Nat) : pyL (pyLoc S (k + 1)) (((List.range t.length).map fun i => D.loc (b + i)).drop c) = some ((t.drop c).map En.p) := by
  rw [locs_eq, ← List.map_drop, pyL_locs (g := fun j => En.p (t.getD (j - b) []))]
  · rw [List.map_drop, List.map_drop, List.map_map]
    have : ((List.range t.length).map ((fun j => En.p (t.getD (j - b) [])) ∘ fun i => b + i)) = t.map (En.p (α := List Bool)) := by
      rw [← rows_map (En.p (α := List Bool))]
      apply List.map_congr_left
      intro i _
      simp [Function.comp]
    rw [this]
  · intro j hj
    rw [← List.map_drop] at hj
    obtain ⟨i, hi, rfl⟩ := List.mem_map.mp hj
    obtain ⟨m, hm⟩ := List.getElem?_of_mem hi
    rw [List.getElem?_drop] at hm
    have hlt : c + m < t.length := by
      have := (List.getElem?_eq_some_iff.mp hm).1
      simpa using this
    rw [List.getElem?_range hlt] at hm
    cases hm
    have hg : t[c + m]? = some (t.getD (c + m) []) := by rw [List.getD_eq_getElem?_getD, List.getElem?_eq_getElem hlt]; rfl
    rw [pyLoc_lst k (h _ _ (by omega) hg), py_map, Nat.add_sub_cancel_left]; rfl
theorem TbAt.py (h : TbAt S F b t) : pyS S (.loc F) = some (En.p t) := by
  show pyLoc S (3 + 1) F = _
  rw [pyLoc_lst 3 h.top]
  have := TbAt.pyFrom (S := S) (F := F) (b := b) (t := t) 0 (fun i row _ hr => h.row i row hr) 2
  rw [List.drop_zero, List.drop_zero] at this
  rw [this]; rfl
theorem TbAt.notF (h : TbAt S F b t) (rest : List D) : resF S (.loc F :: rest) = none := by
  show resL (resFz S (3 + 1)) _ = none
  simp only [resL, resD, resFz, h.top]
theorem TbAt.first (h : TbAt S F b t) (hl : 0 < t.length) : ixG S (.loc F) (.int 0) = some (.loc b, S) := by
  have hg : t[0]? = some t[0] := List.getElem?_eq_getElem hl
  have e := h.row 0 _ hg
  rw [show (0 : Int) = ((0 : Nat) : Int) from rfl, ix_loc h.top (k := 0) (d := .loc b) (by rw [List.getElem?_map, List.getElem?_range hl]; rfl), norm_loc (ds := t[0].map En.e) (by rw [Nat.add_zero] at e; exact e)]
end
/-- the first row emptied: the others stay -/
theorem TbAt.wiped {S : Store} {F b : Nat} {t : Tb} (h : TbAt S F b t) (hF : F ≠ b) : ∀ (i : Nat) (row : List Bool), 1 ≤ i → t[i]? = .some row → (S.set b (.lst []))[b + i]? = .some (rowC row) := by
  intro i row hi hr
  rw [List.getElem?_set_ne (by omega)]
  exact h.row i row hr
theorem clear_cell {S : Store} {n : Nat} {ds : List D} (h : S[n]? = some (.lst ds)) : clearG S (.loc n) [] = some (.non, S.set n (.lst [])) := by
  unfold clearG onCell
  simp only [h]
theorem cutD_one {ds : List D} (c : Nat) : cutD ds (some (c : Nat)) none = ds.drop c := by
  unfold cutD
  rw [HT.sIx_nat, HT.sIx_none]
  by_cases h : c ≤ ds.length
  · rw [Nat.min_eq_left h, List.take_of_length_le (by rw [List.length_drop]; omega)]
  · rw [Nat.min_eq_right (by omega), Nat.sub_self, List.take_zero, List.drop_of_length_le (by omega)]
theorem cutD_to {ds : List D} (c : Nat) : cutD ds none (some (c : Nat)) = ds.take c := by
  unfold cutD
  rw [HT.sIx_nat, HT.sIx_none, List.drop_zero, Nat.sub_zero]
  by_cases h : c ≤ ds.length
  · rw [Nat.min_eq_left h]
  · rw [Nat.min_eq_right (by omega), List.take_of_length_le (Nat.le_refl _), List.take_of_length_le (by omega)]
theorem slL_lst {S : Store} {ds : List D} {i j : Option Int} : slL S (.lst ds) i j = some (.lst (cutD ds i j), S) := rfl
theorem slL_loc {S : Store} {n : Nat} {ds : List D} {i j : Option Int} (h : S[n]? = some (.lst ds)) : slL S (.loc n) i j = some (.lst (cutD ds i j), S) := by
  unfold slL
  simp only [lstOf, h]
theorem cutD_1 {ds : List D} : cutD ds (some 1) none = ds.drop 1 := cutD_one 1
theorem slL_en {α : Type} [DecidableEq α] [En α] {S : Store} {xs : List α} {i j : Option Int} : slL S (En.e xs) i j = some (.lst (cutD (xs.map En.e) i j), S) := rfl
def Out.bnI (o : Out D) (k : Int → Store → Out (Option Int)) : Out (Option Int) := o.bnd fun d S => match d with
  | .int i => k i S
  | _ => .stuck
theorem bnI_ok (i : Int) (S : Store) (k : Int → Store → Out (Option Int)) : (Out.ok (.int i) S).bnI k = k i S := Eq.trans rfl rfl
theorem x_partV (f : Sem D) (r : Env) (S : Store) : partO f r S = (f r S).bnI fun i S1 => .ok (some i) S1 := by
  unfold partO Out.bnI; rw [x_bind]
  cases f r S with
  | ok d S1 => cases d <;> rfl
  | err c S1 => rfl
  | stuck => rfl
theorem pair_shaped {α β : Type} [DecidableEq α] [En α] [DecidableEq β] [En β] (a : α) (b : β) (ha : En.dep α ≤ 60) (hb : En.dep β ≤ 60) : PySem.SeqAt.shaped (.list [En.p a, En.p b]) = true := by
  unfold PySem.SeqAt.shaped
  simp only [PyData.canLay0, PyData.canLayAll0, En.lay, Bool.and_self, Bool.true_and, decide_eq_true_eq]
  have h1 := En.dp a
  have h2 := En.dp b
  show PyData.depth (.list [En.p a, En.p b]) ≤ 64
  simp only [PyData.depth, PyData.depthAll]
  omega
/-- == of things that are read the same -/
theorem eqG_same {S : Store} {a b : D} {p : PyData} (ha : pyS S a = some p) (hb : pyS S b = some p) (h : PySem.SeqAt.shaped p = true) : eqG S a b = some (.bl true, S) := by
  unfold eqG eqB
  simp only [ha, hb, h, Bool.and_self, if_true, Option.map_some, PySem.SeqAt.eqv_refl p (PySem.SeqAt.canLay_of_shaped h)]
theorem neG_same {S : Store} {a b : D} {p : PyData} (ha : pyS S a = some p) (hb : pyS S b = some p) (h : PySem.SeqAt.shaped p = true) : neG S a b = some (.bl false, S) := by
  unfold neG eqB
  simp only [ha, hb, h, Bool.and_self, if_true, Option.map_some, PySem.SeqAt.eqv_refl p (PySem.SeqAt.canLay_of_shaped h), Bool.not_true]
theorem add_lst {S : Store} {xs ys : List D} (h : xs.length + ys.length ≤ 100000) : addG S (.lst xs) (.lst ys) = some (.lst (xs ++ ys), S) := by
  unfold addG orG addI intG addL
  simp only [lstOf, h, if_true]
theorem ix2a {S : Store} {a b : D} (h : pureD a = true) : ixG S (.lst [a, b]) (.int 0) = some (a, S) := by
  rw [show (0 : Int) = ((0 : Nat) : Int) from rfl, ix_lst (d := a) rfl, norm_pure S a h]
theorem ix2b {S : Store} {a b : D} (h : pureD b = true) : ixG S (.lst [a, b]) (.int 1) = some (b, S) := by
  rw [show (1 : Int) = ((1 : Nat) : Int) from rfl, ix_lst (d := b) rfl, norm_pure S b h]
theorem rev_en {α : Type} [DecidableEq α] [En α] (xs : List α) : D.lst (xs.map En.e).reverse = En.e xs.reverse := by
  rw [← List.map_reverse]; rfl
/-- cells moved behind those there are: a table made row by row -/
theorem rows_shift {S : Store} (t : Tb) : liftR (.ok (.loc 0) (.lst ((List.range t.length).map fun i => D.loc (1 + i)) :: t.map rowC)) S = .ok (.loc S.length) (S ++ .lst ((List.range t.length).map fun i => D.loc (S.length + 1 + i)) :: t.map rowC) ∧
    TbAt (S ++ .lst ((List.range t.length).map fun i => D.loc (S.length + 1 + i)) :: t.map rowC) S.length (S.length + 1) t := by
  have q2 : (t.map rowC).map (shC S.length) = t.map rowC := by
    rw [List.map_map]
    apply List.map_congr_left
    intro row _
    exact shC_row _ _
  have q3 : ∀ is : List Nat, shL S.length (is.map fun i => D.loc (1 + i)) = is.map fun i => D.loc (S.length + 1 + i) := by
    intro is
    induction is with
    | nil => rfl
    | cons i is ih => simp only [List.map_cons, shL, shD, ih, Nat.add_assoc]
  have q4 : shC S.length (.lst ((List.range t.length).map fun i => D.loc (1 + i))) = .lst ((List.range t.length).map fun i => D.loc (S.length + 1 + i)) := by
    show Cell.lst (shL S.length _) = _
    rw [q3]
  refine ⟨by rw [liftR_ok, shD_loc, List.map_cons, q2, q4, Nat.add_zero], ?_, fun i row hr => ?_⟩
  · rw [List.getElem?_append_right (Nat.le_refl _), Nat.sub_self]; rfl
  · rw [List.getElem?_append_right (by omega), show S.length + 1 + i - S.length = i + 1 by omega, List.getElem?_cons_succ, List.getElem?_map, hr]; rfl
/-- sorted(pairs) -/
theorem sorted_pairs {S : Store} {xs ys : List (Nat × Nat)} (hp : ys.Perm xs) (hne : xs ≠ []) (hs : ys.Pairwise fun p q => p.1 < q.1 ∨ (p.1 = q.1 ∧ p.2 ≤ q.2)) : orC sortI sortP S [En.e xs] = some (En.e ys, S) := by
  have h1 : sortI S [En.e xs] = none := by
    unfold sortI onInts
    simp only [lstOf_en]
    cases xs with
    | nil => exact absurd rfl hne
    | cons x xs => rfl
  have hall : (xs.map (En.e (α := Nat × Nat))).all isPair = true := by
    rw [List.all_eq_true]
    intro d hd
    obtain ⟨p, _, rfl⟩ := List.mem_map.mp hd
    rfl
  unfold orC
  rw [h1]
  unfold sortP
  simp only [lstOf_en, hall, if_true]
  have O : SrtO.Swo ltPair := ⟨fun x y h => by
    have a := SrtO.lexB_iff.mp h
    refine SrtO.lexB_no.mpr ?_
    omega, fun x y z h1 h2 => by
    have a := SrtO.lexB_no.mp h1
    have b := SrtO.lexB_no.mp h2
    refine SrtO.lexB_no.mpr ?_
    omega⟩
  have hsrt : SrtO.Srtd ltPair (ys.map (En.e (α := Nat × Nat))) := by
    refine List.pairwise_map.mpr (hs.imp fun {p q} h => ?_)
    refine SrtO.lexB_no.mpr ?_
    show ¬ ((q.1 : Int) < p.1 ∨ ((q.1 : Int) = p.1 ∧ (q.2 : Int) < p.2))
    omega
  have hperm := (isort_perm ltPair (xs.map (En.e (α := Nat × Nat)))).trans (hp.map (En.e (α := Nat × Nat))).symm
  have key : isort ltPair (xs.map (En.e (α := Nat × Nat))) = ys.map (En.e (α := Nat × Nat)) := by
    refine List.Perm.eq_of_pairwise (fun a b ha hb h1 h2 => ?_) (isort_srtd O _) hsrt hperm
    obtain ⟨p, _, rfl⟩ := List.mem_map.mp ((isort_perm ltPair _).mem_iff.mp ha)
    obtain ⟨q, _, rfl⟩ := List.mem_map.mp hb
    have h1 := SrtO.lexB_no.mp h1
    have h2 := SrtO.lexB_no.mp h2
    have e1 : (pairK (En.e p)) = ((p.1 : Int), (p.2 : Int)) := rfl
    have e2 : (pairK (En.e q)) = ((q.1 : Int), (q.2 : Int)) := rfl
    rw [e1, e2] at h1 h2
    simp only at h1 h2
    have : p = q := Prod.ext (by omega) (by omega)
    rw [this]
  rw [key]; rfl
end Aw


/-! Aw16: exceptions and ranges, reckoned out. -/
namespace Aw
section
variable {r : Env} {S S1 : Store} {N C B : Env → Store → Prop} {T : D → Store → Prop} {E : Ex → Env → Store → Prop}
theorem x_raise (c : Ex) : raiseS c r S = .err c r S := Eq.trans rfl rfl
theorem W_raise {c : Ex} (h : E c r S) : (raiseS c r S).W N C B T E := ⟨h⟩
theorem Ws_raise {c : Ex} {g : SemS} (h : E c r S) : (seqS (raiseS c) g r S).W N C B T E := by
  rw [x_seq, x_raise, sq_err]; exact ⟨h⟩
theorem W_try {M : ExT} {b : SemS} {hs : List (Ex × SemS)} (h : (b r S).W N C B T (fun c r1 S1 => (hands M c hs r1 S1).W N C B T E)) : (tryS M b hs r S).W N C B T E := by
  unfold tryS
  have h := h.run
  revert h
  cases b r S with
  | err c r1 S1 => exact fun h => h
  | nx r S => exact fun h => ⟨h⟩
  | ct r S => exact fun h => ⟨h⟩
  | brk r S => exact fun h => ⟨h⟩
  | ret d S => exact fun h => ⟨h⟩
  | stuck => exact fun h => ⟨h⟩
theorem W_hand {M : ExT} {c d : Ex} {su : SemS} {hs : List (Ex × SemS)} (hm : M c d = some true) (h : (su r S).W N C B T E) : (hands M c ((d, su) :: hs) r S).W N C B T E := by
  simp only [hands, hm]; exact h
theorem W_pass {M : ExT} {c d : Ex} {su : SemS} {hs : List (Ex × SemS)} (hm : M c d = some false) (h : (hands M c hs r S).W N C B T E) : (hands M c ((d, su) :: hs) r S).W N C B T E := by
  simp only [hands, hm]; exact h
theorem W_tryAs {M : ExT} {b : SemS} {d : Ex} {i : Nat} {su : PySem.Addr → Ex → SemS} (h : (b r S).W N C B T (fun c r1 S1 => M c d = some true ∧ ∃ o : R, (∀ a, unsetR i (su a c (r1.set i (some (.fn a))) S1) = o) ∧ o.W N C B T E)) : (tryAsS M b d i su r S).W N C B T E := by
  unfold tryAsS
  have h := h.run
  revert h
  cases b r S with
  | err c r1 S1 =>
    rintro ⟨h1, o, h2, h3⟩
    simp only [h1]
    rw [uniR_of h2]
    exact h3
  | nx r S => exact fun h => ⟨h⟩
  | ct r S => exact fun h => ⟨h⟩
  | brk r S => exact fun h => ⟨h⟩
  | ret d S => exact fun h => ⟨h⟩
  | stuck => exact fun h => ⟨h⟩
theorem Ws_tryAs {M : ExT} {b g : SemS} {d : Ex} {i : Nat} {su : PySem.Addr → Ex → SemS} (h : (b r S).W (fun r S => (g r S).W N C B T E) C B T (fun c r1 S1 => M c d = some true ∧ ∃ o : R, (∀ a, unsetR i (su a c (r1.set i (some (.fn a))) S1) = o) ∧ o.W (fun r S => (g r S).W N C B T E) C B T E)) : (seqS (tryAsS M b d i su) g r S).W N C B T E :=
  Ws_seq (W_tryAs h)
theorem x_isx {a : PySem.Addr} {c d : Ex} {M : ExT} {i : Nat} {z : Bool} (h : r[i]? = some (some (.fn a))) (hm : M c d = some z) : isxE a c M i d r S = .ok (.bl z) S := by
  unfold isxE; simp only [h, hm, if_true]
theorem x_rgN {f : Sem D} {n : Nat} (h : f r S = .ok (.int (n : Nat)) S1) (hn : n ≤ 100000) : rgLst (ends1 f) r S = .ok (.lst (upto n)) S1 := by
  have hb : rgOkB 0 (n : Nat) = true := by
    unfold rgOkB inR
    simp only [Bool.and_eq_true, decide_eq_true_eq]
    refine ⟨⟨by omega, by omega⟩, ⟨by omega, by omega⟩, by omega⟩
  have e : (((n : Nat) : Int) - 0).toNat = n := by omega
  unfold rgLst ends1
  rw [x_bind, x_bind, h, bnd_ok]
  simp only [x_ret, bnd_ok, hb, if_true, e, rangeD0]
end
end Aw

/-! AwH: from the head's facts to the defs; the law's own call. -/
namespace Aw
open PySem L2 LamX
theorem funD_fun {K : PySem.W.Frag} {x : Str} {st : Stmt} {a : Addr} {fd : FuncData} (F : FunD K x x (defArgs st) (defBody st) (defScope st) [] [] a fd) : Fun K x x st a fd := by
  obtain ⟨⟨oc, od, dV, kV, doc, pm, an, cdv, ct, osl, h1, h2, h3, h4, _⟩, kp⟩ := F
  rcases h4 with ⟨_, rfl⟩ | ⟨e, _⟩
  · exact ⟨⟨oc, od, kV, doc, pm, an, cdv, ct, osl, h1, h2, h3⟩, kp⟩
  · exact absurd rfl e
/-- a def of the top -/
abbrev topD (x : Str) (st : Stmt) : He.DefD := ⟨(x, none), x, x, defArgs st, defBody st, defScope st, [], []⟩
section
variable {K : PySem.W.Frag} {h : Heap} {mg : Str → Option Value} {fa : List He.Fa} {fn : List He.DefD}
theorem txF_of (X : K.In h) (G : h.Ns mainGlobals mg) (c : He.SaysD fa fn K) (i j : Nat) {x : Str} {st : Stmt} (hi : fn[i]? = some (topD x st) := by rfl) (hj : fa[j]? = some (.glo x) := by rfl) : TxF K mg x st := by
  obtain ⟨fd, F⟩ := c.def_ i hi
  exact ⟨_, fd, He.glo_ok X G (c.fact j hj), funD_fun F⟩
theorem free_of (X : K.In h) (G : h.Ns mainGlobals mg) (c : He.SaysD fa fn K) (j : Nat) {x : Str} (hj : fa[j]? = some (.free x) := by rfl) : mg x = none := He.free_ok X G (c.fact j hj)
/-- the law's script -/
theorem law_sp {f : FSem} (hf : ∀ ns : List Int, ns.length ≤ 63 → f [.scr ns] = .ok (.bl true)) (H : Hp) (a : Addr) (ns : List Int) (hl : ns.length ≤ 63) (hS : SqL K H a (ns.map V.int)) : spP K [] 1 f [.ref a] H (fun v _ => v = .bl true) fun _ _ _ => False := by
  refine ⟨H, fun _ => none, [.scr ns], ⟨fun _ _ e => e, fun _ _ e => (by cases e), fun _ _ _ => rfl, fun i j a e => (by simp at e), rfl, fun a ha => (by simp at ha), fun a ha => (by simp at ha), fun a ha => (by simp at ha), fun p hp => (by simp at hp), fun n c e => (by simp at e), fun _ _ e => (by cases e)⟩, ⟨.ref a, [], rfl, ⟨a, rfl, hS, hl⟩, rfl⟩, rfl, ?_⟩
  rw [hf ns hl]
  exact fun F' H' v _ _ hv => hv
theorem cx_done {P : Program} {w : World} (H : Hp) (s : Shared) (e : Value) (s' : Shared) (h : L2.CX P w [] H s (fun _ _ _ => False) e s') : False := by
  obtain ⟨_, _, _, _, _, _, _, _, _, _, _, _, h⟩ := h
  exact h
end
/-- the walk's goal, from what the law's def does to plain data -/
theorem walk_plain {l : PySem.W.OpenLaw} {lv : Nat} {vw : Program} {lo : List Str} {XP : (Str → Option Value) → Heap → Prop} {YP : World → Heap → Prop} {rec : DefRec} (h1 : l.most = some 63) (h2 : rec.params.defaults = []) (h3 : Room lv callerA)
    (go : ∀ (w : World) (mg : Str → Option Value) (fa : Addr) (hp : Heap), YP w hp → hp.Ns mainGlobals mg → mg rec.name = some (.ref fa) →
      ∃ (K : PySem.W.Frag) (fd : FuncData) (f : FSem), K.In hp ∧ (∀ (s : Shared) (v : Value), BindsTo s fd ⟨[v], []⟩ [("script", v)]) ∧ (∀ ns : List Int, ns.length ≤ 63 → f [.scr ns] = .ok (.bl true)) ∧
        ∀ base : Heap, K.In base → base.Ns mainGlobals mg → FnOk l.prog w K mg base (L2.CX l.prog w) lv fa fd ["script"] (spP K [] 1 f)) :
    PySem.W.WalkO vw lo XP YP l.row.toRowW rec [] fun f vs => PySem.call f vs := by
  refine Att.attach_call h1 h2 fun w st0 st1 mg mb fa ob pm cd doc ad vals ns G Y q1 q2 q3 q4 q5 q6 q7 q8 => ?_
  obtain ⟨K, fd, f, k1, k2, k3, k4⟩ := go w mg fa _ Y G.T.g q4
  exact law_call k1 G.T.g G.T.b G.T.builtins G.T.nolimit q8 q5 q6 (Nat.le_trans q7 (by decide)) h3 k4 k2 (fun H _ hS => law_sp k3 H ad ns q7 hS) fun H e s' => cx_done H st1 e s'
end Aw
namespace Aw
open PySem L2 LamX
/-- the head's Hook, with what the text's exception classes are -/
def hookX (n : Nat) (fa : List He.Fa) (fn : List He.DefD) (ex : List (Ex × Ex × Bool)) : PySem.W.Hook where
  α := Bool × He.AlD
  obs := fun s => (exOk (He.frG s.heap.get? (He.asD s.heap.get? n)) ex, He.obsDG n fa fn s.heap.get?)
  val := fun _ => (true, He.valD fn)
  says := fun _ h => ∃ K : PySem.W.Frag, K.In h ∧ He.SaysD fa fn K ∧ exOk K ex = true
  of := fun _ _ e => ⟨_, He.frG_in, congrArg (fun z : Bool × He.AlD => z.2) e, congrArg (fun z : Bool × He.AlD => z.1) e⟩
  keeps := fun _ _ _ ⟨K, k1, k2, k3⟩ q => ⟨K, PySem.W.Frag.In.keeps k1 q, k2, k3⟩
def obsX (n : Nat) (fa : List He.Fa) (fn : List He.DefD) (ex : List (Ex × Ex × Bool)) (g : Addr → Option Obj) : Bool × He.AlD := (exOk (He.frG g (He.asD g n)) ex, He.obsDG n fa fn g)
theorem obsX_eq {n : Nat} {fa : List He.Fa} {fn : List He.DefD} {ex : List (Ex × Ex × Bool)} {g : Addr → Option Obj} {s : Shared} (h : ∀ a, g a = s.heap.get? a) : obsX n fa fn ex g = (hookX n fa fn ex).obs s := by
  have e : g = s.heap.get? := funext h
  rw [e] <;> rfl
theorem exF_of {K : PySem.W.Frag} {h : Heap} {mg : Str → Option Value} {fa : List He.Fa} {fn : List He.DefD} (X : K.In h) (G : h.Ns mainGlobals mg) (c : He.SaysD fa fn K) (i j : Nat) {x : Str} (hi : fa[i]? = some (.glo x) := by rfl) (hj : fa[j]? = some (.exc x) := by rfl) : ExF K mg x :=
  ⟨He.glo_ok X G (c.fact i hi), c.fact j hj⟩
end Aw


/-! AwD: dicts. -/
namespace Aw
open PySem L2 LamX

def keyOf : D → Option Key
  | .int i => some (.inl i)
  | .str s => some (.inr s)
  | _ => none
def keysOf : List D → Option (List Key)
  | [] => some []
  | d :: ds => match keyOf d, keysOf ds with
    | some k, some ks => some (k :: ks)
    | _, _ => none
def tkOf : D → Option (List Key)
  | .tup ds => keysOf ds
  | _ => none
/-- may it be a key of such a dict -/
def isK (t : Bool) (d : D) : Bool := if t then (tkOf d).isSome else (keyOf d).isSome
def keq1 : D → D → Bool
  | .int i, .int j => i == j
  | .str i, .str j => i == j
  | _, _ => false
def keqL : List D → List D → Bool
  | [], [] => true
  | d :: ds, e :: es => keq1 d e && keqL ds es
  | _, _ => false
def keq : D → D → Bool
  | .tup ds, .tup es => keqL ds es
  | d, e => keq1 d e
theorem keyOf_eq {d : D} {k : Key} (h : keyOf d = some k) : d = keyD k := by
  cases d with
  | int i => cases h; rfl
  | str i => cases h; rfl
  | _ => cases h
theorem keysOf_eq : ∀ {ds : List D} {ks : List Key}, keysOf ds = some ks → ds = ks.map keyD
  | [], ks, h => by cases h; rfl
  | d :: ds, ks, h => by
    simp only [keysOf] at h
    cases q1 : keyOf d with
    | none => rw [q1] at h; cases h
    | some k =>
      rw [q1] at h
      cases q2 : keysOf ds with
      | none => rw [q2] at h; cases h
      | some ks' =>
        rw [q2] at h; cases h
        rw [keyOf_eq q1, keysOf_eq q2]; rfl
theorem tkOf_eq {d : D} {k : List Key} (h : tkOf d = some k) : d = .tup (k.map keyD) := by
  cases d with
  | tup ds => rw [keysOf_eq h]
  | _ => cases h
theorem keq1_key (a b : Key) : keq1 (keyD a) (keyD b) = decide (a = b) := by
  cases a with
  | inl i => cases b with
    | inl j => simp only [keyD, keq1, Sum.inl.injEq]; rw [Bool.eq_iff_iff, beq_iff_eq, decide_eq_true_eq]
    | inr j => simp [keyD, keq1]
  | inr i => cases b with
    | inl j => simp [keyD, keq1]
    | inr j => simp only [keyD, keq1, Sum.inr.injEq]; rw [Bool.eq_iff_iff, beq_iff_eq, decide_eq_true_eq]
theorem keq_key (a b : Key) : keq (keyD a) (keyD b) = decide (a = b) := by
  have : keq (keyD a) (keyD b) = keq1 (keyD a) (keyD b) := by cases a <;> rfl
  rw [this, keq1_key]
theorem keqL_key : ∀ a b : List Key, keqL (a.map keyD) (b.map keyD) = decide (a = b)
  | [], [] => rfl
  | [], _ :: _ => rfl
  | _ :: _, [] => rfl
  | x :: a, y :: b => by
    rw [List.map_cons, List.map_cons, keqL, keq1_key, keqL_key a b, ← Bool.decide_and]
    exact decide_eq_decide.mpr (by rw [List.cons.injEq])
theorem keq_tk (a b : List Key) : keq (.tup (a.map keyD)) (.tup (b.map keyD)) = decide (a = b) := keqL_key a b
def lkD : List D → List D → D → Option D
  | k :: ks, w :: ws, d => if keq k d then some w else lkD ks ws d
  | _, _, _ => none
def setAll : List D → List D → D → D → List D
  | k :: ks, w :: ws, d, v => (if keq k d then v else w) :: setAll ks ws d v
  | _, _, _, _ => []
def putKs (ks : List D) (d : D) : List D := if ks.any (fun k => keq k d) then ks else ks ++ [d]
def putWs (ks ws : List D) (d v : D) : List D := if ks.any (fun k => keq k d) then setAll ks ws d v else ws ++ [v]
def dropKs (ks : List D) (d : D) : List D := ks.filter fun k => !keq k d
def dropWs : List D → List D → D → List D
  | k :: ks, w :: ws, d => if keq k d then dropWs ks ws d else w :: dropWs ks ws d
  | _, _, _ => []
theorem AtL.nil_inv {K : PySem.W.Frag} {F : Hp} {l : List Addr} : ∀ {ws : List D}, AtL K F l ws [] → ws = []
  | [], _ => rfl
  | _ :: _, h => by obtain ⟨v, vs, e, _⟩ := h; cases e
section
variable {κ : Type} [DecidableEq κ] {kd : κ → D}
theorem lkD_val {K : PySem.W.Frag} {F : Hp} {l : List Addr} (he : ∀ a b, keq (kd a) (kd b) = decide (a = b)) (k : κ) : ∀ {kvs : List (κ × V)} {ws : List D}, AtL K F l ws (kvs.map (·.2)) →
    (∀ w, lkD (kvs.map fun p => kd p.1) ws (kd k) = some w → ∃ v, valV kvs k = some v ∧ At K F l w v) ∧ (lkD (kvs.map fun p => kd p.1) ws (kd k) = none → valV kvs k = none)
  | [], ws, h => ⟨fun w e => by simp [lkD] at e, fun _ => rfl⟩
  | p :: kvs, [], h => by simp [AtL] at h
  | p :: kvs, w :: ws, h => by
    obtain ⟨v, vs, e, h1, h2⟩ := h
    rw [List.map_cons] at e
    injection e with e1 e2
    subst e1 e2
    obtain ⟨i1, i2⟩ := lkD_val he k h2
    simp only [List.map_cons, lkD, he]
    by_cases q : p.1 = k
    · simp only [q, decide_true, if_true]
      refine ⟨fun w' e => ?_, fun e => by simp at e⟩
      cases e
      exact ⟨p.2, valV_pos q, h1⟩
    · simp only [q, decide_false, Bool.false_eq_true, if_false]
      rw [valV_neg q]
      exact ⟨i1, i2⟩
theorem any_val (he : ∀ a b, keq (kd a) (kd b) = decide (a = b)) (k : κ) (kvs : List (κ × V)) : (kvs.map fun p => kd p.1).any (fun x => keq x (kd k)) = kvs.any fun kv => decide (kv.1 = k) := by
  rw [List.any_map]; congr 1; funext p; exact he _ _
theorem setAll_at {K : PySem.W.Frag} {F : Hp} {l : List Addr} (he : ∀ a b, keq (kd a) (kd b) = decide (a = b)) (k : κ) {d : D} {v : V} (hv : At K F l d v) : ∀ {kvs : List (κ × V)} {ws : List D}, AtL K F l ws (kvs.map (·.2)) →
    AtL K F l (setAll (kvs.map fun p => kd p.1) ws (kd k) d) ((kvs.map fun kv => if kv.1 = k then (kv.1, v) else kv).map (·.2))
  | [], ws, h => by cases AtL.nil_inv h; exact rfl
  | p :: kvs, [], h => by simp [AtL] at h
  | p :: kvs, w :: ws, h => by
    obtain ⟨u, us, e, h1, h2⟩ := h
    rw [List.map_cons] at e
    injection e with e1 e2
    subst e1 e2
    simp only [List.map_cons, setAll, he]
    refine ⟨_, _, rfl, ?_, setAll_at he k hv h2⟩
    by_cases q : p.1 = k
    · simp only [q, decide_true, if_true]; exact hv
    · simp only [q, decide_false, Bool.false_eq_true, if_false]; exact h1
theorem put_at {K : PySem.W.Frag} {F : Hp} {l : List Addr} (he : ∀ a b, keq (kd a) (kd b) = decide (a = b)) (k : κ) {d : D} {v : V} (hv : At K F l d v) {kvs : List (κ × V)} {ws : List D} (h : AtL K F l ws (kvs.map (·.2))) :
    putKs (kvs.map fun p => kd p.1) (kd k) = (putK kvs k v).map (fun p => kd p.1) ∧ AtL K F l (putWs (kvs.map fun p => kd p.1) ws (kd k) d) ((putK kvs k v).map (·.2)) := by
  unfold putKs putWs putK
  rw [any_val he]
  by_cases q : (kvs.any fun kv => decide (kv.1 = k)) = true
  · simp only [q, if_true]
    refine ⟨?_, setAll_at he k hv h⟩
    rw [List.map_map]
    apply List.map_congr_left
    intro p _
    simp only [Function.comp]
    split <;> rfl
  · simp only [q, if_false, Bool.false_eq_true]
    refine ⟨by simp, ?_⟩
    rw [List.map_append]
    exact h.append ⟨v, [], rfl, hv, rfl⟩
theorem drop_at {K : PySem.W.Frag} {F : Hp} {l : List Addr} (he : ∀ a b, keq (kd a) (kd b) = decide (a = b)) (k : κ) : ∀ {kvs : List (κ × V)} {ws : List D}, AtL K F l ws (kvs.map (·.2)) →
    dropKs (kvs.map fun p => kd p.1) (kd k) = (dropK kvs k).map (fun p => kd p.1) ∧ AtL K F l (dropWs (kvs.map fun p => kd p.1) ws (kd k)) ((dropK kvs k).map (·.2))
  | [], ws, h => by cases AtL.nil_inv h; exact ⟨rfl, rfl⟩
  | p :: kvs, [], h => by simp [AtL] at h
  | p :: kvs, w :: ws, h => by
    obtain ⟨u, us, e, h1, h2⟩ := h
    rw [List.map_cons] at e
    injection e with e1 e2
    subst e1 e2
    obtain ⟨i1, i2⟩ := drop_at he k h2
    unfold dropKs at i1 ⊢
    unfold dropK at i1 i2 ⊢
    simp only [List.map_cons, dropWs, he, List.filter_cons]
    by_cases q : p.1 = k
    · simp only [q, decide_true, Bool.not_true, Bool.false_eq_true, if_false, if_true, ne_eq, not_true, decide_false]
      exact ⟨i1, i2⟩
    · simp only [q, decide_false, Bool.not_false, if_true, Bool.false_eq_true, if_false, ne_eq, not_false_iff, decide_true, List.map_cons]
      exact ⟨by rw [i1], _, _, rfl, h1, i2⟩
end

/-! ### what a dict holds -/
def dctOf (S : Store) : D → Option (Bool × List D × List D)
  | .dct t ks ws => some (t.t, ks, ws)
  | .loc n => match S[n]? with
    | some (.dct t ks ws) => some (t, ks, ws)
    | some (.fz (.dct t ks ws)) => some (t.t, ks, ws)
    | _ => none
  | _ => none
/-- the object of such a dict -/
def DHas (H : Hp) (a : Addr) (t : Bool) (ks : List D) (vs : List V) : Prop := (t = false ∧ ∃ kvs : List (Key × V), Rd H a (.dK kvs) ∧ ks = kvs.map (fun p => keyD p.1) ∧ vs = kvs.map (·.2)) ∨
  (t = true ∧ ∃ kvs : List (List Key × V), Rd H a (.dT kvs) ∧ ks = kvs.map (fun p => .tup (p.1.map keyD)) ∧ vs = kvs.map (·.2))
theorem DHas.isD {H : Hp} {a : Addr} {t : Bool} {ks : List D} {vs : List V} (h : DHas H a t ks vs) : IsD H a := by
  rcases h with ⟨_, kvs, h, _⟩ | ⟨_, kvs, h, _⟩
  · exact .inl ⟨kvs, h⟩
  · exact .inr ⟨kvs, h⟩
section
variable {K : PySem.W.Frag} {T : List (Addr × Str)} {F G H : Hp} {l : List Addr} {S : Store}
theorem dctOf_at (hr : HRel K T F G l S H) {d : D} {t : Bool} {ks ws : List D} {v : V} (hv : At K F l d v) (e : dctOf S d = some (t, ks, ws)) :
    ∃ a vs, v = .ref a ∧ AtL K F l ws vs ∧ ks.length ≤ sizeLine ∧ DHas H a t ks vs := by
  have base : ∀ {d : D} {v : V}, At K F l d v → (∃ lk, d = .dct ⟨t, lk⟩ ks ws) → ∃ a vs, v = .ref a ∧ AtL K F l ws vs ∧ ks.length ≤ sizeLine ∧ DHas H a t ks vs := by
    rintro d v hv ⟨lk, rfl⟩
    obtain ⟨a, vs, rfl, h1, h2, h3⟩ := hv
    refine ⟨a, vs, rfl, h1, h2, ?_⟩
    rcases h3 with ⟨ht, kvs, q, r⟩ | ⟨ht, kvs, q, r⟩
    · exact .inl ⟨ht, kvs, hr.fw.rd q.1, r⟩
    · exact .inr ⟨ht, kvs, hr.fw.rd q.1, r⟩
  cases d with
  | dct t' ks' ws' => cases e; exact base hv ⟨_, rfl⟩
  | loc n =>
    obtain ⟨a, h1, rfl⟩ := hv
    simp only [dctOf] at e
    split at e
    · rename_i q
      cases e
      obtain ⟨a', h2, h3⟩ := hr.cell n _ q
      rw [h1] at h2; cases h2
      obtain ⟨_, h4, vs, h5, h6⟩ := h3
      refine ⟨a, vs, rfl, h5, h4, ?_⟩
      rcases h6 with ⟨ht, kvs, q, r⟩ | ⟨ht, kvs, q, r⟩
      · exact .inl ⟨ht, kvs, .inl q, r⟩
      · exact .inr ⟨ht, kvs, .inl q, r⟩
    · rename_i q
      cases e
      obtain ⟨a', h2, h3⟩ := hr.cell n _ q
      rw [h1] at h2; cases h2
      exact base h3 ⟨_, rfl⟩
    · cases e
  | _ => cases e
theorem key_at {d : D} {k : Key} {y : V} (h : At K F l d y) (e : keyOf d = some k) : y = kV k := by
  rw [keyOf_eq e] at h
  cases k with
  | inl i => exact h
  | inr i => exact h
theorem keys_at : ∀ {ks : List Key} {vs : List V}, AtL K F l (ks.map keyD) vs → vs = ks.map kV
  | [], vs, h => h
  | k :: ks, vs, h => by
    obtain ⟨v, vs', rfl, h1, h2⟩ := h
    rw [keys_at h2]
    have : v = kV k := by cases k <;> exact h1
    rw [this]; rfl
theorem tk_at (hr : HRel K T F G l S H) {d : D} {k : List Key} {y : V} (h : At K F l d y) (e : tkOf d = some k) : ∃ b, y = .ref b ∧ F b = some (.tup (k.map kV)) ∧ H b = some (.tup (k.map kV)) := by
  rw [tkOf_eq e] at h
  obtain ⟨b, vs, rfl, h1, _, h2⟩ := h
  rw [keys_at h2] at h1
  exact ⟨b, rfl, h1, hr.fz _ _ h1⟩
theorem keyD_inj : ∀ a b : Key, keq (keyD a) (keyD b) = decide (a = b) := keq_key
theorem tkD_inj : ∀ a b : List Key, keq (.tup (a.map keyD)) (.tup (b.map keyD)) = decide (a = b) := keq_tk
theorem dget_at (hr : HRel K T F G l S H) {a : Addr} {t : Bool} {ks ws : List D} {vs : List V} {d : D} {y : V} (h : DHas H a t ks vs) (hw : AtL K F l ws vs) (hy : At K F l d y) (hk : isK t d = true) :
    (∃ w v, lkD ks ws d = some w ∧ At K F l w v ∧ DGet H a y (some v)) ∨ (lkD ks ws d = none ∧ DGet H a y none) := by
  rcases h with ⟨rfl, kvs, h1, rfl, rfl⟩ | ⟨rfl, kvs, h1, rfl, rfl⟩
  · simp only [isK, Bool.false_eq_true, if_false] at hk
    obtain ⟨k, ek⟩ := Option.isSome_iff_exists.mp hk
    have := key_at hy ek
    subst this
    have e2 := keyOf_eq ek
    subst e2
    obtain ⟨q1, q2⟩ := lkD_val keyD_inj k hw
    cases q : lkD (kvs.map fun p => keyD p.1) ws (keyD k) with
    | none => exact .inr ⟨rfl, .inl ⟨kvs, k, h1, rfl, (q2 q).symm⟩⟩
    | some w =>
      obtain ⟨v, h3, h4⟩ := q1 w q
      exact .inl ⟨w, v, rfl, h4, .inl ⟨kvs, k, h1, rfl, h3.symm⟩⟩
  · simp only [isK, if_true] at hk
    obtain ⟨k, ek⟩ := Option.isSome_iff_exists.mp hk
    obtain ⟨b, rfl, hb, hb2⟩ := tk_at hr hy ek
    have e2 := tkOf_eq ek
    subst e2
    obtain ⟨q1, q2⟩ := lkD_val (kd := fun k : List Key => D.tup (k.map keyD)) tkD_inj k hw
    cases q : lkD (kvs.map fun p => D.tup (p.1.map keyD)) ws (.tup (k.map keyD)) with
    | none => exact .inr ⟨rfl, .inr ⟨kvs, k, b, h1, rfl, hb2, (q2 q).symm⟩⟩
    | some w =>
      obtain ⟨v, h3, h4⟩ := q1 w q
      exact .inl ⟨w, v, rfl, h4, .inr ⟨kvs, k, b, h1, rfl, hb2, h3.symm⟩⟩
end
/-- d[k] -/
def dgetG : G2 := fun S a b => match dctOf S a with
  | some (t, ks, ws) => if isK t b then (lkD ks ws b).map fun w => (norm S w, S) else none
  | none => none
def dinG (neg : Bool) : G2 := fun S b a => match dctOf S a with
  | some (t, ks, ws) => if isK t b then some (.bl (if neg then !(lkD ks ws b).isSome else (lkD ks ws b).isSome), S) else none
  | none => none
section
variable {X : Cx} {T : List (Addr × Str)} {W : WX} {k : Nat} {pos pos' p p2 : Pos} {a b e i o : Expr} {fa fb f : Sem D}
theorem pd_dget (hc : Ctx X W k) (ha : PD X T W o fa) (hb : PD X T W i fb) (hs : NoSl i := by exact fun _ _ => rfl) : PD X T W (.Subscript o i pos) (op2 dgetG fa fb) :=
  PE.imp (pe_dget (by have := unitsIn hc; omega) ha hb hs) fun σ H Q q => by
  obtain ⟨F, G, l, r0, S, hr, hs, hp⟩ := q
  refine wp_step hr hs hp fun F1 l1 S1 a x H1 lt1 hs1 ha hp1 => ?_
  refine wp_step lt1.rel hs1 hp1 fun F2 l2 S2 b y H2 lt2 hs2 hb hp2 => ?_
  cases e : dctOf S2 a with
  | none => simp only [dgetG, e, stepO] at hp2; exact hp2.elim
  | some q =>
    obtain ⟨t, ks, ws⟩ := q
    by_cases hk : isK t b = true
    · simp only [dgetG, e, hk, if_true] at hp2
      obtain ⟨ad, vs, rfl, h1, h2, h3⟩ := dctOf_at lt2.rel (At.mono lt2.le lt2.pre _ _ ha) e
      rcases dget_at lt2.rel h3 h1 hb hk with ⟨w, v, h4, h5, h6⟩ | ⟨h4, _⟩
      · rw [h4] at hp2
        exact ⟨ad, v, rfl, h6, hp2 F2 l2 H2 v (Later.refl lt2.rel) (norm_at lt2.rel h5)⟩
      · rw [h4] at hp2; exact hp2.elim
    · simp only [dgetG, e, hk, Bool.false_eq_true, if_false, stepO] at hp2; exact hp2.elim
theorem din_wp {K : PySem.W.Frag} {σ : St} {H : Hp} {Q : VK} (q : wp K T W (rE K) (op2 (dinG false) fb fa) σ H Q) : tDIn (wp K T W (rE K) fb) (wp K T W (rE K) fa) σ H Q := by
  obtain ⟨F, G, l, r0, S, hr, hs, hp⟩ := q
  refine wp_step hr hs hp fun F1 l1 S1 b y H1 lt1 hs1 hb hp1 => ?_
  refine wp_step lt1.rel hs1 hp1 fun F2 l2 S2 a x H2 lt2 hs2 ha hp2 => ?_
  cases e : dctOf S2 a with
  | none => simp only [dinG, e, stepO] at hp2; exact hp2.elim
  | some q =>
    obtain ⟨t, ks, ws⟩ := q
    by_cases hk : isK t b = true
    · simp only [dinG, e, hk, if_true] at hp2
      obtain ⟨ad, vs, rfl, h1, h2, h3⟩ := dctOf_at lt2.rel ha e
      rcases dget_at lt2.rel h3 h1 (At.mono lt2.le lt2.pre _ _ hb) hk with ⟨w, v, h4, h5, h6⟩ | ⟨h4, h6⟩
      · rw [h4] at hp2
        exact ⟨ad, _, rfl, h6, hp2 F2 l2 H2 _ (Later.refl lt2.rel) rfl⟩
      · rw [h4] at hp2
        exact ⟨ad, _, rfl, h6, hp2 F2 l2 H2 _ (Later.refl lt2.rel) rfl⟩
    · simp only [dinG, e, hk, Bool.false_eq_true, if_false, stepO] at hp2; exact hp2.elim
theorem dnotIn_wp {K : PySem.W.Frag} {σ : St} {H : Hp} {Q : VK} (q : wp K T W (rE K) (op2 (dinG true) fb fa) σ H Q) : tDNotIn (wp K T W (rE K) fb) (wp K T W (rE K) fa) σ H Q := by
  obtain ⟨F, G, l, r0, S, hr, hs, hp⟩ := q
  refine wp_step hr hs hp fun F1 l1 S1 b y H1 lt1 hs1 hb hp1 => ?_
  refine wp_step lt1.rel hs1 hp1 fun F2 l2 S2 a x H2 lt2 hs2 ha hp2 => ?_
  cases e : dctOf S2 a with
  | none => simp only [dinG, e, stepO] at hp2; exact hp2.elim
  | some q =>
    obtain ⟨t, ks, ws⟩ := q
    by_cases hk : isK t b = true
    · simp only [dinG, e, hk, if_true] at hp2
      obtain ⟨ad, vs, rfl, h1, h2, h3⟩ := dctOf_at lt2.rel ha e
      rcases dget_at lt2.rel h3 h1 (At.mono lt2.le lt2.pre _ _ hb) hk with ⟨w, v, h4, h5, h6⟩ | ⟨h4, h6⟩
      · rw [h4] at hp2
        exact ⟨ad, _, rfl, h6, hp2 F2 l2 H2 _ (Later.refl lt2.rel) rfl⟩
      · rw [h4] at hp2
        exact ⟨ad, _, rfl, h6, hp2 F2 l2 H2 _ (Later.refl lt2.rel) rfl⟩
    · simp only [dinG, e, hk, Bool.false_eq_true, if_false, stepO] at hp2; exact hp2.elim
theorem d_din (hc : Ctx X W k) (hb : PD X T W i fb) (ha : PD X T W o fa) (hm : behindInMarks .In o = false := by with_unfolding_all rfl) : PD X T W (.Compare i [.In] [o] pos) (op2 (dinG false) fb fa) :=
  PE.imp (pe_cmp (pc_din (by have := unitsIn hc; omega) hb ha) hm) fun σ H Q q => din_wp q
theorem t_din (hc : Ctx X W k) (hb : PD X T W i fb) (ha : PD X T W o fa) (hm : behindInMarks .In o = false := by with_unfolding_all rfl) : PDT X T W (.Compare i [.In] [o] pos) (testE (op2 (dinG false) fb fa)) :=
  PT.imp (pt_cmp (pc_din (by have := unitsIn hc; omega) hb ha) hm) fun σ H Q q => din_wp (toB_wp q)
theorem d_dnotIn (hc : Ctx X W k) (hb : PD X T W i fb) (ha : PD X T W o fa) (hm : behindInMarks .NotIn o = false := by with_unfolding_all rfl) : PD X T W (.Compare i [.NotIn] [o] pos) (op2 (dinG true) fb fa) :=
  PE.imp (pe_cmp (pc_dnotin (by have := unitsIn hc; omega) hb ha) hm) fun σ H Q q => dnotIn_wp q
theorem t_dnotIn (hc : Ctx X W k) (hb : PD X T W i fb) (ha : PD X T W o fa) (hm : behindInMarks .NotIn o = false := by with_unfolding_all rfl) : PDT X T W (.Compare i [.NotIn] [o] pos) (testE (op2 (dinG true) fb fa)) :=
  PT.imp (pt_cmp (pc_dnotin (by have := unitsIn hc; omega) hb ha) hm) fun σ H Q q => dnotIn_wp (toB_wp q)
/-- d[k] = v -/
def putS (fv fd fk : Sem D) : SemS := thenS fv fun v => thenS fd fun a => thenS fk fun b => fun r S => match a with
  | .loc n => match S[n]? with
    | some (.dct t ks ws) => if isK t b = true ∧ ks.length < 100000 then .nx r (S.set n (.dct t (putKs ks b) (putWs ks ws b v))) else .stuck
    | _ => .stuck
  | _ => .stuck
theorem cell_dct {F G H : Hp} {l : List Addr} {S : Store} {n : Nat} {t : Bool} {ks ws : List D} {x : V} {K : PySem.W.Frag} (hr : HRel K T F G l S H) (hx : At K F l (.loc n) x) (e : S[n]? = some (.dct t ks ws)) :
    ∃ p vs, x = .ref p ∧ l[n]? = some p ∧ F p = none ∧ AtL K F l ws vs ∧ ks.length ≤ sizeLine ∧ ((t = false ∧ ∃ kvs : List (Key × V), H p = some (.dK kvs) ∧ ks = kvs.map (fun p => keyD p.1) ∧ vs = kvs.map (·.2)) ∨
       (t = true ∧ ∃ kvs : List (List Key × V), H p = some (.dT kvs) ∧ ks = kvs.map (fun p => .tup (p.1.map keyD)) ∧ vs = kvs.map (·.2))) := by
  obtain ⟨p, h1, rfl⟩ := hx
  obtain ⟨p', h2, h3⟩ := hr.cell n _ e
  rw [h1] at h2; cases h2
  obtain ⟨h4, h5, vs, h6, h7⟩ := h3
  exact ⟨p, vs, rfl, h1, h4, h6, h5, h7⟩
theorem putKs_len (ks : List D) (d : D) : (putKs ks d).length ≤ ks.length + 1 := by
  unfold putKs; split <;> simp
theorem put_wp {K : PySem.W.Frag} {fv : Sem D} {Dn : Ends} {σ : St} {H : Hp} (q : wpS K T W (putS fv fa fb) Dn σ H) : sDPut (wp K T W (rE K) fa) (wp K T W (rE K) fb) (wp K T W (rE K) fv) Dn σ H := by
  obtain ⟨F, G, l, r0, S, hr, hs, hp⟩ := q
  refine wpS_step hr hs hp fun F1 l1 S1 v vv H1 lt1 hs1 hv hp1 => ?_
  refine wpS_step lt1.rel hs1 hp1 fun F2 l2 S2 a x H2 lt2 hs2 ha hp2 => ?_
  refine wpS_step lt2.rel hs2 hp2 fun F3 l3 S3 b y H3 lt3 hs3 hb hp3 => ?_
  have ha := At.mono lt3.le lt3.pre _ _ ha
  have hv := At.mono (lt2.le.trans lt3.le) (lt2.pre.trans lt3.pre) _ _ hv
  split at hp3
  · rename_i n
    split at hp3
    · rename_i t ks ws e
      split at hp3
      · rename_i hk
        obtain ⟨hk, hl⟩ := hk
        obtain ⟨p, vs, rfl, h1, h2, h3, h4, h5⟩ := cell_dct lt3.rel ha e
        have hsz : (putKs ks b).length ≤ sizeLine := Nat.le_trans (putKs_len ks b) (Nat.le_trans (Nat.succ_le_of_lt hl) (by decide))
        have hsz2 : ks.length < sizeLine := Nat.lt_of_lt_of_le hl (by decide)
        rcases h5 with ⟨rfl, kvs, h6, rfl, rfl⟩ | ⟨rfl, kvs, h6, rfl, rfl⟩
        · simp only [isK, Bool.false_eq_true, if_false] at hk
          obtain ⟨k, ek⟩ := Option.isSome_iff_exists.mp hk
          have := key_at hb ek
          subst this
          have e2 := keyOf_eq ek
          subst e2
          obtain ⟨q1, q2⟩ := put_at keyD_inj k hv h3
          refine ⟨p, _, rfl, .k h6 (by simpa using hsz2), hp3 F3 l3 σ _ ⟨Le.refl _, Pre.refl _, lt3.rel.setC h1 e h2 rfl ⟨h2, hsz, _, q2, .inl ⟨rfl, _, upd_same, q1, rfl⟩⟩⟩ hs3⟩
        · simp only [isK, if_true] at hk
          obtain ⟨k, ek⟩ := Option.isSome_iff_exists.mp hk
          obtain ⟨ad, rfl, hb1, hb2⟩ := tk_at lt3.rel hb ek
          have e2 := tkOf_eq ek
          subst e2
          obtain ⟨q1, q2⟩ := put_at (kd := fun k : List Key => D.tup (k.map keyD)) tkD_inj k hv h3
          refine ⟨p, _, rfl, .t h6 hb2 (by simpa using hsz2), hp3 F3 l3 σ _ ⟨Le.refl _, Pre.refl _, lt3.rel.setC h1 e h2 rfl ⟨h2, hsz, _, q2, .inr ⟨rfl, _, upd_same, q1, rfl⟩⟩⟩ hs3⟩
      · exact hp3.elim
    · exact hp3.elim
  · exact hp3.elim
theorem pds_put {fv : Sem D} (hc : Ctx X W k) (hv : PD X T W e fv) (ha : PD X T W o fa) (hb : PD X T W i fb) (hs : swapsWith e (some (.Subscript o i pos')) pos.line X.env = pure false := by rfl) : PDS X T W (.Assign [.Subscript o i pos'] e pos) (putS fv fa fb) :=
  PS.imp (ps_dput (by have := unitsIn hc; omega) ha hb hv hs) fun Dn σ H q => put_wp q
/-- {} -/
def dnewC (t : Bool) : Sem D := fun _ S => .ok (.loc S.length) (S ++ [.dct t [] []])
theorem pd_dnewK : PD X T W (.Dict [] [] pos) (dnewC false) := PE.imp pe_dnewK fun σ H Q ⟨F, G, l, r0, S, hr, hs, hp⟩ p hpn => by
  have h2 := hr.newC (o := .dK []) (c := .dct false [] []) hpn rfl ⟨hr.fnone hpn, Nat.zero_le _, [], rfl, .inl ⟨rfl, [], upd_same, rfl, rfl⟩⟩
  refine hp _ _ _ _ ⟨Le.refl F, Pre.app _ _, h2⟩ ⟨p, ?_, rfl⟩
  rw [← hr.len]; simp
theorem pd_dnewT : PD X T W (.Dict [] [] pos) (dnewC true) := PE.imp pe_dnewT fun σ H Q ⟨F, G, l, r0, S, hr, hs, hp⟩ p hpn => by
  have h2 := hr.newC (o := .dT []) (c := .dct true [] []) hpn rfl ⟨hr.fnone hpn, Nat.zero_le _, [], rfl, .inr ⟨rfl, [], upd_same, rfl, rfl⟩⟩
  refine hp _ _ _ _ ⟨Le.refl F, Pre.app _ _, h2⟩ ⟨p, ?_, rfl⟩
  rw [← hr.len]; simp
/-- {}, frozen -/
theorem pd_dnewKF : PD X T W (.Dict [] [] pos) (retO (.dct ⟨false, false⟩ [] [])) := PE.imp pe_dnewK fun σ H Q ⟨F, G, l, r0, S, hr, hs, hp⟩ p hpn => by
  exact hp _ l _ _ ⟨Le.new (hr.fnone hpn), Pre.refl _, hr.newF (o := .dK []) hpn⟩ ⟨p, [], rfl, rfl, Nat.zero_le _, .inl ⟨rfl, [], .free (.inl upd_same), rfl, rfl⟩⟩
theorem pd_dnewTF : PD X T W (.Dict [] [] pos) (retO (.dct ⟨true, false⟩ [] [])) := PE.imp pe_dnewT fun σ H Q ⟨F, G, l, r0, S, hr, hs, hp⟩ p hpn => by
  exact hp _ l _ _ ⟨Le.new (hr.fnone hpn), Pre.refl _, hr.newF (o := .dT []) hpn⟩ ⟨p, [], rfl, rfl, Nat.zero_le _, .inr ⟨rfl, [], .free (.inl upd_same), rfl, rfl⟩⟩
end
/-! ### displays -/
def pairsE : List (Sem D × Sem D) → Sem (List D × List D)
  | [] => retO ([], [])
  | (fk, fv) :: ps => bindO fk fun k => bindO fv fun v => bindO (pairsE ps) fun q => retO (k :: q.1, v :: q.2)
def mergeD : List D → List D → List D → List D → List D × List D
  | ks, ws, k :: ks', w :: ws' => mergeD (putKs ks k) (putWs ks ws k w) ks' ws'
  | ks, ws, _, _ => (ks, ws)

def keysOk (ks : List D) : Bool := ks.all fun k => (keyOf k).isSome
abbrev rlP (K : PySem.W.Frag) : Rl (List D × List D) (List (V × V)) := fun F l a b => AtL K F l a.1 (b.map (·.1)) ∧ AtL K F l a.2 (b.map (·.2))
theorem pairs_wp {K : PySem.W.Frag} {T : List (Addr × Str)} {W : WX} : ∀ {ps : List (Sem D × Sem D)} {σ : St} {H : Hp} {Q : List (V × V) → Hp → Prop}, wp K T W (rlP K) (pairsE ps) σ H Q → tPairs (ps.map fun p => (wp K T W (rE K) p.1, wp K T W (rE K) p.2)) σ H Q
  | [], σ, H, Q, h => by
    obtain ⟨F, G, l, r0, S, hr, hs, hp⟩ := h
    exact hp F l H [] (Later.refl hr) ⟨rfl, rfl⟩
  | (fk, fv) :: ps, σ, H, Q, h => by
    obtain ⟨F, G, l, r0, S, hr, hs, hp⟩ := h
    refine wp_step (rl' := rlP K) hr hs hp fun F1 l1 S1 k x H1 lt1 hs1 hk hp1 => ?_
    refine wp_step (rl' := rlP K) lt1.rel hs1 hp1 fun F2 l2 S2 v y H2 lt2 hs2 hv hp2 => ?_
    refine pairs_wp ⟨F2, G, l2, r0, S2, lt2.rel, hs2, ?_⟩
    have hk := At.mono lt2.le lt2.pre _ _ hk
    unfold bindO at hp2
    cases e : pairsE ps r0 S2 with
    | ok q S3 =>
      rw [e] at hp2
      intro F' l' H' b lt hb
      exact hp2 F' l' H' _ lt ⟨⟨x, _, rfl, At.mono lt.le lt.pre _ _ hk, hb.1⟩, ⟨y, _, rfl, At.mono lt.le lt.pre _ _ hv, hb.2⟩⟩
    | err c S3 => rw [e] at hp2; exact hp2
    | stuck => rw [e] at hp2; exact hp2
theorem kvs_of {K : PySem.W.Frag} {F : Hp} {l : List Addr} : ∀ {ks ws : List D} {ps : List (V × V)}, AtL K F l ks (ps.map (·.1)) → AtL K F l ws (ps.map (·.2)) → keysOk ks = true → ∃ kvs : List (Key × V), ps = kvs.map (fun kv => (kV kv.1, kv.2)) ∧ ks = kvs.map (fun p => keyD p.1) ∧ AtL K F l ws (kvs.map (·.2)) ∧ kvs.length = ks.length
  | [], ws, [], h1, h2, h3 => ⟨[], rfl, rfl, h2, rfl⟩
  | [], ws, p :: ps, h1, h2, h3 => by simp [AtL] at h1
  | k :: ks, ws, [], h1, h2, h3 => by simp [AtL] at h1
  | k :: ks, ws, p :: ps, h1, h2, h3 => by
    obtain ⟨v, vs, e, a1, a2⟩ := h1
    injection e with e1 e2
    subst e1 e2
    simp only [keysOk, List.all_cons, Bool.and_eq_true] at h3
    obtain ⟨key, ek⟩ := Option.isSome_iff_exists.mp h3.1
    cases ws with
    | nil => simp [AtL] at h2
    | cons w ws =>
      obtain ⟨v', vs', e', b1, b2⟩ := h2
      injection e' with e1 e2
      subst e1 e2
      obtain ⟨kvs, c1, c2, c3, c4⟩ := kvs_of a2 b2 h3.2
      refine ⟨(key, p.2) :: kvs, ?_, ?_, ⟨_, _, rfl, b1, c3⟩, by simp [c4]⟩
      · rw [List.map_cons, ← c1, ← key_at a1 ek]
      · rw [List.map_cons, ← c2, ← keyOf_eq ek]
theorem merge_at {K : PySem.W.Frag} {F : Hp} {l : List Addr} : ∀ {more kvs : List (Key × V)} {ws ws' : List D}, AtL K F l ws (kvs.map (·.2)) → AtL K F l ws' (more.map (·.2)) →
    (mergeD (kvs.map fun p => keyD p.1) ws (more.map fun p => keyD p.1) ws').1 = (mergeK kvs more).map (fun p => keyD p.1) ∧ AtL K F l (mergeD (kvs.map fun p => keyD p.1) ws (more.map fun p => keyD p.1) ws').2 ((mergeK kvs more).map (·.2))
  | [], kvs, ws, ws', h1, h2 => ⟨rfl, h1⟩
  | p :: more, kvs, ws, [], h1, h2 => by simp [AtL] at h2
  | p :: more, kvs, ws, w :: ws', h1, h2 => by
    obtain ⟨v, vs, e, b1, b2⟩ := h2
    injection e with e1 e2
    subst e1 e2
    obtain ⟨q1, q2⟩ := put_at keyD_inj p.1 b1 h1
    have ih := merge_at (more := more) (kvs := putK kvs p.1 p.2) q2 b2
    rw [← q1] at ih
    exact ih
theorem mergeD_len : ∀ (ks' ws' ks ws : List D), (mergeD ks ws ks' ws').1.length ≤ ks.length + ks'.length
  | [], _, ks, ws => by simp [mergeD]
  | k :: ks', [], ks, ws => by simp [mergeD]
  | k :: ks', w :: ws', ks, ws => by
    have h1 := mergeD_len ks' ws' (putKs ks k) (putWs ks ws k w)
    have h2 := putKs_len ks k
    simp only [mergeD, List.length_cons]; omega
def dispWith (fin : List D → List D → Store → Out D) (ps : List (Sem D × Sem D)) : Sem D := bindO (pairsE ps) fun q => fun _ S => if keysOk q.1 = true ∧ q.1.length ≤ 15 then fin (mergeD [] [] q.1 q.2).1 (mergeD [] [] q.1 q.2).2 S else .stuck
def dispC : List (Sem D × Sem D) → Sem D := dispWith fun ks ws S => .ok (.loc S.length) (S ++ [.dct false ks ws])
def dispF : List (Sem D × Sem D) → Sem D := dispWith fun ks ws S => .ok (.dct ⟨false, false⟩ ks ws) S
theorem disp_wp {K : PySem.W.Frag} {T : List (Addr × Str)} {W : WX} {fin : List D → List D → Store → Out D} {ps : List (Sem D × Sem D)} {σ : St} {H : Hp} {Q : VK}
    (hfin : ∀ {F G : Hp} {H : Hp} {l : List Addr} {S : Store} {kvs : List (Key × V)} {ws : List D} {σ : St} {Q : VK} {p : Addr}, HRel K T F (upd G p (.dK kvs)) l S H → G p = none → AtL K F l ws (kvs.map (·.2)) → kvs.length ≤ sizeLine → PostG K T W (rE K) F G l σ Q (fin (kvs.map fun p => keyD p.1) ws S) → Q (.ref p) H)
    (q : wp K T W (rE K) (dispWith fin ps) σ H Q) : tDisp (ps.map fun p => (wp K T W (rE K) p.1, wp K T W (rE K) p.2)) σ H Q := by
  obtain ⟨F, G, l, r0, S, hr, hs, hp⟩ := q
  intro p hpn
  refine pairs_wp ⟨F, _, l, r0, S, hr.gAdd (o := .dK []) hpn, hs, ?_⟩
  have gp := hr.gnone hpn
  unfold dispWith bindO at hp
  cases e : pairsE ps r0 S with
  | ok q S3 =>
    rw [e] at hp
    simp only at hp
    intro F' l' H' b lt hb
    by_cases hk : keysOk q.1 = true ∧ q.1.length ≤ 15
    · rw [if_pos hk] at hp
      refine ⟨lt.rel.gr _ _ upd_same, ?_⟩
      obtain ⟨kvs, c1, c2, c3, c4⟩ := kvs_of hb.1 hb.2 hk.1
      refine ⟨kvs, c1, by rw [c4]; exact hk.2, ?_⟩
      have m := merge_at (K := K) (F := F') (l := l') (more := kvs) (kvs := []) (ws := []) rfl c3
      rw [← c2] at m
      have m1 : (mergeD [] [] q.1 q.2).1 = _ := m.1
      have m2 : AtL K F' l' (mergeD [] [] q.1 q.2).2 _ := m.2
      have h2 := lt.rel.gSet (o := .dK (mergeK [] kvs)) rfl
      have hl := mergeD_len q.1 q.2 [] []
      refine hfin h2 gp m2 ?_ (PostG.mono lt.le lt.pre (by rw [m1] at hp; exact hp))
      rw [m1, List.length_map] at hl
      exact Nat.le_trans hl (Nat.le_trans (by simpa using hk.2) (show (15 : Nat) ≤ sizeLine by decide))
    · rw [if_neg hk] at hp; exact hp.elim
  | err c S3 =>
    rw [e] at hp
    exact fun F' l' H' lt => hp F' l' H' ⟨lt.le, lt.pre, lt.rel.gDrop gp⟩
  | stuck => rw [e] at hp; exact hp
theorem fin_dct {K : PySem.W.Frag} {T : List (Addr × Str)} {W : WX} {F G H : Hp} {l : List Addr} {S : Store} {kvs : List (Key × V)} {ws : List D} {σ : St} {Q : VK} {p : Addr} (hr : HRel K T F (upd G p (.dK kvs)) l S H) (hg : G p = none) (ha : AtL K F l ws (kvs.map (·.2))) (hl : kvs.length ≤ sizeLine)
    (hp : PostG K T W (rE K) F G l σ Q (.ok (.dct ⟨false, false⟩ (kvs.map fun p => keyD p.1) ws) S)) : Q (.ref p) H := by
  have fp : F p = none := by
    cases e : F p with
    | none => rfl
    | some w => have := hr.fg p w e; rw [upd_same] at this; cases this
  exact hp _ l H _ ⟨Le.new fp, Pre.refl _, hr.gToF hg⟩ ⟨p, _, rfl, AtL.mono (Le.new fp) (Pre.refl _) _ _ ha, by simpa using hl, .inl ⟨rfl, kvs, .free (.inl upd_same), rfl, rfl⟩⟩
theorem fin_dctC {K : PySem.W.Frag} {T : List (Addr × Str)} {W : WX} {F G H : Hp} {l : List Addr} {S : Store} {kvs : List (Key × V)} {ws : List D} {σ : St} {Q : VK} {p : Addr} (hr : HRel K T F (upd G p (.dK kvs)) l S H) (hg : G p = none) (ha : AtL K F l ws (kvs.map (·.2))) (hl : kvs.length ≤ sizeLine)
    (hp : PostG K T W (rE K) F G l σ Q (.ok (.loc S.length) (S ++ [.dct false (kvs.map fun p => keyD p.1) ws]))) : Q (.ref p) H := by
  have fp : F p = none := by
    cases e : F p with
    | none => rfl
    | some w => have := hr.fg p w e; rw [upd_same] at this; cases this
  refine hp _ _ H _ ⟨Le.refl F, Pre.app _ _, hr.gToC (c := .dct false (kvs.map fun p => keyD p.1) ws) hg rfl ⟨fp, by simpa using hl, _, AtL.mono (Le.refl F) (Pre.app _ _) _ _ ha, .inl ⟨rfl, kvs, hr.gr _ _ upd_same, rfl, rfl⟩⟩⟩ ⟨p, ?_, rfl⟩
  rw [← hr.len]; simp
section
variable {X : Cx} {T : List (Addr × Str)} {W : WX} {pos : Pos} {e i : Expr} {ks : List (Option Expr)} {vs : List Expr} {f g : Sem D} {ps : List (Sem D × Sem D)}
def PDP (X : Cx) (T : List (Addr × Str)) (W : WX) (pos : Pos) (ks : List (Option Expr)) (vs : List Expr) (ps : List (Sem D × Sem D)) : Prop := PPs X pos ks vs (ps.map fun p => (wp X.K T W (rE X.K) p.1, wp X.K T W (rE X.K) p.2))
theorem pdp_nil : PDP X T W pos [] [] [] := pps_nil
theorem pdp_cons (h1 : PD X T W i f) (h2 : PD X T W e g) (h3 : PDP X T W pos ks vs ps) : PDP X T W pos (some i :: ks) (e :: vs) ((f, g) :: ps) := pps_cons h1 h2 h3
theorem pd_dispC (h : PDP X T W pos ks vs ps) (hall : ks.all (·.isSome) = true := by rfl) (hl : ks.length = vs.length := by rfl) (h0 : ks ≠ [] := by exact List.cons_ne_nil _ _) (h15 : ks.length ≤ 15 := by decide) : PD X T W (.Dict ks vs pos) (dispC ps) :=
  PE.imp (pe_disp h hall hl h0 h15) fun σ H Q q => disp_wp (fun a b c d e => fin_dctC a b c d e) q
theorem pd_dispF (h : PDP X T W pos ks vs ps) (hall : ks.all (·.isSome) = true := by rfl) (hl : ks.length = vs.length := by rfl) (h0 : ks ≠ [] := by exact List.cons_ne_nil _ _) (h15 : ks.length ≤ 15 := by decide) : PD X T W (.Dict ks vs pos) (dispF ps) :=
  PE.imp (pe_disp h hall hl h0 h15) fun σ H Q q => disp_wp (fun a b c d e => fin_dct a b c d e) q
end
/-! ### built-ins -/
section
variable {K : PySem.W.Frag} {T : List (Addr × Str)}
/-- len of a dict -/
def lenDG : GC := fun S as => match as with
  | [d] => match dctOf S d with
    | some (_, ks, _) => some (.int (ks.length : Nat), S)
    | none => none
  | _ => none
def rLenD : List V → Hp → VK → Prop := fun xs H Q => ∃ a, xs = [V.ref a] ∧ ((∃ kvs, Rd H a (.dK kvs) ∧ Q (.int (kvs.length : Nat)) H) ∨ ∃ kvs, Rd H a (.dT kvs) ∧ Q (.int (kvs.length : Nat)) H)
theorem cr_lenD {X : Cx} : CallR X (.builtin "len") rLenD := by
  intro pins s σ H xs us Q I r h
  obtain ⟨a, rfl, ⟨kvs, ha, q⟩ | ⟨kvs, ha, q⟩⟩ := h
  · obtain ⟨u, rfl, ru⟩ := vals1 r
    cases ru
    exact d_len I ha fun t s' I' => ⟨.int kvs.length, H, I', ⟨t, rfl⟩, q⟩
  · obtain ⟨u, rfl, rx⟩ := vals1 r
    obtain rfl : u = .ref a := rx
    obtain ⟨z, hd, ys, rel, dd⟩ := dt_rd I.hok ha
    have hl : kvs.length = ys.length := Paired.length rel
    refine call_len_dictH hd dd (by rw [← hl]; rw [sizeLine_eq] at z; omega) ?_
    rw [← hl]
    exact ⟨.int ((kvs.length : Nat) : Int), H, I.tok _, ⟨_, rfl⟩, q⟩
theorem calld_lenD : CallD K T rLenD lenDG := by
  intro F G l S H ds d S' xs Q hr ha e k
  unfold lenDG at e
  split at e
  · rename_i c
    obtain ⟨v, rfl, hv⟩ := AtL.one ha
    split at e
    · rename_i t ks ws e1
      cases e
      obtain ⟨a, vs, rfl, h1, h2, h3⟩ := dctOf_at hr hv e1
      refine ⟨a, rfl, ?_⟩
      rcases h3 with ⟨_, kvs, h4, rfl, _⟩ | ⟨_, kvs, h4, rfl, _⟩
      · exact .inl ⟨kvs, h4, by have := k F l H (.int (kvs.length : Nat)) (Later.refl hr) (by simp [At]); exact this⟩
      · exact .inr ⟨kvs, h4, by have := k F l H (.int (kvs.length : Nat)) (Later.refl hr) (by simp [At]); exact this⟩
    · cases e
  · cases e
end
end Aw


/-! AwE: dicts locked, walked; their lists; comprehensions. -/
namespace Aw
open PySem L2 LamX

section
variable {K : PySem.W.Frag} {T : List (Addr × Str)} {F F' G H : Hp} {l : List Addr} {S : Store} {a : Addr} {u : HO} {od : Obj}
theorem bareD_cell (h : bareD u = true) : isCellO u = true := by cases u <;> first | rfl | cases h
theorem bareD_mut (h : bareD u = true) : Mut (some u) := by cases u <;> first | exact True.intro | cases h
/-- a frozen dict is locked -/
theorem HRel.lockF (h : HRel K T F G l S H) (ha : F a = some u) (hu : bareD u = true) (od : Obj) : Later K T F G l (upd F a (.frz od u)) l S (upd H a (.frz od u)) := by
  have hH := h.fz a u ha
  have le : Le F (upd F a (.frz od u)) := fun b o e => by
    by_cases q : b = a
    · subst q
      rw [ha] at e; cases e
      exact .inr ⟨hu, od, upd_same⟩
    · exact .inl (by rw [upd_ne q]; exact e)
  have hcu := bareD_cell hu
  refine ⟨le, Pre.refl l, fun b o e => ?_, fun b o e => ?_, fun b o e => ?_, fun i j b h1 h2 h3 => h.nd i j b h1 h2 ?_, h.len, h.gl, fun b hb => ?_, fun b hb o e => ?_, fun q hq => ?_, fun n c e => ?_, h.gc⟩
  · by_cases q : b = a
    · subst q; rw [upd_same] at e ⊢; exact e
    · rw [upd_ne q] at e ⊢; exact h.fz b o e
  · have q : b ≠ a := fun z => by rw [z, h.fg a u ha] at e; cases e
    rw [upd_ne q]; exact h.gr b o e
  · by_cases q : b = a
    · subst q; exact h.fg b u ha
    · rw [upd_ne q] at e; exact h.fg b o e
  · by_cases q : b = a
    · subst q; rw [upd_same] at h3; cases h3
    · rw [upd_ne q] at h3; exact h3
  · by_cases q : b = a
    · subst q; rw [upd_same]; simp
    · rw [upd_ne q]; exact h.al b hb
  · by_cases q : b = a
    · subst q; rw [upd_same] at e; cases e; rfl
    · rw [upd_ne q] at e; exact h.tb b hb o e
  · obtain ⟨ps, h1, h2, h3⟩ := h.tabs q hq
    refine ⟨ps, ?_, h2, fun pos cv hcv => ?_⟩
    · rw [upd_ne]
      · exact h1
      · intro z; rw [z, hH] at h1; cases h1; cases hcu
    · obtain ⟨c, e1, e2⟩ := h3 pos cv hcv
      refine ⟨c, e1, ?_⟩
      rw [upd_ne]
      · exact e2
      · intro z; rw [z, hH] at e2
        have e2 := Option.some.inj e2
        rw [e2] at hcu; cases hcu
  · obtain ⟨b, h1, h2⟩ := h.cell n c e
    refine ⟨b, h1, ?_⟩
    have nb : F b = none → b ≠ a := fun z z2 => by rw [z2, ha] at z; cases z
    cases c with
    | lst ds =>
      obtain ⟨h3, h4, vs, h5, h6⟩ := h2
      exact ⟨by rw [upd_ne (nb h3)]; exact h3, h4, vs, by rw [upd_ne (nb h3)]; exact h5, AtL.mono le (Pre.refl l) _ _ h6⟩
    | dct t ks ws =>
      obtain ⟨h3, h4, vs, h5, h6⟩ := h2
      refine ⟨by rw [upd_ne (nb h3)]; exact h3, h4, vs, AtL.mono le (Pre.refl l) _ _ h5, ?_⟩
      rw [upd_ne (nb h3)]; exact h6
    | fz d => exact At.mono le (Pre.refl l) _ _ h2
/-- a tuple that stands is frozen -/
theorem HRel.tupF {vs : List V} (h : HRel K T F G l S H) (ha : H a = some (.tup vs)) : ∃ F', Later K T F G l F' l S H ∧ F' a = some (.tup vs) := by
  cases e : F a with
  | some o =>
    have := h.fz a o e
    rw [ha] at this; cases this
    exact ⟨F, Later.refl h, e⟩
  | none =>
    have ga : G a = none := by
      cases q : G a with
      | none => rfl
      | some o =>
        have h1 := h.gr a o q
        rw [ha] at h1; cases h1
        have := h.gc a _ q
        cases this
    have le : Le F (upd F a (.tup vs)) := Le.new e
    have nl : ∀ b, b ∈ l → b ≠ a := fun b hb z => by
      have := h.tb b hb (.tup vs) (by rw [z]; exact ha)
      cases this
    refine ⟨upd F a (.tup vs), ⟨le, Pre.refl l, fun b o q => ?_, h.gr, fun b o q => ?_, fun i j b h1 h2 h3 => h.nd i j b h1 h2 ?_, h.len, h.gl, h.al, h.tb, h.tabs, fun n c q => ?_, h.gc⟩, upd_same⟩
    · by_cases z : b = a
      · subst z; rw [upd_same] at q; cases q; exact ha
      · rw [upd_ne z] at q; exact h.fz b o q
    · by_cases z : b = a
      · subst z; exact ga
      · rw [upd_ne z] at q; exact h.fg b o q
    · by_cases z : b = a
      · subst z; exact e
      · rw [upd_ne z] at h3; exact h3
    · obtain ⟨b, h1, h2⟩ := h.cell n c q
      exact ⟨b, h1, h2.mono le (Pre.refl l) (upd_ne (nl b (List.mem_of_getElem? h1))) rfl⟩
end
/-- from now on a dict may be walked -/
def lockD : D → D
  | .dct t ks ws => .dct ⟨t.t, true⟩ ks ws
  | d => d
def lockE (f : Sem D) : Sem D := bindO f fun d => retO (lockD d)
section
variable {X : Cx} {T : List (Addr × Str)} {W : WX} {k : Nat} {pos p apos cpos : Pos} {e tg : Expr} {f : Sem D}
theorem pe_frz {t : TE} (h : PE X e t) : PE X e (fun σ H Q => t σ H fun v H1 => Q v H1 ∨ ∃ d u, v = .ref d ∧ H1 d = some u ∧ Mut (some u) ∧ ∀ od, Q v (upd H1 d (.frz od u))) := by
  refine ⟨fun pins s σ H Q I hw => ?_⟩
  refine thn (h.run pins s σ H _ I hw) fun v s1 ⟨x, H1, I1, rx, q⟩ => ?_
  rcases q with q | ⟨d, u, rfl, hd, mu, q⟩
  · exact ⟨x, H1, I1, rx, q⟩
  · obtain ⟨od, I2⟩ := I1.lock hd mu
    exact ⟨_, _, I2, rx, q od⟩
theorem pd_lock (h : PD X T W e f) : PD X T W e (lockE f) := PE.imp (pe_frz h) fun σ H Q ⟨F, G, l, r0, S, hr, hs, hp⟩ => by
  refine wp_step hr hs hp fun F1 l1 S1 d v H1 lt1 hs1 hd hp1 => ?_
  have go : ∀ F2 H2, Later X.K T F1 G l1 F2 l1 S1 H2 → At X.K F2 l1 (lockD d) v → Q v H2 := fun F2 H2 lt hv => hp1 F2 l1 H2 v lt hv
  cases d with
  | dct t ks ws =>
    have hd0 := hd
    obtain ⟨a, vs, rfl, h1, h2, h3⟩ := hd
    rcases h3 with ⟨ht, kvs, q, r1, r2⟩ | ⟨ht, kvs, q, r1, r2⟩
    · rcases q.1 with q1 | ⟨od, q1⟩
      · refine .inr ⟨a, _, rfl, lt1.rel.fz _ _ q1, True.intro, fun od => ?_⟩
        have lt := lt1.rel.lockF q1 rfl od
        exact go _ _ lt ⟨a, vs, rfl, AtL.mono lt.le lt.pre _ _ h1, h2, .inl ⟨ht, kvs, ⟨.inr ⟨od, upd_same⟩, fun _ => ⟨od, upd_same⟩⟩, r1, r2⟩⟩
      · exact .inl (go _ _ (Later.refl lt1.rel) ⟨a, vs, rfl, h1, h2, .inl ⟨ht, kvs, ⟨q.1, fun _ => ⟨od, q1⟩⟩, r1, r2⟩⟩)
    · rcases q.1 with q1 | ⟨od, q1⟩
      · refine .inr ⟨a, _, rfl, lt1.rel.fz _ _ q1, True.intro, fun od => ?_⟩
        have lt := lt1.rel.lockF q1 rfl od
        exact go _ _ lt ⟨a, vs, rfl, AtL.mono lt.le lt.pre _ _ h1, h2, .inr ⟨ht, kvs, ⟨.inr ⟨od, upd_same⟩, fun _ => ⟨od, upd_same⟩⟩, r1, r2⟩⟩
      · exact .inl (go _ _ (Later.refl lt1.rel) ⟨a, vs, rfl, h1, h2, .inr ⟨ht, kvs, ⟨q.1, fun _ => ⟨od, q1⟩⟩, r1, r2⟩⟩)
  | _ => exact .inl (go _ _ (Later.refl lt1.rel) hd)
/-! ### walks -/
theorem kV_at {K : PySem.W.Frag} {F : Hp} {l : List Addr} (k : Key) : At K F l (keyD k) (kV k) := by
  cases k <;> simp [keyD, kV, At]
theorem kVs_at {K : PySem.W.Frag} {F : Hp} {l : List Addr} : ∀ ks : List Key, AtL K F l (ks.map keyD) (ks.map kV)
  | [] => rfl
  | k :: ks => ⟨_, _, rfl, kV_at k, kVs_at ks⟩
def kLen : D → Bool
  | .tup ds => decide (ds.length ≤ 100000)
  | _ => true
def asKeys : D → Sem (List D)
  | .dct t ks _ => if t.lk = true ∧ ks.all kLen = true then retO ks else fun _ _ => .stuck
  | _ => fun _ _ => .stuck
def itKeys (f : Sem D) : Sem (List D) := bindO f asKeys
theorem itok_keys {K : PySem.W.Frag} {F : Hp} {l : List Addr} {kvs : List (Key × V)} {a : Addr} {od : Obj} (h : F a = some (.frz od (.dK kvs))) : ItOk K T (Itk a od kvs) F l (kvs.map fun p => keyD p.1) where
  go := fun F1 G1 l1 S1 H1 i e p hr hi => ⟨hr.fz _ _ (e.app h), by simpa using hi⟩
  stop := fun F1 G1 l1 S1 H1 e p hr => ⟨hr.fz _ _ (e.app h), by simp⟩
  yld := fun F1 G1 l1 S1 H1 i x H2 e p hr hi hy => by
    obtain ⟨rfl, k, v, h1, rfl⟩ := hy
    exact ⟨F1, keyD k, Later.refl hr, by rw [List.getElem?_map, h1]; rfl, kV_at k⟩
theorem itok_keysT {K : PySem.W.Frag} {F : Hp} {l : List Addr} {kvs : List (List Key × V)} {a : Addr} {od : Obj} (h : F a = some (.frz od (.dT kvs))) (hz : ∀ p ∈ kvs, p.1.length ≤ sizeLine) : ItOk K T (Itkt a od kvs) F l (kvs.map fun p => .tup (p.1.map keyD)) where
  go := fun F1 G1 l1 S1 H1 i e p hr hi => ⟨hr.fz _ _ (e.app h), by simpa using hi⟩
  stop := fun F1 G1 l1 S1 H1 e p hr => ⟨hr.fz _ _ (e.app h), by simp⟩
  yld := fun F1 G1 l1 S1 H1 i x H2 e p hr hi hy => by
    obtain ⟨rfl, k, v, q, h1, rfl, h2⟩ := hy
    obtain ⟨F2, lt, h3⟩ := hr.tupF h2
    refine ⟨F2, .tup (k.map keyD), lt, by rw [List.getElem?_map, h1]; rfl, q, _, rfl, h3, ?_, kVs_at k⟩
    rw [List.length_map]
    exact hz _ (List.mem_of_getElem? h1)
theorem kLen_sz {kvs : List (List Key × V)} (h : (kvs.map fun p => D.tup (p.1.map keyD)).all kLen = true) : ∀ p ∈ kvs, p.1.length ≤ sizeLine := fun p hp => by
  have := List.all_eq_true.mp h _ (List.mem_map.mpr ⟨p, hp, rfl⟩)
  simp only [kLen, decide_eq_true_eq, List.length_map] at this
  exact sz_of this
theorem pdi_keys (h : PD X T W e f) : PDI X T W tg e (itKeys f) := PI.imp (pi_keys h) fun σ H R q => by
  obtain ⟨F, G, l, r0, S, hr, hs, hp⟩ := q
  refine wpI_step hr hs hp fun F1 l1 S1 d x H1 lt1 hs1 hd hp1 => ?_
  unfold asKeys at hp1
  split at hp1
  · rename_i t ks ws
    split at hp1
    · rename_i hk
      obtain ⟨a, vs, rfl, h1, h2, h3⟩ := hd
      rcases h3 with ⟨ht, kvs, q, rfl, r2⟩ | ⟨ht, kvs, q, rfl, r2⟩
      · obtain ⟨od, q⟩ := q.2 hk.1
        exact ⟨a, od, rfl, .inl ⟨kvs, lt1.rel.fz _ _ q, hp1 F1 l1 H1 _ (Later.refl lt1.rel) (itok_keys q)⟩⟩
      · obtain ⟨od, q⟩ := q.2 hk.1
        exact ⟨a, od, rfl, .inr ⟨kvs, lt1.rel.fz _ _ q, hp1 F1 l1 H1 _ (Later.refl lt1.rel) (itok_keysT q (kLen_sz hk.2))⟩⟩
    · exact hp1.elim
  · exact hp1.elim
def asItems : D → Sem (List D)
  | .dct t ks ws => if t.lk = true ∧ t.t = false then retO (zipD ks ws) else fun _ _ => .stuck
  | _ => fun _ _ => .stuck
def itItems (f : Sem D) : Sem (List D) := bindO f asItems
theorem zipD_kvs {K : PySem.W.Frag} {F : Hp} {l : List Addr} : ∀ {kvs : List (Key × V)} {ws : List D}, AtL K F l ws (kvs.map (·.2)) → (zipD (kvs.map fun p => keyD p.1) ws).length = kvs.length ∧ ∀ (i : Nat) (k : Key) (v : V), kvs[i]? = some (k, v) → ∃ w, (zipD (kvs.map fun p => keyD p.1) ws)[i]? = some (.tup [keyD k, w]) ∧ At K F l w v
  | [], ws, h => ⟨by cases AtL.nil_inv h; rfl, fun i k v e => by simp at e⟩
  | p :: kvs, [], h => by simp [AtL] at h
  | p :: kvs, w :: ws, h => by
    obtain ⟨v, vs, e, b1, b2⟩ := h
    injection e with e1 e2
    subst e1 e2
    obtain ⟨i1, i2⟩ := zipD_kvs b2
    refine ⟨by simp [zipD, i1], fun i k v e => ?_⟩
    cases i with
    | zero => simp at e; subst e; exact ⟨w, rfl, b1⟩
    | succ i => exact i2 i k v (by simpa using e)
theorem itok_items {K : PySem.W.Frag} {F : Hp} {l : List Addr} {kvs : List (Key × V)} {ws : List D} {a : Addr} {od : Obj} (h : F a = some (.frz od (.dK kvs))) (hw : AtL K F l ws (kvs.map (·.2))) : ItOk K T (Iti a od kvs) F l (zipD (kvs.map fun p => keyD p.1) ws) where
  go := fun F1 G1 l1 S1 H1 i e p hr hi => ⟨hr.fz _ _ (e.app h), by rw [(zipD_kvs hw).1] at hi; exact hi⟩
  stop := fun F1 G1 l1 S1 H1 e p hr => ⟨hr.fz _ _ (e.app h), by rw [(zipD_kvs hw).1]; exact Nat.le_refl _⟩
  yld := fun F1 G1 l1 S1 H1 i x H2 e p hr hi hy => by
    obtain ⟨q, k, v, h1, rfl, hq, rfl⟩ := hy
    obtain ⟨w, h2, h3⟩ := (zipD_kvs hw).2 i k v h1
    have fq := hr.fnone hq
    refine ⟨upd F1 q (.tup [kV k, v]), _, ⟨Le.new fq, Pre.refl _, hr.newF hq⟩, h2, q, _, rfl, upd_same, two_sz, ?_⟩
    exact ⟨_, _, rfl, kV_at k, _, _, rfl, At.mono (e.trans (Le.new fq)) p _ _ h3, rfl⟩
theorem pdi_items {elts : List Expr} {kk : Nat} {tpos : Pos} (h : PD X T W e f) (hbase : attributeBase e "items" X.env (eval e X.env) = eval e X.env := by rfl) (hline : (apos.endLine == cpos.line) = true := by rfl) : PDI X T W (.Tuple elts kk tpos) (.Call (.Attribute e "items" apos) [] [] cpos) (itItems f) :=
  PI.imp (pi_items h hbase hline) fun σ H R q => by
  obtain ⟨F, G, l, r0, S, hr, hs, hp⟩ := q
  refine wpI_step hr hs hp fun F1 l1 S1 d x H1 lt1 hs1 hd hp1 => ?_
  unfold asItems at hp1
  split at hp1
  · rename_i t ks ws
    split at hp1
    · rename_i hk
      obtain ⟨a, vs, rfl, h1, h2, h3⟩ := hd
      rcases h3 with ⟨ht, kvs, q, rfl, rfl⟩ | ⟨ht, kvs, q, rfl, rfl⟩
      · obtain ⟨od, q⟩ := q.2 hk.1
        exact ⟨a, od, kvs, rfl, lt1.rel.fz _ _ q, hp1 F1 l1 H1 _ (Later.refl lt1.rel) (itok_items q h1)⟩
      · rw [hk.2] at ht; cases ht
    · exact hp1.elim
  · exact hp1.elim
end
/-! ### range with a step -/
def rangeI3 : List D → Sem (List D)
  | [.int i, .int j, .int c] => if c ≠ 0 ∧ c.natAbs < 1073741824 ∧ PySem.Builtin.Range.small i j c = true ∧ 0 ≤ PySem.Builtin.Range.rangeSize i j c then retO ((List.range (PySem.Builtin.Range.rangeSize i j c).toNat).map fun k => D.int (i + (k : Nat) * c)) else fun _ _ => .stuck
  | _ => fun _ _ => .stuck
def itRange3 (f : Sem (List D)) : Sem (List D) := bindO f rangeI3
section
variable {X : Cx} {T : List (Addr × Str)} {W : WX} {p pos : Pos} {tg : Expr}
theorem itok_rangeC {K : PySem.W.Frag} {F : Hp} {l : List Addr} {lo c : Int} {n : Nat} : ItOk K T (Itc lo c n) F l ((List.range n).map fun k => D.int (lo + (k : Nat) * c)) where
  go := fun F1 G1 l1 S1 H1 i e p hr hi => by
    have : i < n := by simpa using hi
    exact this
  stop := fun F1 G1 l1 S1 H1 e p hr => by simp [Itc]
  yld := fun F1 G1 l1 S1 H1 i x H2 e p hr hi hy => by
    obtain ⟨rfl, rfl⟩ := hy
    have hi : i < n := by simpa using hi
    exact ⟨F1, .int (lo + (i : Nat) * c), Later.refl hr, by rw [List.getElem?_map, List.getElem?_range hi]; rfl, rfl⟩
theorem pdi_range3 {f : Sem (List D)} {a b c : Expr} (hg : Gl X "range") (hm : X.mg "range" = none) (ha : PDA X T W [a, b, c] f) (hs : starEach [a, b, c] X.env = (false, eval a X.env) :: starEach [b, c] X.env := by rfl) (hpl : (backTo pos (starEach [b, c] X.env)).any (·.1) = false := by rfl) : PDI X T W tg (.Call (.Name "range" p) [a, b, c] [] pos) (itRange3 f) :=
  PI.imp (pi_range3 hg hm ha hs hpl) fun σ H R q => by
  obtain ⟨F, G, l, r0, S, hr, hs, hp⟩ := q
  refine wpI_step hr hs hp fun F1 l1 S1 a x H1 lt1 hs1 ha hp1 => ?_
  unfold rangeI3 at hp1
  split at hp1
  · rename_i i j c
    obtain ⟨v, w, u, rfl, h1, h2, h3⟩ := AtL.three ha
    cases h1; cases h2; cases h3
    split at hp1
    · rename_i hk
      refine ⟨i, j, c, (PySem.Builtin.Range.rangeSize i j c).toNat, rfl, ⟨hk.1, hk.2.1, hk.2.2.1, (Int.toNat_of_nonneg hk.2.2.2).symm⟩, ?_⟩
      exact hp1 F1 l1 H1 _ (Later.refl lt1.rel) itok_rangeC
    · exact hp1.elim
  · exact hp1.elim
end
/-! ### list(d) -/
def rListDK : List V → Hp → VK → Prop := fun xs H Q => ∃ p kvs, xs = [.ref p] ∧ Rd H p (.dK kvs) ∧ ∀ q, H q = none → Q (.ref q) (upd H q (.lst (kvs.map fun kv => kV kv.1)))
theorem cr_listDK {X : Cx} (hc : X.calm = true) : CallR X (.type "list") rListDK := by
  intro pins s σ H xs us Q I r h
  obtain ⟨p, kvs, e, hk, q⟩ := h
  subst e
  obtain ⟨u, eu, rx⟩ := vals1 r
  subst eu
  obtain rfl : u = Value.ref p := rx
  obtain ⟨z, lo, vs, rk, hd⟩ := (show ObjOk X.prog X.w H s.heap p (.dK kvs) from hk.ok I.hok)
  obtain ⟨ep, hat⟩ := hd.dictAt
  have hl : kvs.length = vs.length := Paired.length rk
  refine PySem.W.kdl_call (PySem.W.kdl_dict (knd := mixKind X.prog X.w) (kvs := vs) (ep := ep) lo) (I.ok.hd hc) hat (by rw [← hl]; exact z) fun h' tk acc' c' hkeep hS hacc => ?_
  refine ⟨.ref s.heap.objs.size, upd H s.heap.objs.size (.lst (kvs.map fun kv => kV kv.1)), I.laid hkeep (Nat.le_refl _) (show ObjOk X.prog X.w _ _ _ (.lst (kvs.map fun kv => kV kv.1)) from ⟨?_, acc'.toList, c', ?_, ?_⟩), rfl, q _ (I.hok.fresh (Nat.le_refl _))⟩
  · rw [List.length_map]; exact z
  · have el : acc'.toList.length = acc'.size := by simp
    refine vals_of_at (by rw [List.length_map, el, hacc.1, hl]) fun j x w h1 h2 => ?_
    obtain ⟨k, y, hky, hi⟩ := hacc.2 j w (by rw [← Array.getElem?_toList]; exact h2)
    have e1 : (kvs.map (·.1))[j]? = some k := by
      rw [KV.keys rk, List.getElem?_map, hky] <;> rfl
    have e2 : (kvs.map fun kv => kV kv.1)[j]? = some (kV k) := by
      have e3 : (kvs.map fun kv => kV kv.1) = (kvs.map (·.1)).map kV := by rw [List.map_map] <;> rfl
      rw [e3, List.getElem?_map, e1] <;> rfl
    rw [e2] at h1
    cases h1
    exact keyIs_rel hi
  · rw [Array.toArray_toList]; exact hS
def rListDict : List V → Hp → VK → Prop := fun xs H Q => rListDK xs H Q ∨ ∃ d kvs, xs = [V.ref d] ∧ Rd H d (.dT kvs) ∧ ∀ p bs, H p = none → IsKeys H kvs bs → Q (.ref p) (upd H p (.lst (bs.map V.ref)))
theorem cr_listDict {X : Cx} (hc : X.calm = true) : CallR X (.type "list") rListDict := by
  intro pins s σ H xs us Q I r h
  rcases h with h | h
  · exact cr_listDK hc pins s σ H xs us Q I r h
  · exact call_list_dT hc pins s σ H xs us Q I r h
section
variable {K : PySem.W.Frag} {T : List (Addr × Str)} {F F' G H : Hp} {l : List Addr} {S : Store}
theorem keysF : ∀ {kvs : List (List Key × V)} {bs : List Addr} {F : Hp}, HRel K T F G l S H → IsKeys H kvs bs → (∀ p ∈ kvs, p.1.length ≤ sizeLine) → ∃ F', Later K T F G l F' l S H ∧ AtL K F' l (kvs.map fun p => D.tup (p.1.map keyD)) (bs.map V.ref)
  | [], [], F, hr, _, _ => ⟨F, Later.refl hr, rfl⟩
  | p :: kvs, b :: bs, F, hr, h, hz => by
    cases h with
    | cons h1 h2 =>
      obtain ⟨F1, lt1, e1⟩ := hr.tupF h1
      obtain ⟨F2, lt2, e2⟩ := keysF lt1.rel h2 fun q hq => hz q (List.mem_cons_of_mem _ hq)
      refine ⟨F2, lt1.trans lt2, _, _, rfl, ⟨b, _, rfl, lt2.le.app e1, ?_, kVs_at p.1⟩, e2⟩
      rw [List.length_map]; exact hz p List.mem_cons_self
  | [], _ :: _, _, _, h, _ => by cases h
  | _ :: _, [], _, _, h, _ => by cases h
def listDWith (fin : List D → Store → Option (D × Store)) : GC := fun S as => match as with
  | [d] => match dctOf S d with
    | some (_, ks, _) => if ks.all kLen = true ∧ ks.length ≤ 100000 then fin ks S else none
    | none => none
  | _ => none
def listDG : GC := listDWith fun ks S => some (.lst ks, S)
def listDGC : GC := listDWith fun ks S => some (.loc S.length, S ++ [.lst ks])
theorem listD_wp {fin : List D → Store → Option (D × Store)} (hfin : ∀ {F G H : Hp} {l : List Addr} {S S' : Store} {ks : List D} {vs : List V} {d : D} {p : Addr}, HRel K T F G l S H → AtL K F l ks vs → ks.length ≤ sizeLine → H p = none → fin ks S = some (d, S') → ∃ F' l', Later K T F G l F' l' S' (upd H p (.lst vs)) ∧ At K F' l' d (.ref p)) : CallD K T rListDict (listDWith fin) := by
  intro F G l S H ds d S' xs Q hr ha e k
  unfold listDWith at e
  split at e
  · rename_i c
    obtain ⟨v, rfl, hv⟩ := AtL.one ha
    split at e
    · rename_i t ks ws e1
      split at e
      · rename_i hk
        obtain ⟨a, vs, rfl, h1, h2, h3⟩ := dctOf_at hr hv e1
        rcases h3 with ⟨_, kvs, h4, rfl, _⟩ | ⟨_, kvs, h4, rfl, _⟩
        · refine .inl ⟨a, kvs, rfl, h4, fun q hq => ?_⟩
          have hat : AtL K F l (kvs.map fun p => keyD p.1) (kvs.map fun kv => kV kv.1) := by
            have := kVs_at (K := K) (F := F) (l := l) (kvs.map (·.1))
            rw [List.map_map, List.map_map] at this; exact this
          obtain ⟨F', l', lt, h5⟩ := hfin hr hat (sz_of hk.2) hq e
          exact k F' l' _ _ lt h5
        · refine .inr ⟨a, kvs, rfl, h4, fun q bs hq hb => ?_⟩
          obtain ⟨F1, lt1, h6⟩ := keysF hr hb (kLen_sz hk.1)
          obtain ⟨F', l', lt, h5⟩ := hfin lt1.rel h6 (sz_of hk.2) hq e
          exact k F' l' _ _ (lt1.trans lt) h5
      · cases e
    · cases e
  · cases e
theorem fin_lst {F G H : Hp} {l : List Addr} {S S' : Store} {ks : List D} {vs : List V} {d : D} {p : Addr} (hr : HRel K T F G l S H) (ha : AtL K F l ks vs) (hl : ks.length ≤ sizeLine) (hp : H p = none) (e : some (D.lst ks, S) = some (d, S')) : ∃ F' l', Later K T F G l F' l' S' (upd H p (.lst vs)) ∧ At K F' l' d (.ref p) := by
  cases e
  exact ⟨_, l, later_new hr hp, p, vs, rfl, upd_same, hl, AtL.mono (Le.new (hr.fnone hp)) (Pre.refl _) _ _ ha⟩
theorem fin_lstC {F G H : Hp} {l : List Addr} {S S' : Store} {ks : List D} {vs : List V} {d : D} {p : Addr} (hr : HRel K T F G l S H) (ha : AtL K F l ks vs) (hl : ks.length ≤ sizeLine) (hp : H p = none) (e : some (D.loc S.length, S ++ [Cell.lst ks]) = some (d, S')) : ∃ F' l', Later K T F G l F' l' S' (upd H p (.lst vs)) ∧ At K F' l' d (.ref p) := by
  cases e
  refine ⟨F, l ++ [p], ⟨Le.refl F, Pre.app _ _, hr.newC (o := .lst vs) (c := .lst ks) hp rfl ⟨hr.fnone hp, hl, vs, upd_same, AtL.mono (Le.refl F) (Pre.app _ _) _ _ ha⟩⟩, p, ?_, rfl⟩
  rw [← hr.len]; simp
theorem calld_listD : CallD K T rListDict listDG := listD_wp fun a b c d e => fin_lst a b c d e
theorem calld_listDC : CallD K T rListDict listDGC := listD_wp fun a b c d e => fin_lstC a b c d e
end
end Aw


/-! AwJ: defs that change the list that is handed in first (whole numbers). -/
namespace Aw
open PySem L2 LamX

abbrev jugC (xs : List Int) : Cell := .lst (xs.map D.int)
inductive JR where
  | ok (d : D) (ys : List Int) | err (c : Ex) (ys : List Int) | stuck
abbrev JSem := List D → List Int → JR
/-- the numbers of the first cell -/
def jintsOf : List D → Option (List Int)
  | [] => some []
  | .int i :: ds => (jintsOf ds).map (i :: ·)
  | _ => none
theorem jintsOf_ints : ∀ xs : List Int, jintsOf (xs.map D.int) = some xs
  | [] => rfl
  | x :: xs => by simp only [List.map_cons, jintsOf, jintsOf_ints xs, Option.map_some]
theorem jintsOf_eq : ∀ {ds : List D} {xs : List Int}, jintsOf ds = some xs → ds = xs.map D.int
  | [], xs, h => by cases h; rfl
  | .int i :: ds, xs, h => by
    simp only [jintsOf] at h
    cases q : jintsOf ds with
    | none => rw [q] at h; cases h
    | some ys => rw [q] at h; cases h; rw [jintsOf_eq q]; rfl
  | .non :: _, _, h => by cases h
  | .bl _ :: _, _, h => by cases h
  | .str _ :: _, _, h => by cases h
  | .tup _ :: _, _, h => by cases h
  | .lst _ :: _, _, h => by cases h
  | .dct _ _ _ :: _, _, h => by cases h
  | .loc _ :: _, _, h => by cases h
  | .scr _ :: _, _, h => by cases h
  | .fn _ :: _, _, h => by cases h
def jugOf (S : Store) (n : Nat) : Option (List Int) := match S[n]? with
  | some (.lst ds) => jintsOf ds
  | _ => none
theorem jugOf_at {S : Store} {n : Nat} {xs : List Int} (h : S[n]? = some (jugC xs)) : jugOf S n = some xs := by
  unfold jugOf; rw [h]; exact jintsOf_ints xs
theorem jugOf_cell {S : Store} {n : Nat} {xs : List Int} (h : jugOf S n = some xs) : S[n]? = some (jugC xs) := by
  unfold jugOf at h
  split at h
  · rename_i ds q; rw [q, jintsOf_eq h]
  · cases h
/-- all cells but the first are held to be frozen -/
def resLocJ (S : Store) : Nat → Nat → Option D
  | 0, _ => none
  | k + 1, n => if n = 0 then none else match S[n]? with
    | some (.lst ds) => (resL (resLocJ S k) ds).map .lst
    | some (.dct t ks ws) => (resL (resLocJ S k) ws).map (.dct ⟨t, false⟩ ks)
    | some (.fz d) => resD (resLocJ S k) d
    | none => none
def resJ (S : Store) (d : D) : Option D := resD (resLocJ S 4) d
section
variable {K : PySem.W.Frag} {T : List (Addr × Str)} {F F' G H H' : Hp} {l : List Addr} {S : Store} {a0 : Addr}
/-- every cell frozen but one -/
def freezeJ (F H : Hp) (l : List Addr) (a0 : Addr) : Hp := fun a => match F a with
  | some o => some o
  | none => if a ∈ l ∧ a ≠ a0 then H a else none
theorem freezeJ_le : Le F (freezeJ F H l a0) := LeS.w fun a o h => by simp [freezeJ, h]
theorem HRel.freezeJ (h : HRel K T F G l S H) (h0 : l[0]? = some a0) {xs : List Int} (hx : S[0]? = some (jugC xs)) : HRel K T (Aw.freezeJ F H l a0) G [a0] [jugC xs] H := by
  obtain ⟨a, h1, h2, h3, vs, h4, h5⟩ := h.cell 0 _ hx
  rw [h0] at h1; cases h1
  have mem := List.mem_of_getElem? h0
  refine ⟨fun a o e => ?_, h.gr, fun a o e => ?_, fun i j a h1 h2' _ => ?_, rfl, fun a ha => ?_, fun a ha => ?_, fun a ha => ?_, h.tabs, fun n c e => ?_, h.gc⟩
  · unfold Aw.freezeJ at e
    split at e
    · rename_i q; cases e; exact h.fz a _ q
    · split at e
      · exact e
      · cases e
  · unfold Aw.freezeJ at e
    split at e
    · rename_i q; exact h.fg a _ q
    · split at e
      · rename_i hm; exact h.gl a hm.1
      · cases e
  · have hi := (List.getElem?_eq_some_iff.mp h1).1
    have hj := (List.getElem?_eq_some_iff.mp h2').1
    simp at hi hj; omega
  · simp at ha; subst ha; exact h.gl _ mem
  · simp at ha; subst ha; exact h.al _ mem
  · simp at ha; subst ha; exact h.tb _ mem
  · cases n with
    | succ n => simp at e
    | zero =>
      simp at e; subst e
      refine ⟨a0, rfl, by simp [Aw.freezeJ, h2], h3, vs, h4, ?_⟩
      rw [AtL.of_ints h5]; exact AtL.ints xs
theorem resLocJ_at (h : HRel K T F G l S H) (h0 : l[0]? = some a0) (ha0 : F a0 = none) : ∀ (k n : Nat) (d : D) (v : V), resLocJ S k n = some d → At K F l (.loc n) v → At K (freezeJ F H l a0) [] d v
  | 0, _, _, _, e, _ => by cases e
  | k + 1, n, d, v, e, hv => by
    obtain ⟨a, h1, rfl⟩ := hv
    have mem : a ∈ l := List.mem_of_getElem? h1
    simp only [resLocJ] at e
    split at e
    · cases e
    rename_i hn
    have ne : ∀ {c : Cell}, S[n]? = some c → F a = none → a ≠ a0 := fun _ hf z => by
      subst z; exact hn (h.nd n 0 a h1 h0 hf)
    split at e
    · rename_i ds q
      obtain ⟨a', h2, h3⟩ := h.cell n _ q
      rw [h1] at h2; cases h2
      obtain ⟨h4, h5, vs, h6, h7⟩ := h3
      cases q1 : resL (resLocJ S k) ds with
      | none => rw [q1] at e; cases e
      | some es =>
        rw [q1] at e; cases e
        have h8 := resL_at freezeJ_le (resLocJ_at h h0 ha0 k) ds es vs h7 q1
        exact ⟨a, vs, rfl, by simp [freezeJ, h4, mem, h6, ne q h4], by rw [← h8.length, h7.length]; exact h5, h8⟩
    · rename_i ks ws q
      obtain ⟨a', h2, h3⟩ := h.cell n _ q
      rw [h1] at h2; cases h2
      obtain ⟨h4, h5, vs, h6, h7⟩ := h3
      cases q1 : resL (resLocJ S k) ws with
      | none => rw [q1] at e; cases e
      | some es =>
        rw [q1] at e; cases e
        refine ⟨a, vs, rfl, resL_at freezeJ_le (resLocJ_at h h0 ha0 k) ws es vs h6 q1, h5, ?_⟩
        have nq := ne q h4
        rcases h7 with ⟨ht, kvs, r1, r2⟩ | ⟨ht, kvs, r1, r2⟩
        · exact .inl ⟨ht, kvs, .free (.inl (by simp [freezeJ, h4, mem, r1, nq])), r2⟩
        · exact .inr ⟨ht, kvs, .free (.inl (by simp [freezeJ, h4, mem, r1, nq])), r2⟩
    · rename_i d' q
      obtain ⟨a', h2, h3⟩ := h.cell n _ q
      rw [h1] at h2; cases h2
      exact resD_at freezeJ_le (resLocJ_at h h0 ha0 k) d' d _ h3 e
    · cases e
/-- the caller's cells but one into the frame -/
def rootJ (F G H : Hp) (l : List Addr) (a0 : Addr) : Hp := fun a => match F a with
  | some _ => none
  | none => if a = a0 then none else if a ∈ l then H a else G a
theorem HRel.rootJ (h : HRel K T F G l S H) {m : Nat} (h0 : l[m]? = some a0) {xs : List Int} (hx : S[m]? = some (jugC xs)) : HRel K T F (Aw.rootJ F G H l a0) [a0] [jugC xs] H := by
  obtain ⟨a, h1, h2, h3, vs, h4, h5⟩ := h.cell m _ hx
  rw [h0] at h1; cases h1
  have mem := List.mem_of_getElem? h0
  refine ⟨h.fz, fun a o e => ?_, fun a o e => by simp [Aw.rootJ, e], fun i j a h1 h2' _ => ?_, rfl, fun a ha => ?_, fun a ha => ?_, fun a ha => ?_, h.tabs, fun n c e => ?_, fun a o e => ?_⟩
  · unfold Aw.rootJ at e
    split at e
    · cases e
    · split at e
      · cases e
      · split at e
        · exact e
        · exact h.gr a o e
  · have hi := (List.getElem?_eq_some_iff.mp h1).1
    have hj := (List.getElem?_eq_some_iff.mp h2').1
    simp at hi hj; omega
  · simp at ha; subst ha; simp [Aw.rootJ, h2]
  · simp at ha; subst ha; exact h.al _ mem
  · simp at ha; subst ha; exact h.tb _ mem
  · cases n with
    | succ n => simp at e
    | zero =>
      simp at e; subst e
      refine ⟨a0, rfl, h2, h3, vs, h4, ?_⟩
      rw [AtL.of_ints h5]; exact AtL.ints xs
  · unfold Aw.rootJ at e
    split at e
    · cases e
    · split at e
      · cases e
      · split at e
        · rename_i ha; exact h.tb a ha o e
        · exact h.gc a o e
theorem HRel.unrootJ (h : HRel K T F G l S H) {m : Nat} (h0 : l[m]? = some a0) {xs ys : List Int} (hx : S[m]? = some (jugC xs)) (le : Le F F') (h' : HRel K T F' (Aw.rootJ F G H l a0) [a0] [jugC ys] H') : HRel K T F' G l (S.set m (jugC ys)) H' := by
  obtain ⟨a, h1, h2, h3, vs0, h4, h5⟩ := h.cell m _ hx
  rw [h0] at h1; cases h1
  have mem0 := List.mem_of_getElem? h0
  obtain ⟨a1, j1, j2, j3, vs1, j4, j5⟩ := h'.cell 0 _ rfl
  cases j1
  have same : ∀ a, a ∈ l → a ≠ a0 → F a = none → H' a = H a := fun a ha hne e => by
    cases e2 : H a with
    | none => exact absurd e2 (h.al a ha)
    | some o =>
      refine h'.gr a o ?_
      simp [Aw.rootJ, e, ha, e2, hne]
  have live : ∀ a, a ∈ l → H' a ≠ none ∧ ∀ o, H' a = some o → isCellO o = true := fun a ha => by
    by_cases hz : a = a0
    · subst hz
      exact ⟨h'.al a (by simp), h'.tb a (by simp)⟩
    cases e : F a with
    | none => rw [same a ha hz e]; exact ⟨h.al a ha, h.tb a ha⟩
    | some o =>
      rcases le a o e with e1 | ⟨_, od, e1⟩
      · rw [h'.fz a _ e1]
        exact ⟨by simp, fun o' q => by cases q; exact h.tb a ha o (h.fz a o e)⟩
      · rw [h'.fz a _ e1]
        exact ⟨by simp, fun o' q => by cases q; rfl⟩
  have free : ∀ a, a ∈ l → a ≠ a0 → F a = none → F' a = none := fun a ha hne e => by
    cases e1 : F' a with
    | none => rfl
    | some o =>
      have := h'.fg a o e1
      simp only [Aw.rootJ, e, if_neg hne, if_pos ha] at this
      exact absurd this (h.al a ha)
  have gz : ∀ a o, G a = some o → Aw.rootJ F G H l a0 a = some o := fun a o e => by
    have nl : a ∉ l := fun z => by rw [h.gl a z] at e; cases e
    have nf : F a = none := by
      cases q : F a with
      | none => rfl
      | some u => rw [h.fg a u q] at e; cases e
    have ne : a ≠ a0 := fun z => nl (z ▸ mem0)
    simp [Aw.rootJ, nf, nl, e, ne]
  have back : ∀ a, F' a = none → F a = none := fun a e => by
    cases q : F a with
    | none => rfl
    | some o => rcases le a o q with z | ⟨_, od, z⟩ <;> (rw [z] at e; cases e)
  refine ⟨h'.fz, fun a o e => h'.gr a o (gz a o e), fun a o e => ?_, fun i j a h1 h2 h3 => h.nd i j a h1 h2 (back a h3), by rw [List.length_set]; exact h.len, h.gl, fun a ha => (live a ha).1, fun a ha o e => (live a ha).2 o e, h'.tabs, fun n c e => ?_, h.gc⟩
  · cases q : G a with
    | none => rfl
    | some u =>
      have := h'.fg a o e
      rw [gz a u q] at this; cases this
  · by_cases hn : m = n
    · subst hn
      rw [List.getElem?_set_self (List.getElem?_eq_some_iff.mp hx).1] at e
      cases e
      refine ⟨a0, h0, j2, j3, vs1, j4, ?_⟩
      rw [AtL.of_ints j5]; exact AtL.ints ys
    · rw [List.getElem?_set_ne hn] at e
      obtain ⟨a, h1, h2'⟩ := h.cell n c e
      have mem : a ∈ l := List.mem_of_getElem? h1
      have ne : F a = none → a ≠ a0 := fun hf z => by
        subst z; exact hn (h.nd m n a h0 h1 hf)
      refine ⟨a, h1, ?_⟩
      cases c with
      | lst ds =>
        obtain ⟨h3, h4, vs, h5, h6⟩ := h2'
        exact ⟨free a mem (ne h3) h3, h4, vs, (same a mem (ne h3) h3).trans h5, AtL.mono le (Pre.refl l) _ _ h6⟩
      | dct t ks ws =>
        obtain ⟨h3, h4, vs, h5, h6⟩ := h2'
        refine ⟨free a mem (ne h3) h3, h4, vs, AtL.mono le (Pre.refl l) _ _ h5, ?_⟩
        rcases h6 with ⟨ht, kvs, r1, r2⟩ | ⟨ht, kvs, r1, r2⟩
        · exact .inl ⟨ht, kvs, (same a mem (ne h3) h3).trans r1, r2⟩
        · exact .inr ⟨ht, kvs, (same a mem (ne h3) h3).trans r1, r2⟩
      | fz d => exact At.mono le (Pre.refl l) _ _ h2'
end
def PostJ (K : PySem.W.Frag) (T : List (Addr × Str)) (F G : Hp) (a0 : Addr) (Q : VK) (E : XK) : JR → Prop
  | .ok d ys => ∀ F' H' v, Le F F' → HRel K T F' G [a0] [jugC ys] H' → At K F' [] d v → Q v H'
  | .err c ys => ∀ F' H', Le F F' → HRel K T F' G [a0] [jugC ys] H' → E (exV K c) none H'
  | .stuck => False
def spJ (K : PySem.W.Frag) (T : List (Addr × Str)) (n : Nat) (f : JSem) : Sp := fun vs H Q E => ∃ F G a0 xs ds us, HRel K T F G [a0] [jugC xs] H ∧ vs = .ref a0 :: us ∧ AtL K F [] ds us ∧ ds.length + 1 = n ∧ PostJ K T F G a0 Q E (f ds xs)
def fnJ (n : Nat) (body : SemS) : JSem := fun ds xs => match body (startE n (.loc 0 :: ds)) [jugC xs] with
  | .ret d S => match jugOf S 0, resJ S d with
    | some ys, some d1 => .ok d1 ys
    | _, _ => .stuck
  | .nx _ S => match jugOf S 0 with
    | some ys => .ok .non ys
    | none => .stuck
  | .err c _ S => match jugOf S 0 with
    | some ys => .err c ys
    | none => .stuck
  | _ => .stuck
structure FnJ (P : Program) (w : World) (K : PySem.W.Frag) (T : List (Addr × Str)) (mg : Str → Option Value) (base : Heap) (x : Str) (k n : Nat) (f : JSem) : Prop where
  ex : ∃ (a : Addr) (fd : FuncData) (ps : List Str), mg x = some (.ref a) ∧ PySem.W.keepIn K (.ref a) = true ∧ Binds K fd ps [] ∧ ps.length = n ∧ FnOk P w K mg base (L2.CX P w) k a fd ps (spJ K T n f)
theorem start_slJ {K : PySem.W.Frag} {F : Hp} {N : List Str} {ds : List D} {vs : List V} {l : List Addr} (h : AtL K F l ds vs) : Sl K F l (startE N.length ds) (L2.start N vs) := by
  have e := h.length
  refine ⟨by simp [startE, L2.start, e], fun i d q => ?_⟩
  unfold startE at q
  by_cases hi : i < ds.length
  · rw [List.getElem?_append_left (by simpa using hi), List.getElem?_map] at q
    cases q1 : ds[i]? with
    | none => rw [q1] at q; cases q
    | some d' =>
      rw [q1] at q; cases q
      obtain ⟨v, q2, q3⟩ := h.get q1
      refine ⟨v, ?_, q3⟩
      unfold L2.start
      rw [List.getElem?_append_left (by simp [e]; exact hi), List.getElem?_map, q2]
      rfl
  · rw [List.getElem?_append_right (by simpa using hi), List.getElem?_replicate] at q
    split at q <;> cases q
section
variable {P : Program} {w : World} {K : PySem.W.Frag} {T : List (Addr × Str)} {mg : Str → Option Value} {base : Heap} {x qual : Str} {st : Stmt} {a : Addr} {fd : FuncData} {N ps : List Str} {k : Nat}
theorem Pre.first {l' : List Addr} {a0 : Addr} (h : Pre [a0] l') : l'[0]? = some a0 := h 0 a0 rfl
theorem jug_free {F G H : Hp} {l : List Addr} {S : Store} {a0 : Addr} {xs : List Int} (h : HRel K T F G l S H) (h0 : l[0]? = some a0) (hx : S[0]? = some (jugC xs)) : F a0 = none := by
  obtain ⟨a, h1, h2, _⟩ := h.cell 0 _ hx
  rw [h0] at h1; cases h1; exact h2
theorem fnJd {body : SemS} {n : Nat} (F : Fun K x qual st a fd) (Sc : FnScope N ps (defScope st)) (hn : N.length = n)
    (hb : ∀ (cdv : Value) (A : Around) (outer : List PySem.Env) (s : Shared) (H : Hp) (E : XK), Ctx (bodyCx P w K mg base N qual (defScope st) a cdv A outer s H E) (bodyW E) k →
      PDB (bodyCx P w K mg base N qual (defScope st) a cdv A outer s H E) T (bodyW E) (defBody st) body) :
    FnOk P w K mg base (L2.CX P w) (k + 1) a fd ps (spJ K T ps.length (fnJ n body)) := by
  subst hn
  obtain ⟨oc, od, kV, doc, pm, an, cdv, ct, osl, rfl, lk, hcd⟩ := F.ex
  refine fn_of lk hcd Sc (fun vs H Q E ⟨F, G, a0, xs, ds, us, _, e1, h, e, _⟩ => by rw [e1, List.length_cons, h.length, e]) fun A outer s H vs Q E hr ⟨F, G, a0, xs, ds, us, h1, e1, h2, h3, h4⟩ => ?_
  subst e1
  refine ⟨_, hb cdv A outer s H E (bodyCtx Sc hr), F, G, [a0], startE N.length (.loc 0 :: ds), [jugC xs], h1, start_slJ ⟨_, _, rfl, ⟨a0, rfl, rfl⟩, AtL.mono (Le.refl F) (fun n a e => by simp at e) _ _ h2⟩, ?_⟩
  unfold fnJ at h4
  cases e : body (startE N.length (.loc 0 :: ds)) [jugC xs] with
  | ret d S =>
    rw [e] at h4
    intro F' l' H' v lt hv
    simp only at h4
    cases q1 : jugOf S 0 with
    | none => simp only [q1] at h4; exact h4.elim
    | some ys =>
      cases q : resJ S d with
      | none => simp only [q1, q] at h4; exact h4.elim
      | some d1 =>
        simp only [q1, q] at h4
        have hx := jugOf_cell q1
        have h0 := lt.pre.first
        exact h4 _ H' v (lt.le.trans freezeJ_le) (lt.rel.freezeJ h0 hx) (resD_at freezeJ_le (resLocJ_at lt.rel h0 (jug_free lt.rel h0 hx) 4) d d1 v hv q)
  | nx r S =>
    rw [e] at h4
    intro F' l' σ' H' lt _
    simp only at h4
    cases q1 : jugOf S 0 with
    | none => simp only [q1] at h4; exact h4.elim
    | some ys =>
      simp only [q1] at h4
      exact h4 _ H' .non (lt.le.trans freezeJ_le) (lt.rel.freezeJ lt.pre.first (jugOf_cell q1)) rfl
  | err c r S =>
    rw [e] at h4
    intro F' l' σ' H' lt _
    simp only at h4
    cases q1 : jugOf S 0 with
    | none => simp only [q1] at h4; exact h4.elim
    | some ys =>
      simp only [q1] at h4
      exact h4 _ H' (lt.le.trans freezeJ_le) (lt.rel.freezeJ lt.pre.first (jugOf_cell q1))
  | brk r S => rw [e] at h4; exact h4.elim
  | ct r S => rw [e] at h4; exact h4.elim
  | stuck => rw [e] at h4; exact h4.elim
end
/-- the call -/
def liftJ (m : Nat) : JR → Store → Out D
  | .ok d ys, S => .ok d (S.set m (jugC ys))
  | .err c ys, S => .err c (S.set m (jugC ys))
  | .stuck, _ => .stuck
def callJ (n : Nat) (f : JSem) (fa : Sem (List D)) : Sem D := bindO fa fun ds => fun _ S => match ds with
  | .loc m :: ds => match jugOf S m, resF S ds with
    | some xs, some ds1 => if ds1.length + 1 = n then liftJ m (f ds1 xs) S else .stuck
    | _, _ => .stuck
  | _ => .stuck
section
variable {X : Cx} {T : List (Addr × Str)} {W : WX} {k j n : Nat} {p pos : Pos} {e : Expr} {es : List Expr} {x : Str} {f : JSem} {fa : Sem (List D)}
theorem callJ_wp {K : PySem.W.Frag} {σ : St} {H : Hp} {Q : VK} (h : wp K T W (rE K) (callJ n f fa) σ H Q) : tCallSD (spJ K T n f) [] (WE W) (wp K T W (rA K) fa) σ H Q := by
  obtain ⟨F, G, l, r0, S, hr, hs, hp⟩ := h
  refine wp_step hr hs hp fun F1 l1 S1 a xs H1 lt1 hs1 ha hp1 => ?_
  rw [List.append_nil]
  split at hp1
  · rename_i m ds
    obtain ⟨v, us, rfl, ⟨a0, hm, rfl⟩, hus⟩ := ha
    cases e1 : jugOf S1 m with
    | none => simp only [e1] at hp1; exact hp1.elim
    | some js =>
      cases e2 : resF S1 ds with
      | none => simp only [e1, e2] at hp1; exact hp1.elim
      | some ds1 =>
        simp only [e1, e2] at hp1
        have hx := jugOf_cell e1
        by_cases hl : ds1.length + 1 = n
        · rw [if_pos hl] at hp1
          refine ⟨F1, _, a0, js, ds1, us, lt1.rel.rootJ hm hx, rfl, resF_at lt1.rel hus e2, hl, ?_⟩
          cases e3 : f ds1 js with
          | ok d ys =>
            rw [e3] at hp1
            exact fun F' H' v le h' hv => hp1 F' l1 H' v ⟨le, Pre.refl _, lt1.rel.unrootJ hm hx le h'⟩ (At.mono (Le.refl F') (fun n a e => by simp at e) _ _ hv)
          | err c ys =>
            rw [e3] at hp1
            exact fun F' H' le h' => hp1 F' l1 H' ⟨le, Pre.refl _, lt1.rel.unrootJ hm hx le h'⟩
          | stuck => rw [e3] at hp1; exact hp1.elim
        · rw [if_neg hl] at hp1; exact hp1.elim
  · exact hp1.elim
theorem pd_callJ (hc : Ctx X W k) (F : FnJ X.prog X.w X.K T X.mg X.base x j n f) (hj : j ≤ k) (hg : Gl X x) (ha : PDA X T W (e :: es) fa) (hdb : (x == ("__debug__" : Str)) = false := by decide)
    (he : starEach (e :: es) X.env = (false, eval e X.env) :: starEach es X.env := by rfl) (hpl : (backTo pos (starEach es X.env)).any (·.1) = false := by rfl) : PD X T W (.Call (.Name x p) (e :: es) [] pos) (callJ n f fa) := by
  obtain ⟨a, fd, ps, hm, hk, hb, hl, hF⟩ := F.ex
  exact PE.imp (pe_callSD hF (hc.rm.mono hj) hg hm hk hb .nil (fun σ => passAt hc.tk σ) ha hdb he hpl) fun _ _ _ q => callJ_wp q
end
end Aw
namespace Aw
/-! ### targets of several parts -/
def NxT (g : TgS) : Prop := ∀ d r S, (∃ r' S', g d r S = .nx r' S') ∨ (∃ c r' S', g d r S = .err c r' S') ∨ g d r S = .stuck
def NxTs (g : List D → SemS) : Prop := ∀ d r S, (∃ r' S', g d r S = .nx r' S') ∨ (∃ c r' S', g d r S = .err c r' S') ∨ g d r S = .stuck
theorem nilT_nx : NxTs nilT := fun d r S => by
  cases d with
  | nil => exact .inl ⟨r, S, rfl⟩
  | cons a l => exact .inr (.inr rfl)
theorem consT_nx {g : TgS} {h : List D → SemS} (hg : NxT g) (hh : NxTs h) : NxTs (consT g h) := fun d r S => by
  cases d with
  | nil => exact .inr (.inr rfl)
  | cons a l =>
    rw [show consT g h (a :: l) r S = seqS (g a) (h l) r S from rfl]
    unfold seqS
    rcases hg a r S with ⟨r1, S1, e⟩ | ⟨c, r1, S1, e⟩ | e
    · rw [e]; exact hh l r1 S1
    · rw [e]; exact .inr (.inl ⟨c, r1, S1, rfl⟩)
    · rw [e]; exact .inr (.inr rfl)
theorem tupT_nx {n : Nat} {h : List D → SemS} (hh : NxTs h) : NxT (tupT n h) := fun d r S => by
  unfold tupT
  cases d with
  | tup ds =>
    simp only
    split
    · exact hh ds r S
    · exact .inr (.inr rfl)
  | _ => exact .inr (.inr rfl)
section
open PySem L2 LamX
variable {P : Program} {w : World} {K : PySem.W.Frag} {T : List (Addr × Str)} {mg : Str → Option Value} {base : Heap} {x : Str} {st : Stmt} {k n : Nat} {f : JSem}
theorem fnJ_mk (ps : List Str) (Tx : TxF K mg x st) (hn : ps.length = n) (hb : BindsTx x st ps) (h : ∀ (a : Addr) (fd : FuncData), Fun K x x st a fd → FnOk P w K mg base (L2.CX P w) k a fd ps (spJ K T ps.length f)) : FnJ P w K T mg base x k n f := by
  obtain ⟨a, fd, hm, F⟩ := Tx
  subst hn
  exact ⟨a, fd, ps, hm, F.kp, F.binds hb, rfl, h a fd F⟩
end
end Aw
namespace Aw
/-! ### defs that call themselves -/
section
open PySem L2 LamX
variable {P : Program} {w : World} {K : PySem.W.Frag} {T : List (Addr × Str)} {mg : Str → Option Value} {base : Heap} {x : Str} {st : Stmt} {k n : Nat} {f : FSem}
theorem fnD_stuck (ps : List Str) (Tx : TxF K mg x st) (hn : ps.length = n) (hb : BindsTx x st ps) : FnD P w K T mg base x k n (fun _ => .stuck) :=
  fnD_mk ps Tx hn hb fun a fd F => ⟨fun vs H Q E ⟨_, _, _, _, _, _, h⟩ => h.elim, fun A outer s H args us vs Q E _ _ _ _ ⟨_, _, _, _, _, _, h⟩ => h.elim⟩
end
end Aw


/-! Tv1: what code does, with values of Lean's own types in the slots: the slots, reading. -/
namespace Aw

/-- what is known of a slot: nothing; a datum that stays; a cell of its own, with what it holds -/
inductive SlotV where
  | unk | val (d : D) | cell (c : Cell) | pin (c : Cell)
def liveC : Cell → Bool
  | .lst ds => pureL ds
  | .dct _ ks ws => pureL ks && pureL ws
  | .fz _ => false
def notFz : Cell → Bool
  | .fz _ => false
  | _ => true
theorem liveC_notFz {c : Cell} (h : liveC c = true) : notFz c = true := by cases c <;> first | rfl | cases h
structure Lay (vs : List SlotV) (r : Env) (S : Store) : Prop where
  len : r.length = vs.length
  val : ∀ (i : Nat) (d : D), vs[i]? = some (.val d) → pureD d = true ∧ ∃ d0, r[i]? = some (some d0) ∧ norm S d0 = d
  cell : ∀ (i : Nat) (c : Cell), vs[i]? = some (.cell c) → liveC c = true ∧ ∃ n, r[i]? = some (some (.loc n)) ∧ S[n]? = some c
  apart : ∀ (i j n : Nat) (c c' : Cell), vs[i]? = some (.cell c) → vs[j]? = some (.cell c') → r[i]? = some (some (.loc n)) → r[j]? = some (some (.loc n)) → i = j
  pin : ∀ (i : Nat) (c : Cell), vs[i]? = some (.pin c) → liveC c = true ∧ r[i]? = some (some (.loc 0)) ∧ S[0]? = some c
  far : ∀ (i j : Nat) (c c' : Cell), vs[i]? = some (.pin c) → vs[j]? = some (.cell c') → r[j]? ≠ some (some (.loc 0))
/-- frozen cells stay -/
def FzKeep (S S' : Store) : Prop := ∀ (n : Nat) (d : D), S[n]? = some (.fz d) → S'[n]? = some (.fz d)
theorem FzKeep.refl (S : Store) : FzKeep S S := fun _ _ h => h
theorem FzKeep.app (S T : Store) : FzKeep S (S ++ T) := fun n d h => by
  rw [List.getElem?_append_left (List.getElem?_eq_some_iff.mp h).1]; exact h
theorem FzKeep.set {S : Store} {n : Nat} {c c' : Cell} (h : S[n]? = some c) (hc : notFz c = true) : FzKeep S (S.set n c') := fun m d e => by
  rw [List.getElem?_set_ne]
  · exact e
  · intro z; subst z; rw [h] at e; cases e; cases hc
theorem norm_fz {S : Store} {d0 d : D} (h : norm S d0 = d) (hp : pureD d = true) : d0 = d ∨ ∃ n, d0 = .loc n ∧ S[n]? = some (.fz d) := by
  cases d0 with
  | loc n =>
    have h : normL S n = d := h
    unfold normL at h
    split at h
    · rename_i d' e; subst h; exact .inr ⟨n, rfl, e⟩
    · subst h; cases hp
  | _ => exact .inl h
theorem norm_keep {S S' : Store} {d0 d : D} (k : FzKeep S S') (h : norm S d0 = d) (hp : pureD d = true) : norm S' d0 = d := by
  rcases norm_fz h hp with e | ⟨n, rfl, e⟩
  · subst e; exact norm_pure S' _ hp
  · show normL S' n = d
    unfold normL; rw [k n d e]
section
variable {vs ws : List SlotV} {r : Env} {S S' : Store} {i j n : Nat} {d d' : D} {c c' : Cell}
theorem Lay.setVal (h : Lay vs r S) (i : Nat) (hd : pureD d = true) : Lay (vs.set i (.val d)) (r.set i (some d)) S := by
  have nep : ∀ {j : Nat} {e : Cell}, (vs.set i (.val d))[j]? = some (.pin e) → i ≠ j := fun {j e} q z => by
    subst z
    have hi : i < vs.length := by have := (List.getElem?_eq_some_iff.mp q).1; simpa using this
    rw [List.getElem?_set_self hi] at q; cases q
  have nec : ∀ {j : Nat} {e : Cell}, (vs.set i (.val d))[j]? = some (.cell e) → i ≠ j := fun {j e} q z => by
    subst z
    have hi : i < vs.length := by have := (List.getElem?_eq_some_iff.mp q).1; simpa using this
    rw [List.getElem?_set_self hi] at q; cases q
  refine ⟨by simp [h.len], fun j e q => ?_, fun j e q => ?_, fun j k n e e' q q' q1 q2 => ?_, fun j e q => ?_, fun j k e e' q q' => ?_⟩
  rotate_left 3
  · have z := nep q
    rw [List.getElem?_set_ne z] at q ⊢; exact h.pin j e q
  · have z := nep q
    have z' := nec q'
    rw [List.getElem?_set_ne z] at q
    rw [List.getElem?_set_ne z'] at q' ⊢
    exact h.far j k e e' q q'
  · by_cases z : i = j
    · subst z
      have hi : i < vs.length := by have := (List.getElem?_eq_some_iff.mp q).1; simpa using this
      rw [List.getElem?_set_self hi] at q; cases q
      exact ⟨hd, d, by rw [List.getElem?_set_self (by rw [h.len]; exact hi)], norm_pure S d hd⟩
    · rw [List.getElem?_set_ne z] at q ⊢; exact h.val j e q
  · by_cases z : i = j
    · subst z
      have hi : i < vs.length := by have := (List.getElem?_eq_some_iff.mp q).1; simpa using this
      rw [List.getElem?_set_self hi] at q; cases q
    · rw [List.getElem?_set_ne z] at q ⊢; exact h.cell j e q
  · have ne : ∀ {j : Nat} {e : Cell}, (vs.set i (.val d))[j]? = some (.cell e) → i ≠ j := fun {j e} q z => by
      subst z
      have hi : i < vs.length := by have := (List.getElem?_eq_some_iff.mp q).1; simpa using this
      rw [List.getElem?_set_self hi] at q; cases q
    have n1 := ne q
    have n2 := ne q'
    rw [List.getElem?_set_ne n1] at q q1
    rw [List.getElem?_set_ne n2] at q' q2
    exact h.apart j k n e e' q q' q1 q2
theorem Lay.unset (h : Lay vs r S) (i : Nat) (x : Option D) : Lay (vs.set i .unk) (r.set i x) S := by
  have ne : ∀ {j : Nat} {e : SlotV}, (vs.set i .unk)[j]? = some e → e ≠ .unk → i ≠ j := fun {j e} q hz z => by
    subst z
    have hi : i < vs.length := by have := (List.getElem?_eq_some_iff.mp q).1; simpa using this
    rw [List.getElem?_set_self hi] at q; cases q; exact hz rfl
  refine ⟨by simp [h.len], fun j e q => ?_, fun j e q => ?_, fun j k n e e' q q' q1 q2 => ?_, fun j e q => ?_, fun j k e e' q q' => ?_⟩
  · have z := ne q (by simp)
    rw [List.getElem?_set_ne z] at q ⊢; exact h.val j e q
  · have z := ne q (by simp)
    rw [List.getElem?_set_ne z] at q ⊢; exact h.cell j e q
  · have n1 := ne q (by simp)
    have n2 := ne q' (by simp)
    rw [List.getElem?_set_ne n1] at q q1
    rw [List.getElem?_set_ne n2] at q' q2
    exact h.apart j k n e e' q q' q1 q2
  · have z := ne q (by simp)
    rw [List.getElem?_set_ne z] at q ⊢; exact h.pin j e q
  · have n1 := ne q (by simp)
    have n2 := ne q' (by simp)
    rw [List.getElem?_set_ne n1] at q
    rw [List.getElem?_set_ne n2] at q' ⊢
    exact h.far j k e e' q q'
theorem Lay.store (h : Lay vs r S) (k : FzKeep S S') (kc : ∀ (i : Nat) (c : Cell) (n : Nat), vs[i]? = some (.cell c) → r[i]? = some (some (.loc n)) → S[n]? = some c → S'[n]? = some c) (kp : ∀ (i : Nat) (c : Cell), vs[i]? = some (.pin c) → S[0]? = some c → S'[0]? = some c) : Lay vs r S' :=
  ⟨h.len, fun i d q => let ⟨a, d0, b, e⟩ := h.val i d q; ⟨a, d0, b, norm_keep k e a⟩, fun i c q => let ⟨a, n, b, e⟩ := h.cell i c q; ⟨a, n, b, kc i c n q b e⟩, h.apart, fun i c q => let ⟨a, b, e⟩ := h.pin i c q; ⟨a, b, kp i c q e⟩, h.far⟩
theorem Lay.app (h : Lay vs r S) (T : Store) : Lay vs r (S ++ T) := h.store (.app S T) (fun i c n _ _ e => by
  rw [List.getElem?_append_left (List.getElem?_eq_some_iff.mp e).1]; exact e) fun i c _ e => by
  rw [List.getElem?_append_left (List.getElem?_eq_some_iff.mp e).1]; exact e
theorem Lay.newCell (h : Lay vs r S) (i : Nat) (hc : liveC c = true) : Lay (vs.set i (.cell c)) (r.set i (some (.loc S.length))) (S ++ [c]) := by
  have h' := h.app [c]
  have old : ∀ {j n : Nat} {e : Cell}, vs[j]? = some (.cell e) → r[j]? = some (some (.loc n)) → n ≠ S.length := fun {j n e} q q1 z => by
    obtain ⟨_, m, b, e1⟩ := h.cell j e q
    rw [q1] at b; cases b
    have := (List.getElem?_eq_some_iff.mp e1).1
    omega
  have nep : ∀ {j : Nat} {e : Cell}, (vs.set i (.cell c))[j]? = some (.pin e) → i ≠ j := fun {j e} q z => by
    subst z
    have hi : i < vs.length := by have := (List.getElem?_eq_some_iff.mp q).1; simpa using this
    rw [List.getElem?_set_self hi] at q; cases q
  refine ⟨by simp [h.len], fun j e q => ?_, fun j e q => ?_, fun j k n e e' q q' q1 q2 => ?_, fun j e q => ?_, fun j k e e' q q' => ?_⟩
  · by_cases z : i = j
    · subst z
      have hi : i < vs.length := by have := (List.getElem?_eq_some_iff.mp q).1; simpa using this
      rw [List.getElem?_set_self hi] at q; cases q
    · rw [List.getElem?_set_ne z] at q ⊢; exact h'.val j e q
  · by_cases z : i = j
    · subst z
      have hi : i < vs.length := by have := (List.getElem?_eq_some_iff.mp q).1; simpa using this
      rw [List.getElem?_set_self hi] at q; cases q
      refine ⟨hc, S.length, by rw [List.getElem?_set_self (by rw [h.len]; exact hi)], ?_⟩
      rw [List.getElem?_append_right (Nat.le_refl _), Nat.sub_self]; rfl
    · rw [List.getElem?_set_ne z] at q ⊢; exact h'.cell j e q
  · by_cases z : i = j <;> by_cases z' : i = k
    · exact z.symm.trans z'
    · subst z
      rw [List.getElem?_set_ne z'] at q' q2
      have hi : i < vs.length := by have := (List.getElem?_eq_some_iff.mp q).1; simpa using this
      rw [List.getElem?_set_self (by rw [h.len]; exact hi)] at q1; cases q1
      exact absurd rfl (old q' q2)
    · subst z'
      rw [List.getElem?_set_ne z] at q q1
      have hi : i < vs.length := by have := (List.getElem?_eq_some_iff.mp q').1; simpa using this
      rw [List.getElem?_set_self (by rw [h.len]; exact hi)] at q2; cases q2
      exact absurd rfl (old q q1)
    · rw [List.getElem?_set_ne z] at q q1
      rw [List.getElem?_set_ne z'] at q' q2
      exact h.apart j k n e e' q q' q1 q2
  · have z := nep q
    rw [List.getElem?_set_ne z] at q ⊢; exact h'.pin j e q
  · have z := nep q
    rw [List.getElem?_set_ne z] at q
    by_cases z' : i = k
    · subst z'
      have hi : i < vs.length := by have := (List.getElem?_eq_some_iff.mp q').1; simpa using this
      rw [List.getElem?_set_self (by rw [h.len]; exact hi)]
      intro w
      have w : S.length = 0 := by simpa using w
      obtain ⟨_, _, e3⟩ := h.pin j e q
      have := (List.getElem?_eq_some_iff.mp e3).1
      omega
    · rw [List.getElem?_set_ne z'] at q' ⊢
      exact h.far j k e e' q q'
/-- the cell of a slot holds something else now -/
theorem Lay.updCell (h : Lay vs r S) (hi : vs[i]? = some (.cell c)) (hn : r[i]? = some (some (.loc n))) (hc : liveC c' = true) : Lay (vs.set i (.cell c')) r (S.set n c') := by
  obtain ⟨hl, m, b, e0⟩ := h.cell i c hi
  rw [hn] at b; cases b
  have nf := liveC_notFz hl
  have hlt : i < vs.length := (List.getElem?_eq_some_iff.mp hi).1
  refine ⟨by simp [h.len], fun j e q => ?_, fun j e q => ?_, fun j k m e e' q q' q1 q2 => ?_, fun j e q => ?_, fun j k e e' q q' => ?_⟩
  · by_cases z : i = j
    · subst z; rw [List.getElem?_set_self hlt] at q; cases q
    · rw [List.getElem?_set_ne z] at q
      obtain ⟨a, d0, b, e1⟩ := h.val j e q
      exact ⟨a, d0, b, norm_keep (.set e0 nf) e1 a⟩
  · by_cases z : i = j
    · subst z; rw [List.getElem?_set_self hlt] at q; cases q
      exact ⟨hc, n, hn, by rw [List.getElem?_set_self (List.getElem?_eq_some_iff.mp e0).1]⟩
    · rw [List.getElem?_set_ne z] at q
      obtain ⟨a, m, b, e1⟩ := h.cell j e q
      refine ⟨a, m, b, ?_⟩
      rw [List.getElem?_set_ne]
      · exact e1
      · intro w; subst w; exact z (h.apart i j n c e hi q hn b)
  · have back : ∀ {j : Nat} {e : Cell}, (vs.set i (.cell c'))[j]? = some (.cell e) → ∃ e', vs[j]? = some (.cell e') := fun {j e} q => by
      by_cases z : i = j
      · subst z; exact ⟨c, hi⟩
      · rw [List.getElem?_set_ne z] at q; exact ⟨e, q⟩
    obtain ⟨a, ha⟩ := back q
    obtain ⟨b, hb⟩ := back q'
    exact h.apart j k m a b ha hb q1 q2
  · have z : i ≠ j := fun z => by subst z; rw [List.getElem?_set_self hlt] at q; cases q
    rw [List.getElem?_set_ne z] at q
    obtain ⟨a, b, e1⟩ := h.pin j e q
    refine ⟨a, b, ?_⟩
    rw [List.getElem?_set_ne]
    · exact e1
    · intro w; subst w; exact h.far j i e c q hi hn
  · have z : i ≠ j := fun z => by subst z; rw [List.getElem?_set_self hlt] at q; cases q
    rw [List.getElem?_set_ne z] at q
    by_cases z' : i = k
    · subst z'; exact h.far j i e c q hi
    · rw [List.getElem?_set_ne z'] at q'; exact h.far j k e e' q q'
/-- the pinned cell holds something else now -/
theorem Lay.updPin (h : Lay vs r S) (hi : vs[i]? = some (.pin c)) (hone : ∀ j c', vs[j]? = some (.pin c') → j = i) (hc : liveC c' = true) : Lay (vs.set i (.pin c')) r (S.set 0 c') := by
  obtain ⟨hl, hn, e0⟩ := h.pin i c hi
  have nf := liveC_notFz hl
  have hlt : i < vs.length := (List.getElem?_eq_some_iff.mp hi).1
  refine ⟨by simp [h.len], fun j e q => ?_, fun j e q => ?_, fun j k m e e' q q' q1 q2 => ?_, fun j e q => ?_, fun j k e e' q q' => ?_⟩
  · have z : i ≠ j := fun z => by subst z; rw [List.getElem?_set_self hlt] at q; cases q
    rw [List.getElem?_set_ne z] at q
    obtain ⟨a, d0, b, e1⟩ := h.val j e q
    exact ⟨a, d0, b, norm_keep (.set e0 nf) e1 a⟩
  · have z : i ≠ j := fun z => by subst z; rw [List.getElem?_set_self hlt] at q; cases q
    rw [List.getElem?_set_ne z] at q
    obtain ⟨a, m, b, e1⟩ := h.cell j e q
    refine ⟨a, m, b, ?_⟩
    rw [List.getElem?_set_ne]
    · exact e1
    · intro w; subst w; exact h.far i j c e hi q b
  · have z : i ≠ j := fun z => by subst z; rw [List.getElem?_set_self hlt] at q; cases q
    have z' : i ≠ k := fun z => by subst z; rw [List.getElem?_set_self hlt] at q'; cases q'
    rw [List.getElem?_set_ne z] at q
    rw [List.getElem?_set_ne z'] at q'
    exact h.apart j k m e e' q q' q1 q2
  · by_cases z : i = j
    · subst z; rw [List.getElem?_set_self hlt] at q; cases q
      exact ⟨hc, hn, by rw [List.getElem?_set_self (List.getElem?_eq_some_iff.mp e0).1]⟩
    · rw [List.getElem?_set_ne z] at q
      exact absurd (hone j e q).symm z
  · have z' : i ≠ k := fun z => by subst z; rw [List.getElem?_set_self hlt] at q'; cases q'
    rw [List.getElem?_set_ne z'] at q'
    exact h.far i k c e' hi q'
def frzD : Cell → D
  | .lst ds => .lst ds
  | .dct t ks ws => .dct ⟨t, false⟩ ks ws
  | .fz d => d
theorem frzD_pure (h : liveC c = true) : pureD (frzD c) = true := by
  cases c with
  | lst ds => exact h
  | dct t ks ws => simp only [liveC, Bool.and_eq_true] at h; exact h.2
  | fz d => cases h
theorem fzCell_live (e : S[n]? = some c) (h : liveC c = true) : fzCell n S = some (S.set n (.fz (frzD c))) := by
  unfold fzCell
  cases c with
  | lst ds => rw [e]; rfl
  | dct t ks ws => rw [e]; rfl
  | fz d => cases h
/-- the cell of a slot is frozen -/
theorem Lay.frz (h : Lay vs r S) (hi : vs[i]? = some (.cell c)) : ∃ S', fzSlot i r S = some (r, S') ∧ Lay (vs.set i (.val (frzD c))) r S' := by
  obtain ⟨hl, n, hn, e0⟩ := h.cell i c hi
  have nf := liveC_notFz hl
  have hlt : i < vs.length := (List.getElem?_eq_some_iff.mp hi).1
  have hlt2 := (List.getElem?_eq_some_iff.mp e0).1
  refine ⟨S.set n (.fz (frzD c)), ?_, by simp [h.len], fun j e q => ?_, fun j e q => ?_, fun j k m e e' q q' q1 q2 => ?_, fun j e q => ?_, fun j k e e' q q' => ?_⟩
  · unfold fzSlot; rw [hn]; simp only [fzCell_live e0 hl, Option.map_some]
  · by_cases z : i = j
    · subst z; rw [List.getElem?_set_self hlt] at q; cases q
      refine ⟨frzD_pure hl, .loc n, hn, ?_⟩
      show normL _ n = _
      unfold normL; rw [List.getElem?_set_self hlt2]
    · rw [List.getElem?_set_ne z] at q
      obtain ⟨a, d0, b, e1⟩ := h.val j e q
      exact ⟨a, d0, b, norm_keep (.set e0 nf) e1 a⟩
  · by_cases z : i = j
    · subst z; rw [List.getElem?_set_self hlt] at q; cases q
    · rw [List.getElem?_set_ne z] at q
      obtain ⟨a, m, b, e1⟩ := h.cell j e q
      refine ⟨a, m, b, ?_⟩
      rw [List.getElem?_set_ne]
      · exact e1
      · intro w; subst w; exact z (h.apart i j n c e hi q hn b)
  · have back : ∀ {j : Nat} {e : Cell}, (vs.set i (.val (frzD c)))[j]? = some (.cell e) → vs[j]? = some (.cell e) := fun {j e} q => by
      by_cases z : i = j
      · subst z; rw [List.getElem?_set_self hlt] at q; cases q
      · rw [List.getElem?_set_ne z] at q; exact q
    exact h.apart j k m e e' (back q) (back q') q1 q2
  · have z : i ≠ j := fun z => by subst z; rw [List.getElem?_set_self hlt] at q; cases q
    rw [List.getElem?_set_ne z] at q
    obtain ⟨a, b, e1⟩ := h.pin j e q
    refine ⟨a, b, ?_⟩
    rw [List.getElem?_set_ne]
    · exact e1
    · intro w; subst w; exact h.far j i e c q hi hn
  · have z : i ≠ j := fun z => by subst z; rw [List.getElem?_set_self hlt] at q; cases q
    have z' : i ≠ k := fun z => by subst z; rw [List.getElem?_set_self hlt] at q'; cases q'
    rw [List.getElem?_set_ne z] at q
    rw [List.getElem?_set_ne z'] at q'
    exact h.far j k e e' q q'
end
/-- less is known -/
def LayLe : List SlotV → List SlotV → Prop
  | [], [] => True
  | a :: as, b :: bs => (b = .unk ∨ a = b) ∧ LayLe as bs
  | _, _ => False
theorem LayLe.get : ∀ {as bs : List SlotV}, LayLe as bs → as.length = bs.length ∧ ∀ (i : Nat) (b : SlotV), bs[i]? = some b → b = .unk ∨ as[i]? = some b
  | [], [], _ => ⟨rfl, fun i b h => by simp at h⟩
  | a :: as, b :: bs, h => by
    obtain ⟨i1, i2⟩ := LayLe.get h.2
    refine ⟨by simp [i1], fun i b' q => ?_⟩
    cases i with
    | zero =>
      simp at q; subst q
      rcases h.1 with h | h
      · exact .inl h
      · exact .inr (by simp [h])
    | succ i => exact i2 i b' (by simpa using q)
  | [], _ :: _, h => h.elim
  | _ :: _, [], h => h.elim
theorem Lay.weak {as bs : List SlotV} {r : Env} {S : Store} (h : Lay as r S) (le : LayLe as bs) : Lay bs r S := by
  obtain ⟨i1, i2⟩ := le.get
  have v : ∀ {i : Nat} {d : D}, bs[i]? = some (.val d) → as[i]? = some (.val d) := fun {i d} q => (i2 i _ q).resolve_left (by simp)
  have c : ∀ {i : Nat} {d : Cell}, bs[i]? = some (.cell d) → as[i]? = some (.cell d) := fun {i d} q => (i2 i _ q).resolve_left (by simp)
  have p : ∀ {i : Nat} {d : Cell}, bs[i]? = some (.pin d) → as[i]? = some (.pin d) := fun {i d} q => (i2 i _ q).resolve_left (by simp)
  exact ⟨h.len.trans i1, fun i d q => h.val i d (v q), fun i d q => h.cell i d (c q), fun i j n e e' q q' => h.apart i j n e e' (c q) (c q'), fun i d q => h.pin i d (p q), fun i j e e' q q' => h.far i j e e' (p q) (c q')⟩
theorem LayLe.refl : ∀ as : List SlotV, LayLe as as
  | [] => True.intro
  | a :: as => ⟨.inr rfl, LayLe.refl as⟩
/-- the start of a def -/
def layStart (n : Nat) (ds : List D) : List SlotV := ds.map .val ++ List.replicate (n - ds.length) .unk
theorem lay_start {n : Nat} {ds : List D} (h : pureL ds = true) : Lay (layStart n ds) (startE n ds) [] := by
  have hp : ∀ (i : Nat) (d : D), ds[i]? = some d → pureD d = true := by
    induction ds with
    | nil => intro i d e; simp at e
    | cons x xs ih =>
      simp only [pureL, Bool.and_eq_true] at h
      intro i d e
      cases i with
      | zero => simp at e; subst e; exact h.1
      | succ i => exact ih h.2 i d (by simpa using e)
  have key : ∀ (i : Nat) (x : SlotV), (layStart n ds)[i]? = some x → x ≠ .unk → ∃ d, x = .val d ∧ ds[i]? = some d := fun i x q hx => by
    unfold layStart at q
    by_cases hi : i < ds.length
    · rw [List.getElem?_append_left (by simpa using hi), List.getElem?_map] at q
      cases e : ds[i]? with
      | none => rw [e] at q; cases q
      | some d => rw [e] at q; cases q; exact ⟨d, rfl, rfl⟩
    · rw [List.getElem?_append_right (by simpa using hi), List.getElem?_replicate] at q
      split at q
      · cases q; exact absurd rfl hx
      · cases q
  refine ⟨by simp [layStart, startE], fun i d q => ?_, fun i c q => ?_, fun i j m c c' q => ?_, fun i c q => ?_, fun i j c c' q => ?_⟩
  · obtain ⟨d', e, e2⟩ := key i _ q (by simp)
    cases e
    refine ⟨hp i d e2, d, ?_, norm_pure _ _ (hp i d e2)⟩
    have hi := (List.getElem?_eq_some_iff.mp e2).1
    unfold startE
    rw [List.getElem?_append_left (by simpa using hi), List.getElem?_map, e2]; rfl
  · obtain ⟨d', e, _⟩ := key i _ q (by simp); cases e
  · obtain ⟨d', e, _⟩ := key i _ q (by simp); cases e
  · obtain ⟨d', e, _⟩ := key i _ q (by simp); cases e
  · obtain ⟨d', e, _⟩ := key i _ q (by simp); cases e
/-- the start of a def that changes its first list -/
def layStartJ (n : Nat) (c : Cell) (ds : List D) : List SlotV := .pin c :: (ds.map .val ++ List.replicate (n - (ds.length + 1)) .unk)
theorem lay_startJ {n : Nat} {c : Cell} {ds : List D} (hc : liveC c = true) (h : pureL ds = true) : Lay (layStartJ n c ds) (startE n (.loc 0 :: ds)) [c] := by
  have hp : ∀ (i : Nat) (d : D), ds[i]? = some d → pureD d = true := by
    induction ds with
    | nil => intro i d e; simp at e
    | cons x xs ih =>
      simp only [pureL, Bool.and_eq_true] at h
      intro i d e
      cases i with
      | zero => simp at e; subst e; exact h.1
      | succ i => exact ih h.2 i d (by simpa using e)
  have key : ∀ (i : Nat) (x : SlotV), (layStartJ n c ds)[i]? = some x → x ≠ .unk → (i = 0 ∧ x = .pin c) ∨ ∃ k d, i = k + 1 ∧ x = .val d ∧ ds[k]? = some d := fun i x q hx => by
    unfold layStartJ at q
    cases i with
    | zero => simp at q; exact .inl ⟨rfl, q.symm⟩
    | succ i =>
      rw [List.getElem?_cons_succ] at q
      refine .inr ⟨i, ?_⟩
      by_cases hi : i < ds.length
      · rw [List.getElem?_append_left (by simpa using hi), List.getElem?_map] at q
        cases e : ds[i]? with
        | none => rw [e] at q; cases q
        | some d => rw [e] at q; cases q; exact ⟨d, rfl, rfl, rfl⟩
      · rw [List.getElem?_append_right (by simpa using hi), List.getElem?_replicate] at q
        split at q
        · cases q; exact absurd rfl hx
        · cases q
  refine ⟨by simp [layStartJ, startE], fun i d q => ?_, fun i c q => ?_, fun i j m c c' q => ?_, fun i c' q => ?_, fun i j c c' q q' => ?_⟩
  · rcases key i _ q (by simp) with ⟨_, e⟩ | ⟨k, d', rfl, e, e2⟩
    · cases e
    · cases e
      refine ⟨hp k d e2, d, ?_, norm_pure _ _ (hp k d e2)⟩
      have hi := (List.getElem?_eq_some_iff.mp e2).1
      unfold startE
      rw [List.map_cons, List.cons_append, List.getElem?_cons_succ, List.getElem?_append_left (by simpa using hi), List.getElem?_map, e2]; rfl
  · rcases key i _ q (by simp) with ⟨_, e⟩ | ⟨k, d', rfl, e, e2⟩ <;> cases e
  · rcases key i _ q (by simp) with ⟨_, e⟩ | ⟨k, d', rfl, e, e2⟩ <;> cases e
  · rcases key i _ q (by simp) with ⟨rfl, e⟩ | ⟨k, d', rfl, e, e2⟩
    · cases e; exact ⟨hc, rfl, rfl⟩
    · cases e
  · rcases key j _ q' (by simp) with ⟨_, e⟩ | ⟨k, d', rfl, e, e2⟩ <;> cases e
end Aw


/-! Tv2: expressions. -/
namespace Aw

/-- d' is read as d -/
def Rds (S : Store) (d' d : D) : Prop := d' = d ∨ ∃ n c, d' = .loc n ∧ S[n]? = some c ∧ liveC c = true ∧ frzD c = d
def XE (lay : List SlotV) (f : Sem D) (d : D) : Prop := ∀ (r : Env) (S : Store), Lay lay r S → pureD d = true ∧ ∃ d', f r S = .ok d' S ∧ Rds S d' d
def XV (lay : List SlotV) (f : Sem D) (d : D) : Prop := ∀ (r : Env) (S : Store), Lay lay r S → pureD d = true ∧ f r S = .ok d S
def XT (lay : List SlotV) (c : Sem Bool) (b : Bool) : Prop := ∀ (r : Env) (S : Store), Lay lay r S → c r S = .ok b S
def XI (lay : List SlotV) (it : Sem (List D)) (ds : List D) : Prop := ∀ (r : Env) (S : Store), Lay lay r S → pureL ds = true ∧ it r S = .ok ds S
def XA (lay : List SlotV) (f : Sem (List D)) (ds : List D) : Prop := ∀ (r : Env) (S : Store), Lay lay r S → pureL ds = true ∧ f r S = .ok ds S
/-- arguments, some of them lists' cells -/
def RdsL (S : Store) : List D → List D → Prop
  | [], [] => True
  | d' :: ds', d :: ds => (d' = d ∨ ∃ n es, d' = .loc n ∧ S[n]? = some (.lst es) ∧ d = .lst es) ∧ RdsL S ds' ds
  | _, _ => False
def XAE (lay : List SlotV) (f : Sem (List D)) (ds : List D) : Prop := ∀ (r : Env) (S : Store), Lay lay r S → pureL ds = true ∧ ∃ ds', f r S = .ok ds' S ∧ RdsL S ds' ds
/-- the same where it comes to that -/
def XO {α : Type} (lay : List SlotV) (f : Sem D) (e : α → D) (o : Option α) : Prop := ∀ a, o = some a → XV lay f (e a)
def XTO (lay : List SlotV) (c : Sem Bool) (o : Option Bool) : Prop := ∀ b, o = some b → XT lay c b
section
variable {lay : List SlotV} {f fa fb fc : Sem D} {d a b c : D} {S : Store}
theorem XV.e (h : XV lay f d) : XE lay f d := fun r S hl => ⟨(h r S hl).1, d, (h r S hl).2, .inl rfl⟩
theorem Rds.lst {d' : D} {ds : List D} (h : Rds S d' (.lst ds)) : lstOf S d' = some ds := by
  rcases h with rfl | ⟨n, c, rfl, h1, h2, h3⟩
  · rfl
  · cases c with
    | lst es => cases h3; simp only [lstOf, h1]
    | dct t ks ws => cases h3
    | fz d => cases h2
theorem Rds.tup {d' : D} {ds : List D} (h : Rds S d' (.tup ds)) : d' = .tup ds := by
  rcases h with rfl | ⟨n, c, rfl, h1, h2, h3⟩
  · rfl
  · cases c with
    | lst es => cases h3
    | dct t ks ws => cases h3
    | fz d => cases h2
theorem seqOf_lst {d' : D} {ds : List D} (h : lstOf S d' = some ds) : seqOf S d' = some ds := by
  cases d' with
  | lst es => exact h
  | loc n => exact h
  | _ => cases h
theorem Rds.seq {d' : D} {ds : List D} (h : Rds S d' (.lst ds)) : seqOf S d' = some ds := seqOf_lst h.lst
theorem Rds.dct {d' : D} {t : DKd} {ks ws : List D} (h : Rds S d' (.dct t ks ws)) : dctOf S d' = some (t.t, ks, ws) := by
  rcases h with rfl | ⟨n, c, rfl, h1, h2, h3⟩
  · rfl
  · cases c with
    | lst es => cases h3
    | dct t' ks' ws' => cases h3; simp only [dctOf, h1]
    | fz d => cases h2
theorem Rds.py {α : Type} [DecidableEq α] [En α] {d' : D} {x : α} (h : Rds S d' (En.e x)) : pyS S d' = some (En.p x) := by
  rcases h with rfl | ⟨n, c, rfl, h1, h2, h3⟩
  · exact en_py x
  · cases c with
    | lst es =>
      show pyLoc S (3 + 1) n = _
      rw [pyLoc_lst 3 h1]
      have q := En.py (pyLoc S 3) x
      rw [← show D.lst es = En.e x from h3] at q
      exact q
    | dct t ks ws =>
      have q := En.py (fun _ => none) x
      rw [← show D.dct ⟨t, false⟩ ks ws = En.e x from h3] at q
      cases q
    | fz d => cases h2
theorem x_val (i : Nat) (h : lay[i]? = some (.val d) := by rfl) : XV lay (vE i) d := fun r S hl => by
  obtain ⟨a, d0, b, e⟩ := hl.val i d h
  exact ⟨a, by rw [x_var b, e]⟩
theorem x_cellE (i : Nat) {c : Cell} (h : lay[i]? = some (.cell c) := by rfl) : XE lay (vE i) (frzD c) := fun r S hl => by
  obtain ⟨a, n, b, e⟩ := hl.cell i c h
  refine ⟨frzD_pure a, .loc n, ?_, .inr ⟨n, c, rfl, e, a, rfl⟩⟩
  rw [x_var b]
  have : norm S (.loc n) = .loc n := by
    show normL S n = _
    unfold normL
    rw [e]
    cases c <;> first | rfl | cases a
  rw [this]
theorem x_cellL (i : Nat) {ds : List D} (h : lay[i]? = some (.cell (.lst ds)) := by rfl) : XE lay (vE i) (.lst ds) := x_cellE i h
theorem x_cellDct (i : Nat) {t : Bool} {ks ws : List D} (h : lay[i]? = some (.cell (.dct t ks ws)) := by rfl) : XE lay (vE i) (.dct ⟨t, false⟩ ks ws) := x_cellE i h
theorem x_const (h : pureD d = true := by rfl) : XV lay (retO d) d := fun r S hl => ⟨h, rfl⟩
theorem x_nat (n : Nat) {i : Int} (h : i = (n : Nat) := by rfl) : XV lay (retO (.int i)) (En.e n) := fun r S hl => ⟨rfl, by rw [h]; rfl⟩
theorem x_int (n : Int) : XV lay (retO (.int n)) (En.e n) := fun r S hl => ⟨rfl, rfl⟩
theorem x_bl (n : Bool) : XV lay (retO (.bl n)) (En.e n) := fun r S hl => ⟨rfl, rfl⟩
theorem x_cast {n : Nat} (h : XV lay f (En.e n)) : XV lay f (En.e (n : Int)) := h
/-! ### operators -/
theorem x_opV {g : G2} (hg : ∀ S, g S a b = some (d, S)) (hp : pureD d = true) (ha : XV lay fa a) (hb : XV lay fb b) : XV lay (op2 g fa fb) d := fun r S hl => ⟨hp, by
  rw [x_op2, (ha r S hl).2, bnd_ok, (hb r S hl).2, bnd_ok, hg]; rfl⟩
theorem x_opE {g : G2} (hg : ∀ S a' b', Rds S a' a → Rds S b' b → g S a' b' = some (d, S)) (hp : pureD a = true → pureD b = true → pureD d = true) (ha : XE lay fa a) (hb : XE lay fb b) : XV lay (op2 g fa fb) d := fun r S hl => by
  obtain ⟨p1, a', e1, r1⟩ := ha r S hl
  obtain ⟨p2, b', e2, r2⟩ := hb r S hl
  exact ⟨hp p1 p2, by rw [x_op2, e1, bnd_ok, e2, bnd_ok, hg S a' b' r1 r2]; rfl⟩
variable {i j : Nat} {x y : Int}
theorem x_addN (ha : XV lay fa (En.e i)) (hb : XV lay fb (En.e j)) : XV lay (op2 addG fa fb) (En.e (i + j)) := x_opV (fun S => add_nat i j) rfl ha hb
theorem x_addI (ha : XV lay fa (En.e x)) (hb : XV lay fb (En.e y)) : XV lay (op2 addG fa fb) (En.e (x + y)) := x_opV (fun S => add_int x y) rfl ha hb
theorem x_subI (ha : XV lay fa (En.e x)) (hb : XV lay fb (En.e y)) : XV lay (op2 subI fa fb) (En.e (x - y)) := x_opV (fun S => sub_int x y) rfl ha hb
/-- a difference that is not below nought -/
theorem x_subN (h : j ≤ i) (ha : XV lay fa (En.e i)) (hb : XV lay fb (En.e j)) : XV lay (op2 subI fa fb) (En.e (i - j)) := x_opV (fun S => by
  have : ((i : Int) - (j : Int)) = ((i - j : Nat) : Int) := by omega
  rw [en_nat, en_nat, en_nat, ← this]; exact sub_int _ _) rfl ha hb
theorem x_mulI (h : mulOk x y = true) (ha : XV lay fa (En.e x)) (hb : XV lay fb (En.e y)) : XV lay (op2 mulG fa fb) (En.e (x * y)) := x_opV (fun S => by
  show mulG S (.int x) (.int y) = _
  unfold mulG orG mulI intG; simp only [h, if_true]; rfl) rfl ha hb
theorem x_mulN (h : mulOk i j = true) (ha : XV lay fa (En.e i)) (hb : XV lay fb (En.e j)) : XV lay (op2 mulG fa fb) (En.e (i * j)) := x_opV (fun S => by
  show mulG S (.int i) (.int j) = _
  unfold mulG orG mulI intG; simp only [h, if_true]
  have : ((i : Int) * (j : Int)) = ((i * j : Nat) : Int) := by simp
  rw [this]; rfl) rfl ha hb
theorem x_modN (h : 0 < j) (ha : XV lay fa (En.e i)) (hb : XV lay fb (En.e j)) : XV lay (op2 modI fa fb) (En.e (i % j)) := x_opV (fun S => by
  show modI S (.int i) (.int j) = _
  rw [mod_ok (by omega)]; rfl) rfl ha hb
theorem x_modI (h : 0 < y) (ha : XV lay fa (En.e x)) (hb : XV lay fb (En.e y)) : XV lay (op2 modI fa fb) (En.e (x % y)) := x_opV (fun S => mod_ok h) rfl ha hb
theorem x_fdivN (h : 0 < j) (h2 : j < 1000000) (ha : XV lay fa (En.e i)) (hb : XV lay fb (En.e j)) : XV lay (op2 fdivI fa fb) (En.e (i / j)) := x_opV (fun S => by
  show fdivI S (.int i) (.int j) = _
  rw [fdiv_lit (by omega) (by omega)]; rfl) rfl ha hb
theorem x_fdivI (h : 0 < y) (h2 : y < 1000000) (ha : XV lay fa (En.e x)) (hb : XV lay fb (En.e y)) : XV lay (op2 fdivI fa fb) (En.e (x / y)) := x_opV (fun S => fdiv_lit h h2) rfl ha hb
theorem x_negI (ha : XV lay fa (En.e x)) : XV lay (op1 negG fa) (En.e (-x)) := fun r S hl => ⟨rfl, by rw [x_op1, (ha r S hl).2]; rfl⟩
/-! ### comparisons -/
theorem x_ltN (ha : XV lay fa (En.e i)) (hb : XV lay fb (En.e j)) : XV lay (op2 ltI fa fb) (En.e (decide (i < j))) := x_opV (fun S => by
  rw [en_nat, en_nat, lt_int, decide_eq_decide.mpr Int.ofNat_lt]; rfl) rfl ha hb
theorem x_leN (ha : XV lay fa (En.e i)) (hb : XV lay fb (En.e j)) : XV lay (op2 leI fa fb) (En.e (decide (i ≤ j))) := x_opV (fun S => by
  rw [en_nat, en_nat, le_int, decide_eq_decide.mpr Int.ofNat_le]; rfl) rfl ha hb
theorem x_gtN (ha : XV lay fa (En.e i)) (hb : XV lay fb (En.e j)) : XV lay (op2 gtI fa fb) (En.e (decide (j < i))) := x_opV (fun S => by
  rw [en_nat, en_nat, gt_int, decide_eq_decide.mpr Int.ofNat_lt]; rfl) rfl ha hb
theorem x_geN (ha : XV lay fa (En.e i)) (hb : XV lay fb (En.e j)) : XV lay (op2 geI fa fb) (En.e (decide (j ≤ i))) := x_opV (fun S => by
  rw [en_nat, en_nat, ge_int, decide_eq_decide.mpr Int.ofNat_le]; rfl) rfl ha hb
theorem x_ltI (ha : XV lay fa (En.e x)) (hb : XV lay fb (En.e y)) : XV lay (op2 ltI fa fb) (En.e (decide (x < y))) := x_opV (fun S => lt_int x y) rfl ha hb
theorem x_leI (ha : XV lay fa (En.e x)) (hb : XV lay fb (En.e y)) : XV lay (op2 leI fa fb) (En.e (decide (x ≤ y))) := x_opV (fun S => le_int x y) rfl ha hb
theorem x_gtI (ha : XV lay fa (En.e x)) (hb : XV lay fb (En.e y)) : XV lay (op2 gtI fa fb) (En.e (decide (y < x))) := x_opV (fun S => gt_int x y) rfl ha hb
theorem x_geI (ha : XV lay fa (En.e x)) (hb : XV lay fb (En.e y)) : XV lay (op2 geI fa fb) (En.e (decide (y ≤ x))) := x_opV (fun S => ge_int x y) rfl ha hb
theorem x_chainV {g g' : G2} {p q : Bool} (hg : ∀ S, g S a b = some (.bl p, S)) (hg' : ∀ S, g' S b c = some (.bl q, S)) (ha : XV lay fa a) (hb : XV lay fb b) (hc : XV lay fc c) : XV lay (chainE g g' fa fb fc) (En.e (p && q)) := fun r S hl => ⟨rfl, by
  rw [x_chain, (ha r S hl).2, bnd_ok, (hb r S hl).2, bnd_ok, hg, x_step, bnB_ok]
  cases p with
  | false => rfl
  | true => rw [if_pos rfl, (hc r S hl).2, bnd_ok, hg', x_step]; rfl⟩
theorem lt_en (i j : Nat) (S : Store) : ltI S (En.e i) (En.e j) = some (.bl (decide (i < j)), S) := by
  rw [en_nat, en_nat, lt_int, decide_eq_decide.mpr Int.ofNat_lt]
theorem le_en (i j : Nat) (S : Store) : leI S (En.e i) (En.e j) = some (.bl (decide (i ≤ j)), S) := by
  rw [en_nat, en_nat, le_int, decide_eq_decide.mpr Int.ofNat_le]
variable {k : Nat} {z : Int}
theorem x_ltltN (ha : XV lay fa (En.e i)) (hb : XV lay fb (En.e j)) (hc : XV lay fc (En.e k)) : XV lay (chainE ltI ltI fa fb fc) (En.e (decide (i < j) && decide (j < k))) := x_chainV (lt_en i j) (lt_en j k) ha hb hc
theorem x_leltN (ha : XV lay fa (En.e i)) (hb : XV lay fb (En.e j)) (hc : XV lay fc (En.e k)) : XV lay (chainE leI ltI fa fb fc) (En.e (decide (i ≤ j) && decide (j < k))) := x_chainV (le_en i j) (lt_en j k) ha hb hc
theorem x_leleN (ha : XV lay fa (En.e i)) (hb : XV lay fb (En.e j)) (hc : XV lay fc (En.e k)) : XV lay (chainE leI leI fa fb fc) (En.e (decide (i ≤ j) && decide (j ≤ k))) := x_chainV (le_en i j) (le_en j k) ha hb hc
theorem x_ltltI (ha : XV lay fa (En.e x)) (hb : XV lay fb (En.e y)) (hc : XV lay fc (En.e z)) : XV lay (chainE ltI ltI fa fb fc) (En.e (decide (x < y) && decide (y < z))) := x_chainV (fun S => lt_int x y) (fun S => lt_int y z) ha hb hc
theorem x_leltI (ha : XV lay fa (En.e x)) (hb : XV lay fb (En.e y)) (hc : XV lay fc (En.e z)) : XV lay (chainE leI ltI fa fb fc) (En.e (decide (x ≤ y) && decide (y < z))) := x_chainV (fun S => le_int x y) (fun S => lt_int y z) ha hb hc
section
variable {α β : Type} [DecidableEq α] [En α] [DecidableEq β] [En β] {u v : α} {us vs : List α}
theorem x_eq (hd : En.dep α ≤ 60 := by decide) (ha : XE lay fa (En.e u)) (hb : XE lay fb (En.e v)) : XV lay (op2 eqG fa fb) (En.e (decide (u = v))) := x_opE (fun S a' b' r1 r2 => eqG_py hd r1.py r2.py) (fun _ _ => rfl) ha hb
theorem x_ne (hd : En.dep α ≤ 60 := by decide) (ha : XE lay fa (En.e u)) (hb : XE lay fb (En.e v)) : XV lay (op2 neG fa fb) (En.e (!decide (u = v))) := x_opE (fun S a' b' r1 r2 => neG_py hd r1.py r2.py) (fun _ _ => rfl) ha hb
/-! ### lists -/
theorem x_len (ha : XE lay fa (En.e us)) : XV lay (callB lenG (consA fa nilA)) (En.e us.length) := fun r S hl => by
  obtain ⟨_, a', e1, r1⟩ := ha r S hl
  refine ⟨rfl, ?_⟩
  rw [x_callB, x_consA, e1, bnd_ok, x_nilA, bnd_ok, bnd_ok]
  have : lenOf S a' = some us.length := by
    have q : lenOf S a' = (seqOf S a').map (·.length) := by
      rcases r1 with h | ⟨n, c, h, _⟩
      · subst h; rfl
      · subst h; rfl
    rw [q, r1.seq]; simp
  unfold lenG; simp only [this]; rfl
theorem x_ixE {xs : List D} {w : D} (ha : XE lay fa (.lst xs)) (hb : XV lay fb (.int x)) (h : L2.atI xs x = some w) (hw : pureD w = true) : XV lay (op2 ixG fa fb) w := fun r S hl => by
  obtain ⟨_, a', e1, r1⟩ := ha r S hl
  refine ⟨hw, ?_⟩
  rw [x_op2, e1, bnd_ok, (hb r S hl).2, bnd_ok]
  unfold ixG
  simp only [r1.seq, h, norm_pure S w hw]; rfl
theorem x_ix (h : us[i]? = some u) (ha : XE lay fa (En.e us)) (hb : XV lay fb (En.e i)) : XV lay (op2 ixG fa fb) (En.e u) := x_ixE (x := (i : Nat)) ha hb (atI_nat (en_get h)) (En.pu u)
theorem x_ixI (h : L2.atI us x = some u) (ha : XE lay fa (En.e us)) (hb : XV lay fb (En.e x)) : XV lay (op2 ixG fa fb) (En.e u) := x_ixE ha hb (by rw [atI_map, h]; rfl) (En.pu u)
theorem atI_last {γ : Type} (xs : List γ) : L2.atI xs (-1) = xs.getLast? := by
  cases xs with
  | nil => rfl
  | cons a as =>
    have e : (-1 + (((as.length : Nat) : Int) + 1)).toNat = as.length := by omega
    have c : (1 : Int) ≤ as.length + 1 := by omega
    rw [List.getLast?_eq_getElem?]
    unfold L2.atI L2.ixN
    simp [c, e]
theorem x_ixLast (h : us.getLast? = some u) (ha : XE lay fa (En.e us)) : XV lay (op2 ixG fa (op1 negG (retO (.int 1)))) (En.e u) := x_ixI (x := -1) (by rw [atI_last, h]) ha (x_negI (x_int 1))
theorem x_fst {p : α × β} (ha : XV lay fa (En.e p)) : XV lay (op2 ixG fa (retO (.int 0))) (En.e p.1) := x_opV (fun S => ix_fst p) (En.pu _) ha x_const
theorem x_snd {p : α × β} (ha : XV lay fa (En.e p)) : XV lay (op2 ixG fa (retO (.int 1))) (En.e p.2) := x_opV (fun S => ix_snd p) (En.pu _) ha x_const
theorem x_add (h : us.length + vs.length ≤ 100000) (ha : XE lay fa (En.e us)) (hb : XE lay fb (En.e vs)) : XV lay (op2 addG fa fb) (En.e (us ++ vs)) := x_opE (fun S a' b' r1 r2 => by
  have n1 : addI S a' b' = none := by
    rcases r1 with e | ⟨n, c, e, _⟩ <;> (subst e; rfl)
  unfold addG orG; rw [n1]
  unfold addL
  simp only [r1.lst, r2.lst, List.length_map, h, if_true]
  rw [en_list, List.map_append]) (fun _ _ => En.pu _) ha hb
theorem x_addL {n : Nat} (h : us.length + vs.length ≤ 100000) (ha : XE lay fa (En.e us)) (hb : XE lay fb (En.e vs)) : XV lay (op2 addG fa fb) (En.e (us ++ vs)) := x_add h ha hb
theorem x_nil : XV lay (lstE nilA) (En.e ([] : List α)) := fun r S hl => ⟨rfl, by rw [x_lstE, x_nilA]; rfl⟩
theorem x_lst {ds : List D} {f : Sem (List D)} (h : XA lay f ds) (hd : ds = us.map En.e) (hl : ds.length ≤ 100000 := by exact Nat.le_of_ble_eq_true rfl) : XV lay (lstE f) (En.e us) := fun r S hL => ⟨En.pu us, by
  rw [x_lstE, (h r S hL).2, bnd_ok, if_pos hl, hd]; rfl⟩
theorem x_pair {p : α} {q : β} (ha : XV lay fa (En.e p)) (hb : XV lay fb (En.e q)) : XV lay (tupE (consA fa (consA fb nilA))) (En.e (p, q)) := fun r S hl => ⟨En.pu _, by
  rw [x_tupE, x_consA, (ha r S hl).2, bnd_ok, x_consA, (hb r S hl).2, bnd_ok, x_nilA]; rfl⟩
/-- a list of its own -/
theorem x_copy (ha : XE lay fa (En.e us)) : XV lay (callB listG (consA fa nilA)) (En.e us) := fun r S hl => by
  obtain ⟨p, a', e1, r1⟩ := ha r S hl
  refine ⟨p, ?_⟩
  rw [x_callB, x_consA, e1, bnd_ok, x_nilA, bnd_ok, bnd_ok]
  unfold listG
  simp only [r1.seq]; rfl
end
/-! ### in -/
theorem x_inN {ns : List Nat} (ha : XV lay fa (En.e i)) (hb : XE lay fb (En.e ns)) : XV lay (op2 inG fa fb) (En.e (decide (i ∈ ns))) := x_opE (fun S a' b' r1 r2 => by
  have : a' = En.e i := by
    rcases r1 with e | ⟨n, c, e, h1, h2, h3⟩
    · exact e
    · cases c with
      | lst es => cases h3
      | dct t ks ws => cases h3
      | fz d => cases h2
  rw [this]; exact in_nat r2.seq) (fun _ _ => rfl) ha.e hb
theorem x_notInN {ns : List Nat} (ha : XV lay fa (En.e i)) (hb : XE lay fb (En.e ns)) : XV lay (op2 notInG fa fb) (En.e (!decide (i ∈ ns))) := x_opE (fun S a' b' r1 r2 => by
  have : a' = En.e i := by
    rcases r1 with e | ⟨n, c, e, h1, h2, h3⟩
    · exact e
    · cases c with
      | lst es => cases h3
      | dct t ks ws => cases h3
      | fz d => cases h2
  rw [this]; exact notIn_nat r2.seq) (fun _ _ => rfl) ha.e hb
theorem x_inI {ns : List Int} (ha : XV lay fa (En.e x)) (hb : XE lay fb (En.e ns)) : XV lay (op2 inG fa fb) (En.e (decide (x ∈ ns))) := x_opE (fun S a' b' r1 r2 => by
  have : a' = En.e x := by
    rcases r1 with e | ⟨n, c, e, h1, h2, h3⟩
    · exact e
    · cases c with
      | lst es => cases h3
      | dct t ks ws => cases h3
      | fz d => cases h2
  rw [this]; exact in_int r2.seq) (fun _ _ => rfl) ha.e hb
/-! ### and, or, not, if -/
variable {p q : Bool} {ta tb : Sem Bool}
theorem x_not (ha : XV lay fa (En.e p)) : XV lay (notE fa) (En.e (!p)) := fun r S hl => ⟨rfl, by rw [x_notE, (ha r S hl).2]; rfl⟩
theorem x_and (ha : XV lay fa (En.e p)) (hb : XV lay fb (En.e q)) : XV lay (andE fa fb) (En.e (p && q)) := fun r S hl => ⟨rfl, by
  rw [x_andE, (ha r S hl).2]
  show (Out.ok (D.bl p) S).bnB _ = _
  rw [bnB_ok]
  cases p with
  | false => rfl
  | true => rw [if_pos rfl, (hb r S hl).2]; rfl⟩
theorem x_or (ha : XV lay fa (En.e p)) (hb : XV lay fb (En.e q)) : XV lay (orE fa fb) (En.e (p || q)) := fun r S hl => ⟨rfl, by
  rw [x_orE, (ha r S hl).2]
  show (Out.ok (D.bl p) S).bnB _ = _
  rw [bnB_ok]
  cases p with
  | true => rfl
  | false => rw [if_neg Bool.false_ne_true, (hb r S hl).2]; rfl⟩
/-- the second one is looked at where it comes to that -/
def andO (p : Bool) (q : Option Bool) : Option Bool := if p = true then q else some false
def orO (p : Bool) (q : Option Bool) : Option Bool := if p = true then some true else q
theorem xo_and {q : Option Bool} (ha : XV lay fa (En.e p)) (hb : XO lay fb (En.e (α := Bool)) q) : XO lay (andE fa fb) (En.e (α := Bool)) (andO p q) := fun c e r S hl => ⟨rfl, by
  rw [x_andE, (ha r S hl).2]
  show (Out.ok (D.bl p) S).bnB _ = _
  rw [bnB_ok]
  unfold andO at e
  cases p with
  | false => cases e; rfl
  | true => rw [if_pos rfl]; rw [if_pos rfl] at e; exact (hb c e r S hl).2⟩
theorem xo_or {q : Option Bool} (ha : XV lay fa (En.e p)) (hb : XO lay fb (En.e (α := Bool)) q) : XO lay (orE fa fb) (En.e (α := Bool)) (orO p q) := fun c e r S hl => ⟨rfl, by
  rw [x_orE, (ha r S hl).2]
  show (Out.ok (D.bl p) S).bnB _ = _
  rw [bnB_ok]
  unfold orO at e
  cases p with
  | true => cases e; rfl
  | false => rw [if_neg Bool.false_ne_true]; rw [if_neg Bool.false_ne_true] at e; exact (hb c e r S hl).2⟩
theorem t_of (h : XV lay f (En.e p)) : XT lay (testE f) p := fun r S hl => by rw [x_testE, (h r S hl).2]; rfl
theorem t_not (h : XT lay ta p) : XT lay (notT ta) (!p) := fun r S hl => by rw [x_notT, h r S hl]; rfl
theorem t_and (ha : XT lay ta p) (hb : XT lay tb q) : XT lay (andT ta tb) (p && q) := fun r S hl => by
  rw [x_andT, ha r S hl, bnd_ok]
  cases p with
  | false => rfl
  | true => rw [if_pos rfl, hb r S hl]; rfl
theorem t_or (ha : XT lay ta p) (hb : XT lay tb q) : XT lay (orT ta tb) (p || q) := fun r S hl => by
  rw [x_orT, ha r S hl, bnd_ok]
  cases p with
  | true => rfl
  | false => rw [if_neg Bool.false_ne_true, hb r S hl]; rfl
theorem to_and {q : Option Bool} (ha : XT lay ta p) (hb : XTO lay tb q) : XTO lay (andT ta tb) (andO p q) := fun c e r S hl => by
  rw [x_andT, ha r S hl, bnd_ok]
  unfold andO at e
  cases p with
  | false => cases e; rfl
  | true => rw [if_pos rfl]; rw [if_pos rfl] at e; exact hb c e r S hl
theorem to_or {q : Option Bool} (ha : XT lay ta p) (hb : XTO lay tb q) : XTO lay (orT ta tb) (orO p q) := fun c e r S hl => by
  rw [x_orT, ha r S hl, bnd_ok]
  unfold orO at e
  cases p with
  | true => cases e; rfl
  | false => rw [if_neg Bool.false_ne_true]; rw [if_neg Bool.false_ne_true] at e; exact hb c e r S hl
theorem to_not {o : Option Bool} (h : XTO lay ta o) : XTO lay (notT ta) (o.map (!·)) := fun c e => by
  cases o with
  | none => cases e
  | some b => cases e; exact t_not (h b rfl)
theorem to_ret (h : XT lay ta p) : XTO lay ta (some p) := fun b e => by cases e; exact h
theorem to_bind {α : Type} {o : Option α} {k : α → Option Bool} (h : ∀ a, o = some a → XTO lay ta (k a)) : XTO lay ta (o.bind k) := fun b e => by
  cases o with
  | none => cases e
  | some a => exact h a rfl b e
theorem to_if {p : Prop} [Decidable p] {o : Option Bool} (h : p → XTO lay ta o) : XTO lay ta (if p then o else none) := fun b e => by
  split at e
  · rename_i hp; exact h hp b e
  · cases e
section
variable {α β : Type} {e : α → D}
theorem xo_ret {a : α} (h : XV lay f (e a)) : XO lay f e (some a) := fun b q => by cases q; exact h
theorem xo_bind {o : Option β} {k : β → Option α} (h : ∀ a, o = some a → XO lay f e (k a)) : XO lay f e (o.bind k) := fun b q => by
  cases o with
  | none => cases q
  | some a => exact h a rfl b q
theorem xo_if {p : Prop} [Decidable p] {o : Option α} (h : p → XO lay f e o) : XO lay f e (if p then o else none) := fun b q => by
  split at q
  · rename_i hp; exact h hp b q
  · cases q
theorem xo_ite {o1 o2 : Option α} (hc : XT lay ta p) (h1 : XO lay fa e o1) (h2 : XO lay fb e o2) : XO lay (ifE ta fa fb) e (if p = true then o1 else o2) := fun b q r S hl => by
  have e1 := hc r S hl
  cases p with
  | true =>
    rw [if_pos rfl] at q
    have := h1 b q r S hl
    exact ⟨this.1, by rw [x_ifE, e1, bnd_ok, if_pos rfl]; exact this.2⟩
  | false =>
    rw [if_neg Bool.false_ne_true] at q
    have := h2 b q r S hl
    exact ⟨this.1, by rw [x_ifE, e1, bnd_ok, if_neg Bool.false_ne_true]; exact this.2⟩
theorem x_ite {a b : α} (hc : XT lay ta p) (h1 : XV lay fa (e a)) (h2 : XV lay fb (e b)) : XV lay (ifE ta fa fb) (e (if p = true then a else b)) := fun r S hl => by
  have e1 := hc r S hl
  cases p with
  | true => exact ⟨(h1 r S hl).1, by rw [x_ifE, e1, bnd_ok, if_pos rfl]; exact (h1 r S hl).2⟩
  | false => exact ⟨(h2 r S hl).1, by rw [x_ifE, e1, bnd_ok, if_neg Bool.false_ne_true]; exact (h2 r S hl).2⟩
end
end
end Aw


/-! Tv3: what is walked, comprehensions, calls; statements. -/
namespace Aw
section
variable {lay : List SlotV} {f fa fb : Sem D} {S : Store} {α β : Type} [DecidableEq α] [En α] [DecidableEq β] [En β] {us : List α} {vs : List β} {i j n : Nat}
/-! ### walks -/
def rng (a b : Nat) : List Nat := (List.range (b - a)).map fun i => a + i
def rngD (a b : Nat) : List Nat := (List.range (a - b)).map fun i => a - i
theorem pu_ens (xs : List α) : pureL (xs.map En.e) = true := p_ens xs
theorem i_range (h : n < 2 ^ 62) (ha : XV lay fa (En.e n)) : XI lay (itRange1 (consA fa nilA)) ((List.range n).map En.e) := fun r S hl => ⟨pu_ens _, by
  rw [x_range1, x_consA, (ha r S hl).2, bnd_ok, x_nilA, bnd_ok, bnd_ok]
  show rangeI1 [.int (n : Nat)] r S = _
  rw [x_rangeI1 h]; rfl⟩
theorem i_range2 (h : i < 2 ^ 62) (h2 : n < 2 ^ 62) (ha : XV lay fa (En.e i)) (hb : XV lay fb (En.e n)) : XI lay (itRange2 (consA fa (consA fb nilA))) ((rng i n).map En.e) := fun r S hl => ⟨pu_ens _, by
  rw [x_range2, x_consA, (ha r S hl).2, bnd_ok, x_consA, (hb r S hl).2, bnd_ok, x_nilA, bnd_ok, bnd_ok, bnd_ok]
  show rangeI2 [.int (i : Nat), .int (n : Nat)] r S = _
  rw [x_rangeI2 h h2]
  unfold rng; rw [List.map_map]; rfl⟩
theorem rngD_en (i n : Nat) : ((List.range (i - n)).map fun k => D.int (((i : Nat) : Int) + (k : Nat) * -1)) = (rngD i n).map En.e := by
  unfold rngD
  rw [List.map_map]
  apply List.map_congr_left
  intro k hk
  have hk := List.mem_range.mp hk
  have e : ((i : Nat) : Int) + (k : Nat) * -1 = ((i - k : Nat) : Int) := by omega
  rw [e]; rfl
theorem rangeI3_down {r : Env} (h : i < 2 ^ 62) (h2 : n < 2 ^ 62) : rangeI3 [.int (i : Nat), .int (n : Nat), .int (-1)] r S = .ok ((rngD i n).map En.e) S := by
  obtain ⟨c0, c1, c2, c3⟩ := L2.RgC.neg (i := (i : Nat)) (j := (n : Nat)) (by omega) (by omega) (by omega) (by omega)
  have e : (((i : Nat) : Int) - ((n : Nat) : Int)).toNat = i - n := by omega
  rw [e] at c3
  have c4 : (0 : Int) ≤ PySem.Builtin.Range.rangeSize (i : Nat) (n : Nat) (-1) := by rw [c3]; omega
  rw [← rngD_en]
  unfold rangeI3
  simp only [c0, c1, c2, c3, ne_eq, not_false_iff, true_and, Int.natCast_nonneg, if_true, Int.toNat_natCast, x_ret]
theorem i_down (h : i < 2 ^ 62) (h2 : n < 2 ^ 62) (ha : XV lay fa (En.e i)) (hb : XV lay fb (En.e n)) : XI lay (itRange3 (consA fa (consA fb (consA (op1 negG (retO (.int 1))) nilA)))) ((rngD i n).map En.e) := fun r S hl => ⟨pu_ens _, by
  have e3 : op1 negG (retO (.int 1)) r S = .ok (.int (-1)) S := rfl
  unfold itRange3
  rw [x_bind, x_consA, (ha r S hl).2, bnd_ok, x_consA, (hb r S hl).2, bnd_ok, x_consA, e3, bnd_ok, x_nilA, bnd_ok, bnd_ok, bnd_ok, bnd_ok]
  exact rangeI3_down h h2⟩
theorem i_list (ha : XV lay fa (En.e us)) : XI lay (itSeq fa) (us.map En.e) := fun r S hl => ⟨pu_ens us, by
  rw [x_itSeq, (ha r S hl).2, bnd_ok]; rfl⟩
def enumL {γ : Type} (xs : List γ) : List (Nat × γ) := xs.zipIdx.map fun p => (p.2, p.1)
theorem enumFrom_zip (xs : List α) (k : Nat) : enumFrom k (xs.map En.e) = (xs.zipIdx k).map fun p => En.e (p.2, p.1) := by
  induction xs generalizing k with
  | nil => rfl
  | cons x xs ih => rw [List.map_cons, enumFrom, ih, List.zipIdx_cons, List.map_cons]; rfl
theorem i_enum (ha : XV lay fa (En.e us)) : XI lay (itEnum (consA fa nilA)) ((enumL us).map En.e) := fun r S hl => ⟨pu_ens _, by
  rw [x_enum, x_consA, (ha r S hl).2, bnd_ok, x_nilA, bnd_ok, bnd_ok]
  show (asLst [D.lst (us.map En.e)] r S).bnd _ = _
  rw [x_asLst, bnd_ok, enumFrom_zip, enumL, List.map_map]; rfl⟩
theorem x_zip (f : Sem (List D)) (r : Env) (S : Store) {ds es : List D} (h : f r S = .ok [.lst ds, .lst es] S) : itZip f r S = .ok (zipD ds es) S := by
  unfold itZip; rw [x_bind, h]; rfl
theorem zipD_en : ∀ (us : List α) (vs : List β), zipD (us.map En.e) (vs.map En.e) = (us.zip vs).map En.e
  | [], _ => by simp [zipD]
  | _ :: _, [] => by simp [zipD]
  | u :: us, v :: vs => by rw [List.map_cons, List.map_cons, zipD, zipD_en us vs]; rfl
theorem i_zip (ha : XV lay fa (En.e us)) (hb : XV lay fb (En.e vs)) : XI lay (itZip (consA fa (consA fb nilA))) ((us.zip vs).map En.e) := fun r S hl => ⟨pu_ens _, by
  rw [x_zip (ds := us.map En.e) (es := vs.map En.e), zipD_en]
  rw [x_consA, (ha r S hl).2, bnd_ok, x_consA, (hb r S hl).2, bnd_ok, x_nilA]; rfl⟩
theorem i_rev (ha : XV lay fa (En.e us)) : XI lay (itRev (consA fa nilA)) (us.reverse.map En.e) := fun r S hl => ⟨pu_ens _, by
  unfold itRev
  rw [x_bind, x_consA, (ha r S hl).2, bnd_ok, x_nilA, bnd_ok, bnd_ok, x_bind]
  show (asLst [D.lst (us.map En.e)] r S).bnd _ = _
  rw [x_asLst, bnd_ok, List.map_reverse]; rfl⟩
/-- list(range(n)) -/
theorem x_rgL (h : n ≤ 100000) (ha : XV lay fa (En.e n)) : XV lay (rgLst (ends1 fa)) (En.e (List.range n)) := fun r S hl => ⟨En.pu _, by
  rw [x_rgN (ha r S hl).2 h]; rfl⟩
end
/-! ### comprehensions -/
/-- [g x for x in xs if p x] -/
def compL {α β : Type} (p : α → Option Bool) (g : α → Option β) : List α → Option (List β)
  | [] => some []
  | x :: xs => (p x).bind fun b => if b = true then (g x).bind fun y => (compL p g xs).bind fun ys => some (y :: ys) else compL p g xs
def compO {α β : Type} (xs : List α) (p : α → Option Bool) (g : α → Option β) : Option (List β) := if xs.length ≤ 100000 then compL p g xs else none
def mapO {α β : Type} (xs : List α) (g : α → Option β) : Option (List β) := compO xs (fun _ => some true) g
theorem compL_some {α β : Type} {p : α → Option Bool} {g : α → Option β} (P : α → Bool) (G : α → β) : ∀ {xs : List α}, (∀ x ∈ xs, p x = some (P x) ∧ (P x = true → g x = some (G x))) → compL p g xs = some ((xs.filter P).map G)
  | [], _ => rfl
  | x :: xs, h => by
    obtain ⟨h1, h2⟩ := h x List.mem_cons_self
    have ih := compL_some P G (xs := xs) fun y hy => h y (List.mem_cons_of_mem _ hy)
    unfold compL
    rw [h1]
    simp only [Option.bind_some]
    cases q : P x with
    | false => rw [if_neg Bool.false_ne_true, ih, List.filter_cons, q]; rfl
    | true => rw [if_pos rfl, h2 q, ih, List.filter_cons, q]; rfl
theorem compO_some {α β : Type} {xs : List α} {p : α → Option Bool} {g : α → Option β} (P : α → Bool) (G : α → β) (hl : xs.length ≤ 100000) (h : ∀ x ∈ xs, p x = some (P x) ∧ (P x = true → g x = some (G x))) : compO xs p g = some ((xs.filter P).map G) := by
  unfold compO; rw [if_pos hl, compL_some P G h]
theorem mapO_some {α β : Type} {xs : List α} {g : α → Option β} (G : α → β) (hl : xs.length ≤ 100000) (h : ∀ x ∈ xs, g x = some (G x)) : mapO xs g = some (xs.map G) := by
  unfold mapO; rw [compO_some (fun _ => true) G hl fun x hx => ⟨rfl, fun _ => h x hx⟩, List.filter_eq_self.mpr (by simp)]
def wipeV (vs : List SlotV) : List Nat → List SlotV
  | [] => vs
  | i :: is => (wipeV vs is).set i .unk
theorem Lay.wipe {vs : List SlotV} {r : Env} {S : Store} (h : Lay vs r S) : ∀ is : List Nat, Lay (wipeV vs is) (wipeD r is) S
  | [] => h
  | i :: is => (Lay.wipe h is).unset i none
/-- the slots after an item came to the target -/
def Tgt.lay : Tgt → D → List SlotV → List SlotV
  | .one i, d, vs => vs.set i (.val d)
  | .many is, .tup ds, vs => manyV is ds vs
  | .many _, _, vs => vs
where manyV : List Nat → List D → List SlotV → List SlotV
  | i :: is, d :: ds, vs => manyV is ds (vs.set i (.val d))
  | _, _, vs => vs
def Tgt.fits : Tgt → D → Bool
  | .one _, _ => true
  | .many is, .tup ds => decide (ds.length = is.length)
  | .many _, _ => false
theorem many_lay : ∀ {is : List Nat} {ds : List D} {vs : List SlotV} {r : Env} {S : Store}, Lay vs r S → pureL ds = true → Lay (Tgt.lay.manyV is ds vs) (setMany is ds r) S
  | [], _, _, _, _, h, _ => by simp only [Tgt.lay.manyV, setMany]; exact h
  | _ :: _, [], _, _, _, h, _ => by simp only [Tgt.lay.manyV, setMany]; exact h
  | i :: is, d :: ds, vs, r, S, h, hp => by
    simp only [pureL, Bool.and_eq_true] at hp
    simp only [Tgt.lay.manyV, setMany]
    exact many_lay (h.setVal i hp.1) hp.2
theorem Tgt.to {t : Tgt} {d : D} {vs : List SlotV} {r : Env} {S : Store} (h : Lay vs r S) (hd : pureD d = true) (hf : t.fits d = true) : ∃ r1, t.set d r = some r1 ∧ Lay (t.lay d vs) r1 S := by
  cases t with
  | one i => exact ⟨_, rfl, h.setVal i hd⟩
  | many is =>
    cases d with
    | tup ds =>
      simp only [Tgt.fits, decide_eq_true_eq] at hf
      exact ⟨_, by simp only [Tgt.set, hf, if_true], many_lay h hd⟩
    | _ => cases hf
section
variable {lay : List SlotV} {S : Store} {α β : Type} {it : Sem (List D)} {t : Tgt} {ws : List Nat} {c : Sem Bool} {el : Sem D} {enc : α → D} {e : β → D} {xs : List α} {p : α → Option Bool} {g : α → Option β}
theorem loop_comp {vs : List SlotV} {r : Env} (hl : Lay vs r S) : ∀ {xs : List α}, (∀ x ∈ xs, pureD (enc x) = true ∧ t.fits (enc x) = true ∧ XTO (t.lay (enc x) vs) c (p x) ∧ XO (t.lay (enc x) vs) el e (g x)) → ∀ ys, compL p g xs = some ys → pureL (ys.map e) = true ∧ loopC t c el r (xs.map enc) S = .ok (ys.map e) S
  | [], _, ys, q => by cases q; exact ⟨rfl, rfl⟩
  | x :: xs, h, ys, q => by
    obtain ⟨h1, h2, h3, h4⟩ := h x List.mem_cons_self
    have ih := loop_comp hl (xs := xs) fun y hy => h y (List.mem_cons_of_mem _ hy)
    obtain ⟨r1, e1, l1⟩ := Tgt.to hl h1 h2
    unfold compL at q
    rw [List.map_cons]
    unfold loopC
    rw [e1]
    simp only
    cases q1 : p x with
    | none => rw [q1] at q; cases q
    | some b =>
      rw [q1] at q
      simp only [Option.bind_some] at q
      rw [h3 b q1 r1 S l1]
      cases b with
      | false =>
        rw [if_neg Bool.false_ne_true] at q
        exact ih ys q
      | true =>
        rw [if_pos rfl] at q
        cases q2 : g x with
        | none => rw [q2] at q; cases q
        | some y =>
          rw [q2] at q
          simp only [Option.bind_some] at q
          cases q3 : compL p g xs with
          | none => rw [q3] at q; cases q
          | some zs =>
            rw [q3] at q; cases q
            obtain ⟨a1, a2⟩ := h4 y q2 r1 S l1
            obtain ⟨b1, b2⟩ := ih zs q3
            simp only [a2, b2, List.map_cons, pureL, a1, b1, Bool.and_self, and_self]
theorem x_comp {ys : List β} (hi : XI lay it (xs.map enc)) (h : ∀ x ∈ xs, pureD (enc x) = true ∧ t.fits (enc x) = true ∧ XTO (t.lay (enc x) (wipeV lay ws)) c (p x) ∧ XO (t.lay (enc x) (wipeV lay ws)) el e (g x)) (q : compO xs p g = some ys) : XV lay (lcE it t ws c el) (.lst (ys.map e)) := fun r S hl => by
  unfold compO at q
  by_cases hx : xs.length ≤ 100000
  · rw [if_pos hx] at q
    obtain ⟨a, b⟩ := loop_comp (hl.wipe ws) h ys q
    exact ⟨a, by rw [x_lcE, (hi r S hl).2, bnd_ok, if_pos (by simpa using hx), b, bnd_ok]⟩
  · rw [if_neg hx] at q; cases q
/-- over values of Lean's own types -/
theorem x_lc [DecidableEq α] [En α] [DecidableEq β] [En β] {ys : List β} (hi : XI lay it (xs.map En.e)) (hc : ∀ x : α, x ∈ xs → XTO (t.lay (En.e x) (wipeV lay ws)) c (p x)) (he : ∀ x : α, x ∈ xs → XO (t.lay (En.e x) (wipeV lay ws)) el En.e (g x)) (q : compO xs p g = some ys) (hf : ∀ x : α, t.fits (En.e x) = true := by exact fun _ => rfl) : XV lay (lcE it t ws c el) (En.e ys) :=
  x_comp hi (fun x hx => ⟨En.pu x, hf x, hc x hx, he x hx⟩) q
theorem to_yes : XTO lay yesT (some true) := fun b e => by cases e; exact fun r S hl => rfl
end
/-! ### calls -/
section
variable {lay : List SlotV} {f : FSem} {fa fb : Sem D} {ga : Sem (List D)} {d a : D} {ds : List D} {n : Nat}
theorem a_nil : XA lay nilA [] := fun r S hl => ⟨rfl, rfl⟩
theorem a_cons (ha : XV lay fa a) (h : XA lay ga ds) : XA lay (consA fa ga) (a :: ds) := fun r S hl => ⟨by
  simp only [pureL, (ha r S hl).1, (h r S hl).1, Bool.and_self], by rw [x_consA, (ha r S hl).2, bnd_ok, (h r S hl).2, bnd_ok]⟩
theorem ae_nil : XAE lay nilA [] := fun r S hl => ⟨rfl, [], rfl, True.intro⟩
theorem ae_val (ha : XV lay fa a) (h : XAE lay ga ds) : XAE lay (consA fa ga) (a :: ds) := fun r S hl => by
  obtain ⟨p, ds', e, rr⟩ := h r S hl
  exact ⟨by simp only [pureL, (ha r S hl).1, p, Bool.and_self], a :: ds', by rw [x_consA, (ha r S hl).2, bnd_ok, e, bnd_ok], .inl rfl, rr⟩
theorem ae_cell (i : Nat) {es : List D} (h : XAE lay ga ds) (hi : lay[i]? = some (.cell (.lst es)) := by rfl) : XAE lay (consA (vE i) ga) (.lst es :: ds) := fun r S hl => by
  obtain ⟨p, ds', e, rr⟩ := h r S hl
  obtain ⟨a, n, b, e0⟩ := hl.cell i _ hi
  have hv : vE i r S = .ok (.loc n) S := by
    rw [x_var b]
    have : norm S (.loc n) = .loc n := norm_loc e0
    rw [this]
  exact ⟨by simp only [pureL, p, Bool.and_true]; exact a, .loc n :: ds', by rw [x_consA, hv, bnd_ok, e, bnd_ok], .inr ⟨n, es, rfl, e0, rfl⟩, rr⟩
theorem x_callT (h : XA lay ga ds) (hf : f ds = .ok d) (hp : pureD d = true) (hl : ds.length = n := by rfl) : XV lay (callF n f ga) d := fun r S hL => ⟨hp, by
  rw [x_callF, (h r S hL).2, bnd_ok, callV_of (resF_pure S ds (h r S hL).1) hl, hf]; rfl⟩
theorem resLst_rds {S : Store} : ∀ {ds' ds : List D}, RdsL S ds' ds → pureL ds = true → resL (resLst S 4) ds' = some ds ∧ (resF S ds' = none ∨ ds' = ds)
  | [], [], _, _ => ⟨rfl, .inr rfl⟩
  | d' :: ds', d :: ds, h, hp => by
    simp only [pureL, Bool.and_eq_true] at hp
    obtain ⟨i1, i2⟩ := resLst_rds h.2 hp.2
    rcases h.1 with rfl | ⟨n, es, rfl, e, rfl⟩
    · refine ⟨by simp only [resL, resD_pure _ d' hp.1, i1], ?_⟩
      rcases i2 with i2 | i2
      · left
        unfold resF at i2 ⊢
        simp only [resL, resD_pure _ d' hp.1, i2]
      · right; rw [i2]
    · have q : resLst S (3 + 1) n = some (.lst es) := by
        rw [resLst_lst 3 e, resL_pure _ es hp.1]; rfl
      refine ⟨by simp only [resL, resD]; rw [show (4 : Nat) = 3 + 1 from rfl, q]; simp only [i1], .inl ?_⟩
      unfold resF
      simp only [resL, resD]
      rw [show (4 : Nat) = 3 + 1 from rfl]
      simp only [resFz, e]
  | [], _ :: _, h, _ => h.elim
  | _ :: _, [], h, _ => h.elim
/-- lists' cells are lent: the answer is a number, a truth or the like -/
theorem x_callL (h : XAE lay ga ds) (hf : f ds = .ok d) (hfl : flatA d = true) (hl : ds.length = n := by rfl) : XV lay (callF n f ga) d := fun r S hL => by
  obtain ⟨p, ds', e, rr⟩ := h r S hL
  have hp : pureD d = true := by cases d <;> first | rfl | cases hfl
  refine ⟨hp, ?_⟩
  obtain ⟨i1, i2⟩ := resLst_rds rr p
  rw [x_callF, e, bnd_ok]
  rcases i2 with i2 | i2
  · rw [callV_lent i2 i1 hl, hf]
    simp only [liftB, hfl, if_true]
  · subst i2
    rw [callV_of (resF_pure S _ p) hl, hf]; rfl
end
end Aw


/-! Tv4: statements. -/
namespace Aw
/-- how a block ends: it goes on; a loop is left or taken up anew; an answer; an exception -/
inductive Flow (σ β ρ : Type) where
  | nx (s : σ) | brk (b : β) | ct (b : β) | ret (a : ρ) | err (c : Ex)
section
variable {σ τ β ρ α : Type}
def thenF (o : Option (Flow σ β ρ)) (k : σ → Option (Flow τ β ρ)) : Option (Flow τ β ρ) := match o with
  | some (.nx s) => k s
  | some (.brk b) => some (.brk b)
  | some (.ct b) => some (.ct b)
  | some (.ret a) => some (.ret a)
  | some (.err c) => some (.err c)
  | none => none
def forO (b : α → σ → Option (Flow σ σ ρ)) : List α → σ → Option (Flow σ β ρ)
  | [], s => some (.nx s)
  | x :: xs, s => match b x s with
    | some (.nx s') => forO b xs s'
    | some (.ct s') => forO b xs s'
    | some (.brk s') => some (.nx s')
    | some (.ret a) => some (.ret a)
    | some (.err c) => some (.err c)
    | none => none
def whileO (c : σ → Option Bool) (b : σ → Option (Flow σ σ ρ)) : Nat → σ → Option (Flow σ β ρ)
  | 0, _ => none
  | n + 1, s => match c s with
    | some true => match b s with
      | some (.nx s') => whileO c b n s'
      | some (.ct s') => whileO c b n s'
      | some (.brk s') => some (.nx s')
      | some (.ret a) => some (.ret a)
      | some (.err c) => some (.err c)
      | none => none
    | some false => some (.nx s)
    | none => none
@[simp] theorem thenF_nx (s : σ) (k : σ → Option (Flow τ β ρ)) : thenF (some (.nx s)) k = k s := rfl
@[simp] theorem thenF_ret (a : ρ) (k : σ → Option (Flow τ β ρ)) : thenF (some (.ret a)) k = some (.ret a) := rfl
@[simp] theorem thenF_err (a : Ex) (k : σ → Option (Flow τ β ρ)) : thenF (some (.err a)) k = some (.err a) := rfl
@[simp] theorem thenF_brk (a : β) (k : σ → Option (Flow τ β ρ)) : thenF (some (.brk a)) k = some (.brk a) := rfl
@[simp] theorem thenF_ct (a : β) (k : σ → Option (Flow τ β ρ)) : thenF (some (.ct a)) k = some (.ct a) := rfl
@[simp] theorem forO_nil (b : α → σ → Option (Flow σ σ ρ)) (s : σ) : (forO b [] s : Option (Flow σ β ρ)) = some (.nx s) := rfl
/-- the answer of a def that raises nothing -/
def outO (o : Option (Flow ρ Empty ρ)) : Option ρ := match o with
  | some (.ret a) => some a
  | _ => none
/-- the answer, or what is raised -/
inductive Res (ρ : Type) where
  | ok (a : ρ) | err (c : Ex)
def outX (o : Option (Flow ρ Empty ρ)) : Option (Res ρ) := match o with
  | some (.ret a) => some (.ok a)
  | some (.nx a) => some (.ok a)
  | some (.err c) => some (.err c)
  | _ => none
end
/-- a statement that goes on -/
def XS (lay : List SlotV) (f : SemS) (lay' : List SlotV) : Prop := ∀ (r : Env) (S : Store), Lay lay r S → ∃ r' S', f r S = .nx r' S' ∧ Lay lay' r' S'
/-- how answers stand: their data, and what the first cell holds then, where that is asked -/
structure RetS (ρ : Type) where
  d : ρ → D
  jg : Option (ρ → Cell)
abbrev rPl {ρ : Type} [DecidableEq ρ] [En ρ] : RetS ρ := ⟨En.e, none⟩
abbrev rJg {α : Type} [DecidableEq α] [En α] : RetS (α × List Int) := ⟨fun p => En.e p.1, some fun p => jugC p.2⟩
def XBd {σ β ρ : Type} (post : σ → List SlotV) (pb : β → List SlotV) (e : RetS ρ) : Flow σ β ρ → R → Prop
  | .nx s, o => ∃ r' S', o = .nx r' S' ∧ Lay (post s) r' S'
  | .brk s, o => ∃ r' S', o = .brk r' S' ∧ Lay (pb s) r' S'
  | .ct s, o => ∃ r' S', o = .ct r' S' ∧ Lay (pb s) r' S'
  | .ret a, o => ∃ d S', o = .ret d S' ∧ Rds S' d (e.d a) ∧ pureD (e.d a) = true ∧ ∀ c, e.jg = some c → S'[0]? = some (c a) ∧ d ≠ .loc 0
  | .err c, o => ∃ r' S', o = .err c r' S'
structure XB {σ β ρ : Type} (lay : List SlotV) (f : SemS) (post : σ → List SlotV) (pb : β → List SlotV) (e : RetS ρ) (o : Option (Flow σ β ρ)) : Prop where
  run : ∀ fl, o = some fl → ∀ (r : Env) (S : Store), Lay lay r S → XBd post pb e fl (f r S)
section
variable {σ τ β ρ α : Type} {lay lay1 lay2 : List SlotV} {f g h : SemS} {post : σ → List SlotV} {post1 : τ → List SlotV} {pb : β → List SlotV} {e : RetS ρ} {o : Option (Flow σ β ρ)}
theorem xb_bind {q : Option α} {k : α → Option (Flow σ β ρ)} (h : ∀ a, q = some a → XB lay f post pb e (k a)) : XB lay f post pb e (q.bind k) := ⟨fun fl z => by
  cases q with
  | none => cases z
  | some a => exact (h a rfl).run fl z⟩
theorem xb_if {p : Prop} [Decidable p] (h : p → XB lay f post pb e o) : XB lay f post pb e (if p then o else none) := ⟨fun fl z => by
  split at z
  · rename_i hp; exact (h hp).run fl z
  · cases z⟩
theorem xb_weak (le : LayLe lay lay1) (h : XB lay1 f post pb e o) : XB lay f post pb e o := ⟨fun fl z r S hl => h.run fl z r S (hl.weak le)⟩
/-- a statement that goes on, ahead of the rest -/
theorem xb_cons (h1 : XS lay f lay1) (h2 : XB lay1 g post pb e o) : XB lay (seqS f g) post pb e o := ⟨fun fl z r S hl => by
  obtain ⟨r', S', e1, l1⟩ := h1 r S hl
  rw [x_seq, e1, sq_nx]
  exact h2.run fl z r' S' l1⟩
/-- .. at the end of a block -/
theorem xb_end {s : σ} (h1 : XS lay f lay1) (le : LayLe lay1 (post s)) : XB lay f post pb e (some (.nx s)) := ⟨fun fl z r S hl => by
  cases z
  obtain ⟨r', S', e1, l1⟩ := h1 r S hl
  exact ⟨r', S', e1, l1.weak le⟩⟩
theorem xb_skip {s : σ} (le : LayLe lay (post s)) : XB lay skipS post pb e (some (.nx s)) := ⟨fun fl z r S hl => by
  cases z
  exact ⟨r, S, rfl, hl.weak le⟩⟩
theorem xb_brk {s : β} (le : LayLe lay (pb s)) : XB lay (fun r S => .brk r S) post pb e (some (.brk s)) := ⟨fun fl z r S hl => by
  cases z
  exact ⟨r, S, rfl, hl.weak le⟩⟩
theorem xb_ct {s : β} (le : LayLe lay (pb s)) : XB lay (fun r S => .ct r S) post pb e (some (.ct s)) := ⟨fun fl z r S hl => by
  cases z
  exact ⟨r, S, rfl, hl.weak le⟩⟩
theorem xb_seq {o1 : Option (Flow τ β ρ)} {k : τ → Option (Flow σ β ρ)} (h1 : XB lay f post1 pb e o1) (h2 : ∀ s, XB (post1 s) g post pb e (k s)) : XB lay (seqS f g) post pb e (thenF o1 k) := ⟨fun fl z r S hl => by
  rw [x_seq]
  cases o1 with
  | none => cases z
  | some fl1 =>
    have q := h1.run fl1 rfl r S hl
    cases fl1 with
    | nx s =>
      obtain ⟨r', S', e1, l1⟩ := q
      rw [e1, sq_nx]
      exact (h2 s).run fl z r' S' l1
    | brk s => obtain ⟨r', S', e1, l1⟩ := q; cases z; exact ⟨r', S', by rw [e1]; rfl, l1⟩
    | ct s => obtain ⟨r', S', e1, l1⟩ := q; cases z; exact ⟨r', S', by rw [e1]; rfl, l1⟩
    | ret a => obtain ⟨d, S', e1, l1⟩ := q; cases z; exact ⟨d, S', by rw [e1]; rfl, l1⟩
    | err c => obtain ⟨r', S', e1⟩ := q; cases z; exact ⟨r', S', by rw [e1]; rfl⟩⟩
theorem xb_ret {fe : Sem D} {a : ρ} (h : XE lay fe (e.d a)) (hj : e.jg = none := by rfl) : XB lay (retS fe) post pb e (some (.ret a)) := ⟨fun fl z r S hl => by
  cases z
  obtain ⟨p, d', e1, r1⟩ := h r S hl
  exact ⟨d', S, by rw [x_retS, e1, thn_ok], r1, p, fun c q => by rw [hj] at q; cases q⟩⟩
theorem xb_retV {fe : Sem D} {a : ρ} (h : XV lay fe (e.d a)) (hj : e.jg = none := by rfl) : XB lay (retS fe) post pb e (some (.ret a)) := xb_ret h.e hj
/-- .. of a def that changes its first list -/
theorem xb_retJ [DecidableEq α] [En α] {post : σ → List SlotV} {fe : Sem D} {a : α} {js : List Int} (i : Nat) (h : XV lay fe (En.e a)) (hi : lay[i]? = some (.pin (jugC js)) := by rfl) : XB lay (retS fe) post pb rJg (some (.ret (a, js))) := ⟨fun fl z r S hl => by
  cases z
  obtain ⟨p, e1⟩ := h r S hl
  refine ⟨_, S, by rw [x_retS, e1, thn_ok], .inl rfl, p, fun c q => ?_⟩
  cases q
  exact ⟨(hl.pin i _ hi).2.2, fun z => by
    have z : (En.e a : D) = .loc 0 := z
    rw [z] at p; cases p⟩⟩
/-- .. a list's cell -/
theorem xb_retJc [DecidableEq α] [En α] {post : σ → List SlotV} {us : List α} {js : List Int} (i k : Nat) (hk : lay[k]? = some (.cell (.lst (us.map En.e))) := by rfl) (hi : lay[i]? = some (.pin (jugC js)) := by rfl) : XB lay (retS (vE k)) post pb rJg (some (.ret (us, js))) := ⟨fun fl z r S hl => by
  cases z
  obtain ⟨a, n, b, e0⟩ := hl.cell k _ hk
  have hv : vE k r S = .ok (.loc n) S := by
    rw [x_var b, norm_loc e0]
  refine ⟨.loc n, S, by rw [x_retS, hv, thn_ok], .inr ⟨n, _, rfl, e0, a, rfl⟩, En.pu us, fun c q => ?_⟩
  cases q
  refine ⟨(hl.pin i _ hi).2.2, fun z => ?_⟩
  cases z
  exact hl.far i k _ _ hi hk b⟩
theorem xb_raise {c : Ex} : XB lay (raiseS c) post pb e (some (.err c)) := ⟨fun fl z r S hl => by
  cases z
  exact ⟨r, S, rfl⟩⟩
theorem xb_ite {c : Sem Bool} {b : Bool} {o1 o2 : Option (Flow σ β ρ)} (hc : XT lay c b) (h1 : XB lay f post pb e o1) (h2 : XB lay g post pb e o2) : XB lay (ifS c f g) post pb e (if b = true then o1 else o2) := ⟨fun fl z r S hl => by
  rw [x_if, hc r S hl, thn_ok]
  cases b with
  | true => rw [if_pos rfl] at z ⊢; exact h1.run fl z r S hl
  | false => rw [if_neg Bool.false_ne_true] at z ⊢; exact h2.run fl z r S hl⟩
theorem xb_iteO {c : Sem Bool} {q : Option Bool} {o1 o2 : Option (Flow σ β ρ)} (hc : XTO lay c q) (h1 : XB lay f post pb e o1) (h2 : XB lay g post pb e o2) : XB lay (ifS c f g) post pb e (q.bind fun b => if b = true then o1 else o2) := xb_bind fun b hb => xb_ite (hc b hb) h1 h2
theorem xb_for {it : Sem (List D)} {t : Tgt} {enc : α → D} {xs : List α} {lays : τ → List SlotV} {s0 : τ} {b : α → τ → Option (Flow τ τ ρ)} (hi : XI lay it (xs.map enc)) (h0 : LayLe lay (lays s0)) (hp : ∀ x : α, pureD (enc x) = true ∧ t.fits (enc x) = true)
    (hb : ∀ x, x ∈ xs → ∀ s, XB (t.lay (enc x) (lays s)) f lays lays e (b x s)) : XB lay (forS it t f) lays pb e (forO b xs s0 : Option (Flow τ β ρ)) := ⟨fun fl z r S hl => by
  rw [x_for, (hi r S hl).2, thn_ok]
  have key : ∀ (ys : List α) (s : τ) (r : Env) (S : Store), (∀ x ∈ ys, x ∈ xs) → Lay (lays s) r S → ∀ fl : Flow τ β ρ, forO b ys s = some fl → XBd lays pb e fl (loopS t f (ys.map enc) r S) := by
    intro ys
    induction ys with
    | nil => intro s r S _ hl fl z; cases z; exact ⟨r, S, rfl, hl⟩
    | cons y ys ih =>
      intro s r S hm hl fl z
      obtain ⟨r1, e1, l1⟩ := Tgt.to hl (hp y).1 (hp y).2
      rw [List.map_cons]
      unfold loopS
      rw [e1]
      simp only
      unfold forO at z
      have hb := hb y (hm y List.mem_cons_self) s
      cases q : b y s with
      | none => rw [q] at z; cases z
      | some fl1 =>
        rw [q] at z
        have w := hb.run fl1 q r1 S l1
        have ih' := fun s r S hl fl z => ih s r S (fun x hx => hm x (List.mem_cons_of_mem _ hx)) hl fl z
        cases fl1 with
        | nx s' => obtain ⟨r', S', e2, l2⟩ := w; rw [e2]; exact ih' s' r' S' l2 fl z
        | ct s' => obtain ⟨r', S', e2, l2⟩ := w; rw [e2]; exact ih' s' r' S' l2 fl z
        | brk s' => obtain ⟨r', S', e2, l2⟩ := w; rw [e2]; cases z; exact ⟨r', S', rfl, l2⟩
        | ret a => obtain ⟨d, S', e2, l2⟩ := w; rw [e2]; cases z; exact ⟨d, S', rfl, l2⟩
        | err c => obtain ⟨r', S', e2⟩ := w; rw [e2]; cases z; exact ⟨r', S', rfl⟩
  exact key xs s0 r S (fun x hx => hx) (hl.weak h0) fl z⟩
theorem xb_forE [DecidableEq α] [En α] {it : Sem (List D)} {t : Tgt} {xs : List α} {lays : τ → List SlotV} {s0 : τ} {b : α → τ → Option (Flow τ τ ρ)} (hi : XI lay it (xs.map En.e)) (h0 : LayLe lay (lays s0))
    (hb : ∀ x, x ∈ xs → ∀ s, XB (t.lay (En.e x) (lays s)) f lays lays e (b x s)) (hf : ∀ x : α, t.fits (En.e x) = true := by exact fun _ => rfl) : XB lay (forS it t f) lays pb e (forO b xs s0 : Option (Flow τ β ρ)) := xb_for hi h0 (fun x => ⟨En.pu x, hf x⟩) hb
theorem xb_while {n : Nat} {c : Sem Bool} {lays : τ → List SlotV} {s0 : τ} {oc : τ → Option Bool} {b : τ → Option (Flow τ τ ρ)} (h0 : LayLe lay (lays s0)) (hc : ∀ s, XTO (lays s) c (oc s))
    (hb : ∀ s, XB (lays s) f lays lays e (b s)) : XB lay (whileS c f n) lays pb e (whileO oc b n s0 : Option (Flow τ β ρ)) := ⟨fun fl z r S hl => by
  have key : ∀ (n : Nat) (s : τ) (r : Env) (S : Store), Lay (lays s) r S → ∀ fl : Flow τ β ρ, whileO oc b n s = some fl → XBd lays pb e fl (whileS c f n r S) := by
    intro n
    induction n with
    | zero => intro s r S hl fl z; cases z
    | succ n ih =>
      intro s r S hl fl z
      unfold whileO at z
      unfold whileS
      cases q0 : oc s with
      | none => rw [q0] at z; cases z
      | some bb =>
        rw [q0] at z
        rw [hc s bb q0 r S hl]
        cases bb with
        | false => cases z; exact ⟨r, S, rfl, hl⟩
        | true =>
          simp only at z ⊢
          cases q : b s with
          | none => rw [q] at z; cases z
          | some fl1 =>
            rw [q] at z
            have w := (hb s).run fl1 q r S hl
            cases fl1 with
            | nx s' => obtain ⟨r', S', e2, l2⟩ := w; rw [e2]; exact ih s' r' S' l2 fl z
            | ct s' => obtain ⟨r', S', e2, l2⟩ := w; rw [e2]; exact ih s' r' S' l2 fl z
            | brk s' => obtain ⟨r', S', e2, l2⟩ := w; rw [e2]; cases z; exact ⟨r', S', rfl, l2⟩
            | ret a => obtain ⟨d, S', e2, l2⟩ := w; rw [e2]; cases z; exact ⟨d, S', rfl, l2⟩
            | err c => obtain ⟨r', S', e2⟩ := w; rw [e2]; cases z; exact ⟨r', S', rfl⟩
  exact key n s0 r S (hl.weak h0) fl z⟩
/-! ### simple statements -/
variable {fa fb : Sem D} {d d2 : D} {i j : Nat} {ds : List D}
theorem s_set (i : Nat) (h : XV lay fa d) : XS lay (setS fa (.one i)) (lay.set i (.val d)) := fun r S hl =>
  ⟨r.set i (some d), S, by rw [x_setS, (h r S hl).2, thn_ok], hl.setVal i (h r S hl).1⟩
theorem s_setM {is : List Nat} (h : XV lay fa (.tup ds)) (hn : ds.length = is.length) : XS lay (setS fa (.many is)) (Tgt.lay.manyV is ds lay) := fun r S hl => by
  refine ⟨setMany is ds r, S, ?_, many_lay hl (h r S hl).1⟩
  rw [x_setM, (h r S hl).2, thn_ok]
  simp only [Tgt.set, hn, if_true]
theorem s_drop (h : XV lay fa d) : XS lay (dropS fa) lay := fun r S hl => ⟨r, S, by rw [x_dropS, (h r S hl).2, thn_ok], hl⟩
/-- i = [..], a list of its own -/
theorem s_newL (i : Nat) {ga : Sem (List D)} (h : XA lay ga ds) (hl : ds.length ≤ 100000 := by exact Nat.le_of_ble_eq_true rfl) : XS lay (setS (lstC ga) (.one i)) (lay.set i (.cell (.lst ds))) := fun r S hL => by
  refine ⟨_, _, ?_, hL.newCell i (c := .lst ds) (h r S hL).1⟩
  rw [x_setS, x_lstC, (h r S hL).2, bnd_ok, if_pos hl, thn_ok]
theorem s_newE [DecidableEq α] [En α] (i : Nat) {ga : Sem (List D)} {us : List α} (h : XA lay ga ds) (hd : ds = us.map En.e) (hl : ds.length ≤ 100000 := by exact Nat.le_of_ble_eq_true rfl) : XS lay (setS (lstC ga) (.one i)) (lay.set i (.cell (.lst (us.map En.e)))) := by
  rw [← hd]; exact s_newL i h hl
/-- i = list(..) -/
theorem s_newCopy [DecidableEq α] [En α] (i : Nat) {us : List α} (h : XE lay fa (En.e us)) : XS lay (setS (callB listGC (consA fa nilA)) (.one i)) (lay.set i (.cell (.lst (us.map En.e)))) := fun r S hL => by
  obtain ⟨p, a', e1, r1⟩ := h r S hL
  refine ⟨_, _, ?_, hL.newCell i (c := .lst (us.map En.e)) (pu_ens us)⟩
  rw [x_setS, x_callB, x_consA, e1, bnd_ok, x_nilA, bnd_ok, bnd_ok]
  unfold listGC
  simp only [r1.seq]; rfl
theorem s_newRange {n : Nat} (i : Nat) (hn : n ≤ 100000) (h : XV lay fa (En.e n)) : XS lay (setS (rgLstC (ends1 fa)) (.one i)) (lay.set i (.cell (.lst ((List.range n).map En.e)))) := fun r S hL => by
  refine ⟨_, _, ?_, hL.newCell i (c := .lst ((List.range n).map En.e)) (pu_ens _)⟩
  have hb : rgOkB 0 (n : Nat) = true := by
    unfold rgOkB inR
    simp only [Bool.and_eq_true, decide_eq_true_eq]
    refine ⟨⟨by omega, by omega⟩, ⟨by omega, by omega⟩, by omega⟩
  have e : (((n : Nat) : Int) - 0).toNat = n := by omega
  have e2 : fa r S = .ok (.int (n : Nat)) S := (h r S hL).2
  rw [x_setS]
  unfold rgLstC ends1
  rw [x_bind, x_bind, e2, bnd_ok]
  simp only [x_ret, bnd_ok, hb, if_true, e, rangeD0]; rfl
/-- i = [.. for ..], a list of its own -/
theorem s_newLc [DecidableEq α] [En α] {γ : Type} [DecidableEq γ] [En γ] (i : Nat) {it : Sem (List D)} {t : Tgt} {ws : List Nat} {c : Sem Bool} {el : Sem D} {xs : List α} {p : α → Option Bool} {gg : α → Option γ} {ys : List γ} (hi : XI lay it (xs.map En.e)) (hc : ∀ x : α, x ∈ xs → XTO (t.lay (En.e x) (wipeV lay ws)) c (p x)) (he : ∀ x : α, x ∈ xs → XO (t.lay (En.e x) (wipeV lay ws)) el En.e (gg x)) (q : compO xs p gg = some ys) (hf : ∀ x : α, t.fits (En.e x) = true := by exact fun _ => rfl) :
    XS lay (setS (lcC it t ws c el) (.one i)) (lay.set i (.cell (.lst (ys.map En.e)))) := fun r S hL => by
  refine ⟨_, _, ?_, hL.newCell i (c := .lst (ys.map En.e)) (pu_ens ys)⟩
  unfold compO at q
  by_cases hx : xs.length ≤ 100000
  · rw [if_pos hx] at q
    obtain ⟨_, b⟩ := loop_comp (hL.wipe ws) (fun x hx => ⟨En.pu x, hf x, hc x hx, he x hx⟩) ys q
    rw [x_setS, x_lcC, (hi r S hL).2, bnd_ok, if_pos (by simpa using hx), b, bnd_ok, thn_ok]
  · rw [if_neg hx] at q; cases q
/-- i = xs + ys, a list of its own -/
theorem s_newAdd [DecidableEq α] [En α] (i : Nat) {us vs : List α} (hn : us.length + vs.length ≤ 100000) (ha : XE lay fa (En.e us)) (hb : XE lay fb (En.e vs)) : XS lay (setS (op2 addGC fa fb) (.one i)) (lay.set i (.cell (.lst ((us ++ vs).map En.e)))) := fun r S hL => by
  obtain ⟨_, a', e1, r1⟩ := ha r S hL
  obtain ⟨_, b', e2, r2⟩ := hb r S hL
  refine ⟨_, _, ?_, hL.newCell i (c := .lst ((us ++ vs).map En.e)) (pu_ens _)⟩
  have n1 : addI S a' b' = none := by
    rcases r1 with e | ⟨n, c, e, _⟩ <;> (subst e; rfl)
  rw [x_setS, x_op2, e1, bnd_ok, e2, bnd_ok]
  unfold addGC orG; rw [n1]
  unfold addLC
  simp only [r1.lst, r2.lst, List.length_map, hn, if_true]
  rw [List.map_append]; rfl
/-- a cell's list changes -/
theorem s_meth {G : GM} {ga : Sem (List D)} {as ds' : List D} (i : Nat) (hi : lay[i]? = some (.cell (.lst ds))) (h : XA lay ga as) (hG : ∀ (n : Nat) (S : Store), S[n]? = some (.lst ds) → G S (.loc n) as = some (d, S.set n (.lst ds'))) (hp : pureL ds' = true) :
    ∀ (r : Env) (S : Store), Lay lay r S → ∃ S', methL G (vE i) ga r S = .ok d S' ∧ Lay (lay.set i (.cell (.lst ds'))) r S' := fun r S hL => by
  obtain ⟨a, n, b, e0⟩ := hL.cell i _ hi
  have hv : vE i r S = .ok (.loc n) S := by
    rw [x_var b]
    have : norm S (.loc n) = .loc n := norm_loc e0
    rw [this]
  refine ⟨S.set n (.lst ds'), ?_, hL.updCell hi b hp⟩
  rw [x_methL, hv, bnd_ok]
  have : (lstOf S (.loc n)).isSome = true := by simp only [lstOf, e0]; rfl
  rw [if_pos this, (h r S hL).2, bnd_ok, hG n S e0]; rfl
theorem s_append (i : Nat) (ha : XV lay fa d) (hn : ds.length < 100000) (hp : pureL (ds ++ [d]) = true) (hi : lay[i]? = some (.cell (.lst ds)) := by rfl) : XS lay (dropS (methL appendG (vE i) (consA fa nilA))) (lay.set i (.cell (.lst (ds ++ [d])))) := fun r S hL => by
  obtain ⟨S', e1, l1⟩ := s_meth i hi (a_cons ha a_nil) (fun n S e => app_cell e hn) hp r S hL
  exact ⟨r, S', by rw [x_dropS, e1, thn_ok], l1⟩
theorem s_appendE [DecidableEq α] [En α] (i : Nat) {us : List α} {u : α} (ha : XV lay fa (En.e u)) (hn : us.length < 100000) (hi : lay[i]? = some (.cell (.lst (us.map En.e))) := by rfl) : XS lay (dropS (methL appendG (vE i) (consA fa nilA))) (lay.set i (.cell (.lst ((us ++ [u]).map En.e)))) := by
  have hp := pu_ens (us ++ [u])
  rw [List.map_append] at hp ⊢
  exact s_append i ha (by simpa using hn) hp hi
theorem pop_cell {S : Store} {n : Nat} {ds : List D} {u : D} (e : S[n]? = some (.lst ds)) (h : ds[ds.length - 1]? = some u) : popG S (.loc n) [] = some (u, S.set n (.lst ds.dropLast)) := by
  unfold popG onCell
  simp only [e, h]
theorem s_popE [DecidableEq α] [En α] (i j : Nat) {us : List α} {u : α} (hu : us.getLast? = some u) (hi : lay[j]? = some (.cell (.lst (us.map En.e))) := by rfl) : XS lay (setS (methL popG (vE j) nilA) (.one i)) ((lay.set j (.cell (.lst (us.dropLast.map En.e)))).set i (.val (En.e u))) := fun r S hL => by
  have h1 : (us.map (En.e (α := α)))[(us.map (En.e (α := α))).length - 1]? = some (En.e u) := by
    rw [List.length_map, List.getElem?_map, ← List.getLast?_eq_getElem?, hu]; rfl
  obtain ⟨S', e1, l1⟩ := s_meth (G := popG) j hi a_nil (d := En.e u) (ds' := us.dropLast.map En.e) (fun n S e => by rw [pop_cell e h1, List.map_dropLast]) (pu_ens _) r S hL
  refine ⟨_, S', ?_, l1.setVal i (En.pu u)⟩
  rw [x_setS, e1, thn_ok]
theorem s_extendE [DecidableEq α] [En α] (i : Nat) {us vs : List α} (ha : XV lay fa (En.e vs)) (hn : us.length + vs.length ≤ 100000) (hi : lay[i]? = some (.cell (.lst (us.map En.e))) := by rfl) : XS lay (dropS (methL extendG (vE i) (consA fa nilA))) (lay.set i (.cell (.lst ((us ++ vs).map En.e)))) := fun r S hL => by
  obtain ⟨a, n, b, e0⟩ := hL.cell i _ hi
  have hv : vE i r S = .ok (.loc n) S := by
    rw [x_var b]
    have : norm S (.loc n) = .loc n := norm_loc e0
    rw [this]
  refine ⟨r, S.set n (.lst ((us ++ vs).map En.e)), ?_, hL.updCell hi b (pu_ens _)⟩
  have hs : (lstOf S (.loc n)).isSome = true := by simp only [lstOf, e0]; rfl
  rw [x_dropS, x_methL, hv, bnd_ok, if_pos hs, x_consA, (ha r S hL).2, bnd_ok, x_nilA, bnd_ok, bnd_ok]
  unfold extendG onCell
  simp only [lstOf_en, e0, List.length_map, hn, if_true]
  rw [List.map_append]; rfl
theorem s_insertE [DecidableEq α] [En α] (i : Nat) {us : List α} {u : α} {k : Nat} (hk : XV lay fb (En.e k)) (ha : XV lay fa (En.e u)) (hn : us.length < 100000) (hk2 : k ≤ us.length) (hi : lay[i]? = some (.cell (.lst (us.map En.e))) := by rfl) : XS lay (dropS (methL insertG (vE i) (consA fb (consA fa nilA)))) (lay.set i (.cell (.lst ((us.take k ++ u :: us.drop k).map En.e)))) := fun r S hL => by
  obtain ⟨S', e1, l1⟩ := s_meth (G := insertG) i hi (a_cons hk (a_cons ha a_nil)) (d := .non) (ds' := (us.take k ++ u :: us.drop k).map En.e) (fun n S e => by
    rw [en_nat, ins_cell e (by simpa using hn) (by simpa using hk2)]
    simp only [List.map_append, List.map_cons, List.map_take, List.map_drop]) (pu_ens _) r S hL
  refine ⟨r, S', ?_, l1⟩
  rw [x_dropS, e1, thn_ok]
theorem s_reverseE [DecidableEq α] [En α] (i : Nat) {us : List α} (hi : lay[i]? = some (.cell (.lst (us.map En.e))) := by rfl) (hr : ∀ (ds : List D) (S : Store) (n : Nat), S[n]? = some (.lst ds) → reverseG S (.loc n) [] = some (.non, S.set n (.lst ds.reverse)) := by
  intro ds S n e
  unfold reverseG onCell
  simp only [e]) : XS lay (dropS (methL reverseG (vE i) nilA)) (lay.set i (.cell (.lst (us.reverse.map En.e)))) := fun r S hL => by
  obtain ⟨a, n, b, e0⟩ := hL.cell i _ hi
  have hv : vE i r S = .ok (.loc n) S := by
    rw [x_var b]
    have : norm S (.loc n) = .loc n := norm_loc e0
    rw [this]
  refine ⟨r, S.set n (.lst (us.reverse.map En.e)), ?_, hL.updCell hi b (pu_ens _)⟩
  have hs : (lstOf S (.loc n)).isSome = true := by simp only [lstOf, e0]; rfl
  rw [x_dropS, x_methL, hv, bnd_ok, if_pos hs, x_nilA, bnd_ok, hr _ _ _ e0, List.map_reverse]; rfl
/-- xs[k] = v -/
theorem s_setItem [DecidableEq α] [En α] (i : Nat) {us : List α} {u : α} {k : Nat} (hk : XV lay fb (En.e k)) (ha : XV lay fa (En.e u)) (hk2 : k < us.length) (hi : lay[i]? = some (.cell (.lst (us.map En.e))) := by rfl) : XS lay (asgS fa (subT setL (vE i) fb)) (lay.set i (.cell (.lst ((us.set k u).map En.e)))) := fun r S hL => by
  obtain ⟨a, n, b, e0⟩ := hL.cell i _ hi
  have hv : vE i r S = .ok (.loc n) S := by
    rw [x_var b]
    have : norm S (.loc n) = .loc n := norm_loc e0
    rw [this]
  refine ⟨r, S.set n (.lst ((us.set k u).map En.e)), ?_, hL.updCell hi b (pu_ens _)⟩
  rw [x_asg, (ha r S hL).2, thn_ok, hv, thn_ok, (hk r S hL).2, thn_ok]
  have := set_cell (d := En.e u) e0 (show k < (us.map (En.e (α := α))).length by simpa using hk2)
  simp only [en_nat, this, List.map_set]
/-- the proof's own step: from now on the cell stays -/
theorem xb_ghost (i : Nat) {c : Cell} (hi : lay[i]? = some (.cell c)) (h : XB (lay.set i (.val (frzD c))) f post pb e o) : XB lay (ghostS (fzSlot i) f) post pb e o := ⟨fun fl z r S hl => by
  obtain ⟨S', e1, l1⟩ := hl.frz hi
  rw [x_ghost _ _ e1]
  exact h.run fl z r S' l1⟩
theorem s_ghost (i : Nat) {c : Cell} (hi : lay[i]? = some (.cell c)) (h : XS (lay.set i (.val (frzD c))) f lay1) : XS lay (ghostS (fzSlot i) f) lay1 := fun r S hl => by
  obtain ⟨S', e1, l1⟩ := hl.frz hi
  rw [x_ghost _ _ e1]
  exact h r S' l1
end
/-! ### a def -/
section
variable {ρ : Type} {b : SemS} {n : Nat} {ds : List D} {e : RetS ρ}
theorem resA_rds {S : Store} {d' d : D} (h : Rds S d' d) (hp : pureD d = true) : resA S d' = some d := by
  rcases h with rfl | ⟨n, c, rfl, h1, h2, h3⟩
  · exact resA_pure S _ hp
  · cases c with
    | lst es => cases h3; exact resA_lst h1 h2
    | dct t ks ws =>
      cases h3
      rw [resA_loc]
      simp only [resLoc, h1]
      simp only [liveC, Bool.and_eq_true] at h2
      rw [resL_pure _ ws h2.2]; rfl
    | fz d => cases h2
theorem fn_ok {o : Option (Flow ρ Empty ρ)} {a : ρ} {post : ρ → List SlotV} {pb : Empty → List SlotV} (h : XB (layStart n ds) b post pb e o) (hp : pureL ds = true) (ho : o = some (.ret a)) : fnOut n b ds = .ok (e.d a) := by
  obtain ⟨d, S', e1, r1, p1, _⟩ := h.run _ ho _ _ (lay_start hp)
  exact out_ret e1 (resA_rds r1 p1)
theorem fn_err {o : Option (Flow ρ Empty ρ)} {c : Ex} {post : ρ → List SlotV} {pb : Empty → List SlotV} (h : XB (layStart n ds) b post pb e o) (hp : pureL ds = true) (ho : o = some (.err c)) : fnOut n b ds = .err c := by
  obtain ⟨r', S', e1⟩ := h.run _ ho _ _ (lay_start hp)
  unfold fnOut; rw [e1]
/-- the answer's data with the first cell aside -/
theorem resLocJ_live {S : Store} {n : Nat} {c : Cell} (h1 : S[n]? = some c) (h2 : liveC c = true) (hn : n ≠ 0) : resJ S (.loc n) = some (frzD c) := by
  have purL : ∀ k ws, pureL ws = true → resL (resLocJ S k) ws = some ws := fun k ws hp => resL_pure _ ws hp
  show resLocJ S (3 + 1) n = _
  unfold resLocJ
  rw [if_neg hn, h1]
  cases c with
  | lst ds =>
    show (resL (resLocJ S 3) ds).map D.lst = _
    rw [purL 3 ds h2]; rfl
  | dct t ks ws =>
    simp only [liveC, Bool.and_eq_true] at h2
    show (resL (resLocJ S 3) ws).map (D.dct ⟨t, false⟩ ks) = _
    rw [purL 3 ws h2.2]; rfl
  | fz d => cases h2
theorem liveC_jug (js : List Int) : liveC (jugC js) = true := by
  show pureL (js.map D.int) = true
  exact p_ens js
theorem fnJ_ok {α : Type} [DecidableEq α] [En α] {js : List Int} {o : Option (Flow (α × List Int) Empty (α × List Int))} {v : α × List Int} {post : (α × List Int) → List SlotV} {pb : Empty → List SlotV} (h : XB (layStartJ n (jugC js) ds) b post pb rJg o) (hp : pureL ds = true) (ho : o = some (.ret v)) : fnJ n b ds js = .ok (En.e v.1) v.2 := by
  obtain ⟨d, S', e1, r1, p1, j1⟩ := h.run _ ho _ _ (lay_startJ (liveC_jug js) hp)
  obtain ⟨j2, j3⟩ := j1 _ rfl
  have hr : resJ S' d = some (En.e v.1) := by
    rcases r1 with rfl | ⟨n, c, rfl, h1, h2, h3⟩
    · exact resD_pure _ _ p1
    · rw [resLocJ_live h1 h2 (fun z => j3 (by rw [z])), h3]
  unfold fnJ
  rw [e1]
  simp only [jugOf_at j2, hr]
end
end Aw


/-! Tv5: dicts. -/
namespace Aw
/-- what may be a key -/
class DKey (κ : Type) [DecidableEq κ] [En κ] where
  kt : Bool
  ok : ∀ a : κ, isK kt (En.e a) = true
  eq : ∀ a b : κ, keq (En.e a) (En.e b) = decide (a = b)
  len : ∀ a : κ, kLen (En.e a) = true
instance : DKey Nat where
  kt := false
  ok _ := rfl
  eq a b := by
    show ((a : Int) == (b : Int)) = _
    rw [dec_beq]; exact decide_eq_decide.mpr Int.ofNat_inj
  len _ := rfl
instance : DKey Int where
  kt := false
  ok _ := rfl
  eq a b := by
    show (a == b) = _
    exact dec_beq a b
  len _ := rfl
instance : DKey (Nat × Nat) where
  kt := true
  ok _ := rfl
  eq a b := by
    show (((a.1 : Int) == (b.1 : Int)) && (((a.2 : Int) == (b.2 : Int)) && true)) = _
    rw [dec_beq, dec_beq, Bool.and_true, ← Bool.decide_and]
    exact decide_eq_decide.mpr ⟨fun h => Prod.ext (Int.ofNat_inj.mp h.1) (Int.ofNat_inj.mp h.2), fun h => by rw [h]; exact ⟨rfl, rfl⟩⟩
  len _ := by simp [kLen, En.e]
section
variable {κ α : Type} [DecidableEq κ] [En κ] [DKey κ] [DecidableEq α] [En α]
abbrev dK (m : List (κ × α)) : List D := m.map fun p => En.e p.1
abbrev dV (m : List (κ × α)) : List D := m.map fun p => En.e p.2
/-- a dict's cell -/
abbrev dctC (m : List (κ × α)) : Cell := .dct (DKey.kt κ) (dK m) (dV m)
def hasK (m : List (κ × α)) (k : κ) : Bool := decide (k ∈ m.map (·.1))
def putM (m : List (κ × α)) (k : κ) (v : α) : List (κ × α) := if k ∈ m.map (·.1) then m.map (fun p => if p.1 = k then (k, v) else p) else m ++ [(k, v)]
theorem dctC_live (m : List (κ × α)) : liveC (dctC m) = true := by
  have h1 : pureL (dK m) = true := pureL_map _ (fun p => En.pu p.1) m
  have h2 : pureL (dV m) = true := pureL_map _ (fun p => En.pu p.2) m
  simp only [liveC, h1, h2, Bool.and_self]
theorem any_en (m : List (κ × α)) (k : κ) : (dK m).any (fun x => keq x (En.e k)) = decide (k ∈ m.map (·.1)) := by
  induction m with
  | nil => rfl
  | cons p m ih =>
    show (keq (En.e p.1) (En.e k) || (dK m).any _) = _
    rw [ih, DKey.eq, ← Bool.decide_or]
    exact decide_eq_decide.mpr (by rw [List.map_cons, List.mem_cons]; exact or_congr eq_comm Iff.rfl)
theorem lkD_en (k : κ) : ∀ m : List (κ × α), lkD (dK m) (dV m) (En.e k) = (m.lookup k).map En.e
  | [] => rfl
  | p :: m => by
    show (if keq (En.e p.1) (En.e k) = true then some (En.e p.2) else lkD (dK m) (dV m) (En.e k)) = _
    rw [DKey.eq, lkD_en k m, List.lookup_cons]
    by_cases h : p.1 = k
    · rw [if_pos (by simp [h])]
      have : (k == p.1) = true := by rw [h]; exact beq_self_eq_true k
      rw [this]; rfl
    · rw [if_neg (by simp [h])]
      have : (k == p.1) = false := by
        rw [beq_eq_false_iff_ne]; exact fun e => h e.symm
      rw [this]
theorem lkD_has (m : List (κ × α)) (k : κ) : (lkD (dK m) (dV m) (En.e k)).isSome = hasK m k := by
  unfold hasK
  induction m with
  | nil => rfl
  | cons p m ih =>
    show (if keq (En.e p.1) (En.e k) = true then some (En.e p.2) else lkD (dK m) (dV m) (En.e k)).isSome = _
    rw [DKey.eq]
    by_cases h : p.1 = k
    · rw [if_pos (by simp [h])]; simp [h]
    · rw [if_neg (by simp [h]), ih]
      exact decide_eq_decide.mpr (by rw [List.map_cons, List.mem_cons]; exact ⟨.inr, fun q => q.resolve_left fun e => h e.symm⟩)
theorem setAll_en (k : κ) (v : α) : ∀ m : List (κ × α), setAll (dK m) (dV m) (En.e k) (En.e v) = dV (m.map fun p => if p.1 = k then (k, v) else p)
  | [] => rfl
  | p :: m => by
    show (if keq (En.e p.1) (En.e k) = true then En.e v else En.e p.2) :: setAll (dK m) (dV m) (En.e k) (En.e v) = _
    rw [DKey.eq, setAll_en k v m]
    show _ = En.e (if p.1 = k then (k, v) else p).2 :: _
    by_cases h : p.1 = k
    · rw [if_pos (by simp [h]), if_pos h]
    · rw [if_neg (by simp [h]), if_neg h]
theorem put_en (m : List (κ × α)) (k : κ) (v : α) : putKs (dK m) (En.e k) = dK (putM m k v) ∧ putWs (dK m) (dV m) (En.e k) (En.e v) = dV (putM m k v) := by
  unfold putKs putWs putM
  rw [any_en]
  by_cases h : k ∈ m.map (·.1)
  · simp only [h, decide_true, if_true, setAll_en]
    refine ⟨?_, trivial⟩
    show m.map _ = (m.map _).map _
    rw [List.map_map]
    apply List.map_congr_left
    intro p _
    simp only [Function.comp]
    split
    · rename_i h; rw [h]
    · rfl
  · simp only [h, decide_false, Bool.false_eq_true, if_false]
    exact ⟨by simp [dK], by simp [dV]⟩
variable {lay : List SlotV} {f fa fb : Sem D} {m : List (κ × α)} {k : κ} {v : α} {i : Nat}
theorem x_inM (i : Nat) (ha : XV lay fa (En.e k)) (hi : lay[i]? = some (.cell (dctC m)) := by rfl) : XV lay (op2 (dinG false) fa (vE i)) (En.e (hasK m k)) := fun r S hl => by
  obtain ⟨p1, b', e2, r2⟩ := (x_cellDct i hi : XE lay (vE i) _) r S hl
  refine ⟨rfl, ?_⟩
  rw [x_op2, (ha r S hl).2, bnd_ok, e2, bnd_ok]
  unfold dinG
  rw [r2.dct]
  simp only [DKey.ok, if_true, lkD_has] <;> rfl
theorem x_notInM (i : Nat) (ha : XV lay fa (En.e k)) (hi : lay[i]? = some (.cell (dctC m)) := by rfl) : XV lay (op2 (dinG true) fa (vE i)) (En.e (!hasK m k)) := fun r S hl => by
  obtain ⟨p1, b', e2, r2⟩ := (x_cellDct i hi : XE lay (vE i) _) r S hl
  refine ⟨rfl, ?_⟩
  rw [x_op2, (ha r S hl).2, bnd_ok, e2, bnd_ok]
  unfold dinG
  rw [r2.dct]
  simp only [DKey.ok, if_true, lkD_has] <;> rfl
theorem x_getM (i : Nat) (h : m.lookup k = some v) (ha : XV lay fa (En.e k)) (hi : lay[i]? = some (.cell (dctC m)) := by rfl) : XV lay (op2 dgetG (vE i) fa) (En.e v) := fun r S hl => by
  obtain ⟨p1, b', e2, r2⟩ := (x_cellDct i hi : XE lay (vE i) _) r S hl
  refine ⟨En.pu v, ?_⟩
  rw [x_op2, e2, bnd_ok, (ha r S hl).2, bnd_ok]
  unfold dgetG
  rw [r2.dct]
  simp only [DKey.ok, if_true, lkD_en, h, Option.map_some, en_norm] <;> rfl
theorem x_listM (i : Nat) (hn : m.length ≤ 100000) (hi : lay[i]? = some (.cell (dctC m)) := by rfl) : XV lay (callB listDG (consA (vE i) nilA)) (En.e (m.map (·.1))) := fun r S hl => by
  obtain ⟨p1, b', e2, r2⟩ := (x_cellDct i hi : XE lay (vE i) _) r S hl
  refine ⟨En.pu _, ?_⟩
  rw [x_callB, x_consA, e2, bnd_ok, x_nilA, bnd_ok, bnd_ok]
  have hk : (dK m).all kLen = true := by
    rw [List.all_map, List.all_eq_true]
    exact fun p _ => DKey.len p.1
  unfold listDG listDWith
  simp only [r2.dct, hk, List.length_map, hn, and_self, if_true]
  rw [en_list, List.map_map]; rfl
theorem x_lenM (i : Nat) (hi : lay[i]? = some (.cell (dctC m)) := by rfl) : XV lay (callB lenDG (consA (vE i) nilA)) (En.e m.length) := fun r S hl => by
  obtain ⟨p1, b', e2, r2⟩ := (x_cellDct i hi : XE lay (vE i) _) r S hl
  refine ⟨En.pu _, ?_⟩
  rw [x_callB, x_consA, e2, bnd_ok, x_nilA, bnd_ok, bnd_ok]
  unfold lenDG
  simp only [r2.dct, List.length_map]; rfl
theorem s_put (i : Nat) (ha : XV lay fa (En.e v)) (hb : XV lay fb (En.e k)) (hn : m.length < 100000) (hi : lay[i]? = some (.cell (dctC m)) := by rfl) : XS lay (putS fa (vE i) fb) (lay.set i (.cell (dctC (putM m k v)))) := fun r S hL => by
  obtain ⟨a, n, b, e0⟩ := hL.cell i _ hi
  have hv : vE i r S = .ok (.loc n) S := by
    rw [x_var b]
    have : norm S (.loc n) = .loc n := by
      show normL S n = _
      unfold normL; rw [e0]
    rw [this]
  refine ⟨r, S.set n (dctC (putM m k v)), ?_, hL.updCell hi b (dctC_live _)⟩
  unfold putS
  rw [x_then, (ha r S hL).2, thn_ok, x_then, hv, thn_ok, x_then, (hb r S hL).2, thn_ok]
  simp only [e0, DKey.ok, List.length_map, hn, and_self, if_true, (put_en m k v).1, (put_en m k v).2]
theorem s_newD (i : Nat) {t : Bool} (ht : t = DKey.kt κ := by rfl) : XS lay (setS (dnewC t) (.one i)) (lay.set i (.cell (dctC ([] : List (κ × α))))) := fun r S hL => by
  subst ht
  exact ⟨_, _, by rw [x_setS]; unfold dnewC; rw [thn_ok]; rfl, hL.newCell i (dctC_live _)⟩
/-- i = {k: v} -/
theorem s_newD1 (i : Nat) (ha : XV lay fa (En.e k)) (hb : XV lay fb (En.e v)) (hk : DKey.kt κ = false := by rfl) : XS lay (setS (dispC [(fa, fb)]) (.one i)) (lay.set i (.cell (dctC [(k, v)]))) := fun r S hL => by
  refine ⟨_, _, ?_, hL.newCell i (dctC_live _)⟩
  have ok := DKey.ok (κ := κ) k
  rw [hk] at ok
  simp only [isK, Bool.false_eq_true, if_false] at ok
  rw [x_setS]
  unfold dispC dispWith pairsE
  rw [x_bind, x_bind, (ha r S hL).2, bnd_ok, x_bind, (hb r S hL).2, bnd_ok]
  unfold pairsE
  rw [x_bind]
  simp only [x_ret, bnd_ok, keysOk, List.all_cons, List.all_nil, ok, Bool.and_self, List.length_cons, List.length_nil]
  simp only [true_and, Nat.zero_add, show (1 : Nat) ≤ 15 from by decide, if_true, thn_ok]
  show _ = R.nx _ (S ++ [Cell.dct (DKey.kt κ) _ _])
  rw [hk]
  rfl
end
end Aw


/-! Tv6: more of expressions: sorting, slices, calls that may raise; short words for the printer. -/
namespace Aw
theorem le_k {a : SlotV} {as bs : List SlotV} (h : LayLe as bs) : LayLe (a :: as) (a :: bs) := ⟨.inr rfl, h⟩
theorem le_u {a : SlotV} {as bs : List SlotV} (h : LayLe as bs) : LayLe (a :: as) (.unk :: bs) := ⟨.inl rfl, h⟩
theorem le_nil : LayLe [] [] := True.intro
section
variable {lay : List SlotV} {f fa fb fl fh : Sem D} {S : Store} {α : Type} [DecidableEq α] [En α] {us : List α} {i j n : Nat}
def ltN : Nat → Nat → Bool := fun a b => decide (a < b)
/-- sorted(numbers) -/
def sortN (xs : List Nat) : List Nat := isort ltN xs
theorem ins_map (x : Nat) : ∀ xs : List Nat, ins ltInt (x : Int) (xs.map fun n : Nat => (n : Int)) = (ins ltN x xs).map fun n : Nat => (n : Int)
  | [] => rfl
  | y :: ys => by
    have e : ltInt (y : Int) (x : Int) = ltN y x := by simp only [ltInt, ltN, Int.ofNat_lt]
    show (if ltInt (y : Int) (x : Int) = true then (y : Int) :: ins ltInt (x : Int) (ys.map fun n : Nat => (n : Int)) else (x : Int) :: (y : Int) :: ys.map fun n : Nat => (n : Int)) = (if ltN y x = true then y :: ins ltN x ys else x :: y :: ys).map _
    rw [e, ins_map x ys]
    split <;> rfl
theorem isort_map (xs : List Nat) : isort ltInt (xs.map fun n : Nat => (n : Int)) = (isort ltN xs).map fun n : Nat => (n : Int) := by
  induction xs with
  | nil => rfl
  | cons x xs ih =>
    show ins ltInt (x : Int) (isort ltInt _) = _
    rw [ih]; exact ins_map x _
theorem swo_nat : SrtO.Swo ltN := ⟨fun x y h => by simp only [ltN, decide_eq_true_eq, decide_eq_false_iff_not] at *; omega, fun x y z h1 h2 => by simp only [ltN, decide_eq_false_iff_not] at *; omega⟩
theorem sortN_perm (xs : List Nat) : (sortN xs).Perm xs := isort_perm ltN xs
theorem sortN_le (xs : List Nat) : (sortN xs).Pairwise (· ≤ ·) := (isort_srtd swo_nat xs).imp fun h => by
  simp only [ltN, decide_eq_false_iff_not] at h; omega
theorem sortN_uniq {xs ys : List Nat} (h1 : ys.Perm xs) (h2 : ys.Pairwise (· ≤ ·)) : sortN xs = ys :=
  List.Perm.eq_of_pairwise (fun a b _ _ h1 h2 => Nat.le_antisymm h1 h2) (sortN_le xs) h2 ((sortN_perm xs).trans h1.symm)
theorem x_toN {x : Int} (h : 0 ≤ x) (ha : XV lay fa (En.e x)) : XV lay fa (En.e x.toNat) := fun r S hl => ⟨rfl, by
  rw [(ha r S hl).2]
  show Out.ok (D.int x) S = .ok (.int (x.toNat : Nat)) S
  rw [Int.toNat_of_nonneg h]⟩
theorem x_sortN {us : List Nat} (ha : XE lay fa (En.e us)) : XV lay (callB (orC sortI sortP) (consA fa nilA)) (En.e (sortN us)) := fun r S hl => by
  obtain ⟨p, a', e1, r1⟩ := ha r S hl
  refine ⟨En.pu _, ?_⟩
  rw [x_callB, x_consA, e1, bnd_ok, x_nilA, bnd_ok, bnd_ok]
  have e2 : lstOf S a' = some ((us.map fun n : Nat => (n : Int)).map D.int) := by rw [r1.lst, ← nat_int]
  unfold orC sortI onInts
  simp only [e2, intsOf_map, Option.map_some, isort_map, x_step]
  rw [en_list]
  show Out.ok (D.lst _) S = _
  rw [List.map_map]; rfl
theorem x_sumN {us : List Nat} (ha : XE lay fa (En.e us)) : XV lay (callB sumG (consA fa nilA)) (En.e us.sum) := fun r S hl => by
  obtain ⟨p, a', e1, r1⟩ := ha r S hl
  refine ⟨En.pu _, ?_⟩
  rw [x_callB, x_consA, e1, bnd_ok, x_nilA, bnd_ok, bnd_ok]
  have e2 : lstOf S a' = some ((us.map fun n : Nat => (n : Int)).map D.int) := by rw [r1.lst, ← nat_int]
  have e3 : (us.map fun n : Nat => (n : Int)).sum = ((us.sum : Nat) : Int) := by
    clear ha r1 e2 p
    induction us with
    | nil => rfl
    | cons u us ih => rw [List.map_cons, List.sum_cons, List.sum_cons, ih]; simp
  unfold sumG onInts
  simp only [e2, intsOf_map, Option.map_some, e3, x_step]; rfl
theorem x_sumI {us : List Int} (ha : XE lay fa (En.e us)) : XV lay (callB sumG (consA fa nilA)) (En.e us.sum) := fun r S hl => by
  obtain ⟨p, a', e1, r1⟩ := ha r S hl
  refine ⟨En.pu _, ?_⟩
  rw [x_callB, x_consA, e1, bnd_ok, x_nilA, bnd_ok, bnd_ok]
  have e2 : lstOf S a' = some (us.map D.int) := r1.lst
  unfold sumG onInts
  simp only [e2, intsOf_map, Option.map_some, x_step]; rfl
theorem x_all {us : List Bool} (ha : XE lay fa (En.e us)) : XV lay (callB allG (consA fa nilA)) (En.e (us.all id)) := fun r S hl => by
  obtain ⟨p, a', e1, r1⟩ := ha r S hl
  refine ⟨rfl, ?_⟩
  rw [x_callB, x_consA, e1, bnd_ok, x_nilA, bnd_ok, bnd_ok]
  have e2 : lstOf S a' = some (us.map D.bl) := r1.lst
  unfold allG onBls
  simp only [e2, blsOf_map, Option.map_some, x_step]; rfl
theorem x_any {us : List Bool} (ha : XE lay fa (En.e us)) : XV lay (callB anyG (consA fa nilA)) (En.e (us.any id)) := fun r S hl => by
  obtain ⟨p, a', e1, r1⟩ := ha r S hl
  refine ⟨rfl, ?_⟩
  rw [x_callB, x_consA, e1, bnd_ok, x_nilA, bnd_ok, bnd_ok]
  have e2 : lstOf S a' = some (us.map D.bl) := r1.lst
  unfold anyG onBls
  simp only [e2, blsOf_map, Option.map_some, x_step]; rfl
theorem x_min2N (ha : XV lay fa (En.e i)) (hb : XV lay fb (En.e j)) : XV lay (callB min2G (consA fa (consA fb nilA))) (En.e (min i j)) := fun r S hl => ⟨rfl, by
  rw [x_callB, x_consA, (ha r S hl).2, bnd_ok, x_consA, (hb r S hl).2, bnd_ok, x_nilA, bnd_ok, bnd_ok, bnd_ok]
  show stepO (min2G S [.int i, .int j]) = _
  rw [min_int, x_step]
  have : (if ((j : Nat) : Int) < i then ((j : Nat) : Int) else i) = ((min i j : Nat) : Int) := by split <;> omega
  rw [this]; rfl⟩
theorem x_max2N (ha : XV lay fa (En.e i)) (hb : XV lay fb (En.e j)) : XV lay (callB max2G (consA fa (consA fb nilA))) (En.e (max i j)) := fun r S hl => ⟨rfl, by
  rw [x_callB, x_consA, (ha r S hl).2, bnd_ok, x_consA, (hb r S hl).2, bnd_ok, x_nilA, bnd_ok, bnd_ok, bnd_ok]
  show stepO (max2G S [.int i, .int j]) = _
  rw [max_int, x_step]
  have : (if ((j : Nat) : Int) > i then ((j : Nat) : Int) else i) = ((max i j : Nat) : Int) := by split <;> omega
  rw [this]; rfl⟩
/-! ### slices -/
theorem x_sliceE {xs : List D} {lo hi : Sem (Option Int)} {a b : Option Int} (ha : XE lay fa (.lst xs)) (h1 : ∀ r S, Lay lay r S → lo r S = .ok a S) (h2 : ∀ r S, Lay lay r S → hi r S = .ok b S) (hp : pureL (cutD xs a b) = true) : XV lay (sliceE slL fa lo hi) (.lst (cutD xs a b)) := fun r S hl => by
  obtain ⟨p, a', e1, r1⟩ := ha r S hl
  refine ⟨hp, ?_⟩
  rw [x_slice, e1, bnd_ok, h1 r S hl, bnd_ok, h2 r S hl, bnd_ok]
  have : slL S a' a b = some (.lst (cutD xs a b), S) := by
    have e := r1.lst
    unfold slL
    cases a' with
    | scr ns => cases e
    | _ => simp only [e]
  rw [this]; rfl
theorem part_nat (ha : XV lay fa (En.e i)) : ∀ r S, Lay lay r S → partO fa r S = .ok (some ((i : Nat) : Int)) S := fun r S hl => x_part (ha r S hl).2
theorem part_no : ∀ r S, Lay lay r S → noPartO r S = .ok none S := fun r S hl => x_noPart
theorem cutD_map (xs : List α) (a b : Option Int) {ys : List D} (h : cutD (xs.map En.e) a b = ys) : cutD (xs.map En.e) a b = ys := h
theorem x_drop (ha : XE lay fa (En.e us)) (hb : XV lay fb (En.e i)) : XV lay (sliceE slL fa (partO fb) noPartO) (En.e (us.drop i)) := by
  have e : cutD (us.map En.e) (some ((i : Nat) : Int)) none = (us.drop i).map En.e := by rw [cutD_one, List.map_drop]
  have := x_sliceE (xs := us.map En.e) (a := some ((i : Nat) : Int)) (b := none) ha (part_nat hb) part_no (by rw [e]; exact pu_ens _)
  rw [e] at this; exact this
theorem x_take (ha : XE lay fa (En.e us)) (hb : XV lay fb (En.e i)) : XV lay (sliceE slL fa noPartO (partO fb)) (En.e (us.take i)) := by
  have e : cutD (us.map En.e) none (some ((i : Nat) : Int)) = (us.take i).map En.e := by rw [cutD_to, List.map_take]
  have := x_sliceE (xs := us.map En.e) (a := none) (b := some ((i : Nat) : Int)) ha part_no (part_nat hb) (by rw [e]; exact pu_ens _)
  rw [e] at this; exact this
theorem cutD_both {ds : List D} (a b : Nat) : cutD ds (some (a : Nat)) (some (b : Nat)) = (ds.take b).drop a := by
  unfold cutD
  rw [HT.sIx_nat, HT.sIx_nat, List.drop_take]
  by_cases h1 : a ≤ ds.length
  · rw [Nat.min_eq_left h1]
    by_cases h2 : b ≤ ds.length
    · rw [Nat.min_eq_left h2]
    · rw [Nat.min_eq_right (by omega), List.take_of_length_le (by rw [List.length_drop]; omega), List.take_of_length_le (by rw [List.length_drop]; omega)]
  · have e : min a ds.length = ds.length := by omega
    rw [e, List.drop_of_length_le (Nat.le_refl _), List.take_nil, List.drop_of_length_le (show ds.length ≤ a by omega), List.take_nil]
theorem x_cut (ha : XE lay fa (En.e us)) (hb : XV lay fl (En.e i)) (hc : XV lay fh (En.e j)) : XV lay (sliceE slL fa (partO fl) (partO fh)) (En.e ((us.take j).drop i)) := by
  have e : cutD (us.map En.e) (some ((i : Nat) : Int)) (some ((j : Nat) : Int)) = ((us.take j).drop i).map En.e := by rw [cutD_both, List.map_drop, List.map_take]
  have := x_sliceE (xs := us.map En.e) (a := some ((i : Nat) : Int)) (b := some ((j : Nat) : Int)) ha (part_nat hb) (part_nat hc) (by rw [e]; exact pu_ens _)
  rw [e] at this; exact this
theorem x_revE (ha : XE lay fa (En.e us)) : XV lay (revE fa) (En.e us.reverse) := fun r S hl => by
  obtain ⟨p, a', e1, r1⟩ := ha r S hl
  refine ⟨En.pu _, ?_⟩
  rw [x_rev, e1, bnd_ok, r1.lst]
  show Out.ok (D.lst _) S = _
  rw [en_list, List.map_reverse]
/-! ### in, of data of any form -/
theorem x_inL {u : α} (hd : En.dep α ≤ 60 := by decide) (hn : (flatD (En.e u) && (us.map (En.e (α := α))).all flatD) = false) (ha : XV lay fa (En.e u)) (hb : XE lay fb (En.e us)) : XV lay (op2 inG fa fb) (En.e (decide (u ∈ us))) := fun r S hl => by
  obtain ⟨p, b', e1, r1⟩ := hb r S hl
  refine ⟨rfl, ?_⟩
  rw [x_op2, (ha r S hl).2, bnd_ok, e1, bnd_ok]
  have q1 : inF S (En.e u) b' = none := by
    unfold inF; rw [r1.seq]; simp only [hn, Bool.false_eq_true, if_false]
  have q2 : pyL (pyLoc S 4) (us.map En.e) = some (us.map En.p) := py_map _ us
  have s1 : PySem.SeqAt.shaped (En.p u) = true := en_shaped hd u
  have s2 : PySem.SeqAt.shaped (.list (us.map En.p)) = true := by
    unfold PySem.SeqAt.shaped
    have d := dep_map us
    simp only [PySem.PyData.canLay0, lay_map, Bool.true_and, decide_eq_true_eq, PySem.PyData.depth]
    exact decide_eq_true (show PySem.PyData.depthAll (us.map En.p) + 1 ≤ 64 by omega)
  have q3 : inDeep S (En.e u) b' = some (decide (u ∈ us)) := by
    unfold inDeep
    rw [en_py, r1.lst]
    simp only [q2, s1, s2, Bool.and_self, if_true]
    congr 1
    clear hn r1 e1 hl p q1 q2 s2 hb
    induction us with
    | nil => rfl
    | cons x xs ih =>
      rw [List.map_cons, List.any_cons, En.eqv, ih, ← Bool.decide_or]
      exact decide_eq_decide.mpr (by rw [List.mem_cons]; exact or_congr eq_comm Iff.rfl)
  unfold inG orG boG
  simp only [q1, q3, Bool.false_eq_true, if_false]; rfl
end
/-! ### what may raise -/
section
variable {σ τ β ρ α : Type} {lay lay1 lay2 : List SlotV} {g : SemS} {post : σ → List SlotV} {pb : β → List SlotV} {e : RetS ρ} {o : Option (Res α)} {k : α → Option (Flow σ β ρ)} {en : α → D} {fe : Sem D} {i n : Nat} {f : FSem} {ga : Sem (List D)} {ds : List D} {fe' : SemS}
def thenX (o : Option (Res α)) (k : α → Option (Flow σ β ρ)) : Option (Flow σ β ρ) := match o with
  | some (.ok a) => k a
  | some (.err c) => some (.err c)
  | none => none
@[simp] theorem thenX_ok (a : α) (k : α → Option (Flow σ β ρ)) : thenX (some (.ok a)) k = k a := rfl
@[simp] theorem thenX_err (c : Ex) (k : α → Option (Flow σ β ρ)) : thenX (some (.err c) : Option (Res α)) k = some (.err c) := rfl
def XRd (lay : List SlotV) (fe : Sem D) (en : α → D) : Res α → Prop
  | .ok a => XV lay fe (en a)
  | .err c => ∀ (r : Env) (S : Store), Lay lay r S → fe r S = .err c S
/-- an expression that may raise -/
def XR (lay : List SlotV) (fe : Sem D) (en : α → D) (o : Option (Res α)) : Prop := ∀ x, o = some x → XRd lay fe en x
theorem xb_setR (i : Nat) (h : XR lay fe en o) (hk : ∀ a, XB (lay.set i (.val (en a))) g post pb e (k a)) : XB lay (seqS (setS fe (.one i)) g) post pb e (thenX o k) := ⟨fun fl z r S hl => by
  cases o with
  | none => cases z
  | some x =>
    cases x with
    | ok a => exact (xb_cons (s_set i (h _ rfl)) (hk a)).run fl z r S hl
    | err c => cases z; exact ⟨r, S, by rw [x_seq, x_setS, h _ rfl r S hl]; rfl⟩⟩
theorem xb_dropR (h : XR lay fe en o) (hk : ∀ a, XB lay g post pb e (k a)) : XB lay (seqS (dropS fe) g) post pb e (thenX o k) := ⟨fun fl z r S hl => by
  cases o with
  | none => cases z
  | some x =>
    cases x with
    | ok a => exact (xb_cons (s_drop (h _ rfl)) (hk a)).run fl z r S hl
    | err c => cases z; exact ⟨r, S, by rw [x_seq, x_dropS, h _ rfl r S hl]; rfl⟩⟩
theorem xb_retR {o : Option (Res ρ)} (h : XR lay fe e.d o) (hj : e.jg = none := by rfl) : XB lay (retS fe) post pb e (thenX o fun a => some (.ret a)) := ⟨fun fl z r S hl => by
  cases o with
  | none => cases z
  | some x =>
    cases x with
    | ok a => exact (xb_ret (h _ rfl).e hj).run fl z r S hl
    | err c => cases z; exact ⟨r, S, by rw [x_retS, h _ rfl r S hl]; rfl⟩⟩
def PRd (en : α → D) : Res α → PR → Prop
  | .ok a, p => p = .ok (en a) ∧ pureD (en a) = true
  | .err c, p => p = .err c
theorem xr_call (h : XA lay ga ds) (hf : ∀ x, o = some x → PRd en x (f ds)) (hl : ds.length = n := by rfl) : XR lay (callF n f ga) en o := fun x hx => by
  have q := hf x hx
  cases x with
  | ok a => exact x_callT h q.1 q.2 hl
  | err c =>
    intro r S hL
    have q : f ds = .err c := q
    rw [x_callF, (h r S hL).2, bnd_ok, callV_of (resF_pure S ds (h r S hL).1) hl, q]; rfl
theorem fn_nx {b : SemS} {o : Option (Flow σ Empty ρ)} {s : σ} {post : σ → List SlotV} {pb : Empty → List SlotV} (h : XB (layStart n ds) b post pb e o) (hp : pureL ds = true) (ho : o = some (.nx s)) : fnOut n b ds = .ok .non := by
  obtain ⟨r', S', e1, _⟩ := h.run _ ho _ _ (lay_start hp)
  unfold fnOut; rw [e1]
theorem xb_none : XB lay fe' post pb e (none : Option (Flow σ β ρ)) := ⟨fun fl z => by cases z⟩
theorem xb_last {o1 : Option (Flow τ β ρ)} {h : τ → Option (Flow σ β ρ)} {post1 : τ → List SlotV} {f : SemS} (h1 : XB lay f post1 pb e o1) (h2 : ∀ s, ∃ s', h s = some (.nx s') ∧ LayLe (post1 s) (post s')) : XB lay f post pb e (thenF o1 h) := ⟨fun fl z r S hl => by
  cases o1 with
  | none => cases z
  | some fl1 =>
    have q := h1.run fl1 rfl r S hl
    cases fl1 with
    | nx s =>
      obtain ⟨r', S', e1, l1⟩ := q
      obtain ⟨s', e2, le⟩ := h2 s
      rw [thenF_nx, e2] at z
      cases z
      exact ⟨r', S', e1, l1.weak le⟩
    | brk s => cases z; exact q
    | ct s => cases z; exact q
    | ret a => cases z; exact q
    | err c => cases z; exact q⟩
end
section
variable {ρ : Type} {b : SemS} {n : Nat} {ds : List D} {e : RetS ρ} {post : ρ → List SlotV} {pb : Empty → List SlotV} {o : Option (Flow ρ Empty ρ)}
theorem outO_ok [DecidableEq ρ] [En ρ] {v : ρ} (h : XB (layStart n ds) b post pb rPl o) (hp : pureL ds = true) (ho : outO o = some v) : fnOut n b ds = .ok (En.e v) := by
  cases o with
  | none => cases ho
  | some fl => cases fl with
    | ret a => cases ho; exact fn_ok h hp rfl
    | nx s => cases ho
    | brk b => cases b
    | ct b => cases b
    | err c => cases ho
end
end Aw


/-! Tv7: defs whose answers are known from elsewhere. -/
namespace Aw
theorem En.inj {α : Type} [DecidableEq α] [En α] {a b : α} (h : (En.e a : D) = En.e b) : a = b := by
  have h1 := En.py (fun _ => none) a
  have h2 := En.py (fun _ => none) b
  rw [h, h2] at h1
  have h3 := En.eqv a b
  rw [Option.some.inj h1, En.eqv a a] at h3
  simpa using h3.symm
section
variable {α : Type} [DecidableEq α] [En α] {f : FSem} {ds : List D}
open Classical in
noncomputable def oT (α : Type) [DecidableEq α] [En α] (f : FSem) (ds : List D) : Option α := if h : ∃ v : α, f ds = .ok (En.e v) then some h.choose else none
theorem oT_ok {v : α} (h : oT α f ds = some v) : f ds = .ok (En.e v) := by
  unfold oT at h
  split at h
  · rename_i q; cases h; exact q.choose_spec
  · cases h
theorem oT_of {v : α} (h : f ds = .ok (En.e v)) : oT α f ds = some v := by
  unfold oT
  have q : ∃ v : α, f ds = .ok (En.e v) := ⟨v, h⟩
  rw [dif_pos q]
  exact congrArg some (En.inj (PR.ok.inj (q.choose_spec.symm.trans h)))
def oX (f : FSem) (ds : List D) : Option D := match f ds with
  | .ok d => if pureD d = true then some d else none
  | _ => none
theorem oX_ok {d : D} (h : oX f ds = some d) : f ds = .ok d ∧ pureD d = true := by
  unfold oX at h
  split at h
  · rename_i d' q
    split at h
    · rename_i hp; cases h; exact ⟨q, hp⟩
    · cases h
  · cases h
theorem oX_of {d : D} (h : f ds = .ok d) (hp : pureD d = true) : oX f ds = some d := by
  unfold oX; rw [h]; exact if_pos hp
end
end Aw


/-! Tv8: None or a value. -/
namespace Aw
/-- no value of the type is None -/
class NN (α : Type) [DecidableEq α] [En α] : Prop where
  nd : ∀ a : α, isNonD (En.e a) = false
  p1 : ∀ a : α, PySem.PyData.eqv .none (En.p a) = false
  p2 : ∀ a : α, PySem.PyData.eqv (En.p a) .none = false
instance : NN Int := ⟨fun _ => rfl, fun _ => rfl, fun _ => rfl⟩
instance : NN Nat := ⟨fun _ => rfl, fun _ => rfl, fun _ => rfl⟩
instance : NN Bool := ⟨fun _ => rfl, fun _ => rfl, fun _ => rfl⟩
section
variable {α β : Type} [DecidableEq α] [En α] [DecidableEq β] [En β]
instance : NN (List α) := ⟨fun _ => rfl, fun _ => rfl, fun _ => rfl⟩
instance : NN (α × β) := ⟨fun _ => rfl, fun _ => rfl, fun _ => rfl⟩
instance [NN α] : En (Option α) where
  e := fun o => match o with | some a => En.e a | none => .non
  p := fun o => match o with | some a => En.p a | none => .none
  dep := En.dep α
  py f o := by cases o with
    | none => rfl
    | some a => exact En.py f a
  pu o := by cases o with
    | none => rfl
    | some a => exact En.pu a
  lay o := by cases o with
    | none => rfl
    | some a => exact En.lay a
  dp o := by cases o with
    | none => exact Nat.zero_le _
    | some a => exact En.dp a
  eqv o o' := by
    cases o with
    | none => cases o' with
      | none => rfl
      | some b => exact NN.p1 b
    | some a => cases o' with
      | none => exact NN.p2 a
      | some b =>
        show PySem.PyData.eqv (En.p a) (En.p b) = _
        rw [En.eqv]
        exact decide_eq_decide.mpr (Option.some_inj).symm
variable {lay : List SlotV} {fa : Sem D} [NN α] {o : Option α} {a : α}
theorem x_some (h : o = some a) (ha : XV lay fa (En.e o)) : XV lay fa (En.e a) := by subst h; exact ha
theorem x_toSome (ha : XV lay fa (En.e a)) : XV lay fa (En.e (some a)) := ha
theorem x_noneO (ha : XV lay fa .non) : XV lay fa (En.e (none : Option α)) := ha
theorem x_isNone (ha : XV lay fa (En.e o)) : XV lay (op2 isG fa (retO .non)) (En.e o.isNone) := x_opV (b := .non) (fun S => by
  cases o with
  | none => rfl
  | some a =>
    show (orG (isN false) (isB false)) S (En.e a) .non = _
    unfold orG isN
    simp only [NN.nd a]
    rfl) rfl ha x_const
theorem x_isSome (ha : XV lay fa (En.e o)) : XV lay (op2 isNotG fa (retO .non)) (En.e o.isSome) := x_opV (b := .non) (fun S => by
  cases o with
  | none => rfl
  | some a =>
    show (orG (isN true) (isB true)) S (En.e a) .non = _
    unfold orG isN
    simp only [NN.nd a]
    rfl) rfl ha x_const
end
end Aw


/-! Tv9: expressions and tests that change the first list handed in. -/
namespace Aw
def XJ (lay : List SlotV) (f : Sem D) (d : D) (lay' : List SlotV) : Prop := ∀ (r : Env) (S : Store), Lay lay r S → pureD d = true ∧ ∃ S', f r S = .ok d S' ∧ Lay lay' r S'
def XJA (lay : List SlotV) (f : Sem (List D)) (ds : List D) (lay' : List SlotV) : Prop := ∀ (r : Env) (S : Store), Lay lay r S → pureL ds = true ∧ ∃ S', f r S = .ok ds S' ∧ Lay lay' r S'
/-- a test that leaves one of several states -/
def XTS {σ : Type} (lay : List SlotV) (c : Sem Bool) (layf : σ → List SlotV) (o : Option (Bool × σ)) : Prop := ∀ b s, o = some (b, s) → ∀ (r : Env) (S : Store), Lay lay r S → ∃ S', c r S = .ok b S' ∧ Lay (layf s) r S'
section
variable {lay lay1 lay2 : List SlotV} {f fa fb : Sem D} {ga : Sem (List D)} {g : G2} {a b d : D} {ds : List D} {n : Nat}
theorem x_cst {α : Type} [DecidableEq α] [En α] (a : α) : XV lay (retO (En.e a)) (En.e a) := x_const (En.pu a)
theorem xj_of (h : XV lay f d) : XJ lay f d lay := fun r S hl => ⟨(h r S hl).1, S, (h r S hl).2, hl⟩
theorem xja_of (h : XA lay ga ds) : XJA lay ga ds lay := fun r S hl => ⟨(h r S hl).1, S, (h r S hl).2, hl⟩
theorem xja_nil : XJA lay nilA [] lay := xja_of a_nil
theorem xja_cons (ha : XJ lay fa a lay1) (h : XJA lay1 ga ds lay2) : XJA lay (consA fa ga) (a :: ds) lay2 := fun r S hl => by
  obtain ⟨p1, S1, e1, l1⟩ := ha r S hl
  obtain ⟨p2, S2, e2, l2⟩ := h r S1 l1
  exact ⟨by simp only [pureL, p1, p2, Bool.and_self], S2, by rw [x_consA, e1, bnd_ok, e2, bnd_ok], l2⟩
theorem xj_op2 (h : XV lay2 (op2 g (retO a) (retO b)) d) (ha : XJ lay fa a lay1) (hb : XJ lay1 fb b lay2) : XJ lay (op2 g fa fb) d lay2 := fun r S hl => by
  obtain ⟨p1, S1, e1, l1⟩ := ha r S hl
  obtain ⟨p2, S2, e2, l2⟩ := hb r S1 l1
  obtain ⟨p3, e3⟩ := h r S2 l2
  refine ⟨p3, S2, ?_, l2⟩
  rw [x_op2] at e3 ⊢
  rw [e1, bnd_ok, e2, bnd_ok]
  exact e3
theorem xj_cast {i : Nat} (h : XJ lay f (En.e i) lay1) : XJ lay f (En.e ((i : Nat) : Int)) lay1 := h
theorem xj_callT {f : FSem} (h : XJA lay ga ds lay1) (hf : f ds = .ok d) (hp : pureD d = true) (hl : ds.length = n := by rfl) : XJ lay (callF n f ga) d lay1 := fun r S hL => by
  obtain ⟨p, S1, e, l1⟩ := h r S hL
  exact ⟨hp, S1, by rw [x_callF, e, bnd_ok, callV_of (resF_pure S1 ds p) hl, hf]; rfl, l1⟩
theorem x_callJ (n : Nat) (f : JSem) (fa : Sem (List D)) (r : Env) (S : Store) : callJ n f fa r S = (fa r S).bnd fun ds S => match ds with
  | .loc m :: ds => match jugOf S m, resF S ds with
    | some xs, some ds1 => if ds1.length + 1 = n then liftJ m (f ds1 xs) S else .stuck
    | _, _ => .stuck
  | _ => .stuck := Eq.trans rfl rfl
/-- a pinned slot's own cell -/
theorem v_pin {c : Cell} {r : Env} {S : Store} {i : Nat} (hl : Lay lay r S) (hi : lay[i]? = some (.pin c)) : vE i r S = .ok (.loc 0) S := by
  obtain ⟨a, b, e0⟩ := hl.pin i c hi
  rw [x_var b]
  have : norm S (.loc 0) = .loc 0 := by
    show normL S 0 = _
    unfold normL
    rw [e0]
    cases c with
    | fz d => cases a
    | _ => rfl
  rw [this]
theorem v_cell {c : Cell} {r : Env} {S : Store} {i : Nat} (hl : Lay lay r S) (hi : lay[i]? = some (.cell c)) : ∃ m, vE i r S = .ok (.loc m) S ∧ r[i]? = some (some (.loc m)) ∧ S[m]? = some c := by
  obtain ⟨a, m, b, e0⟩ := hl.cell i c hi
  refine ⟨m, ?_, b, e0⟩
  rw [x_var b]
  have : norm S (.loc m) = .loc m := by
    show normL S m = _
    unfold normL
    rw [e0]
    cases c with
    | fz d => cases a
    | _ => rfl
  rw [this]
/-- no further pin -/
def noPin : List SlotV → Bool
  | [] => true
  | .pin _ :: _ => false
  | _ :: l => noPin l
theorem noPin_at : ∀ {l : List SlotV}, noPin l = true → ∀ (j : Nat) (c : Cell), l[j]? ≠ some (.pin c)
  | [], _, j, c, e => by simp at e
  | .pin _ :: _, h, _, _, _ => by cases h
  | .unk :: l, h, 0, c, e => by simp at e
  | .val _ :: l, h, 0, c, e => by simp at e
  | .cell _ :: l, h, 0, c, e => by simp at e
  | .unk :: l, h, j + 1, c, e => noPin_at (l := l) h j c (by simpa using e)
  | .val _ :: l, h, j + 1, c, e => noPin_at (l := l) h j c (by simpa using e)
  | .cell _ :: l, h, j + 1, c, e => noPin_at (l := l) h j c (by simpa using e)
variable {js js' : List Int} {rest rest1 : List SlotV}
/-- a call that hands the list on -/
theorem xj_callP {f : JSem} {c0 : Cell} (h : XJA (.pin c0 :: rest) ga ds (.pin (jugC js) :: rest1)) (hf : f ds js = .ok d js') (hp : pureD d = true) (hn : noPin rest1 = true := by rfl) (hl : ds.length + 1 = n := by rfl) :
    XJ (.pin c0 :: rest) (callJ n f (consA (vE 0) ga)) d (.pin (jugC js') :: rest1) := fun r S hL => by
  obtain ⟨p, S1, e, l1⟩ := h r S hL
  have l2 := l1.updPin (i := 0) (c' := jugC js') rfl (fun j c' q => by
    cases j with
    | zero => rfl
    | succ j => exact absurd (by simpa using q) (noPin_at hn j c')) (liveC_jug js')
  refine ⟨hp, S1.set 0 (jugC js'), ?_, l2⟩
  have hx : jugOf S1 0 = some js := jugOf_at (l1.pin 0 _ rfl).2.2
  rw [x_callJ, x_consA, v_pin hL rfl, bnd_ok, e, bnd_ok, bnd_ok]
  simp only [hx, resF_pure S1 ds p, hl, if_true, hf]
  rfl
/-- a call that hands a list's cell in -/
theorem xj_callC {f : JSem} {c0 : Cell} (i : Nat) (h : XJA lay ga ds lay1) (hf : f ds js = .ok d js') (hp : pureD d = true) (hi0 : lay[i]? = some (.cell c0) := by rfl) (hi : lay1[i]? = some (.cell (jugC js)) := by rfl) (hl : ds.length + 1 = n := by rfl) :
    XJ lay (callJ n f (consA (vE i) ga)) d (lay1.set i (.cell (jugC js'))) := fun r S hL => by
  obtain ⟨p, S1, e, l1⟩ := h r S hL
  obtain ⟨m, v1, v2, _⟩ := v_cell hL hi0
  obtain ⟨m', w1, w2, w3⟩ := v_cell l1 hi
  rw [v2] at w2; cases w2
  refine ⟨hp, S1.set m (jugC js'), ?_, l1.updCell hi v2 (liveC_jug js')⟩
  rw [x_callJ, x_consA, v1, bnd_ok, e, bnd_ok, bnd_ok]
  simp only [jugOf_at w3, resF_pure S1 ds p, hl, if_true, hf]
  rfl
end
section
variable {σ τ β ρ α : Type} {lay lay1 lay2 : List SlotV} {f g : SemS} {fe : Sem D} {d d1 d2 : D} {ga : Sem (List D)} {post : σ → List SlotV} {pb : β → List SlotV} {e : RetS ρ} {o o1 o2 : Option (Flow σ β ρ)} {ta tb : Sem Bool}
theorem s_setJ (i : Nat) (h : XJ lay fe d lay1) : XS lay (setS fe (.one i)) (lay1.set i (.val d)) := fun r S hl => by
  obtain ⟨p, S1, e1, l1⟩ := h r S hl
  exact ⟨_, S1, by rw [x_setS, e1, thn_ok], l1.setVal i p⟩
theorem s_dropJ (h : XJ lay fe d lay1) : XS lay (dropS fe) lay1 := fun r S hl => by
  obtain ⟨p, S1, e1, l1⟩ := h r S hl
  exact ⟨_, S1, by rw [x_dropS, e1, thn_ok], l1⟩
theorem s_parJ (i j : Nat) (h : XJA lay ga [d1, d2] lay1) : XS lay (parS ga i j) ((lay1.set i (.val d1)).set j (.val d2)) := fun r S hl => by
  obtain ⟨p, S1, e1, l1⟩ := h r S hl
  simp only [pureL, Bool.and_eq_true] at p
  exact ⟨_, S1, by unfold parS thenS; rw [e1], (l1.setVal i p.1).setVal j p.2.1⟩
theorem xb_retJJ [DecidableEq α] [En α] {post : σ → List SlotV} {a : α} {js : List Int} {rest : List SlotV} (h : XJ lay fe (En.e a) (.pin (jugC js) :: rest)) : XB lay (retS fe) post pb rJg (some (.ret (a, js))) := ⟨fun fl z r S hl => by
  cases z
  obtain ⟨p, S1, e1, l1⟩ := h r S hl
  refine ⟨_, S1, by rw [x_retS, e1, thn_ok], .inl rfl, p, fun c q => ?_⟩
  cases q
  refine ⟨(l1.pin 0 _ rfl).2.2, fun z => ?_⟩
  have z : (En.e a : D) = .loc 0 := z
  rw [z] at p; cases p⟩
/-- tests -/
theorem ts_of {layf : τ → List SlotV} {b : Bool} {s : τ} (h : XJ lay fe (En.e b) (layf s)) : XTS lay (testE fe) layf (some (b, s)) := fun b' s' q r S hl => by
  cases q
  obtain ⟨p, S1, e1, l1⟩ := h r S hl
  exact ⟨S1, by rw [x_testE, e1, bnd_ok]; rfl, l1⟩
theorem ts_t {layf : τ → List SlotV} {b : Bool} {s : τ} (h : XT (layf s) ta b) : XTS (layf s) ta layf (some (b, s)) := fun b' s' q r S hl => by
  cases q
  exact ⟨S, h r S hl, hl⟩
theorem ts_to {layf : τ → List SlotV} {q : Option Bool} {s : τ} (h : XTO (layf s) ta q) : XTS (layf s) ta layf (q.map fun b => (b, s)) := fun b' s' z r S hl => by
  cases q with
  | none => cases z
  | some b0 => cases z; exact ⟨S, h _ rfl r S hl, hl⟩
theorem ts_bind {layf : τ → List SlotV} {γ : Type} {q : Option γ} {k : γ → Option (Bool × τ)} (h : ∀ a, q = some a → XTS lay ta layf (k a)) : XTS lay ta layf (q.bind k) := fun b s z => by
  cases q with
  | none => cases z
  | some a => exact h a rfl b s z
theorem ts_if {layf : τ → List SlotV} {p : Prop} [Decidable p] {q : Option (Bool × τ)} (h : p → XTS lay ta layf q) : XTS lay ta layf (if p then q else none) := fun b s z => by
  split at z
  · rename_i hp; exact h hp b s z
  · cases z
theorem ts_not {layf : τ → List SlotV} {q : Option (Bool × τ)} (h : XTS lay ta layf q) : XTS lay (notT ta) layf (q.map fun p => (!p.1, p.2)) := fun b s z r S hl => by
  cases q with
  | none => cases z
  | some p =>
    cases z
    obtain ⟨S1, e1, l1⟩ := h p.1 p.2 rfl r S hl
    exact ⟨S1, by rw [x_notT, e1, bnd_ok], l1⟩
def orS (q : Option (Bool × τ)) (k : τ → Option (Bool × τ)) : Option (Bool × τ) := q.bind fun p => if p.1 = true then some (true, p.2) else k p.2
def andS (q : Option (Bool × τ)) (k : τ → Option (Bool × τ)) : Option (Bool × τ) := q.bind fun p => if p.1 = true then k p.2 else some (false, p.2)
theorem ts_or {layf : τ → List SlotV} {q : Option (Bool × τ)} {k : τ → Option (Bool × τ)} (h1 : XTS lay ta layf q) (h2 : ∀ s, XTS (layf s) tb layf (k s)) : XTS lay (orT ta tb) layf (orS q k) := fun b s z r S hl => by
  cases q with
  | none => cases z
  | some p =>
    obtain ⟨S1, e1, l1⟩ := h1 p.1 p.2 rfl r S hl
    obtain ⟨pb, ps⟩ := p
    rw [x_orT, e1, bnd_ok]
    cases pb with
    | true => cases z; exact ⟨S1, rfl, l1⟩
    | false => exact h2 ps b s z r S1 l1
theorem ts_and {layf : τ → List SlotV} {q : Option (Bool × τ)} {k : τ → Option (Bool × τ)} (h1 : XTS lay ta layf q) (h2 : ∀ s, XTS (layf s) tb layf (k s)) : XTS lay (andT ta tb) layf (andS q k) := fun b s z r S hl => by
  cases q with
  | none => cases z
  | some p =>
    obtain ⟨S1, e1, l1⟩ := h1 p.1 p.2 rfl r S hl
    obtain ⟨pb, ps⟩ := p
    rw [x_andT, e1, bnd_ok]
    cases pb with
    | false => cases z; exact ⟨S1, rfl, l1⟩
    | true => exact h2 ps b s z r S1 l1
theorem xb_iteS {layf : τ → List SlotV} {q : Option (Bool × τ)} {k1 k2 : τ → Option (Flow σ β ρ)} (hc : XTS lay ta layf q) (h1 : ∀ s, XB (layf s) f post pb e (k1 s)) (h2 : ∀ s, XB (layf s) g post pb e (k2 s)) : XB lay (ifS ta f g) post pb e (q.bind fun p => if p.1 = true then k1 p.2 else k2 p.2) := ⟨fun fl z r S hl => by
  cases q with
  | none => cases z
  | some p =>
    obtain ⟨pb', ps⟩ := p
    obtain ⟨S1, e1, l1⟩ := hc pb' ps rfl r S hl
    rw [x_if, e1, thn_ok]
    cases pb' with
    | true => exact (h1 ps).run fl z r S1 l1
    | false => exact (h2 ps).run fl z r S1 l1⟩
/-- the answer of a def that changes its first list -/
theorem outJ_ok {b : SemS} {n : Nat} {ds : List D} [DecidableEq α] [En α] {js : List Int} {o : Option (Flow (α × List Int) Empty (α × List Int))} {v : α × List Int} {post : (α × List Int) → List SlotV} {pb : Empty → List SlotV} (h : XB (layStartJ n (jugC js) ds) b post pb rJg o) (hp : pureL ds = true) (ho : outO o = some v) : fnJ n b ds js = .ok (En.e v.1) v.2 := by
  cases o with
  | none => cases ho
  | some fl => cases fl with
    | ret a => cases ho; exact fnJ_ok h hp rfl
    | nx s => cases ho
    | brk b => cases b
    | ct b => cases b
    | err c => cases ho
/-- .. known from elsewhere -/
theorem dummy9 : True := True.intro
end
open Classical in
noncomputable def oJ (α : Type) [DecidableEq α] [En α] (f : JSem) (ds : List D) (js : List Int) : Option (α × List Int) := if h : ∃ v : α × List Int, f ds js = .ok (En.e v.1) v.2 then some h.choose else none
section
variable {α : Type} [DecidableEq α] [En α] {f : JSem} {ds : List D} {js : List Int}
theorem oJ_ok {v : α × List Int} (h : oJ α f ds js = some v) : f ds js = .ok (En.e v.1) v.2 := by
  unfold oJ at h
  split at h
  · rename_i q; cases h; exact q.choose_spec
  · cases h
theorem oJ_of {v : α} {js' : List Int} (h : f ds js = .ok (En.e v) js') : oJ α f ds js = some (v, js') := by
  unfold oJ
  have q : ∃ v : α × List Int, f ds js = .ok (En.e v.1) v.2 := ⟨(v, js'), h⟩
  rw [dif_pos q]
  have := JR.ok.inj (q.choose_spec.symm.trans h)
  exact congrArg some (Prod.ext (En.inj this.1) this.2)
end
end Aw


/-! Tv10: least and greatest of a list, types known, defs that call themselves. -/
namespace Aw
def leastI : List Int → Option Int
  | [] => none
  | n :: ns => some (ns.foldl min n)
def mostI : List Int → Option Int
  | [] => none
  | n :: ns => some (ns.foldl max n)
section
variable {lay : List SlotV} {fa : Sem D} {us : List Int} {m : Int}
theorem x_leastI (h : leastI us = some m) (ha : XE lay fa (En.e us)) : XV lay (callB minG (consA fa nilA)) (En.e m) := fun r S hl => by
  obtain ⟨p, a', e1, r1⟩ := ha r S hl
  refine ⟨En.pu _, ?_⟩
  rw [x_callB, x_consA, e1, bnd_ok, x_nilA, bnd_ok, bnd_ok]
  have e2 : lstOf S a' = some (us.map D.int) := r1.lst
  cases us with
  | nil => cases h
  | cons n ns =>
    cases h
    unfold minG onInts
    simp only [e2, intsOf_map]
    rfl
theorem x_mostI (h : mostI us = some m) (ha : XE lay fa (En.e us)) : XV lay (callB maxG (consA fa nilA)) (En.e m) := fun r S hl => by
  obtain ⟨p, a', e1, r1⟩ := ha r S hl
  refine ⟨En.pu _, ?_⟩
  rw [x_callB, x_consA, e1, bnd_ok, x_nilA, bnd_ok, bnd_ok]
  have e2 : lstOf S a' = some (us.map D.int) := r1.lst
  cases us with
  | nil => cases h
  | cons n ns =>
    cases h
    unfold maxG onInts
    simp only [e2, intsOf_map]
    rfl
theorem leastI_le {us : List Int} {m : Int} (h : leastI us = some m) : (∀ x ∈ us, m ≤ x) ∧ m ∈ us := by
  cases us with
  | nil => cases h
  | cons n ns =>
    cases h
    obtain ⟨h1, h2, h3⟩ := foldmin_le ns n
    refine ⟨fun x hx => ?_, ?_⟩
    · rcases List.mem_cons.mp hx with rfl | hx
      · exact h1
      · exact h2 x hx
    · rcases h3 with h3 | h3
      · rw [h3]; exact List.mem_cons_self
      · exact List.mem_cons_of_mem _ h3
theorem mostI_ge {us : List Int} {m : Int} (h : mostI us = some m) : (∀ x ∈ us, x ≤ m) ∧ m ∈ us := by
  cases us with
  | nil => cases h
  | cons n ns =>
    cases h
    obtain ⟨h1, h2, h3⟩ := foldmax_le ns n
    refine ⟨fun x hx => ?_, ?_⟩
    · rcases List.mem_cons.mp hx with rfl | hx
      · exact h1
      · exact h2 x hx
    · rcases h3 with h3 | h3
      · rw [h3]; exact List.mem_cons_self
      · exact List.mem_cons_of_mem _ h3
end
/-- a type whose values are all of one kind -/
class Kd (α : Type) [DecidableEq α] [En α] where
  k : Ty
  ok : ∀ (S : Store) (a : α), tyD S (En.e a) = some k
instance : Kd Int := ⟨.int, fun _ _ => rfl⟩
instance : Kd Nat := ⟨.int, fun _ _ => rfl⟩
instance : Kd Bool := ⟨.bool, fun _ _ => rfl⟩
section
variable {α β : Type} [DecidableEq α] [En α] [DecidableEq β] [En β] {lay : List SlotV} {fa : Sem D} {a : α}
instance : Kd (List α) := ⟨.list, fun _ _ => rfl⟩
instance : Kd (α × β) := ⟨.tuple, fun _ _ => rfl⟩
theorem x_isiK [Kd α] (t : Ty) (b : Bool) (ha : XV lay fa (En.e a)) (hb : isiB (Kd.k α) t = b := by rfl) : XV lay (isiE t fa) (En.e b) := fun r S hl => ⟨rfl, by
  rw [x_isi, (ha r S hl).2, bnd_ok]
  simp only [Kd.ok S a, hb]; rfl⟩
end
end Aw


/-! Sp0: loops of Lean's own types, reckoned out. -/
namespace Aw
section
variable {α β σ τ ρ : Type}
theorem forO_inv {b : α → σ → Option (Flow σ σ ρ)} (I : Nat → σ → Prop) : ∀ {xs : List α} {k : Nat} {s : σ}, I k s → (∀ i x s, xs[i]? = some x → I (k + i) s → ∃ s', (b x s = some (.nx s') ∨ b x s = some (.ct s')) ∧ I (k + i + 1) s') →
    ∃ s', (forO b xs s : Option (Flow σ β ρ)) = some (.nx s') ∧ I (k + xs.length) s'
  | [], k, s, h, _ => ⟨s, rfl, h⟩
  | x :: xs, k, s, h, hs => by
    obtain ⟨s1, h1, h2⟩ := hs 0 x s rfl h
    obtain ⟨s2, h3, h4⟩ := forO_inv (b := b) I (xs := xs) (k := k + 1) h2 fun i y s e hi => by
      have := hs (i + 1) y s (by simpa using e) (by rw [show k + (i + 1) = k + 1 + i by omega]; exact hi)
      rw [show k + (i + 1) = k + 1 + i by omega] at this
      exact this
    refine ⟨s2, ?_, by rw [List.length_cons, show k + (xs.length + 1) = k + 1 + xs.length by omega]; exact h4⟩
    unfold forO
    rcases h1 with h1 | h1 <;> (rw [h1]; exact h3)
/-- I i holds ahead of round i -/
theorem forO_I {b : α → σ → Option (Flow σ σ ρ)} (I : Nat → σ → Prop) {xs : List α} {s : σ} (h0 : I 0 s) (hs : ∀ i x s, xs[i]? = some x → I i s → ∃ s', b x s = some (.nx s') ∧ I (i + 1) s') :
    ∃ s', (forO b xs s : Option (Flow σ β ρ)) = some (.nx s') ∧ I xs.length s' := by
  obtain ⟨s', h1, h2⟩ := forO_inv (b := b) (β := β) I (k := 0) h0 fun i x s e hi => by
    rw [Nat.zero_add] at hi ⊢
    obtain ⟨s', q1, q2⟩ := hs i x s e hi
    exact ⟨s', .inl q1, q2⟩
  exact ⟨s', h1, by rw [Nat.zero_add] at h2; exact h2⟩
/-- a loop that is left by an answer at the first item of a kind -/
theorem forO_find {b : α → Unit → Option (Flow Unit Unit ρ)} (P : α → Bool) (R : α → ρ) : ∀ {xs : List α}, (∀ x ∈ xs, b x () = if P x = true then some (.ret (R x)) else some (.nx ())) →
    (forO b xs () : Option (Flow Unit β ρ)) = match xs.find? P with
      | some x => some (.ret (R x))
      | none => some (.nx ())
  | [], _ => rfl
  | x :: xs, h => by
    unfold forO
    rw [h x List.mem_cons_self, List.find?_cons]
    cases P x with
    | true => rfl
    | false =>
      rw [if_neg Bool.false_ne_true]
      exact forO_find P R fun y hy => h y (List.mem_cons_of_mem _ hy)
/-- a loop whose rounds all go on -/
theorem forO_fold {b : α → σ → Option (Flow σ σ ρ)} (f : σ → α → σ) (I : σ → Prop) : ∀ {xs : List α} {s : σ}, I s → (∀ x ∈ xs, ∀ s, I s → b x s = some (.nx (f s x)) ∧ I (f s x)) → (forO b xs s : Option (Flow σ β ρ)) = some (.nx (xs.foldl f s)) ∧ I (xs.foldl f s)
  | [], s, h, _ => ⟨rfl, h⟩
  | x :: xs, s, h, hs => by
    obtain ⟨h1, h2⟩ := hs x List.mem_cons_self s h
    unfold forO
    rw [h1]
    exact forO_fold f I h2 fun y hy => hs y (List.mem_cons_of_mem _ hy)
/-- a loop that only looks -/
theorem forO_pass {b : α → Unit → Option (Flow Unit Unit ρ)} {xs : List α} (h : ∀ x ∈ xs, b x () = some (.nx ())) : (forO b xs () : Option (Flow Unit β ρ)) = some (.nx ()) :=
  (forO_fold (β := β) (fun _ _ => ()) (fun _ => True) True.intro fun x hx s _ => ⟨h x hx, True.intro⟩).1
/-- xs.append over a loop -/
theorem forO_app {b : α → List τ → Option (Flow (List τ) (List τ) ρ)} (g : α → List τ) (N : Nat) {xs : List α} {s : List τ} (hN : s.length + (xs.map fun x => (g x).length).sum ≤ N) (h : ∀ x ∈ xs, ∀ s, s.length + (g x).length ≤ N → b x s = some (.nx (s ++ g x))) : (forO b xs s : Option (Flow (List τ) β ρ)) = some (.nx (s ++ xs.flatMap g)) := by
  induction xs generalizing s with
  | nil => simp
  | cons x xs ih =>
    simp only [List.map_cons, List.sum_cons] at hN
    unfold forO
    rw [h x List.mem_cons_self s (by omega)]
    simp only
    rw [ih (by rw [List.length_append]; omega) fun y hy => h y (List.mem_cons_of_mem _ hy), List.flatMap_cons, List.append_assoc]
theorem whileO_I {c : σ → Option Bool} {b : σ → Option (Flow σ σ ρ)} (I : Nat → σ → Prop) {Q : σ → Prop} (hs : ∀ m s, I m s → (c s = some false ∧ Q s) ∨ (c s = some true ∧ ∃ s' m', b s = some (.nx s') ∧ m' < m ∧ I m' s')) :
    ∀ (n m : Nat) (s : σ), m < n → I m s → ∃ s', (whileO c b n s : Option (Flow σ β ρ)) = some (.nx s') ∧ Q s'
  | 0, m, s, h, _ => by omega
  | n + 1, m, s, h, hi => by
    unfold whileO
    rcases hs m s hi with ⟨h1, h2⟩ | ⟨h1, s', m', h2, h3, h4⟩
    · exact ⟨s, by rw [h1], h2⟩
    · obtain ⟨s2, h5, h6⟩ := whileO_I I hs n m' s' (by omega) h4
      exact ⟨s2, by rw [h1]; simp only [h2]; exact h5, h6⟩
end
theorem bind_of {α β : Type} {o : Option α} {a : α} {k : α → Option β} (h : o = some a) : o.bind k = k a := by rw [h]; rfl
theorem lim_of {α : Type} {p : Prop} [Decidable p] {o : Option α} (h : p) : (if p then o else none) = o := if_pos h
theorem lt62 {n : Nat} (h : n ≤ 1000) : n < 2 ^ 62 := Nat.lt_of_le_of_lt h (by decide)
end Aw


/-! Mt1: who comes to whom. -/
namespace Aw
open Classical in
/-- those among the first n of which something holds, rising -/
noncomputable def lst (n : Nat) (p : Nat → Prop) : List Nat := (List.range n).filter fun x => decide (p x)
theorem mem_lst {n : Nat} {p : Nat → Prop} {x : Nat} : x ∈ lst n p ↔ x < n ∧ p x := by
  unfold lst; simp
theorem lst_nodup (n : Nat) (p : Nat → Prop) : (lst n p).Nodup := List.Pairwise.filter _ List.nodup_range
theorem lst_lt (n : Nat) (p : Nat → Prop) : (lst n p).Pairwise (· < ·) := List.Pairwise.filter _ List.pairwise_lt_range
theorem lst_le (n : Nat) (p : Nat → Prop) : (lst n p).Pairwise (· ≤ ·) := (lst_lt n p).imp fun h => Nat.le_of_lt h
theorem lst_len (n : Nat) (p : Nat → Prop) : (lst n p).length ≤ n := by
  have := List.length_filter_le (fun x => @decide (p x) (Classical.propDecidable _)) (List.range n)
  rw [List.length_range] at this
  exact this
theorem lst_congr {n : Nat} {p q : Nat → Prop} (h : ∀ x, x < n → (p x ↔ q x)) : lst n p = lst n q := by
  unfold lst
  apply List.filter_congr
  intro x hx
  have := h x (List.mem_range.mp hx)
  simp [this]
/-- rising lists of the same things -/
theorem rise_eq {xs ys : List Nat} (h1 : xs.Pairwise (· < ·)) (h2 : ys.Pairwise (· < ·)) (h : ∀ x, x ∈ xs ↔ x ∈ ys) : xs = ys := by
  have nd : ∀ {zs : List Nat}, zs.Pairwise (· < ·) → zs.Nodup := fun h => h.imp fun h => Nat.ne_of_lt h
  refine List.Perm.eq_of_pairwise (fun a b _ _ h1 h2 => ?_) h1 h2 ((List.perm_ext_iff_of_nodup (nd h1) (nd h2)).mpr h)
  omega
theorem sort_lst {n : Nat} {p : Nat → Prop} {xs : List Nat} (nd : xs.Nodup) (h : ∀ x, x ∈ xs ↔ x < n ∧ p x) : sortN xs = lst n p :=
  sortN_uniq ((List.perm_ext_iff_of_nodup (lst_nodup n p) nd).mpr fun x => by rw [mem_lst, h]) (lst_le n p)
theorem len_le_of_lt {n : Nat} {xs : List Nat} (nd : xs.Nodup) (h : ∀ x ∈ xs, x < n) : xs.length ≤ n := by
  have := nd.length_le_of_subset (l₂ := List.range n) fun x hx => List.mem_range.mpr (h x hx)
  rw [List.length_range] at this; exact this

inductive Rch (t : Tb) (n : Nat) (a : Nat) : Nat → Prop
  | refl : Rch t n a a
  | step {b c : Nat} : Rch t n a b → b < n → c < n → ent t b c = true → Rch t n a c
theorem Rch.trans {t : Tb} {n a b c : Nat} (h : Rch t n a b) (h2 : Rch t n b c) : Rch t n a c := by
  induction h2 with
  | refl => exact h
  | step _ hb hc he ih => exact .step ih hb hc he
theorem Rch.closed {t : Tb} {n a : Nat} {L : List Nat} (h0 : a ∈ L) (hs : ∀ x ∈ L, ∀ y, y < n → ent t x y = true → y ∈ L) {x : Nat} (h : Rch t n a x) : x ∈ L := by
  induction h with
  | refl => exact h0
  | step _ _ hc he ih => exact hs _ ih _ hc he
theorem Rch.lt {t : Tb} {n a b : Nat} (h : Rch t n a b) (ha : a < n) : b < n := by
  cases h with
  | refl => exact ha
  | step _ _ hc _ => exact hc
theorem Rch.one {t : Tb} {n a b : Nat} (ha : a < n) (hb : b < n) (h : ent t a b = true) : Rch t n a b := .step .refl ha hb h
noncomputable def reachL (t : Tb) (n a : Nat) : List Nat := lst n (Rch t n a)
/-- it comes to all -/
def Top (t : Tb) (n x : Nat) : Prop := x < n ∧ ∀ y, y < n → Rch t n x y
theorem exists_top {n : Nat} {t : Tb} (h : IsTb n t) (hn : 0 < n) : ∃ x, Top t n x := by
  have key : ∀ k, 0 < k → k ≤ n → ∃ x, x < k ∧ ∀ y, y < k → Rch t n x y := by
    intro k
    induction k with
    | zero => intro h; omega
    | succ k ih =>
      intro _ hk
      by_cases h0 : k = 0
      · subst h0; exact ⟨0, by omega, fun y hy => by rw [show y = 0 by omega]; exact .refl⟩
      · obtain ⟨x, hx, hr⟩ := ih (by omega) (by omega)
        cases e : ent t x k with
        | true =>
          refine ⟨x, by omega, fun y hy => ?_⟩
          by_cases hy' : y = k
          · subst hy'; exact .one (by omega) (by omega) e
          · exact hr y (by omega)
        | false =>
          have e2 : ent t k x = true := by rw [h.two k x (by omega) (by omega) (by omega), e]; rfl
          refine ⟨k, by omega, fun y hy => ?_⟩
          by_cases hy' : y = k
          · subst hy'; exact .refl
          · exact (Rch.one (by omega) (by omega) e2).trans (hr y (by omega))
  obtain ⟨x, hx, hr⟩ := key n hn (Nat.le_refl n)
  exact ⟨x, hx, hr⟩
noncomputable def topL (t : Tb) (n : Nat) : List Nat := lst n (Top t n)
/-- how many it comes to -/
noncomputable def rnk (t : Tb) (n a : Nat) : Nat := (reachL t n a).length
theorem rnk_le (t : Tb) (n a : Nat) : rnk t n a ≤ n := lst_len _ _
theorem rnk_pos {t : Tb} {n a : Nat} (ha : a < n) : 0 < rnk t n a := List.length_pos_of_mem (a := a) (mem_lst.mpr ⟨ha, .refl⟩)
theorem rnk_mono {t : Tb} {n a b : Nat} (h : Rch t n a b) : rnk t n b ≤ rnk t n a :=
  (lst_nodup _ _).length_le_of_subset fun x hx => mem_lst.mpr ⟨(mem_lst.mp hx).1, h.trans (mem_lst.mp hx).2⟩
theorem rnk_top {t : Tb} {n a : Nat} (ha : a < n) : rnk t n a = n ↔ Top t n a := by
  constructor
  · intro h
    refine ⟨ha, fun y hy => ?_⟩
    have nd := lst_nodup n (Rch t n a)
    by_cases hm : y ∈ reachL t n a
    · exact (mem_lst.mp hm).2
    · have h1 : (y :: reachL t n a).length ≤ n := len_le_of_lt (List.nodup_cons.mpr ⟨hm, nd⟩) fun x hx => by
        rcases List.mem_cons.mp hx with rfl | hx
        · exact hy
        · exact (mem_lst.mp hx).1
      rw [List.length_cons] at h1
      have h : (reachL t n a).length = n := h
      omega
  · intro h
    have : reachL t n a = List.range n := by
      refine rise_eq (lst_lt _ _) List.pairwise_lt_range fun x => ?_
      rw [List.mem_range]
      exact ⟨fun hx => (mem_lst.mp hx).1, fun hx => mem_lst.mpr ⟨hx, h.2 x hx⟩⟩
    unfold rnk; rw [this, List.length_range]
/-- who comes to more beats who comes to less -/
theorem rnk_beats {n : Nat} {t : Tb} (h : IsTb n t) {a b : Nat} (ha : a < n) (hb : b < n) (hr : rnk t n b < rnk t n a) : ent t a b = true := by
  have hne : a ≠ b := fun e => by subst e; omega
  rw [h.two a b ha hb hne]
  cases e : ent t b a with
  | false => rfl
  | true => have := rnk_mono (Rch.one hb ha e); omega
/-- the rings -/
noncomputable def ring (t : Tb) (n s : Nat) : List Nat := lst n fun x => rnk t n x = s
noncomputable def ringsL (t : Tb) (n : Nat) : List (List Nat) := (rngD n 0).flatMap fun s => if 0 < (ring t n s).length then [ring t n s] else []
theorem rngD_zero (n : Nat) : rngD n 0 = (List.range n).map fun i => n - i := rfl
theorem mem_rngD {n s : Nat} : s ∈ rngD n 0 ↔ 1 ≤ s ∧ s ≤ n := by
  rw [rngD_zero, List.mem_map]
  constructor
  · rintro ⟨i, hi, rfl⟩
    have := List.mem_range.mp hi
    omega
  · rintro ⟨h1, h2⟩
    exact ⟨n - s, List.mem_range.mpr (by omega), by omega⟩
theorem mem_ringsL {t : Tb} {n : Nat} {p : List Nat} : p ∈ ringsL t n ↔ p ≠ [] ∧ ∃ s, 1 ≤ s ∧ s ≤ n ∧ p = ring t n s := by
  unfold ringsL
  rw [List.mem_flatMap]
  constructor
  · rintro ⟨s, hs, hp⟩
    split at hp
    · rename_i h
      simp at hp; subst hp
      refine ⟨?_, s, (mem_rngD.mp hs).1, (mem_rngD.mp hs).2, rfl⟩
      intro e; rw [e] at h; simp at h
    · simp at hp
  · rintro ⟨h1, s, h2, h3, rfl⟩
    refine ⟨s, mem_rngD.mpr ⟨h2, h3⟩, ?_⟩
    rw [if_pos (List.length_pos_iff.mpr h1)]
    simp
theorem ring_top {t : Tb} {n : Nat} : ring t n n = topL t n := lst_congr fun x hx => by
  exact rnk_top hx
theorem ringsL_head {n : Nat} {t : Tb} (h : IsTb n t) (hn : 0 < n) : (ringsL t n)[0]? = some (topL t n) := by
  obtain ⟨x, hx⟩ := exists_top h hn
  have e : rngD n 0 = n :: (List.range (n - 1)).map fun i => n - 1 - i := by
    obtain ⟨m, rfl⟩ : ∃ m, n = m + 1 := ⟨n - 1, by omega⟩
    rw [rngD_zero, List.range_succ_eq_map, List.map_cons, List.map_map]
    congr 1
    apply List.map_congr_left
    intro i _
    simp only [Function.comp]
    omega
  unfold ringsL
  rw [e, List.flatMap_cons, if_pos]
  · rw [ring_top]; rfl
  · rw [ring_top]; exact List.length_pos_of_mem (mem_lst.mpr ⟨hx.1, hx⟩)
theorem ringsL_len (t : Tb) (n : Nat) : (ringsL t n).length ≤ n := by
  have : ∀ xs : List Nat, (xs.flatMap fun s => if 0 < (ring t n s).length then [ring t n s] else []).length ≤ xs.length := by
    intro xs
    induction xs with
    | nil => simp
    | cons x xs ih =>
      rw [List.flatMap_cons, List.length_append, List.length_cons]
      split
      · rw [List.length_singleton]; omega
      · rw [List.length_nil]; omega
  have h := this (rngD n 0)
  rw [rngD_zero, List.length_map, List.length_range] at h
  exact h
end Aw


/-! Mt2: sets of things that stand together. -/
namespace Aw
theorem lst_len_lt {n : Nat} {p : Nat → Prop} : (lst n p).length < n ↔ ∃ x, x < n ∧ ¬ p x := by
  constructor
  · intro h
    refine Classical.byContradiction fun hc => ?_
    have hall : ∀ x, x < n → p x := fun x hx => Classical.byContradiction fun hp => hc ⟨x, hx, hp⟩
    have : lst n p = List.range n := rise_eq (lst_lt _ _) List.pairwise_lt_range fun x => by
      rw [mem_lst, List.mem_range]; exact ⟨fun h => h.1, fun h => ⟨h, hall x h⟩⟩
    rw [this, List.length_range] at h
    omega
  · rintro ⟨x, hx, hp⟩
    have h1 : (x :: lst n p).length ≤ n := len_le_of_lt (List.nodup_cons.mpr ⟨fun h => hp (mem_lst.mp h).2, lst_nodup _ _⟩) fun y hy => by
      rcases List.mem_cons.mp hy with rfl | hy
      · exact hx
      · exact (mem_lst.mp hy).1
    rw [List.length_cons] at h1
    omega
/-- a set of things that stands together -/
def Mod (t : Tb) (n : Nat) (p : Nat → Prop) : Prop := ∀ x, x < n → ¬ p x → ∀ a b, a < n → b < n → p a → p b → ent t x a = ent t x b
theorem Mod.union {t : Tb} {n : Nat} {p q : Nat → Prop} (hp : Mod t n p) (hq : Mod t n q) {c : Nat} (hc : c < n) (pc : p c) (qc : q c) : Mod t n fun x => p x ∨ q x := by
  intro x hx hn a b ha hb h1 h2
  have key : ∀ a, a < n → (p a ∨ q a) → ent t x a = ent t x c := by
    rintro a ha (h | h)
    · exact hp x hx (fun h => hn (.inl h)) a c ha hc h pc
    · exact hq x hx (fun h => hn (.inr h)) a c ha hc h qc
  rw [key a ha h1, key b hb h2]
theorem Mod.congr {t : Tb} {n : Nat} {p q : Nat → Prop} (h : ∀ x, x < n → (p x ↔ q x)) (hp : Mod t n p) : Mod t n q := fun x hx hn a b ha hb h1 h2 =>
  hp x hx (fun q => hn ((h x hx).mp q)) a b ha hb ((h a ha).mpr h1) ((h b hb).mpr h2)
/-- what stands together is also beaten together -/
theorem Mod.beaten {t : Tb} {n : Nat} {p : Nat → Prop} (h : IsTb n t) (hp : Mod t n p) {x : Nat} (hx : x < n) (hn : ¬ p x) {a b : Nat} (ha : a < n) (hb : b < n) (h1 : p a) (h2 : p b) : ent t a x = ent t b x := by
  rw [h.two a x ha hx (fun e => hn (e ▸ h1)), h.two b x hb hx (fun e => hn (e ▸ h2)), hp x hx hn a b ha hb h1 h2]
def Cl (t : Tb) (n : Nat) (L : List Nat) (x : Nat) : Prop := ∀ p, Mod t n p → (∀ y ∈ L, p y) → p x
theorem Cl.mod (t : Tb) (n : Nat) (L : List Nat) : Mod t n (Cl t n L) := by
  intro x hx hn a b ha hb h1 h2
  obtain ⟨p, hp⟩ := Classical.not_forall.mp hn
  obtain ⟨hm, hp⟩ := Classical.not_imp.mp hp
  obtain ⟨hL, hx2⟩ := Classical.not_imp.mp hp
  exact hm x hx hx2 a b ha hb (h1 p hm hL) (h2 p hm hL)
theorem Cl.of {t : Tb} {n : Nat} {L : List Nat} {x : Nat} (h : x ∈ L) : Cl t n L x := fun _ _ hL => hL x h
/-- the least thing outside that beats some of L and not all -/
def brkP (t : Tb) (L : List Nat) (x : Nat) : Bool := decide (x ∉ L) && decide (0 < (L.filter (ent t x)).length ∧ (L.filter (ent t x)).length < L.length)
def brk (t : Tb) (n : Nat) (L : List Nat) : Option Nat := (List.range n).find? (brkP t L)
theorem brkP_iff {t : Tb} {L : List Nat} {x : Nat} : brkP t L x = true ↔ x ∉ L ∧ ∃ a b, a ∈ L ∧ b ∈ L ∧ ent t x a = true ∧ ent t x b = false := by
  unfold brkP
  rw [Bool.and_eq_true, decide_eq_true_eq, decide_eq_true_eq]
  refine and_congr_right fun _ => ⟨fun ⟨h1, h2⟩ => ?_, fun ⟨a, b, ha, hb, e1, e2⟩ => ⟨?_, ?_⟩⟩
  · obtain ⟨a, ha⟩ := List.exists_mem_of_length_pos h1
    have ha := List.mem_filter.mp ha
    refine Classical.byContradiction fun hc => ?_
    have : L.filter (ent t x) = L := List.filter_eq_self.mpr fun b hb => by
      cases e : ent t x b with
      | true => rfl
      | false => exact absurd ⟨a, b, ha.1, hb, ha.2, e⟩ hc
    rw [this] at h2
    omega
  · exact List.length_pos_of_mem (List.mem_filter.mpr ⟨ha, e1⟩)
  · refine Nat.lt_of_le_of_ne (List.length_filter_le _ _) fun h => ?_
    have h := List.length_filter_eq_length_iff.mp h b hb
    rw [e2] at h; cases h
theorem brk_none {t : Tb} {n : Nat} {L : List Nat} (hL : ∀ x ∈ L, x < n) : brk t n L = none ↔ Mod t n (· ∈ L) := by
  unfold brk
  rw [List.find?_eq_none]
  constructor
  · intro h x hx hn a b _ _ ha hb
    have h := h x (List.mem_range.mpr hx)
    rw [brkP_iff] at h
    cases e1 : ent t x a <;> cases e2 : ent t x b
    · rfl
    · exact absurd ⟨hn, b, a, hb, ha, e2, e1⟩ h
    · exact absurd ⟨hn, a, b, ha, hb, e1, e2⟩ h
    · rfl
  · intro h x hx hb
    obtain ⟨h1, a, b, ha, hb, e1, e2⟩ := brkP_iff.mp hb
    have := h x (List.mem_range.mp hx) h1 a b (hL a ha) (hL b hb) ha hb
    rw [e1, e2] at this; cases this
theorem brk_some {t : Tb} {n : Nat} {L : List Nat} {x : Nat} (h : brk t n L = some x) : x < n ∧ x ∉ L ∧ ∃ a b, a ∈ L ∧ b ∈ L ∧ ent t x a = true ∧ ent t x b = false := by
  unfold brk at h
  exact ⟨List.mem_range.mp (List.mem_of_find?_eq_some h), brkP_iff.mp (List.find?_some h)⟩
/-- one beside another, in a set that stands together and is not all -/
def Bes (t : Tb) (n : Nat) (a b : Nat) : Prop := a = b ∨ ∃ p, Mod t n p ∧ p a ∧ p b ∧ ∃ x, x < n ∧ ¬ p x
theorem Bes.symm {t : Tb} {n a b : Nat} (h : Bes t n a b) : Bes t n b a := by
  rcases h with h | ⟨p, h1, h2, h3, h4⟩
  · exact .inl h.symm
  · exact .inr ⟨p, h1, h3, h2, h4⟩
theorem bes_iff {t : Tb} {n a b : Nat} : Bes t n a b ↔ a = b ∨ (lst n (Cl t n [a, b])).length < n := by
  unfold Bes
  rw [lst_len_lt]
  refine or_congr_right ⟨fun ⟨p, h1, h2, h3, x, hx, hn⟩ => ⟨x, hx, fun h => hn (h p h1 fun y hy => ?_)⟩, fun ⟨x, hx, hn⟩ => ⟨Cl t n [a, b], Cl.mod _ _ _, Cl.of (by simp), Cl.of (by simp), x, hx, hn⟩⟩
  simp at hy
  rcases hy with rfl | rfl
  · exact h2
  · exact h3
def Strong (t : Tb) (n : Nat) : Prop := ∀ x y, x < n → y < n → Rch t n x y
theorem bes_trans {t : Tb} {n a b c : Nat} (h : IsTb n t) (hs : Strong t n) (ha : a < n) (hb : b < n) (hc : c < n) (h1 : Bes t n a b) (h2 : Bes t n b c) : Bes t n a c := by
  rcases h1 with rfl | ⟨p, p1, pa, pb, z, hz, pz⟩
  · exact h2
  rcases h2 with rfl | ⟨q, q1, qb, qc, w, hw, qw⟩
  · exact .inr ⟨p, p1, pa, pb, z, hz, pz⟩
  by_cases qa : q a
  · exact .inr ⟨q, q1, qa, qc, w, hw, qw⟩
  by_cases pc : p c
  · exact .inr ⟨p, p1, pa, pc, z, hz, pz⟩
  by_cases hu : ∃ x, x < n ∧ ¬ (p x ∨ q x)
  · exact .inr ⟨_, p1.union q1 hb pb qb, .inl pa, .inr qc, hu⟩
  exfalso
  have cov : ∀ x, x < n → p x ∨ q x := fun x hx => Classical.byContradiction fun h => hu ⟨x, hx, h⟩
  -- all of p beside q and all of q beside p stand alike
  have all : ∀ x y, x < n → y < n → p x → ¬ q x → q y → ¬ p y → ent t x y = ent t a c := by
    intro x y hx hy px qx qy py
    rw [q1 x hx qx y c hy hc qy qc, p1.beaten h hc pc hx ha px pa]
  have stay : ∀ (p q : Nat → Prop), Mod t n q → (∀ x, x < n → p x ∨ q x) → (∀ x y, x < n → y < n → p x → ¬ q x → q y → ¬ p y → ent t x y = true) → ∀ a c, a < n → c < n → p a → ¬ q a → q c → ¬ p c → False := by
    intro p q q1 cov hb a c ha hc pa qa qc pc
    have hr := hs c a hc ha
    -- what q comes to is in q
    have : ∀ x, Rch t n c x → q x := by
      intro x hx
      induction hx with
      | refl => exact qc
      | step hr hb2 hc2 he ih =>
        rename_i u v
        refine Classical.byContradiction fun hv => ?_
        have pv : p v := (cov v hc2).resolve_right hv
        have e1 : ent t v u = true := by
          rw [q1 v hc2 hv u c hb2 hc ih qc]
          exact hb v c hc2 hc pv hv qc pc
        have := h.two u v hb2 hc2 (fun e => hv (e ▸ ih))
        rw [he, e1] at this; cases this
    exact qa (this a hr)
  cases e : ent t a c with
  | true => exact stay p q q1 cov (fun x y hx hy h1 h2 h3 h4 => (all x y hx hy h1 h2 h3 h4).trans e) a c ha hc pa qa qc pc
  | false =>
    refine stay q p p1 (fun x hx => (cov x hx).symm) (fun x y hx hy h1 h2 h3 h4 => ?_) c a hc ha qc pc pa qa
    have hne : x ≠ y := fun e => h2 (e ▸ h3)
    rw [h.two x y hx hy hne, all y x hy hx h3 h4 h1 h2, e]; rfl
/-- a thing's class stands together -/
theorem bes_mod {t : Tb} {n a : Nat} (ha : a < n) : Mod t n (Bes t n a) := by
  intro x hx hn b c hb hc h1 h2
  have key : ∀ b, b < n → Bes t n a b → ent t x b = ent t x a := by
    rintro b hb (rfl | ⟨p, p1, pa, pb, hp⟩)
    · rfl
    · exact p1 x hx (fun px => hn (.inr ⟨p, p1, pa, px, hp⟩)) b a hb ha pb pa
  rw [key b hb h1, key c hc h2]
theorem Mod.ring {t : Tb} {n s : Nat} (h : IsTb n t) : Mod t n fun x => rnk t n x = s := by
  intro x hx hn a b ha hb h1 h2
  rcases Nat.lt_or_gt_of_ne hn with q | q
  · have e1 := rnk_beats h ha hx (by omega)
    have e2 := rnk_beats h hb hx (by omega)
    have := h.two x a hx ha (fun e => by subst e; omega)
    have h3 := h.two x b hx hb (fun e => by subst e; omega)
    rw [this, h3, e1, e2]
  · rw [rnk_beats h hx ha (by omega), rnk_beats h hx hb (by omega)]
/-- pieces that stand together and part all things -/
structure PartsOf (t : Tb) (n : Nat) (ps : List (List Nat)) : Prop where
  ne : ∀ p ∈ ps, p ≠ []
  lt : ∀ p ∈ ps, ∀ x ∈ p, x < n
  nd : ps.flatten.Nodup
  all : ∀ x, x < n → x ∈ ps.flatten
  mod : ∀ p ∈ ps, Mod t n (· ∈ p)
theorem len_le_flat : ∀ {ps : List (List Nat)}, (∀ p ∈ ps, p ≠ []) → ps.length ≤ ps.flatten.length
  | [], _ => Nat.le_refl _
  | p :: ps, h => by
    have h1 := len_le_flat (ps := ps) fun q hq => h q (List.mem_cons_of_mem _ hq)
    have h2 := List.length_pos_iff.mpr (h p List.mem_cons_self)
    rw [List.flatten_cons, List.length_append, List.length_cons]
    omega
theorem flat_lt {n : Nat} {ps : List (List Nat)} (h : ∀ p ∈ ps, ∀ x ∈ p, x < n) : ∀ x ∈ ps.flatten, x < n := fun x hx => by
  obtain ⟨p, hp, hx⟩ := List.mem_flatten.mp hx
  exact h p hp x hx
theorem PartsOf.len {t : Tb} {n : Nat} {ps : List (List Nat)} (P : PartsOf t n ps) : ps.length ≤ n :=
  Nat.le_trans (len_le_flat P.ne) (len_le_of_lt P.nd (flat_lt P.lt))
theorem PartsOf.sub_nd {t : Tb} {n : Nat} {ps : List (List Nat)} (P : PartsOf t n ps) {p : List Nat} (hp : p ∈ ps) : p.Nodup :=
  (List.pairwise_flatten.mp P.nd).1 p hp
theorem PartsOf.sub_len {t : Tb} {n : Nat} {ps : List (List Nat)} (P : PartsOf t n ps) {p : List Nat} (hp : p ∈ ps) : p.length ≤ n :=
  len_le_of_lt (P.sub_nd hp) (P.lt p hp)
theorem ringsL_parts {t : Tb} {n : Nat} (h : IsTb n t) : PartsOf t n (ringsL t n) where
  ne := fun p hp => (mem_ringsL.mp hp).1
  lt := fun p hp x hx => by
    obtain ⟨_, s, _, _, rfl⟩ := mem_ringsL.mp hp
    exact (mem_lst.mp hx).1
  nd := by
    unfold ringsL
    have key : ∀ xs : List Nat, xs.Nodup → ((xs.flatMap fun s => if 0 < (ring t n s).length then [ring t n s] else []).flatten).Nodup ∧ ∀ x ∈ (xs.flatMap fun s => if 0 < (ring t n s).length then [ring t n s] else []).flatten, rnk t n x ∈ xs := by
      intro xs
      induction xs with
      | nil => intro _; exact ⟨by simp, by simp⟩
      | cons s xs ih =>
        intro nd
        obtain ⟨h1, h2⟩ := List.nodup_cons.mp nd
        obtain ⟨i1, i2⟩ := ih h2
        rw [List.flatMap_cons]
        split
        · rw [List.singleton_append, List.flatten_cons]
          refine ⟨List.nodup_append.mpr ⟨lst_nodup _ _, i1, fun a ha b hb e => ?_⟩, fun x hx => ?_⟩
          · subst e
            have e1 : rnk t n a = s := (mem_lst.mp ha).2
            exact h1 (e1 ▸ i2 a hb)
          · rcases List.mem_append.mp hx with hx | hx
            · have e1 : rnk t n x = s := (mem_lst.mp hx).2
              rw [e1]; exact List.mem_cons_self
            · exact List.mem_cons_of_mem _ (i2 x hx)
        · rw [List.nil_append]
          exact ⟨i1, fun x hx => List.mem_cons_of_mem _ (i2 x hx)⟩
    refine (key _ ?_).1
    rw [rngD_zero]
    refine List.pairwise_map.mpr ?_
    refine List.Pairwise.imp_of_mem ?_ List.pairwise_lt_range
    intro a b ha hb hab
    have := List.mem_range.mp ha
    have := List.mem_range.mp hb
    omega
  all := fun x hx => by
    have hp := rnk_pos (t := t) hx
    refine List.mem_flatten.mpr ⟨ring t n (rnk t n x), mem_ringsL.mpr ⟨?_, _, hp, rnk_le _ _ _, rfl⟩, mem_lst.mpr ⟨hx, rfl⟩⟩
    exact List.ne_nil_of_mem (mem_lst.mpr ⟨hx, rfl⟩)
  mod := fun p hp => by
    obtain ⟨_, s, _, _, rfl⟩ := mem_ringsL.mp hp
    exact (Mod.ring (s := s) h).congr fun x hx => by
      show _ ↔ x ∈ lst n _
      rw [mem_lst]; exact ⟨fun h => ⟨hx, h⟩, fun h => h.2⟩
/-- one ring: all come to all -/
theorem strong_of {t : Tb} {n : Nat} (h : IsTb n t) (hn : 0 < n) (h1 : (ringsL t n).length ≤ 1) : Strong t n := by
  have h2 := ringsL_head h hn
  have P := ringsL_parts h
  have e : ringsL t n = [topL t n] := by
    cases q : ringsL t n with
    | nil => rw [q] at h2; cases h2
    | cons a l =>
      rw [q] at h2 h1
      cases h2
      rw [List.length_cons] at h1
      rw [List.eq_nil_of_length_eq_zero (by omega : l.length = 0)]
  intro x y hx hy
  have := P.all x hx
  rw [e, List.flatten_singleton] at this
  exact (mem_lst.mp this).2.2 y hy
end Aw


/-! Sp1: loops of Lean's own types, ahead of what follows. -/
namespace Aw
section
variable {α β σ τ ρ γ : Type}
theorem out_of {o : Option (Flow ρ Empty ρ)} {a : ρ} (h : o = some (.ret a)) : outO o = some a := by rw [h]; rfl
theorem bindI {o : Option α} {a : α} {k : α → Option γ} {q : Option γ} (h : o = some a) (hk : k a = q) : o.bind k = q := by rw [h]; exact hk
theorem limI {p : Prop} [Decidable p] {o q : Option α} (h : p) (hk : o = q) : (if p then o else none) = q := by rw [if_pos h]; exact hk
theorem nxI {s : σ} {k : σ → Option (Flow τ β ρ)} {q : Option (Flow τ β ρ)} (h : k s = q) : thenF (some (.nx s)) k = q := h
theorem forI {b : α → σ → Option (Flow σ σ ρ)} {k : σ → Option (Flow τ β ρ)} {q : Option (Flow τ β ρ)} (I : Nat → σ → Prop) {xs : List α} {s : σ} (h0 : I 0 s) (hs : ∀ i x s, xs[i]? = some x → I i s → ∃ s', b x s = some (.nx s') ∧ I (i + 1) s') (hk : ∀ s', I xs.length s' → k s' = q) : thenF (forO b xs s) k = q := by
  obtain ⟨s', h1, h2⟩ := forO_I (β := β) I h0 hs
  rw [h1]; exact hk s' h2
/-- it ends in something of a kind -/
theorem forE {b : α → σ → Option (Flow σ σ ρ)} {k : σ → Option (Flow τ β ρ)} {Q : Option (Flow τ β ρ) → Prop} (I : Nat → σ → Prop) {xs : List α} {s : σ} (h0 : I 0 s) (hs : ∀ i x s, xs[i]? = some x → I i s → ∃ s', b x s = some (.nx s') ∧ I (i + 1) s') (hk : ∀ s', I xs.length s' → Q (k s')) : Q (thenF (forO b xs s) k) := by
  obtain ⟨s', h1, h2⟩ := forO_I (β := β) I h0 hs
  rw [h1]; exact hk s' h2
theorem whileI {c : σ → Option Bool} {b : σ → Option (Flow σ σ ρ)} {k : σ → Option (Flow τ β ρ)} {q : Option (Flow τ β ρ)} (I : Nat → σ → Prop) {Q : σ → Prop} {n : Nat} {s : σ} (m : Nat) (hm : m < n) (h0 : I m s) (hs : ∀ m s, I m s → (c s = some false ∧ Q s) ∨ (c s = some true ∧ ∃ s' m', b s = some (.nx s') ∧ m' < m ∧ I m' s')) (hk : ∀ s', Q s' → k s' = q) : thenF (whileO c b n s) k = q := by
  obtain ⟨s', h1, h2⟩ := whileO_I (β := β) I hs n m s hm h0
  rw [h1]; exact hk s' h2
theorem findI {b : α → Unit → Option (Flow Unit Unit ρ)} {k : Unit → Option (Flow τ β ρ)} {q : Option (Flow τ β ρ)} (P : α → Bool) (R : α → ρ) {xs : List α} (h : ∀ x ∈ xs, b x () = if P x = true then some (.ret (R x)) else some (.nx ()))
    (hk : (match xs.find? P with | some x => some (.ret (R x)) | none => k ()) = q) : thenF (forO b xs ()) k = q := by
  rw [forO_find (β := β) P R h]
  rw [← hk]
  cases xs.find? P <;> rfl
theorem passI {b : α → Unit → Option (Flow Unit Unit ρ)} {k : Unit → Option (Flow τ β ρ)} {q : Option (Flow τ β ρ)} {xs : List α} (h : ∀ x ∈ xs, b x () = some (.nx ())) (hk : k () = q) : thenF (forO b xs ()) k = q := by
  rw [forO_pass (β := β) h]; exact hk
theorem appI {b : α → List σ → Option (Flow (List σ) (List σ) ρ)} {k : List σ → Option (Flow τ β ρ)} {q : Option (Flow τ β ρ)} (g : α → List σ) (N : Nat) {xs : List α} {s : List σ} (hN : s.length + (xs.map fun x => (g x).length).sum ≤ N) (h : ∀ x ∈ xs, ∀ s, s.length + (g x).length ≤ N → b x s = some (.nx (s ++ g x))) (hk : k (s ++ xs.flatMap g) = q) : thenF (forO b xs s) k = q := by
  rw [forO_app (β := β) g N hN h]; exact hk
/-- a list of those of which something holds, one by one -/
theorem selI {b : α → List α → Option (Flow (List α) (List α) ρ)} {k : List α → Option (Flow τ β ρ)} {q : Option (Flow τ β ρ)} (P : α → Bool) (N : Nat) {xs : List α} {s : List α} (hN : s.length + xs.length ≤ N) (h : ∀ x ∈ xs, ∀ s, s.length < N → b x s = some (.nx (if P x = true then s ++ [x] else s))) (hk : k (s ++ xs.filter P) = q) : thenF (forO b xs s) k = q := by
  have key : ∀ (xs : List α) (s : List α), s.length + xs.length ≤ N → (∀ x ∈ xs, ∀ s, s.length < N → b x s = some (.nx (if P x = true then s ++ [x] else s))) → (forO b xs s : Option (Flow (List α) β ρ)) = some (.nx (s ++ xs.filter P)) := by
    intro xs
    induction xs with
    | nil => intro s _ _; simp
    | cons x xs ih =>
      intro s hN h
      rw [List.length_cons] at hN
      unfold forO
      rw [h x List.mem_cons_self s (by omega)]
      simp only
      by_cases hp : P x = true
      · rw [if_pos hp, ih (s ++ [x]) (by simp; omega) fun y hy => h y (List.mem_cons_of_mem _ hy), List.filter_cons_of_pos hp, List.append_assoc]; rfl
      · rw [if_neg hp, ih s (by omega) fun y hy => h y (List.mem_cons_of_mem _ hy), List.filter_cons_of_neg hp]
  rw [key xs s hN h]; exact hk
theorem compI {p : α → Option Bool} {g : α → Option β} {k : List β → Option γ} {q : Option γ} (P : α → Bool) (G : α → β) {xs : List α} (hl : xs.length ≤ 100000) (h : ∀ x ∈ xs, p x = some (P x) ∧ (P x = true → g x = some (G x))) (hk : k ((xs.filter P).map G) = q) : (compO xs p g).bind k = q := by
  rw [compO_some P G hl h]; exact hk
/-- a list built of all -/
theorem mapI {g : α → Option β} {k : List β → Option γ} {q : Option γ} (G : α → β) {xs : List α} (hl : xs.length ≤ 100000) (h : ∀ x ∈ xs, g x = some (G x)) (hk : k (xs.map G) = q) : (compO xs (fun _ => some true) g).bind k = q := by
  have := mapO_some G hl h
  unfold mapO at this
  rw [this]; exact hk
theorem filt_some {p : α → Option Bool} (P : α → Bool) {xs : List α} (hl : xs.length ≤ 100000) (h : ∀ x ∈ xs, p x = some (P x)) : (compO xs p fun x => some x) = some (xs.filter P) := by
  have := compO_some (g := fun x => some x) P id hl fun x hx => ⟨h x hx, fun _ => rfl⟩
  rw [List.map_id] at this
  exact this
/-- a list of those of which something holds -/
theorem filtI {p : α → Option Bool} {k : List α → Option γ} {q : Option γ} (P : α → Bool) {xs : List α} (hl : xs.length ≤ 100000) (h : ∀ x ∈ xs, p x = some (P x)) (hk : k (xs.filter P) = q) : (compO xs p fun x => some x).bind k = q := by
  have := compO_some (g := fun x => some x) P id hl fun x hx => ⟨h x hx, fun _ => rfl⟩
  rw [List.map_id] at this
  rw [this]; exact hk
end
theorem putM_keys {κ α : Type} [DecidableEq κ] {m : List (κ × α)} {k : κ} {v : α} : (putM m k v).map (·.1) = if k ∈ m.map (·.1) then m.map (·.1) else m.map (·.1) ++ [k] := by
  unfold putM
  split
  · rw [List.map_map]
    apply List.map_congr_left
    intro p _
    simp only [Function.comp]
    split
    · rename_i h; exact h.symm
    · rfl
  · rw [List.map_append]; rfl
theorem mem_putM {κ α : Type} [DecidableEq κ] {m : List (κ × α)} {k x : κ} {v : α} : x ∈ (putM m k v).map (·.1) ↔ x ∈ m.map (·.1) ∨ x = k := by
  rw [putM_keys]
  split
  · rename_i h
    exact ⟨.inl, fun q => q.elim id fun e => e ▸ h⟩
  · rw [List.mem_append, List.mem_singleton]
theorem putM_nd {κ α : Type} [DecidableEq κ] {m : List (κ × α)} {k : κ} {v : α} (h : (m.map (·.1)).Nodup) : ((putM m k v).map (·.1)).Nodup := by
  rw [putM_keys]
  split
  · exact h
  · rename_i hk
    exact List.nodup_append.mpr ⟨h, by simp, fun a ha b hb e => by simp at hb; subst hb; subst e; exact hk ha⟩
theorem putM_len {κ α : Type} [DecidableEq κ] {m : List (κ × α)} {k : κ} {v : α} : (putM m k v).length ≤ m.length + 1 := by
  unfold putM; split
  · rw [List.length_map]; omega
  · rw [List.length_append]; exact Nat.le_refl _
end Aw


/-! Mt3: tables made of tables. -/
namespace Aw
def heads (ps : List (List Nat)) : List Nat := ps.map fun p => p.headD 0
/-- a part of a table -/
def sub (t : Tb) (hs : List Nat) : Tb := hs.map fun a => hs.map (ent t a)
theorem getD_mem {hs : List Nat} {i : Nat} (h : i < hs.length) : hs.getD i 0 ∈ hs := by
  rw [List.getD_eq_getElem?_getD, List.getElem?_eq_getElem h]; exact List.getElem_mem h
theorem getD_some {hs : List Nat} {i : Nat} (h : i < hs.length) : hs[i]? = some (hs.getD i 0) := by
  rw [List.getD_eq_getElem?_getD, List.getElem?_eq_getElem h]; rfl
theorem mem_getD {hs : List Nat} {x : Nat} (h : x ∈ hs) : ∃ i, i < hs.length ∧ hs.getD i 0 = x := by
  obtain ⟨i, hi, e⟩ := List.mem_iff_getElem.mp h
  exact ⟨i, hi, by rw [List.getD_eq_getElem?_getD, List.getElem?_eq_getElem hi]; exact e⟩
theorem getD_inj {hs : List Nat} (nd : hs.Nodup) {i j : Nat} (hi : i < hs.length) (hj : j < hs.length) (e : hs.getD i 0 = hs.getD j 0) : i = j := by
  rw [List.getD_eq_getElem?_getD, List.getD_eq_getElem?_getD, List.getElem?_eq_getElem hi, List.getElem?_eq_getElem hj] at e
  exact List.getElem_inj nd |>.mp e
theorem getDl {ps : List (List Nat)} {i : Nat} (h : i < ps.length) : ps[i]? = some (ps.getD i []) := by
  rw [List.getD_eq_getElem?_getD, List.getElem?_eq_getElem h]; rfl
theorem getDl_mem {ps : List (List Nat)} {i : Nat} (h : i < ps.length) : ps.getD i [] ∈ ps := by
  rw [List.getD_eq_getElem?_getD, List.getElem?_eq_getElem h]; exact List.getElem_mem h
theorem ent_sub {t : Tb} {hs : List Nat} {i j : Nat} (hi : i < hs.length) (hj : j < hs.length) : ent (sub t hs) i j = ent t (hs.getD i 0) (hs.getD j 0) :=
  ent_of (row := hs.map (ent t (hs.getD i 0))) (by rw [sub, List.getElem?_map, getD_some hi]; rfl) (by rw [List.getElem?_map, getD_some hj]; rfl)
theorem sub_tb {n : Nat} {t : Tb} (h : IsTb n t) {hs : List Nat} (nd : hs.Nodup) (hl : ∀ x ∈ hs, x < n) : IsTb hs.length (sub t hs) where
  sq := ⟨by rw [sub, List.length_map], fun i hi => by
    rw [List.getD_eq_getElem?_getD, sub, List.getElem?_map, List.getElem?_eq_getElem hi]
    simp⟩
  self := fun i hi => by rw [ent_sub hi hi]; exact h.self _ (hl _ (getD_mem hi))
  two := fun i j hi hj hij => by
    rw [ent_sub hi hj, ent_sub hj hi]
    exact h.two _ _ (hl _ (getD_mem hi)) (hl _ (getD_mem hj)) fun e => hij (getD_inj nd hi hj e)
/-- the number of a thing's piece -/
def pix (ps : List (List Nat)) (x : Nat) : Nat := ps.findIdx fun p => decide (x ∈ p)
theorem flat_inj {ps : List (List Nat)} (nd : ps.flatten.Nodup) {k l x : Nat} (hk : k < ps.length) (hl : l < ps.length) (h1 : x ∈ ps.getD k []) (h2 : x ∈ ps.getD l []) : k = l := by
  have key : ∀ k l, k < l → l < ps.length → x ∈ ps.getD k [] → x ∈ ps.getD l [] → False := by
    intro k l hkl hl h1 h2
    have := List.pairwise_iff_getElem.mp (List.pairwise_flatten.mp nd).2 k l (by omega) hl hkl
    rw [List.getD_eq_getElem?_getD, List.getElem?_eq_getElem (by omega)] at h1
    rw [List.getD_eq_getElem?_getD, List.getElem?_eq_getElem hl] at h2
    exact this x h1 x h2 rfl
  rcases Nat.lt_trichotomy k l with h | h | h
  · exact (key k l h hl h1 h2).elim
  · exact h
  · exact (key l k h hk h2 h1).elim
section
variable {t : Tb} {n : Nat} {ps : List (List Nat)}
theorem PartsOf.pix (P : PartsOf t n ps) {x : Nat} (hx : x < n) : Aw.pix ps x < ps.length ∧ x ∈ ps.getD (Aw.pix ps x) [] := by
  obtain ⟨p, hp, hx⟩ := List.mem_flatten.mp (P.all x hx)
  have h : Aw.pix ps x < ps.length := List.findIdx_lt_length_of_exists ⟨p, hp, by simpa using hx⟩
  refine ⟨h, ?_⟩
  have := List.findIdx_getElem (p := fun p : List Nat => decide (x ∈ p)) (xs := ps) (w := h)
  rw [List.getD_eq_getElem?_getD, List.getElem?_eq_getElem h]
  simp only [decide_eq_true_eq] at this
  exact this
theorem PartsOf.pix_eq (P : PartsOf t n ps) {x k : Nat} (hk : k < ps.length) (hx : x ∈ ps.getD k []) : Aw.pix ps x = k := by
  have h := P.pix (P.lt _ (getDl_mem hk) x hx)
  exact flat_inj P.nd h.1 hk h.2 hx
theorem heads_len : (heads ps).length = ps.length := by rw [heads, List.length_map]
theorem PartsOf.head (P : PartsOf t n ps) {k : Nat} (hk : k < ps.length) : (heads ps).getD k 0 ∈ ps.getD k [] := by
  have e : (heads ps).getD k 0 = (ps.getD k []).headD 0 := by rw [List.getD_eq_getElem?_getD, heads, List.getElem?_map, getDl hk]; rfl
  rw [e]
  have := P.ne _ (getDl_mem hk)
  cases q : ps.getD k [] with
  | nil => exact absurd q this
  | cons a l => exact List.mem_cons_self
theorem PartsOf.head_lt (P : PartsOf t n ps) {k : Nat} (hk : k < ps.length) : (heads ps).getD k 0 < n := P.lt _ (getDl_mem hk) _ (P.head hk)
theorem PartsOf.heads_lt (P : PartsOf t n ps) : ∀ x ∈ heads ps, x < n := fun x hx => by
  obtain ⟨i, hi, rfl⟩ := mem_getD hx
  exact P.head_lt (by rwa [heads_len] at hi)
theorem nodup_of_inj {hs : List Nat} (h : ∀ i j, i < hs.length → j < hs.length → hs.getD i 0 = hs.getD j 0 → i = j) : hs.Nodup := by
  refine List.pairwise_iff_getElem.mpr fun i j hi hj hij e => ?_
  have := h i j hi hj (by rw [List.getD_eq_getElem?_getD, List.getD_eq_getElem?_getD, List.getElem?_eq_getElem hi, List.getElem?_eq_getElem hj]; exact e)
  omega
theorem PartsOf.heads_nd (P : PartsOf t n ps) : (heads ps).Nodup := nodup_of_inj fun i j hi hj e => by
  rw [heads_len] at hi hj
  rw [← P.pix_eq hi (P.head hi), ← P.pix_eq hj (P.head hj), e]
theorem PartsOf.fold_tb (P : PartsOf t n ps) (h : IsTb n t) : IsTb ps.length (sub t (heads ps)) := by
  have := sub_tb h P.heads_nd P.heads_lt
  rwa [heads_len] at this
theorem PartsOf.ent_fold (P : PartsOf t n ps) (h : IsTb n t) {x y : Nat} (hx : x < n) (hy : y < n) (hne : Aw.pix ps x ≠ Aw.pix ps y) : ent t x y = ent (sub t (heads ps)) (Aw.pix ps x) (Aw.pix ps y) := by
  obtain ⟨h1, h2⟩ := P.pix hx
  obtain ⟨h3, h4⟩ := P.pix hy
  rw [ent_sub (by rw [heads_len]; exact h1) (by rw [heads_len]; exact h3)]
  have a1 := P.mod _ (getDl_mem h3) x hx (fun q => hne (P.pix_eq h3 q)) y ((heads ps).getD (Aw.pix ps y) 0) hy (P.head_lt h3) h4 (P.head h3)
  have a2 := (P.mod _ (getDl_mem h1)).beaten h (x := (heads ps).getD (Aw.pix ps y) 0) (P.head_lt h3) (fun q => hne ((P.pix_eq h1 q).symm.trans (P.pix_eq h3 (P.head h3)))) hx (P.head_lt h1) h2 (P.head h1)
  rw [a1, a2]
/-- a way in the table is one in the folded table -/
theorem PartsOf.rch_up (P : PartsOf t n ps) (h : IsTb n t) {x y : Nat} (hx : x < n) (hr : Rch t n x y) : Rch (sub t (heads ps)) ps.length (Aw.pix ps x) (Aw.pix ps y) := by
  induction hr with
  | refl => exact .refl
  | step hr hb hc he ih =>
    rename_i b c
    by_cases e : Aw.pix ps b = Aw.pix ps c
    · rw [← e]; exact ih
    · exact .step ih (P.pix hb).1 (P.pix hc).1 (by rw [← P.ent_fold h hb hc e]; exact he)
theorem ne_of_ent {t : Tb} {n : Nat} (h : IsTb n t) {a b : Nat} (hb : b < n) (e : ent t a b = true) : a ≠ b := fun q => by
  subst q; rw [h.self a hb] at e; cases e
theorem PartsOf.edge (P : PartsOf t n ps) (h : IsTb n t) {k l : Nat} (hk : k < ps.length) (hl : l < ps.length) (e : ent (sub t (heads ps)) k l = true) {x y : Nat} (hx : x ∈ ps.getD k []) (hy : y ∈ ps.getD l []) : ent t x y = true := by
  have hne := ne_of_ent (P.fold_tb h) hl e
  have ex := P.pix_eq hk hx
  have ey := P.pix_eq hl hy
  rw [P.ent_fold h (P.lt _ (getDl_mem hk) x hx) (P.lt _ (getDl_mem hl) y hy) (by rw [ex, ey]; exact hne), ex, ey, e]
/-- a way between pieces is one between all their things -/
theorem PartsOf.rch_down (P : PartsOf t n ps) (h : IsTb n t) {k l : Nat} (hk : k < ps.length) (hr : Rch (sub t (heads ps)) ps.length k l) (hne : k ≠ l) {x y : Nat} (hx : x ∈ ps.getD k []) (hy : y ∈ ps.getD l []) : Rch t n x y := by
  induction hr generalizing y with
  | refl => exact absurd rfl hne
  | step hr hb hc he ih =>
    rename_i b c
    have hxn := P.lt _ (getDl_mem hk) x hx
    have hyn := P.lt _ (getDl_mem hc) y hy
    by_cases e : k = b
    · subst e
      exact .one hxn hyn (P.edge h hk hc he hx hy)
    · have hb2 := P.head hb
      exact .step (ih e hb2) (P.head_lt hb) hyn (P.edge h hb hc he hb2 hy)
theorem PartsOf.top_up (P : PartsOf t n ps) (h : IsTb n t) {x : Nat} (ht : Top t n x) : Top (sub t (heads ps)) ps.length (Aw.pix ps x) :=
  ⟨(P.pix ht.1).1, fun l hl => by
    have := P.rch_up h ht.1 (ht.2 _ (P.head_lt hl))
    rwa [P.pix_eq hl (P.head hl)] at this⟩
/-- two pieces in the top ring: all their things are in the top ring -/
theorem PartsOf.top_many (P : PartsOf t n ps) (h : IsTb n t) {k l : Nat} (hk : Top (sub t (heads ps)) ps.length k) (hl : Top (sub t (heads ps)) ps.length l) (hne : k ≠ l) {x : Nat} (hx : x ∈ ps.getD k []) : Top t n x := by
  refine ⟨P.lt _ (getDl_mem hk.1) x hx, fun y hy => ?_⟩
  obtain ⟨h1, h2⟩ := P.pix hy
  by_cases e : k = Aw.pix ps y
  · rw [← e] at h2
    exact (P.rch_down h hk.1 (hk.2 l hl.1) hne hx (P.head hl.1)).trans (P.rch_down h hl.1 (hl.2 k hk.1) (fun q => hne q.symm) (P.head hl.1) h2)
  · exact P.rch_down h hk.1 (hk.2 _ h1) e hx h2
/-- one piece alone in the top ring -/
theorem PartsOf.top_one (P : PartsOf t n ps) (h : IsTb n t) {k : Nat} (hk : Top (sub t (heads ps)) ps.length k) (hu : ∀ l, Top (sub t (heads ps)) ps.length l → l = k) {x : Nat} :
    Top t n x ↔ ∃ i, Top (sub t (ps.getD k [])) (ps.getD k []).length i ∧ (ps.getD k []).getD i 0 = x := by
  have hm := getDl_mem hk.1
  have nd := P.sub_nd hm
  constructor
  · intro ht
    have e := hu _ (P.top_up h ht)
    have hx := (P.pix ht.1).2
    rw [e] at hx
    obtain ⟨i, hi, rfl⟩ := mem_getD hx
    refine ⟨i, ⟨hi, fun j hj => ?_⟩, rfl⟩
    have key : ∀ z, Rch t n ((ps.getD k []).getD i 0) z → ∀ j, j < (ps.getD k []).length → (ps.getD k []).getD j 0 = z → Rch (sub t (ps.getD k [])) (ps.getD k []).length i j := by
      intro z hz
      induction hz with
      | refl => intro j hj e; rw [getD_inj nd hj hi e]; exact .refl
      | step hr hb hc he ih =>
        rename_i b c
        intro j hj ej
        have hck : Aw.pix ps c = k := P.pix_eq hk.1 (by rw [← ej]; exact getD_mem hj)
        have hbk : Aw.pix ps b = k := by
          have r1 := P.rch_up h hb (.one hb hc he)
          rw [hck] at r1
          exact hu _ ⟨(P.pix hb).1, fun l hl => r1.trans (hk.2 l hl)⟩
        have hbm := (P.pix hb).2
        rw [hbk] at hbm
        obtain ⟨j', hj', ej'⟩ := mem_getD hbm
        exact .step (ih j' hj' ej') hj' hj (by rw [ent_sub hj' hj, ej', ej]; exact he)
    exact key _ (ht.2 _ (P.lt _ hm _ (getD_mem hj))) j hj rfl
  · rintro ⟨i, ⟨hi, ht⟩, rfl⟩
    have hxm := getD_mem hi
    refine ⟨P.lt _ hm _ hxm, fun y hy => ?_⟩
    obtain ⟨h1, h2⟩ := P.pix hy
    by_cases e : k = Aw.pix ps y
    · rw [← e] at h2
      obtain ⟨j, hj, rfl⟩ := mem_getD h2
      have hr := ht j hj
      clear h1 h2 e hy
      induction hr with
      | refl => exact .refl
      | step hr hb hc he ih =>
        exact .step (ih hb) (P.lt _ hm _ (getD_mem hb)) (P.lt _ hm _ (getD_mem hc)) (by rw [← ent_sub hb hc]; exact he)
    · exact P.rch_down h hk.1 (hk.2 _ h1) e hxm h2
/-- no top ring has two things -/
theorem topL_ne2 {m : Nat} {u : Tb} (h : IsTb m u) : (topL u m).length ≠ 2 := by
  intro h2
  obtain ⟨k, l, e⟩ : ∃ k l, topL u m = [k, l] := by
    match topL u m, h2 with
    | [k, l], _ => exact ⟨k, l, rfl⟩
  have hk : Top u m k := (mem_lst.mp (show k ∈ topL u m by rw [e]; simp)).2
  have hl : Top u m l := (mem_lst.mp (show l ∈ topL u m by rw [e]; simp)).2
  have hne : k ≠ l := by
    have := lst_nodup m (Top u m)
    rw [show lst m (Top u m) = [k, l] from e] at this
    simp at this
    exact this
  have two : ∀ x, Top u m x → x = k ∨ x = l := fun x hx => by
    have : x ∈ topL u m := mem_lst.mpr ⟨hx.1, hx⟩
    rw [e] at this; simpa using this
  have last : ∀ a b, Top u m a → Top u m b → a ≠ b → (∀ x, Top u m x → x = a ∨ x = b) → ent u a b = true := by
    intro a b ha hb hab h2
    have hr := ha.2 b hb.1
    cases hr with
    | refl => exact absurd rfl hab
    | @step c _ hr hc _ he =>
      have hct : Top u m c := ⟨hc, fun y hy => (Rch.one hc hb.1 he).trans (hb.2 y hy)⟩
      rcases h2 c hct with rfl | rfl
      · exact he
      · rw [h.self c hc] at he; cases he
  have e1 := last k l hk hl hne two
  have e2 := last l k hl hk (fun q => hne q.symm) fun x hx => (two x hx).symm
  have := h.two k l hk.1 hl.1 hne
  rw [e1, e2] at this; cases this
end
end Aw


/-! Mt5: even weighings: at most one but for a factor; there is one. -/
namespace Aw
/-- a sum over the first n -/
def sm (n : Nat) (f : Nat → Int) : Int := ((List.range n).map f).sum
theorem sm_zero (f : Nat → Int) : sm 0 f = 0 := rfl
theorem sm_succ (n : Nat) (f : Nat → Int) : sm (n + 1) f = sm n f + f n := by
  unfold sm; rw [List.range_succ, List.map_append, List.sum_append]; simp
theorem sm_congr {n : Nat} {f g : Nat → Int} (h : ∀ i, i < n → f i = g i) : sm n f = sm n g := by
  induction n with
  | zero => rfl
  | succ n ih => rw [sm_succ, sm_succ, ih fun i hi => h i (by omega), h n (by omega)]
theorem sm_add (n : Nat) (f g : Nat → Int) : sm n (fun i => f i + g i) = sm n f + sm n g := by
  induction n with
  | zero => rfl
  | succ n ih => rw [sm_succ, sm_succ, sm_succ, ih]; omega
theorem sm_sub (n : Nat) (f g : Nat → Int) : sm n (fun i => f i - g i) = sm n f - sm n g := by
  induction n with
  | zero => rfl
  | succ n ih => rw [sm_succ, sm_succ, sm_succ, ih]; omega
theorem sm_mul (n : Nat) (c : Int) (f : Nat → Int) : sm n (fun i => c * f i) = c * sm n f := by
  induction n with
  | zero => simp [sm_zero]
  | succ n ih => rw [sm_succ, sm_succ, ih, Int.mul_add]
theorem sm_mulr (n : Nat) (c : Int) (f : Nat → Int) : sm n (fun i => f i * c) = sm n f * c := by
  rw [Int.mul_comm, ← sm_mul]; exact sm_congr fun i _ => Int.mul_comm _ _
theorem sm_neg (n : Nat) (f : Nat → Int) : sm n (fun i => - f i) = - sm n f := by
  induction n with
  | zero => rfl
  | succ n ih => rw [sm_succ, sm_succ, ih]; omega
theorem sm_const0 (n : Nat) : sm n (fun _ => 0) = 0 := by
  induction n with
  | zero => rfl
  | succ n ih => rw [sm_succ, ih]; rfl
theorem sm_swap (n m : Nat) (f : Nat → Nat → Int) : sm n (fun i => sm m (f i)) = sm m (fun j => sm n fun i => f i j) := by
  induction n with
  | zero => rw [sm_zero]; exact (sm_const0 m).symm
  | succ n ih => rw [sm_succ, ih, ← sm_add]; exact sm_congr fun j _ => (sm_succ _ _).symm
theorem sm_nonneg {n : Nat} {f : Nat → Int} (h : ∀ i, i < n → 0 ≤ f i) : 0 ≤ sm n f := by
  induction n with
  | zero => exact Int.le_refl _
  | succ n ih => rw [sm_succ]; have := ih fun i hi => h i (by omega); have := h n (by omega); omega
theorem sm_zero_all {n : Nat} {f : Nat → Int} (h : ∀ i, i < n → 0 ≤ f i) (h0 : sm n f = 0) : ∀ i, i < n → f i = 0 := by
  induction n with
  | zero => intro i hi; omega
  | succ n ih =>
    rw [sm_succ] at h0
    have h1 := sm_nonneg fun i (hi : i < n) => h i (by omega)
    have h2 := h n (by omega)
    intro i hi
    by_cases e : i = n
    · subst e; omega
    · exact ih (fun i hi => h i (by omega)) (by omega) i (by omega)
theorem sm_pos {n : Nat} {f : Nat → Int} (h : ∀ i, i < n → 0 ≤ f i) {i : Nat} (hi : i < n) (hp : 0 < f i) : 0 < sm n f := by
  have h1 := sm_nonneg h
  by_cases e : sm n f = 0
  · have := sm_zero_all h e i hi; omega
  · omega
/-- equal but for what is even -/
theorem sm_par {n : Nat} {f g : Nat → Int} (h : ∀ i, i < n → (f i - g i) % 2 = 0) : (sm n f - sm n g) % 2 = 0 := by
  induction n with
  | zero => rfl
  | succ n ih =>
    rw [sm_succ, sm_succ]
    have := ih fun i hi => h i (by omega)
    have := h n (by omega)
    omega
theorem sm_one {n k : Nat} (hk : k < n) (f : Nat → Int) : sm n (fun j => if j = k then f j else 0) = f k := by
  induction n with
  | zero => omega
  | succ n ih =>
    rw [sm_succ]
    by_cases e : n = k
    · subst e
      rw [if_pos rfl, sm_congr (g := fun _ => 0) fun i hi => if_neg (by omega), sm_const0]; omega
    · rw [if_neg e, ih (by omega)]; omega
def sg (t : Tb) (i j : Nat) : Int := if ent t i j = true then 1 else if ent t j i = true then -1 else 0
section
variable {t : Tb} {n : Nat}
theorem sg_skew (h : IsTb n t) {i j : Nat} (hi : i < n) (hj : j < n) : sg t i j = - sg t j i := by
  unfold sg
  by_cases e : i = j
  · subst e; rw [h.self i hi]; simp
  · rw [h.two i j hi hj e]
    cases ent t j i <;> simp
theorem sg_self (h : IsTb n t) {i : Nat} (hi : i < n) : sg t i i = 0 := by
  unfold sg; rw [h.self i hi]; simp
theorem sg_odd (h : IsTb n t) {i j : Nat} (hi : i < n) (hj : j < n) (e : i ≠ j) : sg t i j = 1 ∨ sg t i j = -1 := by
  unfold sg
  rw [h.two i j hi hj e]
  cases ent t j i <;> simp
/-- what weights a thing beats, less what beats it -/
def scr (t : Tb) (n : Nat) (w : Nat → Int) (i : Nat) : Int := sm n fun j => sg t i j * w j
structure Even (t : Tb) (n : Nat) (w : Nat → Int) : Prop where
  nn : ∀ i, i < n → 0 ≤ w i
  some : ∃ i, i < n ∧ 0 < w i
  on : ∀ i, i < n → 0 < w i → scr t n w i = 0
  off : ∀ i, i < n → w i = 0 → scr t n w i < 0
/-- the whole play of weights against others -/
theorem play_skew (h : IsTb n t) (v w : Nat → Int) : sm n (fun i => v i * scr t n w i) = - sm n fun j => w j * scr t n v j := by
  have e1 : sm n (fun i => v i * scr t n w i) = sm n fun i => sm n fun j => v i * (sg t i j * w j) := sm_congr fun i _ => (sm_mul _ _ _).symm
  have e2 : sm n (fun j => w j * scr t n v j) = sm n fun j => sm n fun i => w j * (sg t j i * v i) := sm_congr fun i _ => (sm_mul _ _ _).symm
  rw [e1, e2, sm_swap, ← sm_neg]
  refine sm_congr fun j hj => ?_
  rw [← sm_neg]
  refine sm_congr fun i hi => ?_
  rw [sg_skew h hi hj]
  grind
/-- the score but for what is even -/
theorem scr_par (h : IsTb n t) (w : Nat → Int) {i : Nat} (hi : i < n) : (scr t n w i - (sm n w - w i)) % 2 = 0 := by
  have e : sm n w - w i = sm n fun j => w j - (if j = i then w j else 0) := by rw [sm_sub, sm_one hi]
  rw [e]
  refine sm_par fun j hj => ?_
  by_cases q : j = i
  · subst q; rw [sg_self h hj, if_pos rfl]; simp
  · rw [if_neg q]
    rcases sg_odd h hi hj (fun z => q z.symm) with z | z
    · rw [z]; omega
    · rw [z]; omega
/-- no kernel that leaves a thing of its own out -/
theorem ker_zero (h : IsTb n t) {S : Nat → Prop} {j0 : Nat} (hj : j0 < n) (hS : S j0) : ∀ (m : Nat) (u : Nat → Int), (sm n fun i => ((u i).natAbs : Int)) ≤ m → (∀ i, i < n → ¬ S i → u i = 0) → (∀ i, i < n → S i → scr t n u i = 0) → u j0 = 0 → ∀ i, i < n → u i = 0 := by
  intro m
  induction m using Nat.strongRecOn with
  | ind m ih =>
    intro u hm h1 h2 h3 i hi
    -- all are even
    have hU : sm n u % 2 = 0 := by
      have := scr_par h u hj
      rw [h2 j0 hj hS, h3] at this
      omega
    have hev : ∀ i, i < n → u i % 2 = 0 := fun i hi => by
      by_cases q : S i
      · have := scr_par h u hi
        rw [h2 i hi q] at this
        omega
      · rw [h1 i hi q]; rfl
    by_cases hz : (sm n fun i => ((u i).natAbs : Int)) = 0
    · have := sm_zero_all (fun i _ => by omega) hz i hi
      omega
    · have hnn : 0 ≤ sm n fun i => ((u i).natAbs : Int) := sm_nonneg fun i _ => by omega
      have hhalf : (sm n fun i => ((u i).natAbs : Int)) = 2 * sm n fun i => ((u i / 2).natAbs : Int) := by
        rw [← sm_mul]
        refine sm_congr fun i hi => ?_
        have := hev i hi
        omega
      have hsc : ∀ i, i < n → scr t n u i = 2 * scr t n (fun i => u i / 2) i := fun i hi => by
        unfold scr
        rw [← sm_mul]
        refine sm_congr fun j hj => ?_
        have e : u j = 2 * (u j / 2) := by have := hev j hj; omega
        conv => lhs; rw [e]
        grind
      have hq : (sm n fun i => ((u i / 2).natAbs : Int)) = ((sm n fun i => ((u i / 2).natAbs : Int)).toNat : Int) := (Int.toNat_of_nonneg (sm_nonneg fun i _ => by omega)).symm
      have := ih (sm n fun i => ((u i / 2).natAbs : Int)).toNat (by omega) (fun i => u i / 2) (by omega) (fun i hi q => by show u i / 2 = 0; rw [h1 i hi q]; rfl) (fun i hi q => by have e := hsc i hi; rw [h2 i hi q] at e; omega) (by show u j0 / 2 = 0; rw [h3]; rfl) i hi
      have e := hev i hi
      have this : u i / 2 = 0 := this
      omega
theorem scr_sub (v w : Nat → Int) (a b : Int) (i : Nat) : scr t n (fun j => v j * a - b * w j) i = scr t n v i * a - b * scr t n w i := by
  unfold scr
  rw [← sm_mulr, ← sm_mul, ← sm_sub]
  exact sm_congr fun j _ => by grind
/-- two even weighings tell the same shares -/
theorem Even.uniq (h : IsTb n t) {v w : Nat → Int} (V : Even t n v) (W : Even t n w) {i j : Nat} (hi : i < n) (hj : j < n) : v i * w j = v j * w i := by
  have le : ∀ {w : Nat → Int}, Even t n w → ∀ i, i < n → scr t n w i ≤ 0 := fun {w} W i hi => by
    have := W.nn i hi
    by_cases e : w i = 0
    · have := W.off i hi e; omega
    · have := W.on i hi (by omega); omega
  have key : ∀ {v w : Nat → Int}, Even t n v → Even t n w → ∀ i, i < n → 0 < v i → 0 < w i := fun {v w} V W i hi hv => by
    have e := play_skew h v w
    have a1 : sm n (fun i => - (v i * scr t n w i)) = - sm n fun i => v i * scr t n w i := sm_neg _ _
    have a2 : sm n (fun i => - (w i * scr t n v i)) = - sm n fun i => w i * scr t n v i := sm_neg _ _
    have n1 : ∀ i, i < n → 0 ≤ - (v i * scr t n w i) := fun i hi => by
      have := Int.mul_nonneg (V.nn i hi) (show 0 ≤ - scr t n w i by have := le W i hi; omega)
      rw [Int.mul_neg] at this; exact this
    have n2 : ∀ i, i < n → 0 ≤ - (w i * scr t n v i) := fun i hi => by
      have := Int.mul_nonneg (W.nn i hi) (show 0 ≤ - scr t n v i by have := le V i hi; omega)
      rw [Int.mul_neg] at this; exact this
    have s1 := sm_nonneg n1
    have s2 := sm_nonneg n2
    have z := sm_zero_all n1 (by omega) i hi
    have z2 : v i * scr t n w i = 0 := by omega
    rcases Int.mul_eq_zero.mp z2 with q | q
    · omega
    · have := W.nn i hi
      by_cases q2 : w i = 0
      · have := W.off i hi q2; omega
      · omega
  obtain ⟨k, hk, hwk⟩ := W.some
  have hvk := key W V k hk hwk
  have z := ker_zero h (S := fun i => 0 < w i) hk hwk (sm n fun i => ((v i * w k - v k * w i).natAbs : Int)).toNat (fun i => v i * w k - v k * w i)
    (by rw [Int.toNat_of_nonneg (sm_nonneg fun i _ => by omega)]; exact Int.le_refl _)
    (fun i hi q => by
      have hw : w i = 0 := by have := W.nn i hi; omega
      have hv : v i = 0 := by
        have := V.nn i hi
        by_cases e : 0 < v i
        · exact absurd (key V W i hi e) q
        · omega
      simp only [hw, hv]; simp)
    (fun i hi q => by
      rw [scr_sub, W.on i hi q, V.on i hi (key W V i hi q)]; simp)
    (by show v k * w k - v k * w k = 0; omega)
  have z1 : v i * w k = v k * w i := by have := z i hi; omega
  have z2 : v j * w k = v k * w j := by have := z j hj; omega
  have : w k * (v i * w j) = w k * (v j * w i) := by grind
  exact Int.eq_of_mul_eq_mul_left (by omega) this
end
end Aw


/-! Mt6: there is an even weighing. -/
namespace Aw
abbrev Vc := Nat → Int
def dot (n : Nat) (a x : Vc) : Int := sm n fun i => a i * x i
inductive Cone (L : List Vc) : Vc → Prop
  | base {a : Vc} : a ∈ L → Cone L a
  | add {a b : Vc} : Cone L a → Cone L b → Cone L fun i => a i + b i
  | mul {a : Vc} (k : Int) : 0 < k → Cone L a → Cone L fun i => k * a i
theorem Cone.sub {L L' : List Vc} (h : ∀ a ∈ L', Cone L a) {a : Vc} (c : Cone L' a) : Cone L a := by
  induction c with
  | base m => exact h _ m
  | add _ _ i1 i2 => exact .add i1 i2
  | mul k hk _ i => exact .mul k hk i
theorem ratio_trans {p0 d0 p1 d1 p d : Int} (h1 : 0 < p1) (hp : 0 < p) (h0 : 0 < p0) (a : d0 * p1 ≤ d1 * p0) (b : d1 * p ≤ d * p1) : d0 * p ≤ d * p0 := by
  have e1 := Int.mul_le_mul_of_nonneg_right a (Int.le_of_lt hp)
  have e2 := Int.mul_le_mul_of_nonneg_right b (Int.le_of_lt h0)
  refine Int.le_of_mul_le_mul_left (a := p1) ?_ h1
  have q1 : p1 * (d0 * p) = d0 * p1 * p := by grind
  have q2 : p1 * (d * p0) = d * p1 * p0 := by grind
  have q3 : d1 * p0 * p = d1 * p * p0 := by grind
  omega
/-- the least ratio -/
theorem least_ratio : ∀ {P : List (Int × Int)}, P ≠ [] → (∀ q ∈ P, 0 < q.1) → ∃ q0 ∈ P, ∀ q ∈ P, q0.2 * q.1 ≤ q.2 * q0.1
  | [], h, _ => absurd rfl h
  | [q], _, _ => ⟨q, List.mem_cons_self, fun q' h => by simp at h; subst h; exact Int.le_refl _⟩
  | q :: q' :: P, _, hp => by
    obtain ⟨q0, m0, h0⟩ := least_ratio (P := q' :: P) (by simp) fun z hz => hp z (List.mem_cons_of_mem _ hz)
    have p0 := hp q0 (List.mem_cons_of_mem _ m0)
    have pq := hp q List.mem_cons_self
    by_cases c : q0.2 * q.1 ≤ q.2 * q0.1
    · refine ⟨q0, List.mem_cons_of_mem _ m0, fun z hz => ?_⟩
      rcases List.mem_cons.mp hz with rfl | hz
      · exact c
      · exact h0 z hz
    · refine ⟨q, List.mem_cons_self, fun z hz => ?_⟩
      rcases List.mem_cons.mp hz with rfl | hz
      · exact Int.le_refl _
      · exact ratio_trans p0 (hp z (List.mem_cons_of_mem _ hz)) pq (by omega) (h0 z hz)
theorem bound_of : ∀ L : List Int, ∃ B : Int, 0 < B ∧ ∀ e ∈ L, -B < e
  | [] => ⟨1, by omega, by simp⟩
  | e :: L => by
    obtain ⟨B, h1, h2⟩ := bound_of L
    refine ⟨B + (e.natAbs : Int), by omega, fun x hx => ?_⟩
    rcases List.mem_cons.mp hx with rfl | hx
    · omega
    · have := h2 x hx; omega
/-- a number between -/
theorem between {P N : List (Int × Int)} (hP : ∀ q ∈ P, 0 < q.1) (hN : ∀ q ∈ N, 0 < q.1) (h : ∀ p ∈ P, ∀ q ∈ N, 0 < q.1 * p.2 + p.1 * q.2) : ∃ K y : Int, 0 < K ∧ (∀ p ∈ P, 0 < K * p.2 + p.1 * y) ∧ ∀ q ∈ N, 0 < K * q.2 - q.1 * y := by
  by_cases hp : P = []
  · subst hp
    obtain ⟨B, h1, h2⟩ := bound_of (N.map (·.2))
    refine ⟨1, -B, by omega, by simp, fun q hq => ?_⟩
    have a := h2 q.2 (List.mem_map_of_mem hq)
    have b := hN q hq
    have : B ≤ q.1 * B := by
      have := Int.mul_le_mul_of_nonneg_right (show (1 : Int) ≤ q.1 by omega) (Int.le_of_lt h1)
      omega
    have e : 1 * q.2 - q.1 * -B = q.2 + q.1 * B := by grind
    omega
  by_cases hn : N = []
  · subst hn
    obtain ⟨B, h1, h2⟩ := bound_of (P.map (·.2))
    refine ⟨1, B, by omega, fun q hq => ?_, by simp⟩
    have a := h2 q.2 (List.mem_map_of_mem hq)
    have b := hP q hq
    have : B ≤ q.1 * B := by
      have := Int.mul_le_mul_of_nonneg_right (show (1 : Int) ≤ q.1 by omega) (Int.le_of_lt h1)
      omega
    omega
  obtain ⟨p0, mp, lp⟩ := least_ratio hp hP
  obtain ⟨q0, mq, lq⟩ := least_ratio hn hN
  have a1 := hP p0 mp
  have a2 := hN q0 mq
  have hz := h p0 mp q0 mq
  refine ⟨2 * (p0.1 * q0.1), q0.2 * p0.1 - p0.2 * q0.1, ?_, fun p hpm => ?_, fun q hqm => ?_⟩
  · have := Int.mul_pos a1 a2; omega
  · have b := hP p hpm
    have l := Int.mul_le_mul_of_nonneg_right (lp p hpm) (Int.le_of_lt a2)
    have c := Int.mul_pos b hz
    have e1 : 2 * (p0.1 * q0.1) * p.2 + p.1 * (q0.2 * p0.1 - p0.2 * q0.1) = 2 * (p.2 * p0.1 * q0.1) - 2 * (p0.2 * p.1 * q0.1) + p.1 * (q0.1 * p0.2 + p0.1 * q0.2) := by grind
    omega
  · have b := hN q hqm
    have l := Int.mul_le_mul_of_nonneg_right (lq q hqm) (Int.le_of_lt a1)
    have c := Int.mul_pos b hz
    have e1 : 2 * (p0.1 * q0.1) * q.2 - q.1 * (q0.2 * p0.1 - p0.2 * q0.1) = 2 * (q.2 * q0.1 * p0.1) - 2 * (q0.2 * q.1 * p0.1) + q.1 * (q0.1 * p0.2 + p0.1 * q0.2) := by grind
    omega
theorem dot_lin (n : Nat) (a b x : Vc) (k m : Int) : dot n (fun i => k * a i + m * b i) x = k * dot n a x + m * dot n b x := by
  unfold dot
  rw [← sm_mul, ← sm_mul, ← sm_add]
  exact sm_congr fun i _ => by grind
theorem gordan : ∀ (n : Nat) (L : List Vc), (∃ x : Vc, ∀ a ∈ L, 0 < dot n a x) ∨ ∃ a, Cone L a ∧ ∀ i, i < n → a i = 0
  | 0, [] => .inl ⟨fun _ => 0, by simp⟩
  | 0, a :: L => .inr ⟨a, .base List.mem_cons_self, fun i h => by omega⟩
  | n + 1, L => by
    let P := L.filter fun a => decide (0 < a n)
    let N := L.filter fun a => decide (a n < 0)
    let Z := L.filter fun a => decide (a n = 0)
    let L' := Z ++ P.flatMap fun p => N.map fun q => fun i => (- q n) * p i + p n * q i
    have mP : ∀ a, a ∈ P ↔ a ∈ L ∧ 0 < a n := fun a => by simp [P]
    have mN : ∀ a, a ∈ N ↔ a ∈ L ∧ a n < 0 := fun a => by simp [N]
    have mZ : ∀ a, a ∈ Z ↔ a ∈ L ∧ a n = 0 := fun a => by simp [Z]
    have mL : ∀ a, a ∈ L' ↔ a ∈ Z ∨ ∃ p ∈ P, ∃ q ∈ N, (fun i => (- q n) * p i + p n * q i) = a := fun a => by
      simp only [L', List.mem_append, List.mem_flatMap, List.mem_map]
    have hc : ∀ a ∈ L', Cone L a ∧ a n = 0 := fun a ha => by
      rcases (mL a).mp ha with h | ⟨p, hp, q, hq, rfl⟩
      · exact ⟨.base ((mZ a).mp h).1, ((mZ a).mp h).2⟩
      · obtain ⟨p1, p2⟩ := (mP p).mp hp
        obtain ⟨q1, q2⟩ := (mN q).mp hq
        refine ⟨.add (.mul (- q n) (by omega) (.base p1)) (.mul (p n) p2 (.base q1)), ?_⟩
        show - q n * p n + p n * q n = 0
        grind
    have hlast : ∀ a, Cone L' a → a n = 0 := fun a c => by
      induction c with
      | base m => exact (hc _ m).2
      | add _ _ i1 i2 => simp only [i1, i2]; rfl
      | mul k _ _ i => simp only [i]; simp
    rcases gordan n L' with ⟨x, hx⟩ | ⟨a, ca, ha⟩
    · left
      obtain ⟨K, y, hK, h1, h2⟩ := between (P := P.map fun p => (p n, dot n p x)) (N := N.map fun q => (- q n, dot n q x)) (fun z hz => by
        obtain ⟨p, hp, rfl⟩ := List.mem_map.mp hz
        exact ((mP p).mp hp).2) (fun z hz => by
        obtain ⟨q, hq, rfl⟩ := List.mem_map.mp hz
        have := ((mN q).mp hq).2
        show 0 < - q n
        omega) (fun z hz z' hz' => by
        obtain ⟨p, hp, rfl⟩ := List.mem_map.mp hz
        obtain ⟨q, hq, rfl⟩ := List.mem_map.mp hz'
        have := hx _ ((mL _).mpr (.inr ⟨p, hp, q, hq, rfl⟩))
        rw [dot_lin] at this
        exact this)
      refine ⟨fun i => if i = n then y else K * x i, fun a ha => ?_⟩
      have e : dot (n + 1) a (fun i => if i = n then y else K * x i) = K * dot n a x + a n * y := by
        unfold dot
        rw [sm_succ]
        show (sm n fun i => a i * (if i = n then y else K * x i)) + a n * (if n = n then y else K * x n) = _
        rw [if_pos rfl, ← sm_mul]
        congr 1
        exact sm_congr fun i hi => by rw [if_neg (by omega)]; grind
      rw [e]
      rcases Int.lt_trichotomy (a n) 0 with q | q | q
      · have := h2 _ (List.mem_map_of_mem ((mN a).mpr ⟨ha, q⟩))
        simp only at this
        have e2 : K * dot n a x - -a n * y = K * dot n a x + a n * y := by grind
        omega
      · have := hx a ((mL a).mpr (.inl ((mZ a).mpr ⟨ha, q⟩)))
        have := Int.mul_pos hK this
        rw [q]; omega
      · exact h1 _ (List.mem_map_of_mem ((mP a).mpr ⟨ha, q⟩))
    · right
      refine ⟨a, ca.sub fun b hb => (hc b hb).1, fun i hi => ?_⟩
      by_cases e : i = n
      · subst e; exact hlast a ca
      · exact ha i (by omega)
/-- weights under which nothing scores above nought -/
theorem some_weights {t : Tb} {n : Nat} (h : IsTb n t) (hn : 0 < n) : ∃ w : Nat → Int, (∀ i, i < n → 0 ≤ w i) ∧ (∃ i, i < n ∧ 0 < w i) ∧ ∀ i, i < n → scr t n w i ≤ 0 := by
  let C : List Vc := (List.range n).map fun j => fun i => sg t i j
  let E : List Vc := (List.range n).map fun j => fun i => if i = j then 1 else 0
  rcases gordan n (C ++ E) with ⟨x, hx⟩ | ⟨a, ca, ha⟩
  · exfalso
    have h1 : ∀ j, j < n → 0 < x j := fun j hj => by
      have := hx (fun i => if i = j then 1 else 0) (List.mem_append_right _ (List.mem_map.mpr ⟨j, List.mem_range.mpr hj, rfl⟩))
      unfold dot at this
      rw [sm_congr (g := fun i => if i = j then x i else 0) (fun i _ => by by_cases e : i = j <;> simp [e]), sm_one hj] at this
      exact this
    have h2 : ∀ j, j < n → 0 < - scr t n x j := fun j hj => by
      have := hx (fun i => sg t i j) (List.mem_append_left _ (List.mem_map.mpr ⟨j, List.mem_range.mpr hj, rfl⟩))
      unfold dot at this
      unfold scr
      rw [← sm_neg, ← sm_congr (f := fun i => sg t i j * x i) fun i hi => by rw [sg_skew h hi hj]; grind]
      exact this
    have e := play_skew h x x
    have : 0 < sm n fun i => x i * - scr t n x i := sm_pos (fun i hi => by
      have := Int.mul_pos (h1 i hi) (h2 i hi); omega) hn (Int.mul_pos (h1 0 hn) (h2 0 hn))
    have q : (sm n fun i => x i * - scr t n x i) = - sm n fun i => x i * scr t n x i := by
      rw [← sm_neg]; exact sm_congr fun i _ => Int.mul_neg _ _
    omega
  · have key : ∀ a, Cone (C ++ E) a → ∃ w z : Nat → Int, (∀ i, i < n → 0 ≤ w i) ∧ (∀ i, i < n → 0 ≤ z i) ∧ 0 < sm n w + sm n z ∧ ∀ i, i < n → a i = scr t n w i + z i := by
      intro a c
      induction c with
      | base m =>
        rcases List.mem_append.mp m with m | m
        · obtain ⟨j, hj, rfl⟩ := List.mem_map.mp m
          have hj := List.mem_range.mp hj
          refine ⟨fun i => if i = j then 1 else 0, fun _ => 0, fun i _ => by show (0 : Int) ≤ if i = j then 1 else 0; split <;> omega, fun _ _ => Int.le_refl _, ?_, fun i _ => ?_⟩
          · rw [sm_one hj, sm_const0]; omega
          · unfold scr
            rw [sm_congr (g := fun k => if k = j then sg t i k else 0) (fun k _ => by by_cases e : k = j <;> simp [e]), sm_one hj]; show sg t i j = sg t i j + 0; omega
        · obtain ⟨j, hj, rfl⟩ := List.mem_map.mp m
          have hj := List.mem_range.mp hj
          refine ⟨fun _ => 0, fun i => if i = j then 1 else 0, fun _ _ => Int.le_refl _, fun i _ => by show (0 : Int) ≤ if i = j then 1 else 0; split <;> omega, ?_, fun i _ => ?_⟩
          · rw [sm_one hj, sm_const0]; omega
          · unfold scr
            rw [sm_congr (g := fun _ => 0) (fun k _ => Int.mul_zero _), sm_const0]; exact (Int.zero_add _).symm
      | add _ _ i1 i2 =>
        obtain ⟨w1, z1, a1, b1, c1, d1⟩ := i1
        obtain ⟨w2, z2, a2, b2, c2, d2⟩ := i2
        refine ⟨fun i => w1 i + w2 i, fun i => z1 i + z2 i, fun i hi => ?_, fun i hi => ?_, ?_, fun i hi => ?_⟩
        · have := a1 i hi; have := a2 i hi; show 0 ≤ w1 i + w2 i; omega
        · have := b1 i hi; have := b2 i hi; show 0 ≤ z1 i + z2 i; omega
        · rw [sm_add, sm_add]; omega
        · simp only []
          rw [d1 i hi, d2 i hi]
          unfold scr
          rw [sm_congr (f := fun j => sg t i j * (w1 j + w2 j)) (g := fun j => sg t i j * w1 j + sg t i j * w2 j) (fun j _ => Int.mul_add _ _ _), sm_add]
          omega
      | mul k hk _ i1 =>
        obtain ⟨w1, z1, a1, b1, c1, d1⟩ := i1
        refine ⟨fun i => k * w1 i, fun i => k * z1 i, fun i hi => Int.mul_nonneg (Int.le_of_lt hk) (a1 i hi), fun i hi => Int.mul_nonneg (Int.le_of_lt hk) (b1 i hi), ?_, fun i hi => ?_⟩
        · rw [sm_mul, sm_mul, ← Int.mul_add]; exact Int.mul_pos hk c1
        · simp only []
          rw [d1 i hi]
          unfold scr
          rw [sm_congr (f := fun j => sg t i j * (k * w1 j)) (g := fun j => k * (sg t i j * w1 j)) (fun j _ => by grind), sm_mul]
          grind
    obtain ⟨w, z, h1, h2, h3, h4⟩ := key a ca
    refine ⟨w, h1, ?_, fun i hi => ?_⟩
    · refine Classical.byContradiction fun hc => ?_
      have w0 : ∀ i, i < n → w i = 0 := fun i hi => Classical.byContradiction fun q => hc ⟨i, hi, by have := h1 i hi; omega⟩
      have z0 : ∀ i, i < n → z i = 0 := fun i hi => by
        have e := h4 i hi
        rw [ha i hi] at e
        have : scr t n w i = 0 := by
          unfold scr
          rw [sm_congr (g := fun _ => 0) (fun j hj => by rw [w0 j hj]; exact Int.mul_zero _), sm_const0]
        omega
      rw [sm_congr w0, sm_congr z0, sm_const0] at h3
      omega
    · have e := h4 i hi
      rw [ha i hi] at e
      have := h2 i hi
      omega
/-- .. and even ones -/
theorem exists_even {t : Tb} {n : Nat} (h : IsTb n t) (hn : 0 < n) : ∃ w, Even t n w ∧ ∃ i, i < n ∧ w i % 2 = 1 := by
  obtain ⟨w0, a0, b0, c0⟩ := some_weights h hn
  -- halved until one is odd
  have key : ∀ (m : Nat) (w : Nat → Int), sm n w ≤ m → (∀ i, i < n → 0 ≤ w i) → (∃ i, i < n ∧ 0 < w i) → (∀ i, i < n → scr t n w i ≤ 0) → ∃ w : Nat → Int, (∀ i, i < n → 0 ≤ w i) ∧ (∀ i, i < n → scr t n w i ≤ 0) ∧ ∃ i, i < n ∧ w i % 2 = 1 := by
    intro m
    induction m using Nat.strongRecOn with
    | ind m ih =>
      intro w hm a b c
      by_cases ho : ∃ i, i < n ∧ w i % 2 = 1
      · exact ⟨w, a, c, ho⟩
      · have hev : ∀ i, i < n → w i = 2 * (w i / 2) := fun i hi => by
          have : ¬ w i % 2 = 1 := fun q => ho ⟨i, hi, q⟩
          omega
        obtain ⟨k, hk, hp⟩ := b
        have hs : sm n w = 2 * sm n fun i => w i / 2 := by rw [← sm_mul]; exact sm_congr hev
        have hpos : 0 < sm n fun i => w i / 2 := sm_pos (fun i hi => by have := a i hi; omega) hk (by have := hev k hk; omega)
        have hsc : ∀ i, i < n → scr t n w i = 2 * scr t n (fun i => w i / 2) i := fun i hi => by
          unfold scr
          rw [← sm_mul]
          refine sm_congr fun j hj => ?_
          conv => lhs; rw [hev j hj]
          grind
        exact ih (sm n fun i => w i / 2).toNat (by omega) (fun i => w i / 2) (by omega) (fun i hi => by have := a i hi; show 0 ≤ w i / 2; omega) ⟨k, hk, by have := hev k hk; show 0 < w k / 2; omega⟩ (fun i hi => by have := hsc i hi; have := c i hi; omega)
  obtain ⟨w, a, c, k, hk, ho⟩ := key (sm n w0).toNat w0 (by have := sm_nonneg a0; omega) a0 b0 c0
  have hkp : 0 < w k := by have := a k hk; omega
  have n1 : ∀ i, i < n → 0 ≤ - (w i * scr t n w i) := fun i hi => by
    have := Int.mul_nonneg (a i hi) (show 0 ≤ - scr t n w i by have := c i hi; omega)
    rw [Int.mul_neg] at this; exact this
  have e := play_skew h w w
  have a1 : sm n (fun i => - (w i * scr t n w i)) = - sm n fun i => w i * scr t n w i := sm_neg _ _
  have z := sm_zero_all n1 (by omega)
  have on : ∀ i, i < n → 0 < w i → scr t n w i = 0 := fun i hi hp => by
    have := z i hi
    have : w i * scr t n w i = 0 := by omega
    rcases Int.mul_eq_zero.mp this with q | q
    · omega
    · exact q
  refine ⟨w, ⟨a, ⟨k, hk, hkp⟩, on, fun i hi h0 => ?_⟩, k, hk, ho⟩
  have p1 := scr_par h w hk
  rw [on k hk hkp] at p1
  have p2 := scr_par h w hi
  have := c i hi
  omega
end Aw


/-! Mt7: shares in tables made of tables. -/
namespace Aw
theorem sum_perm {xs ys : List Int} (h : xs.Perm ys) : xs.sum = ys.sum := by
  induction h with
  | nil => rfl
  | cons x _ ih => rw [List.sum_cons, List.sum_cons, ih]
  | swap x y l => simp only [List.sum_cons]; omega
  | trans _ _ h1 h2 => exact h1.trans h2
theorem sum_list {f : Nat → Int} (hs : List Nat) : (hs.map f).sum = sm hs.length fun j => f (hs.getD j 0) := by
  unfold sm
  congr 1
  apply List.ext_getElem?
  intro i
  rw [List.getElem?_map, List.getElem?_map]
  by_cases hi : i < hs.length
  · rw [List.getElem?_range hi, getD_some hi]; rfl
  · rw [List.getElem?_eq_none (by omega), List.getElem?_eq_none (by rw [List.length_range]; omega)]; rfl
section
variable {t : Tb} {n : Nat} {ps : List (List Nat)}
theorem sum_flat (f : Nat → Int) : ∀ ps : List (List Nat), (ps.flatten.map f).sum = (ps.map fun p => (p.map f).sum).sum
  | [] => rfl
  | p :: ps => by rw [List.flatten_cons, List.map_append, List.sum_append, sum_flat f ps, List.map_cons, List.sum_cons]
/-- a sum over all things, piece by piece -/
theorem PartsOf.sm_parts (P : PartsOf t n ps) (f : Nat → Int) : sm n f = sm ps.length fun l => sm (ps.getD l []).length fun j => f ((ps.getD l []).getD j 0) := by
  have hp : (List.range n).Perm ps.flatten := (List.perm_ext_iff_of_nodup List.nodup_range P.nd).mpr fun x => by
    rw [List.mem_range]; exact ⟨P.all x, fun h => flat_lt P.lt x h⟩
  have e1 : sm n f = (ps.flatten.map f).sum := sum_perm (hp.map f)
  rw [e1, sum_flat]
  have : ps.map (fun p => (p.map f).sum) = (List.range ps.length).map fun l => sm (ps.getD l []).length fun j => f ((ps.getD l []).getD j 0) := by
    apply List.ext_getElem?
    intro i
    rw [List.getElem?_map, List.getElem?_map]
    by_cases hi : i < ps.length
    · rw [List.getElem?_range hi, getDl hi]
      simp only [Option.map_some, sum_list]
    · rw [List.getElem?_eq_none (by omega), List.getElem?_eq_none (by rw [List.length_range]; omega)]; rfl
  rw [this]; rfl
theorem sg_sub {hs : List Nat} {i j : Nat} (hi : i < hs.length) (hj : j < hs.length) : sg (sub t hs) i j = sg t (hs.getD i 0) (hs.getD j 0) := by
  unfold sg; rw [ent_sub hi hj, ent_sub hj hi]
/-- a thing's score: its piece's, and its own in it -/
theorem PartsOf.scr_split (P : PartsOf t n ps) (h : IsTb n t) (w : Nat → Int) {k i : Nat} (hk : k < ps.length) (hi : i < (ps.getD k []).length) :
    scr t n w ((ps.getD k []).getD i 0) = scr (sub t (heads ps)) ps.length (fun l => sm (ps.getD l []).length fun j => w ((ps.getD l []).getD j 0)) k + scr (sub t (ps.getD k [])) (ps.getD k []).length (fun j => w ((ps.getD k []).getD j 0)) i := by
  have hx := getD_mem hi
  have hF := P.fold_tb h
  have e1 : scr t n w ((ps.getD k []).getD i 0) = sm ps.length fun l => (sg (sub t (heads ps)) k l * sm (ps.getD l []).length fun j => w ((ps.getD l []).getD j 0)) + if l = k then scr (sub t (ps.getD l [])) (ps.getD l []).length (fun j => w ((ps.getD l []).getD j 0)) i else 0 := by
    unfold scr
    rw [P.sm_parts]
    refine sm_congr fun l hl => ?_
    by_cases e : l = k
    · subst e
      rw [if_pos rfl, sg_self hF hl, Int.zero_mul, Int.zero_add]
      exact sm_congr fun j hj => by rw [sg_sub hi hj]
    · rw [if_neg e, Int.add_zero, ← sm_mul]
      refine sm_congr fun j hj => ?_
      have hy := getD_mem hj
      have e2 : sg t ((ps.getD k []).getD i 0) ((ps.getD l []).getD j 0) = sg (sub t (heads ps)) k l := by
        have ex := P.pix_eq hk hx
        have ey := P.pix_eq hl hy
        unfold sg
        rw [P.ent_fold h (P.lt _ (getDl_mem hk) _ hx) (P.lt _ (getDl_mem hl) _ hy) (by rw [ex, ey]; exact fun q => e q.symm), P.ent_fold h (P.lt _ (getDl_mem hl) _ hy) (P.lt _ (getDl_mem hk) _ hx) (by rw [ex, ey]; exact e), ex, ey]
      rw [e2]
  rw [e1, sm_add, sm_one (f := fun l => scr (sub t (ps.getD l [])) (ps.getD l []).length (fun j => w ((ps.getD l []).getD j 0)) i) hk]
  rfl
/-- the sums over the pieces are even -/
theorem PartsOf.even (P : PartsOf t n ps) (h : IsTb n t) {w : Nat → Int} (W : Even t n w) :
    Even (sub t (heads ps)) ps.length (fun l => sm (ps.getD l []).length fun j => w ((ps.getD l []).getD j 0)) ∧
    ∀ k, k < ps.length → 0 < (sm (ps.getD k []).length fun j => w ((ps.getD k []).getD j 0)) → Even (sub t (ps.getD k [])) (ps.getD k []).length (fun j => w ((ps.getD k []).getD j 0)) := by
  have lt : ∀ {k i : Nat}, k < ps.length → i < (ps.getD k []).length → (ps.getD k []).getD i 0 < n := fun hk hi => P.lt _ (getDl_mem hk) _ (getD_mem hi)
  have nn : ∀ k, k < ps.length → ∀ i, i < (ps.getD k []).length → 0 ≤ w ((ps.getD k []).getD i 0) := fun k hk i hi => W.nn _ (lt hk hi)
  have hS : ∀ k, k < ps.length → IsTb (ps.getD k []).length (sub t (ps.getD k [])) := fun k hk => sub_tb h (P.sub_nd (getDl_mem hk)) (P.lt _ (getDl_mem hk))
  -- the piece's score is nought where the piece has weight
  have zero : ∀ k, k < ps.length → 0 < (sm (ps.getD k []).length fun j => w ((ps.getD k []).getD j 0)) → scr (sub t (heads ps)) ps.length (fun l => sm (ps.getD l []).length fun j => w ((ps.getD l []).getD j 0)) k = 0 := fun k hk hp => by
    have e := play_skew (hS k hk) (fun j => w ((ps.getD k []).getD j 0)) (fun j => w ((ps.getD k []).getD j 0))
    have e0 : (sm (ps.getD k []).length fun i => w ((ps.getD k []).getD i 0) * scr t n w ((ps.getD k []).getD i 0)) = 0 := by
      rw [sm_congr (g := fun _ => 0) fun i hi => ?_, sm_const0]
      have := nn k hk i hi
      by_cases q : w ((ps.getD k []).getD i 0) = 0
      · rw [q, Int.zero_mul]
      · rw [W.on _ (lt hk hi) (by omega), Int.mul_zero]
    rw [sm_congr (g := fun i => w ((ps.getD k []).getD i 0) * scr (sub t (heads ps)) ps.length (fun l => sm (ps.getD l []).length fun j => w ((ps.getD l []).getD j 0)) k + w ((ps.getD k []).getD i 0) * scr (sub t (ps.getD k [])) (ps.getD k []).length (fun j => w ((ps.getD k []).getD j 0)) i) fun i hi => by rw [P.scr_split h w hk hi, Int.mul_add], sm_add, sm_mulr] at e0
    have : (sm (ps.getD k []).length fun j => w ((ps.getD k []).getD j 0)) * scr (sub t (heads ps)) ps.length (fun l => sm (ps.getD l []).length fun j => w ((ps.getD l []).getD j 0)) k = 0 := by omega
    rcases Int.mul_eq_zero.mp this with q | q
    · omega
    · exact q
  refine ⟨⟨fun k hk => sm_nonneg (nn k hk), ?_, fun k hk hp => zero k hk hp, fun k hk h0 => ?_⟩, fun k hk hp => ⟨nn k hk, ?_, fun i hi hp2 => ?_, fun i hi h0 => ?_⟩⟩
  · obtain ⟨x, hx, hp⟩ := W.some
    obtain ⟨k1, k2⟩ := P.pix hx
    obtain ⟨i, hi, e⟩ := mem_getD k2
    exact ⟨Aw.pix ps x, k1, sm_pos (nn _ k1) hi (by rw [e]; exact hp)⟩
  · have hne : 0 < (ps.getD k []).length := List.length_pos_iff.mpr (P.ne _ (getDl_mem hk))
    have hz := sm_zero_all (nn k hk) h0
    have e := P.scr_split h w hk hne
    have := W.off _ (lt hk hne) (hz 0 hne)
    have e2 : scr (sub t (ps.getD k [])) (ps.getD k []).length (fun j => w ((ps.getD k []).getD j 0)) 0 = 0 := by
      unfold scr
      rw [sm_congr (g := fun _ => 0) fun j hj => by (show _ * w ((ps.getD k []).getD j 0) = 0; rw [hz j hj, Int.mul_zero]), sm_const0]
    omega
  · refine Classical.byContradiction fun hc => ?_
    have : (sm (ps.getD k []).length fun j => w ((ps.getD k []).getD j 0)) = 0 := by
      rw [sm_congr (g := fun _ => 0) fun i hi => ?_, sm_const0]
      have := nn k hk i hi
      exact Classical.byContradiction fun q => hc ⟨i, hi, by omega⟩
    omega
  · have e := P.scr_split h w hk hi
    rw [W.on _ (lt hk hi) hp2, zero k hk hp] at e
    omega
  · have e := P.scr_split h w hk hi
    have := W.off _ (lt hk hi) h0
    rw [zero k hk hp] at e
    omega
/-- a thing's share is its piece's, times its own in it -/
theorem PartsOf.shares (P : PartsOf t n ps) (h : IsTb n t) {w o u : Nat → Int} {k i : Nat} (hk : k < ps.length) (hi : i < (ps.getD k []).length) (W : Even t n w) (O : Even (sub t (heads ps)) ps.length o) (U : Even (sub t (ps.getD k [])) (ps.getD k []).length u) :
    w ((ps.getD k []).getD i 0) * sm ps.length o * sm (ps.getD k []).length u = o k * u i * sm n w := by
  obtain ⟨E, S⟩ := P.even h W
  have hF := P.fold_tb h
  have hS := sub_tb h (P.sub_nd (getDl_mem hk)) (P.lt _ (getDl_mem hk))
  have nn : ∀ i, i < (ps.getD k []).length → 0 ≤ w ((ps.getD k []).getD i 0) := fun i hi => W.nn _ (P.lt _ (getDl_mem hk) _ (getD_mem hi))
  -- the pieces' sums and the folded table's weights
  have e1 : (sm (ps.getD k []).length fun j => w ((ps.getD k []).getD j 0)) * sm ps.length o = o k * sm n w := by
    rw [P.sm_parts w, ← sm_mul, ← sm_mul]
    refine sm_congr fun l hl => ?_
    have := Even.uniq hF E O hk hl
    rw [this, Int.mul_comm]
  by_cases hp : 0 < (sm (ps.getD k []).length fun j => w ((ps.getD k []).getD j 0))
  · have e2 : w ((ps.getD k []).getD i 0) * sm (ps.getD k []).length u = (sm (ps.getD k []).length fun j => w ((ps.getD k []).getD j 0)) * u i := by
      rw [← sm_mul, ← sm_mulr]
      refine sm_congr fun j hj => ?_
      exact Even.uniq hS (S k hk hp) U hi hj
    grind
  · have h0 : (sm (ps.getD k []).length fun j => w ((ps.getD k []).getD j 0)) = 0 := by have := sm_nonneg nn; omega
    have hw := sm_zero_all nn h0 i hi
    rw [h0, Int.zero_mul] at e1
    rw [hw]
    grind
end
end Aw


/-! Mt8: sums over pairings; numbers under which all scores are nought. -/
namespace Aw
/-- the sum of the worths of all pairings -/
def pfF (a : Nat → Nat → Int) : Nat → List Nat → Int
  | 0, _ => 0
  | _ + 1, [] => 1
  | d + 1, x :: xs => sm xs.length fun k => (if k % 2 = 0 then 1 else -1) * a x (xs.getD k 0) * pfF a d (xs.eraseIdx k)
def others (m k : Nat) : List Nat := (List.range m).filter fun x => decide (x ≠ k)
def krn (a : Nat → Nat → Int) (m k : Nat) : Int := (if k % 2 = 0 then 1 else -1) * pfF a 4 (others m k)
theorem pf_odd {a : Nat → Nat → Int} : ∀ (d : Nat) (L : List Nat), L.Nodup → (∀ x ∈ L, ∀ y ∈ L, x ≠ y → a x y = 1 ∨ a x y = -1) → L.length % 2 = 0 → L.length ≤ 2 * d → pfF a (d + 1) L % 2 = 1
  | 0, [], _, _, _, _ => rfl
  | 0, _ :: _, _, _, _, h => by simp at h
  | d + 1, [], _, _, _, _ => rfl
  | d + 1, x :: xs, nd, ha, hl, hd => by
    rw [List.length_cons] at hl hd
    have nd' := List.nodup_cons.mp nd
    have key := sm_par (n := xs.length) (f := fun k => (if k % 2 = 0 then 1 else -1) * a x (xs.getD k 0) * pfF a (d + 1) (xs.eraseIdx k)) (g := fun _ => 1) fun k hk => by
      have hm := getD_mem hk
      have h1 := ha x List.mem_cons_self _ (List.mem_cons_of_mem _ hm) fun e => nd'.1 (e ▸ hm)
      have h2 := pf_odd d (xs.eraseIdx k) (nd'.2.sublist (List.eraseIdx_sublist _ _)) (fun u hu v hv => ha u (List.mem_cons_of_mem _ (List.mem_of_mem_eraseIdx hu)) v (List.mem_cons_of_mem _ (List.mem_of_mem_eraseIdx hv))) (by rw [List.length_eraseIdx_of_lt hk]; omega) (by rw [List.length_eraseIdx_of_lt hk]; omega)
      have h3 : (if k % 2 = 0 then (1 : Int) else -1) = 1 ∨ (if k % 2 = 0 then (1 : Int) else -1) = -1 := by split <;> simp
      rcases h1 with h1 | h1 <;> rcases h3 with h3 | h3 <;> (rw [h1, h3]; omega)
    have e1 : sm xs.length (fun _ => 1) = (xs.length : Int) := by
      unfold sm; rw [List.map_const', List.length_range]
      induction xs.length with
      | zero => rfl
      | succ m ih => rw [List.replicate_succ, List.sum_cons, ih]; omega
    show sm xs.length _ % 2 = 1
    rw [e1] at key
    omega
theorem sm_bound {n : Nat} {f : Nat → Int} {B : Int} (h : ∀ i, i < n → -B ≤ f i ∧ f i ≤ B) : -(n * B) ≤ sm n f ∧ sm n f ≤ n * B := by
  induction n with
  | zero => simp [sm_zero]
  | succ n ih =>
    have h1 := ih fun i hi => h i (by omega)
    have h2 := h n (by omega)
    rw [sm_succ]
    have : ((n + 1 : Nat) : Int) * B = n * B + B := by grind
    omega
theorem pf_bound {a : Nat → Nat → Int} : ∀ (d : Nat) (L : List Nat), (∀ x ∈ L, ∀ y ∈ L, a x y = 1 ∨ a x y = -1 ∨ a x y = 0) → L.length ≤ 8 → -(8 ^ d : Int) ≤ pfF a d L ∧ pfF a d L ≤ 8 ^ d
  | 0, L, _, _ => by simp [pfF]
  | d + 1, [], _, _ => by
    have : (0 : Int) < 8 ^ (d + 1) := Int.pow_pos (by decide)
    show -(8 ^ (d + 1) : Int) ≤ 1 ∧ (1 : Int) ≤ 8 ^ (d + 1)
    omega
  | d + 1, x :: xs, ha, hl => by
    rw [List.length_cons] at hl
    have hb := sm_bound (n := xs.length) (f := fun k => (if k % 2 = 0 then 1 else -1) * a x (xs.getD k 0) * pfF a d (xs.eraseIdx k)) (B := 8 ^ d) fun k hk => by
      have hm := getD_mem hk
      have h1 := ha x List.mem_cons_self _ (List.mem_cons_of_mem _ hm)
      have h2 := pf_bound d (xs.eraseIdx k) (fun u hu v hv => ha u (List.mem_cons_of_mem _ (List.mem_of_mem_eraseIdx hu)) v (List.mem_cons_of_mem _ (List.mem_of_mem_eraseIdx hv))) (by rw [List.length_eraseIdx_of_lt hk]; omega)
      have h3 : (if k % 2 = 0 then (1 : Int) else -1) = 1 ∨ (if k % 2 = 0 then (1 : Int) else -1) = -1 := by split <;> simp
      rcases h1 with h1 | h1 | h1 <;> rcases h3 with h3 | h3 <;> (simp only [h1, h3]; omega)
    have hp : (0 : Int) < 8 ^ d := Int.pow_pos (by decide)
    have e : (8 ^ (d + 1) : Int) = 8 * 8 ^ d := by rw [Int.pow_succ, Int.mul_comm]
    have : (xs.length : Int) * 8 ^ d ≤ 8 * 8 ^ d := Int.mul_le_mul_of_nonneg_right (by omega) (Int.le_of_lt hp)
    show -(8 ^ (d + 1) : Int) ≤ sm xs.length _ ∧ sm xs.length _ ≤ 8 ^ (d + 1)
    omega
theorem krn1 (a : Nat → Nat → Int) (sk : ∀ i j, i < 1 → j < 1 → a i j = - a j i) : ∀ i, i < 1 → sm 1 (fun j => a i j * krn a 1 j) = 0
  | 0, _ => by
    have := sk 0 0 (by omega) (by omega)
    have h : a 0 0 = 0 := by omega
    simp [sm, List.range, List.range.loop, h]
theorem krn3 (a : Nat → Nat → Int) (sk : ∀ i j, i < 3 → j < 3 → a i j = - a j i) : ∀ i, i < 3 → sm 3 (fun j => a i j * krn a 3 j) = 0 := by
  have h00 : a 0 0 = 0 := by have := sk 0 0 (by omega) (by omega); omega
  have h11 : a 1 1 = 0 := by have := sk 1 1 (by omega) (by omega); omega
  have h22 : a 2 2 = 0 := by have := sk 2 2 (by omega) (by omega); omega
  have h10 := sk 1 0 (by omega) (by omega)
  have h20 := sk 2 0 (by omega) (by omega)
  have h21 := sk 2 1 (by omega) (by omega)
  intro i hi
  have : i = 0 ∨ i = 1 ∨ i = 2 := by omega
  rcases this with rfl | rfl | rfl <;> simp [sm, krn, others, pfF, List.range, List.range.loop, List.eraseIdx, h00, h11, h22] <;> grind
theorem krn5 (a : Nat → Nat → Int) (sk : ∀ i j, i < 5 → j < 5 → a i j = - a j i) : ∀ i, i < 5 → sm 5 (fun j => a i j * krn a 5 j) = 0 := by
  have h00 : a 0 0 = 0 := by have := sk 0 0 (by omega) (by omega); omega
  have h11 : a 1 1 = 0 := by have := sk 1 1 (by omega) (by omega); omega
  have h22 : a 2 2 = 0 := by have := sk 2 2 (by omega) (by omega); omega
  have h33 : a 3 3 = 0 := by have := sk 3 3 (by omega) (by omega); omega
  have h44 : a 4 4 = 0 := by have := sk 4 4 (by omega) (by omega); omega
  have h10 := sk 1 0 (by omega) (by omega)
  have h20 := sk 2 0 (by omega) (by omega)
  have h21 := sk 2 1 (by omega) (by omega)
  have h30 := sk 3 0 (by omega) (by omega)
  have h31 := sk 3 1 (by omega) (by omega)
  have h32 := sk 3 2 (by omega) (by omega)
  have h40 := sk 4 0 (by omega) (by omega)
  have h41 := sk 4 1 (by omega) (by omega)
  have h42 := sk 4 2 (by omega) (by omega)
  have h43 := sk 4 3 (by omega) (by omega)
  intro i hi
  have : i = 0 ∨ i = 1 ∨ i = 2 ∨ i = 3 ∨ i = 4 := by omega
  rcases this with rfl | rfl | rfl | rfl | rfl <;> simp [sm, krn, others, pfF, List.range, List.range.loop, List.eraseIdx, h00, h11, h22, h33, h44] <;> grind
theorem krn7 (a : Nat → Nat → Int) (sk : ∀ i j, i < 7 → j < 7 → a i j = - a j i) : ∀ i, i < 7 → sm 7 (fun j => a i j * krn a 7 j) = 0 := by
  have h00 : a 0 0 = 0 := by have := sk 0 0 (by omega) (by omega); omega
  have h11 : a 1 1 = 0 := by have := sk 1 1 (by omega) (by omega); omega
  have h22 : a 2 2 = 0 := by have := sk 2 2 (by omega) (by omega); omega
  have h33 : a 3 3 = 0 := by have := sk 3 3 (by omega) (by omega); omega
  have h44 : a 4 4 = 0 := by have := sk 4 4 (by omega) (by omega); omega
  have h55 : a 5 5 = 0 := by have := sk 5 5 (by omega) (by omega); omega
  have h66 : a 6 6 = 0 := by have := sk 6 6 (by omega) (by omega); omega
  have h10 := sk 1 0 (by omega) (by omega)
  have h20 := sk 2 0 (by omega) (by omega)
  have h21 := sk 2 1 (by omega) (by omega)
  have h30 := sk 3 0 (by omega) (by omega)
  have h31 := sk 3 1 (by omega) (by omega)
  have h32 := sk 3 2 (by omega) (by omega)
  have h40 := sk 4 0 (by omega) (by omega)
  have h41 := sk 4 1 (by omega) (by omega)
  have h42 := sk 4 2 (by omega) (by omega)
  have h43 := sk 4 3 (by omega) (by omega)
  have h50 := sk 5 0 (by omega) (by omega)
  have h51 := sk 5 1 (by omega) (by omega)
  have h52 := sk 5 2 (by omega) (by omega)
  have h53 := sk 5 3 (by omega) (by omega)
  have h54 := sk 5 4 (by omega) (by omega)
  have h60 := sk 6 0 (by omega) (by omega)
  have h61 := sk 6 1 (by omega) (by omega)
  have h62 := sk 6 2 (by omega) (by omega)
  have h63 := sk 6 3 (by omega) (by omega)
  have h64 := sk 6 4 (by omega) (by omega)
  have h65 := sk 6 5 (by omega) (by omega)
  intro i hi
  have : i = 0 ∨ i = 1 ∨ i = 2 ∨ i = 3 ∨ i = 4 ∨ i = 5 ∨ i = 6 := by omega
  rcases this with rfl | rfl | rfl | rfl | rfl | rfl | rfl <;> simp [sm, krn, others, pfF, List.range, List.range.loop, List.eraseIdx, h00, h11, h22, h33, h44, h55, h66] <;> grind
theorem krn_zero {a : Nat → Nat → Int} {m : Nat} (hm : m ≤ 8) (ho : m % 2 = 1) (sk : ∀ i j, i < m → j < m → a i j = - a j i) : ∀ i, i < m → sm m (fun j => a i j * krn a m j) = 0 := by
  have : m = 1 ∨ m = 3 ∨ m = 5 ∨ m = 7 := by omega
  rcases this with rfl | rfl | rfl | rfl
  · exact krn1 a sk
  · exact krn3 a sk
  · exact krn5 a sk
  · exact krn7 a sk
theorem Even.scale {t : Tb} {n : Nat} {v w : Nat → Int} {A B : Int} (hA : 0 < A) (hB : 0 < B) (h : ∀ i, i < n → v i * A = B * w i) (W : Even t n w) : Even t n v := by
  have sc : ∀ i, scr t n v i * A = B * scr t n w i := fun i => by
    unfold scr
    rw [← sm_mulr, ← sm_mul]
    exact sm_congr fun j hj => by have := h j hj; grind
  have pos : ∀ i, i < n → (0 < v i ↔ 0 < w i) := fun i hi => by
    have e := h i hi
    constructor
    · intro hv
      have := Int.mul_pos hv hA
      rw [e] at this
      exact Int.lt_of_mul_lt_mul_left (a := B) (by rw [Int.mul_zero]; exact this) (Int.le_of_lt hB)
    · intro hw
      have := Int.mul_pos hB hw
      rw [← e] at this
      exact Int.lt_of_mul_lt_mul_right (a := A) (by rw [Int.zero_mul]; exact this) (Int.le_of_lt hA)
  have nn : ∀ i, i < n → 0 ≤ v i := fun i hi => by
    have e := h i hi
    have := Int.mul_nonneg (Int.le_of_lt hB) (W.nn i hi)
    rw [← e] at this
    exact Int.le_of_mul_le_mul_right (a := A) (by omega) hA
  refine ⟨nn, ?_, fun i hi hv => ?_, fun i hi h0 => ?_⟩
  · obtain ⟨i, hi, hp⟩ := W.some
    exact ⟨i, hi, (pos i hi).mpr hp⟩
  · have e := sc i
    rw [W.on i hi ((pos i hi).mp hv), Int.mul_zero] at e
    rcases Int.mul_eq_zero.mp e with q | q
    · exact q
    · omega
  · have hw : w i = 0 := by
      have := W.nn i hi
      by_cases q : 0 < w i
      · have := (pos i hi).mpr q; omega
      · omega
    have e := sc i
    have := Int.mul_neg_of_pos_of_neg hB (W.off i hi hw)
    rw [← e] at this
    refine Classical.byContradiction fun q => ?_
    have := Int.mul_nonneg (show 0 ≤ scr t n v i by omega) (Int.le_of_lt hA)
    omega
/-- the things with weight are odd in number, where some weight is odd -/
theorem Even.supp {t : Tb} {n : Nat} (h : IsTb n t) {w : Nat → Int} (W : Even t n w) (ho : ∃ i, i < n ∧ w i % 2 = 1) : (lst n fun i => 0 < w i).length % 2 = 1 := by
  obtain ⟨k, hk, ho⟩ := ho
  have hkp : 0 < w k := by have := W.nn k hk; omega
  have p1 := scr_par h w hk
  rw [W.on k hk hkp] at p1
  have e : ∀ m : Nat, ((((List.range m).filter fun i => decide (0 < w i)).length : Nat) : Int) = sm m fun i => if 0 < w i then 1 else 0 := by
    intro m
    induction m with
    | zero => rfl
    | succ m ih =>
      rw [List.range_succ, List.filter_append, List.length_append, sm_succ, ← ih]
      by_cases q : 0 < w m <;> simp [q]
  have e2 : (lst n fun i => 0 < w i).length = ((List.range n).filter fun i => decide (0 < w i)).length := by
    unfold lst
    congr 1
    exact List.filter_congr fun x _ => decide_eq_decide.mpr Iff.rfl
  have e3 := e n
  have p2 := sm_par (n := n) (f := w) (g := fun i => if 0 < w i then 1 else 0) fun i hi => by
    have nn := W.nn i hi
    by_cases q : 0 < w i
    · rw [if_pos q]
      have p3 := scr_par h w hi
      rw [W.on i hi q] at p3
      omega
    · rw [if_neg q]; omega
  omega
end Aw

noncomputable section
namespace K78
open PySem L2 LamX Aw
def top (i : Nat) : Stmt := PySem.Challenge.pw_askwide_k78_whole_shares.main.body.getD i (.Pass ⟨0, 0, 0, 0⟩)
def t_paired_sum : (st : Stmt) ×' (top 1 = st) := by
  refine ⟨?s, ?h⟩
  case h => (conv => lhs; whnf)
def s_paired_sum : Stmt := t_paired_sum.1
abbrev N_paired_sum : List Str := ["table", "things", "first", "whole", "k", "worth"]
abbrev p_paired_sum : List Str := ["table", "things"]
theorem sc_paired_sum : FnScope N_paired_sum p_paired_sum (defScope s_paired_sum) := ⟨rfl, rfl, rfl, by decide +kernel, rfl, by decide +kernel, by decide +kernel⟩
def b_paired_sum (rec : FSem) : SemS := (seqS (ifS (testE (op2 eqG (vE 1) (lstE nilA))) (retS (retO (.int 1))) skipS)
  (seqS (setS (op2 ixG (vE 1) (retO (.int 0))) (.one 2))
  (seqS (setS (retO (.int 0)) (.one 3))
  (seqS (forS (itRange2 (consA (retO (.int 1)) (consA (callB lenG (consA (vE 1) nilA)) nilA))) (.one 4) (seqS (setS (callF 2 rec (consA (vE 0) (consA (op2 addG (sliceE slL (vE 1) (partO (retO (.int 1))) (partO (vE 4))) (sliceE slL (vE 1) (partO (op2 addG (vE 4) (retO (.int 1)))) noPartO)) nilA))) (.one 5))
  (ifS (testE (op2 eqG (op2 ixG (op2 ixG (vE 0) (vE 2)) (op2 ixG (vE 1) (vE 4))) (op2 eqG (op2 modI (vE 4) (retO (.int 2))) (retO (.int 1))))) (setS (op2 addG (vE 3) (vE 5)) (.one 3)) (setS (op2 subI (vE 3) (vE 5)) (.one 3)))))
  (retS (vE 3))))))
def fR_paired_sum : Nat → FSem
  | 0 => fun _ => .stuck
  | d + 1 => fnOut 6 (b_paired_sum (fR_paired_sum d))
def f_paired_sum : FSem := fR_paired_sum 4
theorem ok_paired_sum {P : Program} {w : World} {K : PySem.W.Frag} {T : List (Addr × Str)} {mg : Str → Option Value} {base : Heap} (B : Bt mg) (d : Nat) (h_paired_sum : FnD P w K T mg base "paired_sum" (0 + d) 2 (fR_paired_sum d)) {a : Addr} {fd : FuncData} (F : Fun K "paired_sum" "paired_sum" s_paired_sum a fd) : FnOk P w K mg base (L2.CX P w) (0 + d + 1) a fd p_paired_sum (spP K T 2 (fR_paired_sum (d + 1))) :=
  fnP (body := b_paired_sum (fR_paired_sum d)) (n := 6) F sc_paired_sum rfl fun cdv A outer s H E hc => 
  (pdb_cons (pds_if (t_eq hc (pd_var 1) (pd_lst pda_nil)) (pdb_one (pds_ret pd_int)) pdb_nil)
  (pdb_cons (pds_set 2 hc (d_ix (pd_var 1) pd_int))
  (pdb_cons (pds_set 3 hc pd_int)
  (pdb_cons (pds_for hc (pdi_range2 rfl B.range (pda_cons pd_int (pda_cons (pd_callB (x := "len") call_len calld_len rfl B.len boot_len' (pda_cons (pd_var 1) pda_nil)) pda_nil))) (tg_one 4 hc.nd) (pdb_cons (pds_set 5 hc (pd_call (x := "paired_sum") hc h_paired_sum (by omega) rfl (pda_cons (pd_var 0) (pda_cons (d_add (pd_slice sl_list sld_list (pd_var 1) (pdo_some pd_int) (pdo_some (pd_var 4))) (pd_slice sl_list sld_list (pd_var 1) (pdo_some (d_add (pd_var 4) pd_int)) pdo_none)) pda_nil))))
  (pdb_one (pds_if (t_eq hc (d_ix (d_ix (pd_var 0) (pd_var 2)) (d_ix (pd_var 1) (pd_var 4))) (d_eq hc (d_mod (pd_var 4) pd_int) pd_int)) (pdb_one (pds_set 3 hc (d_add (pd_var 3) (pd_var 5)))) (pdb_one (pds_set 3 hc (d_sub (pd_var 3) (pd_var 5))))))))
  (pdb_one (pds_ret (pd_var 3)))))))
theorem bd_paired_sum : BindsTx "paired_sum" s_paired_sum p_paired_sum := fun _ _ _ _ _ _ us hl => match us, hl with | [_, _], _ => rfl
theorem dR_paired_sum {P : Program} {w : World} {K : PySem.W.Frag} {T : List (Addr × Str)} {mg : Str → Option Value} {base : Heap} (B : Bt mg) (Tx : TxF K mg "paired_sum" s_paired_sum) : ∀ d : Nat, FnD P w K T mg base "paired_sum" (0 + d) 2 (fR_paired_sum d)
  | 0 => fnD_stuck p_paired_sum Tx rfl bd_paired_sum
  | d + 1 => fnD_mk p_paired_sum Tx rfl bd_paired_sum fun a fd F => ok_paired_sum B d (dR_paired_sum B Tx d) F
theorem d_paired_sum {P : Program} {w : World} {K : PySem.W.Frag} {T : List (Addr × Str)} {mg : Str → Option Value} {base : Heap} (B : Bt mg) (Tx : TxF K mg "paired_sum" s_paired_sum) : FnD P w K T mg base "paired_sum" 4 2 f_paired_sum := dR_paired_sum B Tx 4

def t_kernel : (st : Stmt) ×' (top 2 = st) := by
  refine ⟨?s, ?h⟩
  case h => (conv => lhs; whnf)
def s_kernel : Stmt := t_kernel.1
abbrev N_kernel : List Str := ["table", "told", "k", "others", "one"]
abbrev p_kernel : List Str := ["table"]
theorem sc_kernel : FnScope N_kernel p_kernel (defScope s_kernel) := ⟨rfl, rfl, rfl, by decide +kernel, rfl, by decide +kernel, by decide +kernel⟩
def b_kernel : SemS := (seqS (setS (lstC nilA) (.one 1))
  (seqS (forS (itRange1 (consA (callB lenG (consA (vE 0) nilA)) nilA)) (.one 2) (seqS (setS (lcE (itRange1 (consA (callB lenG (consA (vE 0) nilA)) nilA)) (.one 4) [4] (testE (op2 neG (vE 4) (vE 2))) (vE 4)) (.one 3))
  (dropS (methL appendG (vE 1) (consA (op2 mulG (callF 2 f_paired_sum (consA (vE 0) (consA (vE 3) nilA))) (op2 subI (retO (.int 1)) (op2 mulG (retO (.int 2)) (op2 modI (vE 2) (retO (.int 2)))))) nilA)))))
  (retS (vE 1))))
def f_kernel : FSem := fnOut 5 b_kernel
theorem ok_kernel {P : Program} {w : World} {K : PySem.W.Frag} {T : List (Addr × Str)} {mg : Str → Option Value} {base : Heap} (B : Bt mg) (h_paired_sum : FnD P w K T mg base "paired_sum" 4 2 f_paired_sum) {a : Addr} {fd : FuncData} (F : Fun K "kernel" "kernel" s_kernel a fd) : FnOk P w K mg base (L2.CX P w) 5 a fd p_kernel (spP K T 1 f_kernel) :=
  fnP (body := b_kernel) (n := 5) F sc_kernel rfl fun cdv A outer s H E hc => 
  (pdb_cons (pds_set 1 hc (pd_lstC pda_nil))
  (pdb_cons (pds_for hc (pdi_range1 rfl B.range (pda_cons (pd_callB (x := "len") call_len calld_len rfl B.len boot_len' (pda_cons (pd_var 0) pda_nil)) pda_nil)) (tg_one 2 hc.nd) (pdb_cons (pds_lc 3 hc (sw_true rfl rfl rfl (by decide +kernel)) (pdi_range1 rfl B.range (pda_cons (pd_callB (x := "len") call_len calld_len rfl B.len boot_len' (pda_cons (pd_var 0) pda_nil)) pda_nil)) (blkOk_by (own := [("one", 4)]) (by rfl)) (by decide) (fun _ _ _ _ _ => (tg_one 4 (hc.blk).nd)) (fun _ _ _ _ _ => (pts_if (t_ne (hc.blk) (pd_var 4) (pd_var 2)))) (fun _ _ _ _ _ => (pd_var 4)))
  (pdb_one (pds_expr (pd_ml PySem.F.slot_list_append PySem.F.type_list_append mt_append methd_append (pd_var 1) (pda_cons (d_mul (pd_call (x := "paired_sum") hc h_paired_sum (by decide) rfl (pda_cons (pd_var 0) (pda_cons (pd_var 3) pda_nil))) (d_sub pd_int (d_mul pd_int (d_mod (pd_var 2) pd_int)))) pda_nil))))))
  (pdb_one (pds_ret (pd_var 1)))))
theorem bd_kernel : BindsTx "kernel" s_kernel p_kernel := fun _ _ _ _ _ _ us hl => match us, hl with | [_], _ => rfl
theorem d_kernel {P : Program} {w : World} {K : PySem.W.Frag} {T : List (Addr × Str)} {mg : Str → Option Value} {base : Heap} (B : Bt mg) (Tx : TxF K mg "kernel" s_kernel) (h_paired_sum : FnD P w K T mg base "paired_sum" 4 2 f_paired_sum) : FnD P w K T mg base "kernel" 5 1 f_kernel := fnD_mk p_kernel Tx rfl bd_kernel fun a fd F => ok_kernel B h_paired_sum F

def t_part : (st : Stmt) ×' (top 4 = st) := by
  refine ⟨?s, ?h⟩
  case h => (conv => lhs; whnf)
def s_part : Stmt := t_part.1
abbrev N_part : List Str := ["table", "things", "rows", "one", "other"]
abbrev p_part : List Str := ["table", "things"]
theorem sc_part : FnScope N_part p_part (defScope s_part) := ⟨rfl, rfl, rfl, by decide +kernel, rfl, by decide +kernel, by decide +kernel⟩
def b_part : SemS := (seqS (setS (lstC nilA) (.one 2))
  (seqS (forS (itSeq (vE 1)) (.one 3) (dropS (methL appendG (vE 2) (consA (lcE (itSeq (vE 1)) (.one 4) [4] yesT (op2 ixG (op2 ixG (vE 0) (vE 3)) (vE 4))) nilA))))
  (retS (vE 2))))
def f_part : FSem := fnOut 5 b_part
theorem ok_part {P : Program} {w : World} {K : PySem.W.Frag} {T : List (Addr × Str)} {mg : Str → Option Value} {base : Heap} (B : Bt mg) {a : Addr} {fd : FuncData} (F : Fun K "part" "part" s_part a fd) : FnOk P w K mg base (L2.CX P w) 1 a fd p_part (spP K T 2 f_part) :=
  fnP (body := b_part) (n := 5) F sc_part rfl fun cdv A outer s H E hc => 
  (pdb_cons (pds_set 2 hc (pd_lstC pda_nil))
  (pdb_cons (pds_for hc (pdi_seq (pd_var 1)) (tg_one 3 hc.nd) (pdb_one (pds_expr (pd_ml PySem.F.slot_list_append PySem.F.type_list_append mt_append methd_append (pd_var 2) (pda_cons (pd_lc hc (pdi_seq (pd_var 1)) (blkOk_by (own := [("other", 4)]) (by rfl)) (by decide) (fun _ _ _ _ _ => (tg_one 4 (hc.blk).nd)) (fun _ _ _ _ _ => pts_yes) (fun _ _ _ _ _ => (d_ix (d_ix (pd_var 0) (pd_var 3)) (pd_var 4)))) pda_nil)))))
  (pdb_one (pds_ret (pd_var 2)))))
theorem bd_part : BindsTx "part" s_part p_part := fun _ _ _ _ _ _ us hl => match us, hl with | [_, _], _ => rfl
theorem d_part {P : Program} {w : World} {K : PySem.W.Frag} {T : List (Addr × Str)} {mg : Str → Option Value} {base : Heap} (B : Bt mg) (Tx : TxF K mg "part" s_part) : FnD P w K T mg base "part" 1 2 f_part := fnD_mk p_part Tx rfl bd_part fun a fd F => ok_part B F

def t_beaten_by : (st : Stmt) ×' (top 5 = st) := by
  refine ⟨?s, ?h⟩
  case h => (conv => lhs; whnf)
def s_beaten_by : Stmt := t_beaten_by.1
abbrev N_beaten_by : List Str := ["table", "one", "other"]
abbrev p_beaten_by : List Str := ["table", "one"]
theorem sc_beaten_by : FnScope N_beaten_by p_beaten_by (defScope s_beaten_by) := ⟨rfl, rfl, rfl, by decide +kernel, rfl, by decide +kernel, by decide +kernel⟩
def b_beaten_by : SemS := (retS (lcE (itRange1 (consA (callB lenG (consA (vE 0) nilA)) nilA)) (.one 2) [2] (testE (op2 ixG (op2 ixG (vE 0) (vE 1)) (vE 2))) (vE 2)))
def f_beaten_by : FSem := fnOut 3 b_beaten_by
theorem ok_beaten_by {P : Program} {w : World} {K : PySem.W.Frag} {T : List (Addr × Str)} {mg : Str → Option Value} {base : Heap} (B : Bt mg) {a : Addr} {fd : FuncData} (F : Fun K "beaten_by" "beaten_by" s_beaten_by a fd) : FnOk P w K mg base (L2.CX P w) 1 a fd p_beaten_by (spP K T 2 f_beaten_by) :=
  fnP (body := b_beaten_by) (n := 3) F sc_beaten_by rfl fun cdv A outer s H E hc => 
  (pdb_one (pds_ret (pd_lc hc (pdi_range1 rfl B.range (pda_cons (pd_callB (x := "len") call_len calld_len rfl B.len boot_len' (pda_cons (pd_var 0) pda_nil)) pda_nil)) (blkOk_by (own := [("other", 2)]) (by rfl)) (by decide) (fun _ _ _ _ _ => (tg_one 2 (hc.blk).nd)) (fun _ _ _ _ _ => (pts_if (pt_of (d_ix (d_ix (pd_var 0) (pd_var 1)) (pd_var 2))))) (fun _ _ _ _ _ => (pd_var 2)))))
theorem bd_beaten_by : BindsTx "beaten_by" s_beaten_by p_beaten_by := fun _ _ _ _ _ _ us hl => match us, hl with | [_, _], _ => rfl
theorem d_beaten_by {P : Program} {w : World} {K : PySem.W.Frag} {T : List (Addr × Str)} {mg : Str → Option Value} {base : Heap} (B : Bt mg) (Tx : TxF K mg "beaten_by" s_beaten_by) : FnD P w K T mg base "beaten_by" 1 2 f_beaten_by := fnD_mk p_beaten_by Tx rfl bd_beaten_by fun a fd F => ok_beaten_by B F

def t_beaters_of : (st : Stmt) ×' (top 6 = st) := by
  refine ⟨?s, ?h⟩
  case h => (conv => lhs; whnf)
def s_beaters_of : Stmt := t_beaters_of.1
abbrev N_beaters_of : List Str := ["table", "one", "other"]
abbrev p_beaters_of : List Str := ["table", "one"]
theorem sc_beaters_of : FnScope N_beaters_of p_beaters_of (defScope s_beaters_of) := ⟨rfl, rfl, rfl, by decide +kernel, rfl, by decide +kernel, by decide +kernel⟩
def b_beaters_of : SemS := (retS (lcE (itRange1 (consA (callB lenG (consA (vE 0) nilA)) nilA)) (.one 2) [2] (testE (op2 ixG (op2 ixG (vE 0) (vE 2)) (vE 1))) (vE 2)))
def f_beaters_of : FSem := fnOut 3 b_beaters_of
theorem ok_beaters_of {P : Program} {w : World} {K : PySem.W.Frag} {T : List (Addr × Str)} {mg : Str → Option Value} {base : Heap} (B : Bt mg) {a : Addr} {fd : FuncData} (F : Fun K "beaters_of" "beaters_of" s_beaters_of a fd) : FnOk P w K mg base (L2.CX P w) 1 a fd p_beaters_of (spP K T 2 f_beaters_of) :=
  fnP (body := b_beaters_of) (n := 3) F sc_beaters_of rfl fun cdv A outer s H E hc => 
  (pdb_one (pds_ret (pd_lc hc (pdi_range1 rfl B.range (pda_cons (pd_callB (x := "len") call_len calld_len rfl B.len boot_len' (pda_cons (pd_var 0) pda_nil)) pda_nil)) (blkOk_by (own := [("other", 2)]) (by rfl)) (by decide) (fun _ _ _ _ _ => (tg_one 2 (hc.blk).nd)) (fun _ _ _ _ _ => (pts_if (pt_of (d_ix (d_ix (pd_var 0) (pd_var 2)) (pd_var 1))))) (fun _ _ _ _ _ => (pd_var 2)))))
theorem bd_beaters_of : BindsTx "beaters_of" s_beaters_of p_beaters_of := fun _ _ _ _ _ _ us hl => match us, hl with | [_, _], _ => rfl
theorem d_beaters_of {P : Program} {w : World} {K : PySem.W.Frag} {T : List (Addr × Str)} {mg : Str → Option Value} {base : Heap} (B : Bt mg) (Tx : TxF K mg "beaters_of" s_beaters_of) : FnD P w K T mg base "beaters_of" 1 2 f_beaters_of := fnD_mk p_beaters_of Tx rfl bd_beaters_of fun a fd F => ok_beaters_of B F

def t_score : (st : Stmt) ×' (top 8 = st) := by
  refine ⟨?s, ?h⟩
  case h => (conv => lhs; whnf)
def s_score : Stmt := t_score.1
abbrev N_score : List Str := ["table", "weights", "thing", "above", "one"]
abbrev p_score : List Str := ["table", "weights", "thing"]
theorem sc_score : FnScope N_score p_score (defScope s_score) := ⟨rfl, rfl, rfl, by decide +kernel, rfl, by decide +kernel, by decide +kernel⟩
def b_score : SemS := (seqS (setS (callB sumG (consA (lcE (itSeq (callF 2 f_beaten_by (consA (vE 0) (consA (vE 2) nilA)))) (.one 4) [4] yesT (op2 ixG (vE 1) (vE 4))) nilA)) (.one 3))
  (retS (op2 subI (vE 3) (callB sumG (consA (lcE (itSeq (callF 2 f_beaters_of (consA (vE 0) (consA (vE 2) nilA)))) (.one 4) [4] yesT (op2 ixG (vE 1) (vE 4))) nilA)))))
def f_score : FSem := fnOut 5 b_score
theorem ok_score {P : Program} {w : World} {K : PySem.W.Frag} {T : List (Addr × Str)} {mg : Str → Option Value} {base : Heap} (B : Bt mg) (h_beaten_by : FnD P w K T mg base "beaten_by" 1 2 f_beaten_by) (h_beaters_of : FnD P w K T mg base "beaters_of" 1 2 f_beaters_of) {a : Addr} {fd : FuncData} (F : Fun K "score" "score" s_score a fd) : FnOk P w K mg base (L2.CX P w) 2 a fd p_score (spP K T 3 f_score) :=
  fnP (body := b_score) (n := 5) F sc_score rfl fun cdv A outer s H E hc => 
  (pdb_cons (pds_set 3 hc (pd_callB (x := "sum") (cr_sum hc.calm) calld_sum rfl B.sum boot_sum' (pda_cons (pd_lc hc (pdi_seq (pd_call (x := "beaten_by") hc h_beaten_by (by decide) rfl (pda_cons (pd_var 0) (pda_cons (pd_var 2) pda_nil)))) (blkOk_by (own := [("one", 4)]) (by rfl)) (by decide) (fun _ _ _ _ _ => (tg_one 4 (hc.blk).nd)) (fun _ _ _ _ _ => pts_yes) (fun _ _ _ _ _ => (d_ix (pd_var 1) (pd_var 4)))) pda_nil)))
  (pdb_one (pds_ret (d_sub (pd_var 3) (pd_callB (x := "sum") (cr_sum hc.calm) calld_sum rfl B.sum boot_sum' (pda_cons (pd_lc hc (pdi_seq (pd_call (x := "beaters_of") hc h_beaters_of (by decide) rfl (pda_cons (pd_var 0) (pda_cons (pd_var 2) pda_nil)))) (blkOk_by (own := [("one", 4)]) (by rfl)) (by decide) (fun _ _ _ _ _ => (tg_one 4 (hc.blk).nd)) (fun _ _ _ _ _ => pts_yes) (fun _ _ _ _ _ => (d_ix (pd_var 1) (pd_var 4)))) pda_nil))))))
theorem bd_score : BindsTx "score" s_score p_score := fun _ _ _ _ _ _ us hl => match us, hl with | [_, _, _], _ => rfl
theorem d_score {P : Program} {w : World} {K : PySem.W.Frag} {T : List (Addr × Str)} {mg : Str → Option Value} {base : Heap} (B : Bt mg) (Tx : TxF K mg "score" s_score) (h_beaten_by : FnD P w K T mg base "beaten_by" 1 2 f_beaten_by) (h_beaters_of : FnD P w K T mg base "beaters_of" 1 2 f_beaters_of) : FnD P w K T mg base "score" 2 3 f_score := fnD_mk p_score Tx rfl bd_score fun a fd F => ok_score B h_beaten_by h_beaters_of F

def t_is_even : (st : Stmt) ×' (top 9 = st) := by
  refine ⟨?s, ?h⟩
  case h => (conv => lhs; whnf)
def s_is_even : Stmt := t_is_even.1
abbrev N_is_even : List Str := ["table", "weights", "thing", "found"]
abbrev p_is_even : List Str := ["table", "weights"]
theorem sc_is_even : FnScope N_is_even p_is_even (defScope s_is_even) := ⟨rfl, rfl, rfl, by decide +kernel, rfl, by decide +kernel, by decide +kernel⟩
def b_is_even : SemS := (seqS (ifS (orT (testE (op2 ltI (callB minG (consA (vE 1) nilA)) (retO (.int 0)))) (testE (op2 eqG (callB maxG (consA (vE 1) nilA)) (retO (.int 0))))) (retS (retO (.bl false))) skipS)
  (seqS (forS (itRange1 (consA (callB lenG (consA (vE 0) nilA)) nilA)) (.one 2) (seqS (setS (callF 3 f_score (consA (vE 0) (consA (vE 1) (consA (vE 2) nilA)))) (.one 3))
  (seqS (ifS (andT (testE (op2 gtI (op2 ixG (vE 1) (vE 2)) (retO (.int 0)))) (testE (op2 neG (vE 3) (retO (.int 0))))) (retS (retO (.bl false))) skipS)
  (ifS (andT (testE (op2 eqG (op2 ixG (vE 1) (vE 2)) (retO (.int 0)))) (testE (op2 geI (vE 3) (retO (.int 0))))) (retS (retO (.bl false))) skipS))))
  (retS (retO (.bl true)))))
def f_is_even : FSem := fnOut 4 b_is_even
theorem ok_is_even {P : Program} {w : World} {K : PySem.W.Frag} {T : List (Addr × Str)} {mg : Str → Option Value} {base : Heap} (B : Bt mg) (h_score : FnD P w K T mg base "score" 2 3 f_score) {a : Addr} {fd : FuncData} (F : Fun K "is_even" "is_even" s_is_even a fd) : FnOk P w K mg base (L2.CX P w) 3 a fd p_is_even (spP K T 2 f_is_even) :=
  fnP (body := b_is_even) (n := 4) F sc_is_even rfl fun cdv A outer s H E hc => 
  (pdb_cons (pds_if (pt_w (pw_or' (t_lt (pd_callB (x := "min") (cr_min hc.calm) calld_min rfl B.min boot_min' (pda_cons (pd_var 1) pda_nil)) pd_int) (pw_or1' (t_eq hc (pd_callB (x := "max") (cr_max hc.calm) calld_max rfl B.max boot_max' (pda_cons (pd_var 1) pda_nil)) pd_int)))) (pdb_one (pds_ret pd_bl)) pdb_nil)
  (pdb_cons (pds_for hc (pdi_range1 rfl B.range (pda_cons (pd_callB (x := "len") call_len calld_len rfl B.len boot_len' (pda_cons (pd_var 0) pda_nil)) pda_nil)) (tg_one 2 hc.nd) (pdb_cons (pds_set 3 hc (pd_call (x := "score") hc h_score (by decide) rfl (pda_cons (pd_var 0) (pda_cons (pd_var 1) (pda_cons (pd_var 2) pda_nil)))))
  (pdb_cons (pds_if (pt_w (pw_and' (t_gt (d_ix (pd_var 1) (pd_var 2)) pd_int) (pw_and1' (t_ne hc (pd_var 3) pd_int)))) (pdb_one (pds_ret pd_bl)) pdb_nil)
  (pdb_one (pds_if (pt_w (pw_and' (t_eq hc (d_ix (pd_var 1) (pd_var 2)) pd_int) (pw_and1' (t_ge (pd_var 3) pd_int)))) (pdb_one (pds_ret pd_bl)) pdb_nil)))))
  (pdb_one (pds_ret pd_bl))))
theorem bd_is_even : BindsTx "is_even" s_is_even p_is_even := fun _ _ _ _ _ _ us hl => match us, hl with | [_, _], _ => rfl
theorem d_is_even {P : Program} {w : World} {K : PySem.W.Frag} {T : List (Addr × Str)} {mg : Str → Option Value} {base : Heap} (B : Bt mg) (Tx : TxF K mg "is_even" s_is_even) (h_score : FnD P w K T mg base "score" 2 3 f_score) : FnD P w K T mg base "is_even" 3 2 f_is_even := fnD_mk p_is_even Tx rfl bd_is_even fun a fd F => ok_is_even B h_score F

def t_odd_sets : (st : Stmt) ×' (top 10 = st) := by
  refine ⟨?s, ?h⟩
  case h => (conv => lhs; whnf)
def s_odd_sets : Stmt := t_odd_sets.1
abbrev N_odd_sets : List Str := ["many", "sets", "thing", "one"]
abbrev p_odd_sets : List Str := ["many"]
theorem sc_odd_sets : FnScope N_odd_sets p_odd_sets (defScope s_odd_sets) := ⟨rfl, rfl, rfl, by decide +kernel, rfl, by decide +kernel, by decide +kernel⟩
def b_odd_sets : SemS := (seqS (setS (lstE (consA (lstE nilA) nilA)) (.one 1))
  (seqS (forS (itRange1 (consA (vE 0) nilA)) (.one 2) (setS (op2 addG (vE 1) (lcE (itSeq (vE 1)) (.one 3) [3] yesT (op2 addG (vE 3) (lstE (consA (vE 2) nilA))))) (.one 1)))
  (retS (lcE (itSeq (vE 1)) (.one 3) [3] (testE (op2 eqG (op2 modI (callB lenG (consA (vE 3) nilA)) (retO (.int 2))) (retO (.int 1)))) (vE 3)))))
def f_odd_sets : FSem := fnOut 4 b_odd_sets
theorem ok_odd_sets {P : Program} {w : World} {K : PySem.W.Frag} {T : List (Addr × Str)} {mg : Str → Option Value} {base : Heap} (B : Bt mg) {a : Addr} {fd : FuncData} (F : Fun K "odd_sets" "odd_sets" s_odd_sets a fd) : FnOk P w K mg base (L2.CX P w) 1 a fd p_odd_sets (spP K T 1 f_odd_sets) :=
  fnP (body := b_odd_sets) (n := 4) F sc_odd_sets rfl fun cdv A outer s H E hc => 
  (pdb_cons (pds_set 1 hc (pd_lst (pda_cons (pd_lst pda_nil) pda_nil)))
  (pdb_cons (pds_for hc (pdi_range1 rfl B.range (pda_cons (pd_var 0) pda_nil)) (tg_one 2 hc.nd) (pdb_one (pds_set 1 hc (d_add (pd_var 1) (pd_lc hc (pdi_seq (pd_var 1)) (blkOk_by (own := [("one", 3)]) (by rfl)) (by decide) (fun _ _ _ _ _ => (tg_one 3 (hc.blk).nd)) (fun _ _ _ _ _ => pts_yes) (fun _ _ _ _ _ => (d_add (pd_var 3) (pd_lst (pda_cons (pd_var 2) pda_nil)))))))))
  (pdb_one (pds_ret (pd_lc hc (pdi_seq (pd_var 1)) (blkOk_by (own := [("one", 3)]) (by rfl)) (by decide) (fun _ _ _ _ _ => (tg_one 3 (hc.blk).nd)) (fun _ _ _ _ _ => (pts_if (t_eq (hc.blk) (d_mod (pd_callB (x := "len") call_len calld_len rfl B.len boot_len' (pda_cons (pd_var 3) pda_nil)) pd_int) pd_int))) (fun _ _ _ _ _ => (pd_var 3)))))))
theorem bd_odd_sets : BindsTx "odd_sets" s_odd_sets p_odd_sets := fun _ _ _ _ _ _ us hl => match us, hl with | [_], _ => rfl
theorem d_odd_sets {P : Program} {w : World} {K : PySem.W.Frag} {T : List (Addr × Str)} {mg : Str → Option Value} {base : Heap} (B : Bt mg) (Tx : TxF K mg "odd_sets" s_odd_sets) : FnD P w K T mg base "odd_sets" 1 1 f_odd_sets := fnD_mk p_odd_sets Tx rfl bd_odd_sets fun a fd F => ok_odd_sets B F

def t_common : (st : Stmt) ×' (top 11 = st) := by
  refine ⟨?s, ?h⟩
  case h => (conv => lhs; whnf)
def s_common : Stmt := t_common.1
abbrev N_common : List Str := ["one", "other", "rest"]
abbrev p_common : List Str := ["one", "other"]
theorem sc_common : FnScope N_common p_common (defScope s_common) := ⟨rfl, rfl, rfl, by decide +kernel, rfl, by decide +kernel, by decide +kernel⟩
def b_common : SemS := (seqS (whileS (testE (op2 gtI (vE 1) (retO (.int 0)))) (seqS (setS (op2 modI (vE 0) (vE 1)) (.one 2))
  (seqS (setS (vE 1) (.one 0))
  (setS (vE 2) (.one 1)))) 100000)
  (retS (vE 0)))
def f_common : FSem := fnOut 3 b_common
theorem ok_common {P : Program} {w : World} {K : PySem.W.Frag} {T : List (Addr × Str)} {mg : Str → Option Value} {base : Heap} (B : Bt mg) {a : Addr} {fd : FuncData} (F : Fun K "common" "common" s_common a fd) : FnOk P w K mg base (L2.CX P w) 1 a fd p_common (spP K T 2 f_common) :=
  fnP (body := b_common) (n := 3) F sc_common rfl fun cdv A outer s H E hc => 
  (pdb_cons (pds_while 100000 hc (t_gt (pd_var 1) pd_int) (pdb_cons (pds_set 2 hc (d_mod (pd_var 0) (pd_var 1)))
  (pdb_cons (pds_set 0 hc (pd_var 1))
  (pdb_one (pds_set 1 hc (pd_var 2))))))
  (pdb_one (pds_ret (pd_var 0))))
theorem bd_common : BindsTx "common" s_common p_common := fun _ _ _ _ _ _ us hl => match us, hl with | [_, _], _ => rfl
theorem d_common {P : Program} {w : World} {K : PySem.W.Frag} {T : List (Addr × Str)} {mg : Str → Option Value} {base : Heap} (B : Bt mg) (Tx : TxF K mg "common" s_common) : FnD P w K T mg base "common" 1 2 f_common := fnD_mk p_common Tx rfl bd_common fun a fd F => ok_common B F

def t_lowest : (st : Stmt) ×' (top 12 = st) := by
  refine ⟨?s, ?h⟩
  case h => (conv => lhs; whnf)
def s_lowest : Stmt := t_lowest.1
abbrev N_lowest : List Str := ["weights", "divisor", "weight"]
abbrev p_lowest : List Str := ["weights"]
theorem sc_lowest : FnScope N_lowest p_lowest (defScope s_lowest) := ⟨rfl, rfl, rfl, by decide +kernel, rfl, by decide +kernel, by decide +kernel⟩
def b_lowest : SemS := (seqS (setS (retO (.int 0)) (.one 1))
  (seqS (forS (itSeq (vE 0)) (.one 2) (setS (callF 2 f_common (consA (vE 2) (consA (vE 1) nilA))) (.one 1)))
  (retS (lcE (itSeq (vE 0)) (.one 2) [2] yesT (op2 fdivI (vE 2) (vE 1))))))
def f_lowest : FSem := fnOut 3 b_lowest
theorem ok_lowest {P : Program} {w : World} {K : PySem.W.Frag} {T : List (Addr × Str)} {mg : Str → Option Value} {base : Heap} (B : Bt mg) (h_common : FnD P w K T mg base "common" 1 2 f_common) {a : Addr} {fd : FuncData} (F : Fun K "lowest" "lowest" s_lowest a fd) : FnOk P w K mg base (L2.CX P w) 2 a fd p_lowest (spP K T 1 f_lowest) :=
  fnP (body := b_lowest) (n := 3) F sc_lowest rfl fun cdv A outer s H E hc => 
  (pdb_cons (pds_set 1 hc pd_int)
  (pdb_cons (pds_for hc (pdi_seq (pd_var 0)) (tg_one 2 hc.nd) (pdb_one (pds_set 1 hc (pd_call (x := "common") hc h_common (by decide) rfl (pda_cons (pd_var 2) (pda_cons (pd_var 1) pda_nil))))))
  (pdb_one (pds_ret (pd_lc hc (pdi_seq (pd_var 0)) (blkOk_by (own := [("weight", 2)]) (by rfl)) (by decide) (fun _ _ _ _ _ => (tg_one 2 (hc.blk).nd)) (fun _ _ _ _ _ => pts_yes) (fun _ _ _ _ _ => (d_fdiv (pd_var 2) (pd_var 1))))))))
theorem bd_lowest : BindsTx "lowest" s_lowest p_lowest := fun _ _ _ _ _ _ us hl => match us, hl with | [_], _ => rfl
theorem d_lowest {P : Program} {w : World} {K : PySem.W.Frag} {T : List (Addr × Str)} {mg : Str → Option Value} {base : Heap} (B : Bt mg) (Tx : TxF K mg "lowest" s_lowest) (h_common : FnD P w K T mg base "common" 1 2 f_common) : FnD P w K T mg base "lowest" 2 1 f_lowest := fnD_mk p_lowest Tx rfl bd_lowest fun a fd F => ok_lowest B h_common F

def t_weights_on : (st : Stmt) ×' (top 13 = st) := by
  refine ⟨?s, ?h⟩
  case h => (conv => lhs; whnf)
def s_weights_on : Stmt := t_weights_on.1
abbrev N_weights_on : List Str := ["table", "things", "weights", "thing", "weight", "row"]
abbrev p_weights_on : List Str := ["table", "things"]
theorem sc_weights_on : FnScope N_weights_on p_weights_on (defScope s_weights_on) := ⟨rfl, rfl, rfl, by decide +kernel, rfl, by decide +kernel, by decide +kernel⟩
def b_weights_on : SemS := (seqS (setS (lcC (itSeq (vE 0)) (.one 5) [5] yesT (retO (.int 0))) (.one 2))
  (seqS (forS (itZip (consA (vE 1) (consA (callF 1 f_kernel (consA (callF 2 f_part (consA (vE 0) (consA (vE 1) nilA))) nilA)) nilA))) (.many [3, 4]) (asgS (vE 4) (subT setL (vE 2) (vE 3))))
  (seqS (ghostS (fzSlot 2) (ifS (testE (op2 ltI (op2 ixG (vE 2) (op2 ixG (vE 1) (retO (.int 0)))) (retO (.int 0)))) (retS (lcE (itSeq (vE 2)) (.one 4) [4] yesT (op2 subI (retO (.int 0)) (vE 4)))) skipS))
  (retS (vE 2)))))
def f_weights_on : FSem := fnOut 6 b_weights_on
theorem ok_weights_on {P : Program} {w : World} {K : PySem.W.Frag} {T : List (Addr × Str)} {mg : Str → Option Value} {base : Heap} (B : Bt mg) (h_kernel : FnD P w K T mg base "kernel" 5 1 f_kernel) (h_part : FnD P w K T mg base "part" 1 2 f_part) {a : Addr} {fd : FuncData} (F : Fun K "weights_on" "weights_on" s_weights_on a fd) : FnOk P w K mg base (L2.CX P w) 6 a fd p_weights_on (spP K T 2 f_weights_on) :=
  fnP (body := b_weights_on) (n := 6) F sc_weights_on rfl fun cdv A outer s H E hc => 
  (pdb_cons (pds_lcC 2 hc (sw_true rfl rfl rfl (by decide +kernel)) (pdi_seq (pd_var 0)) (blkOk_by (own := [("row", 5)]) (by rfl)) (by decide) (fun _ _ _ _ _ => (tg_one 5 (hc.blk).nd)) (fun _ _ _ _ _ => pts_yes) (fun _ _ _ _ _ => pd_int))
  (pdb_cons (pds_for hc (pdi_zip rfl B.zip (pda_cons (pd_var 1) (pda_cons (pd_call (x := "kernel") hc h_kernel (by decide) rfl (pda_cons (pd_call (x := "part") hc h_part (by decide) rfl (pda_cons (pd_var 0) (pda_cons (pd_var 1) pda_nil))) pda_nil)) pda_nil))) (tg_many hc.calm (tgs_cons (tg_one 3 hc.nd) (tgs_cons (tg_one 4 hc.nd) tgs_nil))) (pdb_one (pds_asgG (pd_var 4) (g_sub (pg_sub (pd_var 2) (pd_var 3) set_list)) (subT_nx _ _ _))))
  (pdb_cons (pds_ghost (fzSlot_ok 2) (pds_if (t_lt (d_ix (pd_var 2) (d_ix (pd_var 1) pd_int)) pd_int) (pdb_one (pds_ret (pd_lc hc (pdi_seq (pd_var 2)) (blkOk_by (own := [("weight", 4)]) (by rfl)) (by decide) (fun _ _ _ _ _ => (tg_one 4 (hc.blk).nd)) (fun _ _ _ _ _ => pts_yes) (fun _ _ _ _ _ => (d_sub pd_int (pd_var 4)))))) pdb_nil))
  (pdb_one (pds_ret (pd_var 2))))))
theorem bd_weights_on : BindsTx "weights_on" s_weights_on p_weights_on := fun _ _ _ _ _ _ us hl => match us, hl with | [_, _], _ => rfl
theorem d_weights_on {P : Program} {w : World} {K : PySem.W.Frag} {T : List (Addr × Str)} {mg : Str → Option Value} {base : Heap} (B : Bt mg) (Tx : TxF K mg "weights_on" s_weights_on) (h_kernel : FnD P w K T mg base "kernel" 5 1 f_kernel) (h_part : FnD P w K T mg base "part" 1 2 f_part) : FnD P w K T mg base "weights_on" 6 2 f_weights_on := fnD_mk p_weights_on Tx rfl bd_weights_on fun a fd F => ok_weights_on B h_kernel h_part F

def t_weighing : (st : Stmt) ×' (top 14 = st) := by
  refine ⟨?s, ?h⟩
  case h => (conv => lhs; whnf)
def s_weighing : Stmt := t_weighing.1
abbrev N_weighing : List Str := ["table", "told", "things", "weights"]
abbrev p_weighing : List Str := ["table"]
theorem sc_weighing : FnScope N_weighing p_weighing (defScope s_weighing) := ⟨rfl, rfl, rfl, by decide +kernel, rfl, by decide +kernel, by decide +kernel⟩
def b_weighing : SemS := (seqS (setS (lstE nilA) (.one 1))
  (seqS (forS (itSeq (callF 1 f_odd_sets (consA (callB lenG (consA (vE 0) nilA)) nilA))) (.one 2) (ifS (testE (op2 eqG (vE 1) (lstE nilA))) (seqS (setS (callF 2 f_weights_on (consA (vE 0) (consA (vE 2) nilA))) (.one 3))
  (ifS (testE (callF 2 f_is_even (consA (vE 0) (consA (vE 3) nilA)))) (setS (callF 1 f_lowest (consA (vE 3) nilA)) (.one 1)) skipS)) skipS))
  (retS (vE 1))))
def f_weighing : FSem := fnOut 4 b_weighing
theorem ok_weighing {P : Program} {w : World} {K : PySem.W.Frag} {T : List (Addr × Str)} {mg : Str → Option Value} {base : Heap} (B : Bt mg) (h_odd_sets : FnD P w K T mg base "odd_sets" 1 1 f_odd_sets) (h_weights_on : FnD P w K T mg base "weights_on" 6 2 f_weights_on) (h_is_even : FnD P w K T mg base "is_even" 3 2 f_is_even) (h_lowest : FnD P w K T mg base "lowest" 2 1 f_lowest) {a : Addr} {fd : FuncData} (F : Fun K "weighing" "weighing" s_weighing a fd) : FnOk P w K mg base (L2.CX P w) 7 a fd p_weighing (spP K T 1 f_weighing) :=
  fnP (body := b_weighing) (n := 4) F sc_weighing rfl fun cdv A outer s H E hc => 
  (pdb_cons (pds_set 1 hc (pd_lst pda_nil))
  (pdb_cons (pds_for hc (pdi_seq (pd_call (x := "odd_sets") hc h_odd_sets (by decide) rfl (pda_cons (pd_callB (x := "len") call_len calld_len rfl B.len boot_len' (pda_cons (pd_var 0) pda_nil)) pda_nil))) (tg_one 2 hc.nd) (pdb_one (pds_if (t_eq hc (pd_var 1) (pd_lst pda_nil)) (pdb_cons (pds_set 3 hc (pd_call (x := "weights_on") hc h_weights_on (by decide) rfl (pda_cons (pd_var 0) (pda_cons (pd_var 2) pda_nil))))
  (pdb_one (pds_if (pt_of (pd_call (x := "is_even") hc h_is_even (by decide) rfl (pda_cons (pd_var 0) (pda_cons (pd_var 3) pda_nil)))) (pdb_one (pds_set 1 hc (pd_call (x := "lowest") hc h_lowest (by decide) rfl (pda_cons (pd_var 3) pda_nil)))) pdb_nil))) pdb_nil)))
  (pdb_one (pds_ret (pd_var 1)))))
theorem bd_weighing : BindsTx "weighing" s_weighing p_weighing := fun _ _ _ _ _ _ us hl => match us, hl with | [_], _ => rfl
theorem d_weighing {P : Program} {w : World} {K : PySem.W.Frag} {T : List (Addr × Str)} {mg : Str → Option Value} {base : Heap} (B : Bt mg) (Tx : TxF K mg "weighing" s_weighing) (h_odd_sets : FnD P w K T mg base "odd_sets" 1 1 f_odd_sets) (h_weights_on : FnD P w K T mg base "weights_on" 6 2 f_weights_on) (h_is_even : FnD P w K T mg base "is_even" 3 2 f_is_even) (h_lowest : FnD P w K T mg base "lowest" 2 1 f_lowest) : FnD P w K T mg base "weighing" 7 1 f_weighing := fnD_mk p_weighing Tx rfl bd_weighing fun a fd F => ok_weighing B h_odd_sets h_weights_on h_is_even h_lowest F

def t_reached : (st : Stmt) ×' (top 19 = st) := by
  refine ⟨?s, ?h⟩
  case h => (conv => lhs; whnf)
def s_reached : Stmt := t_reached.1
abbrev N_reached : List Str := ["table", "one", "met", "left", "here", "other"]
abbrev p_reached : List Str := ["table", "one"]
theorem sc_reached : FnScope N_reached p_reached (defScope s_reached) := ⟨rfl, rfl, rfl, by decide +kernel, rfl, by decide +kernel, by decide +kernel⟩
def b_reached : SemS := (seqS (setS (dispC [((vE 1), (retO (.bl true)))]) (.one 2))
  (seqS (setS (lstC (consA (vE 1) nilA)) (.one 3))
  (seqS (whileS (testE (op2 gtI (callB lenG (consA (vE 3) nilA)) (retO (.int 0)))) (seqS (setS (methL popG (vE 3) nilA) (.one 4))
  (forS (itRange1 (consA (callB lenG (consA (vE 0) nilA)) nilA)) (.one 5) (ifS (andT (testE (op2 ixG (op2 ixG (vE 0) (vE 4)) (vE 5))) (testE (op2 (dinG true) (vE 5) (vE 2)))) (seqS (putS (retO (.bl true)) (vE 2) (vE 5))
  (dropS (methL appendG (vE 3) (consA (vE 5) nilA)))) skipS))) 100000)
  (retS (callB (orC sortI sortP) (consA (callB listDG (consA (vE 2) nilA)) nilA))))))
def f_reached : FSem := fnOut 6 b_reached
theorem ok_reached {P : Program} {w : World} {K : PySem.W.Frag} {T : List (Addr × Str)} {mg : Str → Option Value} {base : Heap} (B : Bt mg) {a : Addr} {fd : FuncData} (F : Fun K "reached" "reached" s_reached a fd) : FnOk P w K mg base (L2.CX P w) 1 a fd p_reached (spP K T 2 f_reached) :=
  fnP (body := b_reached) (n := 6) F sc_reached rfl fun cdv A outer s H E hc => 
  (pdb_cons (pds_set 2 hc (pd_dispC (pdp_cons (pd_var 1) pd_bl pdp_nil)))
  (pdb_cons (pds_set 3 hc (pd_lstC (pda_cons (pd_var 1) pda_nil)))
  (pdb_cons (pds_while 100000 hc (t_gt (pd_callB (x := "len") call_len calld_len rfl B.len boot_len' (pda_cons (pd_var 3) pda_nil)) pd_int) (pdb_cons (pds_set 4 hc (pd_ml0 PySem.F.slot_list_pop PySem.F.type_list_pop mt_pop methd_pop (pd_var 3)))
  (pdb_one (pds_for hc (pdi_range1 rfl B.range (pda_cons (pd_callB (x := "len") call_len calld_len rfl B.len boot_len' (pda_cons (pd_var 0) pda_nil)) pda_nil)) (tg_one 5 hc.nd) (pdb_one (pds_if (pt_w (pw_and' (pt_of (d_ix (d_ix (pd_var 0) (pd_var 4)) (pd_var 5))) (pw_and1' (t_dnotIn hc (pd_var 5) (pd_var 2))))) (pdb_cons (pds_put hc pd_bl (pd_var 2) (pd_var 5))
  (pdb_one (pds_expr (pd_ml PySem.F.slot_list_append PySem.F.type_list_append mt_append methd_append (pd_var 3) (pda_cons (pd_var 5) pda_nil))))) pdb_nil))))))
  (pdb_one (pds_ret (pd_callB (x := "sorted") (CallR.or cr_sortedI cr_sortedPO) (calld_sortI.or calld_sortP) rfl B.sorted boot_sorted' (pda_cons (pd_callTy (x := "list") (cr_listDict hc.calm) calld_listD rfl B.list boot_list' (pda_cons (pd_var 2) pda_nil)) pda_nil)))))))
theorem bd_reached : BindsTx "reached" s_reached p_reached := fun _ _ _ _ _ _ us hl => match us, hl with | [_, _], _ => rfl
theorem d_reached {P : Program} {w : World} {K : PySem.W.Frag} {T : List (Addr × Str)} {mg : Str → Option Value} {base : Heap} (B : Bt mg) (Tx : TxF K mg "reached" s_reached) : FnD P w K T mg base "reached" 1 2 f_reached := fnD_mk p_reached Tx rfl bd_reached fun a fd F => ok_reached B F

def t_rings : (st : Stmt) ×' (top 20 = st) := by
  refine ⟨?s, ?h⟩
  case h => (conv => lhs; whnf)
def s_rings : Stmt := t_rings.1
abbrev N_rings : List Str := ["table", "many", "found", "size", "ring", "one"]
abbrev p_rings : List Str := ["table"]
theorem sc_rings : FnScope N_rings p_rings (defScope s_rings) := ⟨rfl, rfl, rfl, by decide +kernel, rfl, by decide +kernel, by decide +kernel⟩
def b_rings : SemS := (seqS (setS (lcE (itRange1 (consA (callB lenG (consA (vE 0) nilA)) nilA)) (.one 5) [5] yesT (callB lenG (consA (callF 2 f_reached (consA (vE 0) (consA (vE 5) nilA))) nilA))) (.one 1))
  (seqS (setS (lstC nilA) (.one 2))
  (seqS (forS (itRange3 (consA (callB lenG (consA (vE 0) nilA)) (consA (retO (.int 0)) (consA (op1 negG (retO (.int 1))) nilA)))) (.one 3) (seqS (setS (lcE (itRange1 (consA (callB lenG (consA (vE 0) nilA)) nilA)) (.one 5) [5] (testE (op2 eqG (op2 ixG (vE 1) (vE 5)) (vE 3))) (vE 5)) (.one 4))
  (ifS (testE (op2 gtI (callB lenG (consA (vE 4) nilA)) (retO (.int 0)))) (dropS (methL appendG (vE 2) (consA (vE 4) nilA))) skipS)))
  (retS (vE 2)))))
def f_rings : FSem := fnOut 6 b_rings
theorem ok_rings {P : Program} {w : World} {K : PySem.W.Frag} {T : List (Addr × Str)} {mg : Str → Option Value} {base : Heap} (B : Bt mg) (h_reached : FnD P w K T mg base "reached" 1 2 f_reached) {a : Addr} {fd : FuncData} (F : Fun K "rings" "rings" s_rings a fd) : FnOk P w K mg base (L2.CX P w) 2 a fd p_rings (spP K T 1 f_rings) :=
  fnP (body := b_rings) (n := 6) F sc_rings rfl fun cdv A outer s H E hc => 
  (pdb_cons (pds_set 1 hc (pd_lc hc (pdi_range1 rfl B.range (pda_cons (pd_callB (x := "len") call_len calld_len rfl B.len boot_len' (pda_cons (pd_var 0) pda_nil)) pda_nil)) (blkOk_by (own := [("one", 5)]) (by rfl)) (by decide) (fun _ _ _ _ _ => (tg_one 5 (hc.blk).nd)) (fun _ _ _ _ _ => pts_yes) (fun _ _ _ _ _ => (pd_callB (x := "len") call_len calld_len rfl B.len boot_len' (pda_cons (pd_call (x := "reached") (hc.blk) h_reached (by decide) rfl (pda_cons (pd_var 0) (pda_cons (pd_var 5) pda_nil))) pda_nil)))))
  (pdb_cons (pds_set 2 hc (pd_lstC pda_nil))
  (pdb_cons (pds_for hc (pdi_range3 rfl B.range (pda_cons (pd_callB (x := "len") call_len calld_len rfl B.len boot_len' (pda_cons (pd_var 0) pda_nil)) (pda_cons pd_int (pda_cons (d_neg pd_int) pda_nil)))) (tg_one 3 hc.nd) (pdb_cons (pds_lc 4 hc (sw_true rfl rfl rfl (by decide +kernel)) (pdi_range1 rfl B.range (pda_cons (pd_callB (x := "len") call_len calld_len rfl B.len boot_len' (pda_cons (pd_var 0) pda_nil)) pda_nil)) (blkOk_by (own := [("one", 5)]) (by rfl)) (by decide) (fun _ _ _ _ _ => (tg_one 5 (hc.blk).nd)) (fun _ _ _ _ _ => (pts_if (t_eq (hc.blk) (d_ix (pd_var 1) (pd_var 5)) (pd_var 3)))) (fun _ _ _ _ _ => (pd_var 5)))
  (pdb_one (pds_if (t_gt (pd_callB (x := "len") call_len calld_len rfl B.len boot_len' (pda_cons (pd_var 4) pda_nil)) pd_int) (pdb_one (pds_expr (pd_ml PySem.F.slot_list_append PySem.F.type_list_append mt_append methd_append (pd_var 2) (pda_cons (pd_var 4) pda_nil)))) pdb_nil))))
  (pdb_one (pds_ret (pd_var 2))))))
theorem bd_rings : BindsTx "rings" s_rings p_rings := fun _ _ _ _ _ _ us hl => match us, hl with | [_], _ => rfl
theorem d_rings {P : Program} {w : World} {K : PySem.W.Frag} {T : List (Addr × Str)} {mg : Str → Option Value} {base : Heap} (B : Bt mg) (Tx : TxF K mg "rings" s_rings) (h_reached : FnD P w K T mg base "reached" 1 2 f_reached) : FnD P w K T mg base "rings" 2 1 f_rings := fnD_mk p_rings Tx rfl bd_rings fun a fd F => ok_rings B h_reached F

def t_breaker : (st : Stmt) ×' (top 22 = st) := by
  refine ⟨?s, ?h⟩
  case h => (conv => lhs; whnf)
def s_breaker : Stmt := t_breaker.1
abbrev N_breaker : List Str := ["table", "things", "other", "beaten", "one"]
abbrev p_breaker : List Str := ["table", "things"]
theorem sc_breaker : FnScope N_breaker p_breaker (defScope s_breaker) := ⟨rfl, rfl, rfl, by decide +kernel, rfl, by decide +kernel, by decide +kernel⟩
def b_breaker : SemS := (seqS (forS (itRange1 (consA (callB lenG (consA (vE 0) nilA)) nilA)) (.one 2) (ifS (testE (op2 notInG (vE 2) (vE 1))) (seqS (setS (lcE (itSeq (vE 1)) (.one 4) [4] (testE (op2 ixG (op2 ixG (vE 0) (vE 2)) (vE 4))) (vE 4)) (.one 3))
  (ifS (testE (chainE ltI ltI (retO (.int 0)) (callB lenG (consA (vE 3) nilA)) (callB lenG (consA (vE 1) nilA)))) (retS (vE 2)) skipS)) skipS))
  (retS (op1 negG (retO (.int 1)))))
def f_breaker : FSem := fnOut 5 b_breaker
theorem ok_breaker {P : Program} {w : World} {K : PySem.W.Frag} {T : List (Addr × Str)} {mg : Str → Option Value} {base : Heap} (B : Bt mg) {a : Addr} {fd : FuncData} (F : Fun K "breaker" "breaker" s_breaker a fd) : FnOk P w K mg base (L2.CX P w) 1 a fd p_breaker (spP K T 2 f_breaker) :=
  fnP (body := b_breaker) (n := 5) F sc_breaker rfl fun cdv A outer s H E hc => 
  (pdb_cons (pds_for hc (pdi_range1 rfl B.range (pda_cons (pd_callB (x := "len") call_len calld_len rfl B.len boot_len' (pda_cons (pd_var 0) pda_nil)) pda_nil)) (tg_one 2 hc.nd) (pdb_one (pds_if (t_notIn hc (pd_var 2) (pd_var 1)) (pdb_cons (pds_lc 3 hc (sw_true rfl rfl rfl (by decide +kernel)) (pdi_seq (pd_var 1)) (blkOk_by (own := [("one", 4)]) (by rfl)) (by decide) (fun _ _ _ _ _ => (tg_one 4 (hc.blk).nd)) (fun _ _ _ _ _ => (pts_if (pt_of (d_ix (d_ix (pd_var 0) (pd_var 2)) (pd_var 4))))) (fun _ _ _ _ _ => (pd_var 4)))
  (pdb_one (pds_if (t_ltlt pd_int (pd_callB (x := "len") call_len calld_len rfl B.len boot_len' (pda_cons (pd_var 3) pda_nil)) (pd_callB (x := "len") call_len calld_len rfl B.len boot_len' (pda_cons (pd_var 1) pda_nil))) (pdb_one (pds_ret (pd_var 2))) pdb_nil))) pdb_nil)))
  (pdb_one (pds_ret (d_neg pd_int))))
theorem bd_breaker : BindsTx "breaker" s_breaker p_breaker := fun _ _ _ _ _ _ us hl => match us, hl with | [_, _], _ => rfl
theorem d_breaker {P : Program} {w : World} {K : PySem.W.Frag} {T : List (Addr × Str)} {mg : Str → Option Value} {base : Heap} (B : Bt mg) (Tx : TxF K mg "breaker" s_breaker) : FnD P w K T mg base "breaker" 1 2 f_breaker := fnD_mk p_breaker Tx rfl bd_breaker fun a fd F => ok_breaker B F

def t_stands_together : (st : Stmt) ×' (top 23 = st) := by
  refine ⟨?s, ?h⟩
  case h => (conv => lhs; whnf)
def s_stands_together : Stmt := t_stands_together.1
abbrev N_stands_together : List Str := ["table", "things"]
abbrev p_stands_together : List Str := ["table", "things"]
theorem sc_stands_together : FnScope N_stands_together p_stands_together (defScope s_stands_together) := ⟨rfl, rfl, rfl, by decide +kernel, rfl, by decide +kernel, by decide +kernel⟩
def b_stands_together : SemS := (retS (op2 ltI (callF 2 f_breaker (consA (vE 0) (consA (vE 1) nilA))) (retO (.int 0))))
def f_stands_together : FSem := fnOut 2 b_stands_together
theorem ok_stands_together {P : Program} {w : World} {K : PySem.W.Frag} {T : List (Addr × Str)} {mg : Str → Option Value} {base : Heap} (B : Bt mg) (h_breaker : FnD P w K T mg base "breaker" 1 2 f_breaker) {a : Addr} {fd : FuncData} (F : Fun K "stands_together" "stands_together" s_stands_together a fd) : FnOk P w K mg base (L2.CX P w) 2 a fd p_stands_together (spP K T 2 f_stands_together) :=
  fnP (body := b_stands_together) (n := 2) F sc_stands_together rfl fun cdv A outer s H E hc => 
  (pdb_one (pds_ret (d_lt (pd_call (x := "breaker") hc h_breaker (by decide) rfl (pda_cons (pd_var 0) (pda_cons (pd_var 1) pda_nil))) pd_int)))
theorem bd_stands_together : BindsTx "stands_together" s_stands_together p_stands_together := fun _ _ _ _ _ _ us hl => match us, hl with | [_, _], _ => rfl
theorem d_stands_together {P : Program} {w : World} {K : PySem.W.Frag} {T : List (Addr × Str)} {mg : Str → Option Value} {base : Heap} (B : Bt mg) (Tx : TxF K mg "stands_together" s_stands_together) (h_breaker : FnD P w K T mg base "breaker" 1 2 f_breaker) : FnD P w K T mg base "stands_together" 2 2 f_stands_together := fnD_mk p_stands_together Tx rfl bd_stands_together fun a fd F => ok_stands_together B h_breaker F

def t_closure : (st : Stmt) ×' (top 24 = st) := by
  refine ⟨?s, ?h⟩
  case h => (conv => lhs; whnf)
def s_closure : Stmt := t_closure.1
abbrev N_closure : List Str := ["table", "things", "found", "other"]
abbrev p_closure : List Str := ["table", "things"]
theorem sc_closure : FnScope N_closure p_closure (defScope s_closure) := ⟨rfl, rfl, rfl, by decide +kernel, rfl, by decide +kernel, by decide +kernel⟩
def b_closure : SemS := (seqS (setS (callB (orC sortI sortP) (consA (vE 1) nilA)) (.one 2))
  (seqS (setS (callF 2 f_breaker (consA (vE 0) (consA (vE 2) nilA))) (.one 3))
  (seqS (whileS (testE (op2 geI (vE 3) (retO (.int 0)))) (seqS (setS (callB (orC sortI sortP) (consA (op2 addG (vE 2) (lstE (consA (vE 3) nilA))) nilA)) (.one 2))
  (setS (callF 2 f_breaker (consA (vE 0) (consA (vE 2) nilA))) (.one 3))) 100000)
  (retS (vE 2)))))
def f_closure : FSem := fnOut 4 b_closure
theorem ok_closure {P : Program} {w : World} {K : PySem.W.Frag} {T : List (Addr × Str)} {mg : Str → Option Value} {base : Heap} (B : Bt mg) (h_breaker : FnD P w K T mg base "breaker" 1 2 f_breaker) {a : Addr} {fd : FuncData} (F : Fun K "closure" "closure" s_closure a fd) : FnOk P w K mg base (L2.CX P w) 2 a fd p_closure (spP K T 2 f_closure) :=
  fnP (body := b_closure) (n := 4) F sc_closure rfl fun cdv A outer s H E hc => 
  (pdb_cons (pds_set 2 hc (pd_callB (x := "sorted") (CallR.or cr_sortedI cr_sortedPO) (calld_sortI.or calld_sortP) rfl B.sorted boot_sorted' (pda_cons (pd_var 1) pda_nil)))
  (pdb_cons (pds_set 3 hc (pd_call (x := "breaker") hc h_breaker (by decide) rfl (pda_cons (pd_var 0) (pda_cons (pd_var 2) pda_nil))))
  (pdb_cons (pds_while 100000 hc (t_ge (pd_var 3) pd_int) (pdb_cons (pds_set 2 hc (pd_callB (x := "sorted") (CallR.or cr_sortedI cr_sortedPO) (calld_sortI.or calld_sortP) rfl B.sorted boot_sorted' (pda_cons (d_add (pd_var 2) (pd_lst (pda_cons (pd_var 3) pda_nil))) pda_nil)))
  (pdb_one (pds_set 3 hc (pd_call (x := "breaker") hc h_breaker (by decide) rfl (pda_cons (pd_var 0) (pda_cons (pd_var 2) pda_nil)))))))
  (pdb_one (pds_ret (pd_var 2))))))
theorem bd_closure : BindsTx "closure" s_closure p_closure := fun _ _ _ _ _ _ us hl => match us, hl with | [_, _], _ => rfl
theorem d_closure {P : Program} {w : World} {K : PySem.W.Frag} {T : List (Addr × Str)} {mg : Str → Option Value} {base : Heap} (B : Bt mg) (Tx : TxF K mg "closure" s_closure) (h_breaker : FnD P w K T mg base "breaker" 1 2 f_breaker) : FnD P w K T mg base "closure" 2 2 f_closure := fnD_mk p_closure Tx rfl bd_closure fun a fd F => ok_closure B h_breaker F

def t_together : (st : Stmt) ×' (top 25 = st) := by
  refine ⟨?s, ?h⟩
  case h => (conv => lhs; whnf)
def s_together : Stmt := t_together.1
abbrev N_together : List Str := ["table", "one", "other"]
abbrev p_together : List Str := ["table", "one", "other"]
theorem sc_together : FnScope N_together p_together (defScope s_together) := ⟨rfl, rfl, rfl, by decide +kernel, rfl, by decide +kernel, by decide +kernel⟩
def b_together : SemS := (retS (orE (op2 eqG (vE 1) (vE 2)) (op2 ltI (callB lenG (consA (callF 2 f_closure (consA (vE 0) (consA (lstE (consA (vE 1) (consA (vE 2) nilA))) nilA))) nilA)) (callB lenG (consA (vE 0) nilA)))))
def f_together : FSem := fnOut 3 b_together
theorem ok_together {P : Program} {w : World} {K : PySem.W.Frag} {T : List (Addr × Str)} {mg : Str → Option Value} {base : Heap} (B : Bt mg) (h_closure : FnD P w K T mg base "closure" 2 2 f_closure) {a : Addr} {fd : FuncData} (F : Fun K "together" "together" s_together a fd) : FnOk P w K mg base (L2.CX P w) 3 a fd p_together (spP K T 3 f_together) :=
  fnP (body := b_together) (n := 3) F sc_together rfl fun cdv A outer s H E hc => 
  (pdb_one (pds_ret (pd_or (d_eq hc (pd_var 1) (pd_var 2)) (pd_one (d_lt (pd_callB (x := "len") call_len calld_len rfl B.len boot_len' (pda_cons (pd_call (x := "closure") hc h_closure (by decide) rfl (pda_cons (pd_var 0) (pda_cons (pd_lst (pda_cons (pd_var 1) (pda_cons (pd_var 2) pda_nil))) pda_nil))) pda_nil)) (pd_callB (x := "len") call_len calld_len rfl B.len boot_len' (pda_cons (pd_var 0) pda_nil)))))))
theorem bd_together : BindsTx "together" s_together p_together := fun _ _ _ _ _ _ us hl => match us, hl with | [_, _, _], _ => rfl
theorem d_together {P : Program} {w : World} {K : PySem.W.Frag} {T : List (Addr × Str)} {mg : Str → Option Value} {base : Heap} (B : Bt mg) (Tx : TxF K mg "together" s_together) (h_closure : FnD P w K T mg base "closure" 2 2 f_closure) : FnD P w K T mg base "together" 3 3 f_together := fnD_mk p_together Tx rfl bd_together fun a fd F => ok_together B h_closure F

def t_parts : (st : Stmt) ×' (top 26 = st) := by
  refine ⟨?s, ?h⟩
  case h => (conv => lhs; whnf)
def s_parts : Stmt := t_parts.1
abbrev N_parts : List Str := ["table", "told", "found", "met", "one", "piece", "other"]
abbrev p_parts : List Str := ["table"]
theorem sc_parts : FnScope N_parts p_parts (defScope s_parts) := ⟨rfl, rfl, rfl, by decide +kernel, rfl, by decide +kernel, by decide +kernel⟩
def b_parts : SemS := (seqS (setS (callF 1 f_rings (consA (vE 0) nilA)) (.one 1))
  (seqS (ifS (orT (testE (op2 gtI (callB lenG (consA (vE 1) nilA)) (retO (.int 1)))) (testE (op2 eqG (callB lenG (consA (vE 0) nilA)) (retO (.int 1))))) (retS (vE 1)) skipS)
  (seqS (setS (lstC nilA) (.one 2))
  (seqS (setS (dnewC false) (.one 3))
  (seqS (forS (itRange1 (consA (callB lenG (consA (vE 0) nilA)) nilA)) (.one 4) (ifS (testE (op2 (dinG true) (vE 4) (vE 3))) (seqS (setS (lcE (itRange1 (consA (callB lenG (consA (vE 0) nilA)) nilA)) (.one 6) [6] (testE (callF 3 f_together (consA (vE 0) (consA (vE 4) (consA (vE 6) nilA))))) (vE 6)) (.one 5))
  (seqS (forS (itSeq (vE 5)) (.one 6) (putS (retO (.bl true)) (vE 3) (vE 6)))
  (dropS (methL appendG (vE 2) (consA (vE 5) nilA))))) skipS))
  (retS (vE 2)))))))
def f_parts : FSem := fnOut 7 b_parts
theorem ok_parts {P : Program} {w : World} {K : PySem.W.Frag} {T : List (Addr × Str)} {mg : Str → Option Value} {base : Heap} (B : Bt mg) (h_rings : FnD P w K T mg base "rings" 2 1 f_rings) (h_together : FnD P w K T mg base "together" 3 3 f_together) {a : Addr} {fd : FuncData} (F : Fun K "parts" "parts" s_parts a fd) : FnOk P w K mg base (L2.CX P w) 4 a fd p_parts (spP K T 1 f_parts) :=
  fnP (body := b_parts) (n := 7) F sc_parts rfl fun cdv A outer s H E hc => 
  (pdb_cons (pds_set 1 hc (pd_call (x := "rings") hc h_rings (by decide) rfl (pda_cons (pd_var 0) pda_nil)))
  (pdb_cons (pds_if (pt_w (pw_or' (t_gt (pd_callB (x := "len") call_len calld_len rfl B.len boot_len' (pda_cons (pd_var 1) pda_nil)) pd_int) (pw_or1' (t_eq hc (pd_callB (x := "len") call_len calld_len rfl B.len boot_len' (pda_cons (pd_var 0) pda_nil)) pd_int)))) (pdb_one (pds_ret (pd_var 1))) pdb_nil)
  (pdb_cons (pds_set 2 hc (pd_lstC pda_nil))
  (pdb_cons (pds_set 3 hc pd_dnewK)
  (pdb_cons (pds_for hc (pdi_range1 rfl B.range (pda_cons (pd_callB (x := "len") call_len calld_len rfl B.len boot_len' (pda_cons (pd_var 0) pda_nil)) pda_nil)) (tg_one 4 hc.nd) (pdb_one (pds_if (t_dnotIn hc (pd_var 4) (pd_var 3)) (pdb_cons (pds_lc 5 hc (sw_true rfl rfl rfl (by decide +kernel)) (pdi_range1 rfl B.range (pda_cons (pd_callB (x := "len") call_len calld_len rfl B.len boot_len' (pda_cons (pd_var 0) pda_nil)) pda_nil)) (blkOk_by (own := [("other", 6)]) (by rfl)) (by decide) (fun _ _ _ _ _ => (tg_one 6 (hc.blk).nd)) (fun _ _ _ _ _ => (pts_if (pt_of (pd_call (x := "together") (hc.blk) h_together (by decide) rfl (pda_cons (pd_var 0) (pda_cons (pd_var 4) (pda_cons (pd_var 6) pda_nil))))))) (fun _ _ _ _ _ => (pd_var 6)))
  (pdb_cons (pds_for hc (pdi_seq (pd_var 5)) (tg_one 6 hc.nd) (pdb_one (pds_put hc pd_bl (pd_var 3) (pd_var 6))))
  (pdb_one (pds_expr (pd_ml PySem.F.slot_list_append PySem.F.type_list_append mt_append methd_append (pd_var 2) (pda_cons (pd_var 5) pda_nil)))))) pdb_nil)))
  (pdb_one (pds_ret (pd_var 2))))))))
theorem bd_parts : BindsTx "parts" s_parts p_parts := fun _ _ _ _ _ _ us hl => match us, hl with | [_], _ => rfl
theorem d_parts {P : Program} {w : World} {K : PySem.W.Frag} {T : List (Addr × Str)} {mg : Str → Option Value} {base : Heap} (B : Bt mg) (Tx : TxF K mg "parts" s_parts) (h_rings : FnD P w K T mg base "rings" 2 1 f_rings) (h_together : FnD P w K T mg base "together" 3 3 f_together) : FnD P w K T mg base "parts" 4 1 f_parts := fnD_mk p_parts Tx rfl bd_parts fun a fd F => ok_parts B h_rings h_together F

def t_places_of : (st : Stmt) ×' (top 28 = st) := by
  refine ⟨?s, ?h⟩
  case h => (conv => lhs; whnf)
def s_places_of : Stmt := t_places_of.1
abbrev N_places_of : List Str := ["pieces", "many", "places", "k", "piece", "thing"]
abbrev p_places_of : List Str := ["pieces", "many"]
theorem sc_places_of : FnScope N_places_of p_places_of (defScope s_places_of) := ⟨rfl, rfl, rfl, by decide +kernel, rfl, by decide +kernel, by decide +kernel⟩
def b_places_of : SemS := (seqS (setS (lcC (itRange1 (consA (vE 1) nilA)) (.one 5) [5] yesT (op1 negG (retO (.int 1)))) (.one 2))
  (seqS (forS (itEnum (consA (vE 0) nilA)) (.many [3, 4]) (seqS (ifS (testE (op2 eqG (vE 4) (lstE nilA))) nevS skipS)
  (forS (itSeq (vE 4)) (.one 5) (seqS (ifS (orT (testE (op2 ltI (vE 5) (retO (.int 0)))) (orT (testE (op2 geI (vE 5) (vE 1))) (testE (op2 geI (op2 ixG (vE 2) (vE 5)) (retO (.int 0)))))) nevS skipS)
  (asgS (vE 3) (subT setL (vE 2) (vE 5)))))))
  (seqS (ifS (testE (op2 inG (op1 negG (retO (.int 1))) (vE 2))) nevS skipS)
  (retS (vE 2)))))
def f_places_of : FSem := fnOut 6 b_places_of
theorem ok_places_of {P : Program} {w : World} {K : PySem.W.Frag} {T : List (Addr × Str)} {mg : Str → Option Value} {base : Heap} (B : Bt mg) {a : Addr} {fd : FuncData} (F : Fun K "places_of" "places_of" s_places_of a fd) : FnOk P w K mg base (L2.CX P w) 1 a fd p_places_of (spP K T 2 f_places_of) :=
  fnP (body := b_places_of) (n := 6) F sc_places_of rfl fun cdv A outer s H E hc => 
  (pdb_cons (pds_lcC 2 hc (sw_true rfl rfl rfl (by decide +kernel)) (pdi_range1 rfl B.range (pda_cons (pd_var 1) pda_nil)) (blkOk_by (own := [("thing", 5)]) (by rfl)) (by decide) (fun _ _ _ _ _ => (tg_one 5 (hc.blk).nd)) (fun _ _ _ _ _ => pts_yes) (fun _ _ _ _ _ => (d_neg pd_int)))
  (pdb_cons (pds_for hc (pdi_enum rfl B.enumerate (pda_cons (pd_var 0) pda_nil)) (tg_many hc.calm (tgs_cons (tg_one 3 hc.nd) (tgs_cons (tg_one 4 hc.nd) tgs_nil))) (pdb_cons (pds_if (t_eq hc (pd_var 4) (pd_lst pda_nil)) (pdb_one pds_never) pdb_nil)
  (pdb_one (pds_for hc (pdi_seq (pd_var 4)) (tg_one 5 hc.nd) (pdb_cons (pds_if (pt_w (pw_or' (t_lt (pd_var 5) pd_int) (pw_or' (t_ge (pd_var 5) (pd_var 1)) (pw_or1' (t_ge (d_ix (pd_var 2) (pd_var 5)) pd_int))))) (pdb_one pds_never) pdb_nil)
  (pdb_one (pds_asgG (pd_var 3) (g_sub (pg_sub (pd_var 2) (pd_var 5) set_list)) (subT_nx _ _ _))))))))
  (pdb_cons (pds_if (t_in hc (d_neg pd_int) (pd_var 2)) (pdb_one pds_never) pdb_nil)
  (pdb_one (pds_ret (pd_var 2))))))
theorem bd_places_of : BindsTx "places_of" s_places_of p_places_of := fun _ _ _ _ _ _ us hl => match us, hl with | [_, _], _ => rfl
theorem d_places_of {P : Program} {w : World} {K : PySem.W.Frag} {T : List (Addr × Str)} {mg : Str → Option Value} {base : Heap} (B : Bt mg) (Tx : TxF K mg "places_of" s_places_of) : FnD P w K T mg base "places_of" 1 2 f_places_of := fnD_mk p_places_of Tx rfl bd_places_of fun a fd F => ok_places_of B F

def t_folded : (st : Stmt) ×' (top 29 = st) := by
  refine ⟨?s, ?h⟩
  case h => (conv => lhs; whnf)
def s_folded : Stmt := t_folded.1
abbrev N_folded : List Str := ["table", "pieces", "piece", "heads", "rows", "one", "other"]
abbrev p_folded : List Str := ["table", "pieces"]
theorem sc_folded : FnScope N_folded p_folded (defScope s_folded) := ⟨rfl, rfl, rfl, by decide +kernel, rfl, by decide +kernel, by decide +kernel⟩
def b_folded : SemS := (seqS (dropS (callF 2 f_places_of (consA (vE 1) (consA (callB lenG (consA (vE 0) nilA)) nilA))))
  (seqS (forS (itSeq (vE 1)) (.one 2) (ifS (notT (testE (callF 2 f_stands_together (consA (vE 0) (consA (vE 2) nilA))))) nevS skipS))
  (seqS (setS (lcE (itSeq (vE 1)) (.one 2) [2] yesT (op2 ixG (vE 2) (retO (.int 0)))) (.one 3))
  (seqS (setS (lstC nilA) (.one 4))
  (seqS (forS (itSeq (vE 3)) (.one 5) (dropS (methL appendG (vE 4) (consA (lcE (itSeq (vE 3)) (.one 6) [6] yesT (op2 ixG (op2 ixG (vE 0) (vE 5)) (vE 6))) nilA))))
  (retS (vE 4)))))))
def f_folded : FSem := fnOut 7 b_folded
theorem ok_folded {P : Program} {w : World} {K : PySem.W.Frag} {T : List (Addr × Str)} {mg : Str → Option Value} {base : Heap} (B : Bt mg) (h_places_of : FnD P w K T mg base "places_of" 1 2 f_places_of) (h_stands_together : FnD P w K T mg base "stands_together" 2 2 f_stands_together) {a : Addr} {fd : FuncData} (F : Fun K "folded" "folded" s_folded a fd) : FnOk P w K mg base (L2.CX P w) 3 a fd p_folded (spP K T 2 f_folded) :=
  fnP (body := b_folded) (n := 7) F sc_folded rfl fun cdv A outer s H E hc => 
  (pdb_cons (pds_expr (pd_call (x := "places_of") hc h_places_of (by decide) rfl (pda_cons (pd_var 1) (pda_cons (pd_callB (x := "len") call_len calld_len rfl B.len boot_len' (pda_cons (pd_var 0) pda_nil)) pda_nil))))
  (pdb_cons (pds_for hc (pdi_seq (pd_var 1)) (tg_one 2 hc.nd) (pdb_one (pds_if (pt_not' (pt_of (pd_call (x := "stands_together") hc h_stands_together (by decide) rfl (pda_cons (pd_var 0) (pda_cons (pd_var 2) pda_nil))))) (pdb_one pds_never) pdb_nil)))
  (pdb_cons (pds_lc 3 hc (sw_true rfl rfl rfl (by decide +kernel)) (pdi_seq (pd_var 1)) (blkOk_by (own := [("piece", 2)]) (by rfl)) (by decide) (fun _ _ _ _ _ => (tg_one 2 (hc.blk).nd)) (fun _ _ _ _ _ => pts_yes) (fun _ _ _ _ _ => (d_ix (pd_var 2) pd_int)))
  (pdb_cons (pds_set 4 hc (pd_lstC pda_nil))
  (pdb_cons (pds_for hc (pdi_seq (pd_var 3)) (tg_one 5 hc.nd) (pdb_one (pds_expr (pd_ml PySem.F.slot_list_append PySem.F.type_list_append mt_append methd_append (pd_var 4) (pda_cons (pd_lc hc (pdi_seq (pd_var 3)) (blkOk_by (own := [("other", 6)]) (by rfl)) (by decide) (fun _ _ _ _ _ => (tg_one 6 (hc.blk).nd)) (fun _ _ _ _ _ => pts_yes) (fun _ _ _ _ _ => (d_ix (d_ix (pd_var 0) (pd_var 5)) (pd_var 6)))) pda_nil)))))
  (pdb_one (pds_ret (pd_var 4))))))))
theorem bd_folded : BindsTx "folded" s_folded p_folded := fun _ _ _ _ _ _ us hl => match us, hl with | [_, _], _ => rfl
theorem d_folded {P : Program} {w : World} {K : PySem.W.Frag} {T : List (Addr × Str)} {mg : Str → Option Value} {base : Heap} (B : Bt mg) (Tx : TxF K mg "folded" s_folded) (h_places_of : FnD P w K T mg base "places_of" 1 2 f_places_of) (h_stands_together : FnD P w K T mg base "stands_together" 2 2 f_stands_together) : FnD P w K T mg base "folded" 3 2 f_folded := fnD_mk p_folded Tx rfl bd_folded fun a fd F => ok_folded B h_places_of h_stands_together F

def t__law_whole : (st : Stmt) ×' (top 31 = st) := by
  refine ⟨?s, ?h⟩
  case h => (conv => lhs; whnf)
def s__law_whole : Stmt := t__law_whole.1
abbrev N__law_whole : List Str := ["found"]
abbrev p__law_whole : List Str := ["found"]
theorem sc__law_whole : FnScope N__law_whole p__law_whole (defScope s__law_whole) := ⟨rfl, rfl, rfl, by decide +kernel, rfl, by decide +kernel, by decide +kernel⟩
def b__law_whole : SemS := (retS (andE (isiE .int (vE 0)) (notE (isiE .bool (vE 0)))))
def f__law_whole : FSem := fnOut 1 b__law_whole
theorem ok__law_whole {P : Program} {w : World} {K : PySem.W.Frag} {T : List (Addr × Str)} {mg : Str → Option Value} {base : Heap} (B : Bt mg) {a : Addr} {fd : FuncData} (F : Fun K "_law_whole" "_law_whole" s__law_whole a fd) : FnOk P w K mg base (L2.CX P w) 1 a fd p__law_whole (spP K T 1 f__law_whole) :=
  fnP (body := b__law_whole) (n := 1) F sc__law_whole rfl fun cdv A outer s H E hc => 
  (pdb_one (pds_ret (pd_and (pd_isi (x := "int") .int rfl B.isinstance rfl B.int boot_int' (pd_var 0)) (pd_one (pd_not (pd_isi (x := "bool") .bool rfl B.isinstance rfl B.bool boot_bool' (pd_var 0)))))))
theorem bd__law_whole : BindsTx "_law_whole" s__law_whole p__law_whole := fun _ _ _ _ _ _ us hl => match us, hl with | [_], _ => rfl
theorem d__law_whole {P : Program} {w : World} {K : PySem.W.Frag} {T : List (Addr × Str)} {mg : Str → Option Value} {base : Heap} (B : Bt mg) (Tx : TxF K mg "_law_whole" s__law_whole) : FnD P w K T mg base "_law_whole" 1 1 f__law_whole := fnD_mk p__law_whole Tx rfl bd__law_whole fun a fd F => ok__law_whole B F

def t__law_cell_at : (st : Stmt) ×' (top 32 = st) := by
  refine ⟨?s, ?h⟩
  case h => (conv => lhs; whnf)
def s__law_cell_at : Stmt := t__law_cell_at.1
abbrev N__law_cell_at : List Str := ["script", "k"]
abbrev p__law_cell_at : List Str := ["script", "k"]
theorem sc__law_cell_at : FnScope N__law_cell_at p__law_cell_at (defScope s__law_cell_at) := ⟨rfl, rfl, rfl, by decide +kernel, rfl, by decide +kernel, by decide +kernel⟩
def b__law_cell_at : SemS := (seqS (ifS (testE (op2 ltI (vE 1) (callB lenG (consA (vE 0) nilA)))) (retS (op2 ixG (vE 0) (vE 1))) skipS)
  (retS (retO (.int 0))))
def f__law_cell_at : FSem := fnOut 2 b__law_cell_at
theorem ok__law_cell_at {P : Program} {w : World} {K : PySem.W.Frag} {T : List (Addr × Str)} {mg : Str → Option Value} {base : Heap} (B : Bt mg) {a : Addr} {fd : FuncData} (F : Fun K "_law_cell_at" "_law_cell_at" s__law_cell_at a fd) : FnOk P w K mg base (L2.CX P w) 1 a fd p__law_cell_at (spP K T 2 f__law_cell_at) :=
  fnP (body := b__law_cell_at) (n := 2) F sc__law_cell_at rfl fun cdv A outer s H E hc => 
  (pdb_cons (pds_if (t_lt (pd_var 1) (pd_callB (x := "len") call_len calld_len rfl B.len boot_len' (pda_cons (pd_var 0) pda_nil))) (pdb_one (pds_ret (d_ix (pd_var 0) (pd_var 1)))) pdb_nil)
  (pdb_one (pds_ret pd_int)))
theorem bd__law_cell_at : BindsTx "_law_cell_at" s__law_cell_at p__law_cell_at := fun _ _ _ _ _ _ us hl => match us, hl with | [_, _], _ => rfl
theorem d__law_cell_at {P : Program} {w : World} {K : PySem.W.Frag} {T : List (Addr × Str)} {mg : Str → Option Value} {base : Heap} (B : Bt mg) (Tx : TxF K mg "_law_cell_at" s__law_cell_at) : FnD P w K T mg base "_law_cell_at" 1 2 f__law_cell_at := fnD_mk p__law_cell_at Tx rfl bd__law_cell_at fun a fd F => ok__law_cell_at B F

def t__law_table_by : (st : Stmt) ×' (top 33 = st) := by
  refine ⟨?s, ?h⟩
  case h => (conv => lhs; whnf)
def s__law_table_by : Stmt := t__law_table_by.1
abbrev N__law_table_by : List Str := ["cell", "many", "rows", "rest", "one", "other", "k"]
abbrev p__law_table_by : List Str := ["cell", "many"]
theorem sc__law_table_by : FnScope N__law_table_by p__law_table_by (defScope s__law_table_by) := ⟨rfl, rfl, rfl, by decide +kernel, rfl, by decide +kernel, by decide +kernel⟩
def b__law_table_by : SemS := (seqS (setS (lcC (itRange1 (consA (vE 1) nilA)) (.one 6) [6] yesT (op2 mulGC (lstE (consA (retO (.bl false)) nilA)) (vE 1))) (.one 2))
  (seqS (setS (op2 modI (op2 mulG (vE 0) (retO (.int 48271))) (retO (.int 2147483647))) (.one 3))
  (seqS (forS (itRange1 (consA (vE 1) nilA)) (.one 4) (forS (itRange2 (consA (op2 addG (vE 4) (retO (.int 1))) (consA (vE 1) nilA))) (.one 5) (seqS (asgS (op2 eqG (op2 modI (vE 3) (retO (.int 2))) (retO (.int 0))) (subT setL (op2 ixG (vE 2) (vE 4)) (vE 5)))
  (seqS (asgS (op2 eqG (op2 modI (vE 3) (retO (.int 2))) (retO (.int 1))) (subT setL (op2 ixG (vE 2) (vE 5)) (vE 4)))
  (setS (op2 fdivI (vE 3) (retO (.int 2))) (.one 3))))))
  (retS (vE 2)))))
def f__law_table_by : FSem := fnOut 7 b__law_table_by
theorem ok__law_table_by {P : Program} {w : World} {K : PySem.W.Frag} {T : List (Addr × Str)} {mg : Str → Option Value} {base : Heap} (B : Bt mg) {a : Addr} {fd : FuncData} (F : Fun K "_law_table_by" "_law_table_by" s__law_table_by a fd) : FnOk P w K mg base (L2.CX P w) 1 a fd p__law_table_by (spP K T 2 f__law_table_by) :=
  fnP (body := b__law_table_by) (n := 7) F sc__law_table_by rfl fun cdv A outer s H E hc => 
  (pdb_cons (pds_lcC 2 hc (sw_true rfl rfl rfl (by decide +kernel)) (pdi_range1 rfl B.range (pda_cons (pd_var 1) pda_nil)) (blkOk_by (own := [("k", 6)]) (by rfl)) (by decide) (fun _ _ _ _ _ => (tg_one 6 (hc.blk).nd)) (fun _ _ _ _ _ => pts_yes) (fun _ _ _ _ _ => (d_mulC (pd_lst (pda_cons pd_bl pda_nil)) (pd_var 1))))
  (pdb_cons (pds_set 3 hc (d_mod (d_mul (pd_var 0) pd_int) pd_int))
  (pdb_cons (pds_for hc (pdi_range1 rfl B.range (pda_cons (pd_var 1) pda_nil)) (tg_one 4 hc.nd) (pdb_one (pds_for hc (pdi_range2 rfl B.range (pda_cons (d_add (pd_var 4) pd_int) (pda_cons (pd_var 1) pda_nil))) (tg_one 5 hc.nd) (pdb_cons (pds_asgG (d_eq hc (d_mod (pd_var 3) pd_int) pd_int) (g_sub (pg_sub (d_ix (pd_var 2) (pd_var 4)) (pd_var 5) set_list)) (subT_nx _ _ _))
  (pdb_cons (pds_asgG (d_eq hc (d_mod (pd_var 3) pd_int) pd_int) (g_sub (pg_sub (d_ix (pd_var 2) (pd_var 5)) (pd_var 4) set_list)) (subT_nx _ _ _))
  (pdb_one (pds_set 3 hc (d_fdiv (pd_var 3) pd_int))))))))
  (pdb_one (pds_ret (pd_var 2))))))
theorem bd__law_table_by : BindsTx "_law_table_by" s__law_table_by p__law_table_by := fun _ _ _ _ _ _ us hl => match us, hl with | [_, _], _ => rfl
theorem d__law_table_by {P : Program} {w : World} {K : PySem.W.Frag} {T : List (Addr × Str)} {mg : Str → Option Value} {base : Heap} (B : Bt mg) (Tx : TxF K mg "_law_table_by" s__law_table_by) : FnD P w K T mg base "_law_table_by" 1 2 f__law_table_by := fnD_mk p__law_table_by Tx rfl bd__law_table_by fun a fd F => ok__law_table_by B F

def t__law_mixed : (st : Stmt) ×' (top 34 = st) := by
  refine ⟨?s, ?h⟩
  case h => (conv => lhs; whnf)
def s__law_mixed : Stmt := t__law_mixed.1
abbrev N__law_mixed : List Str := ["script", "many", "outer", "inner", "homes", "k", "cell", "most", "size", "at", "turn"]
abbrev p__law_mixed : List Str := ["script"]
theorem sc__law_mixed : FnScope N__law_mixed p__law_mixed (defScope s__law_mixed) := ⟨rfl, rfl, rfl, by decide +kernel, rfl, by decide +kernel, by decide +kernel⟩
def b__law_mixed : SemS := (seqS (setS (op2 addG (retO (.int 1)) (op2 modI (callF 2 f__law_cell_at (consA (vE 0) (consA (retO (.int 0)) nilA))) (retO (.int 4)))) (.one 1))
  (seqS (ifS (testE (op2 eqG (op2 modI (op2 fdivI (callF 2 f__law_cell_at (consA (vE 0) (consA (retO (.int 0)) nilA))) (retO (.int 4))) (retO (.int 4))) (retO (.int 1)))) (setS (op2 addG (vE 1) (retO (.int 4))) (.one 1)) skipS)
  (seqS (setS (callF 2 f__law_table_by (consA (callF 2 f__law_cell_at (consA (vE 0) (consA (retO (.int 1)) nilA))) (consA (vE 1) nilA))) (.one 2))
  (seqS (setS (lstC nilA) (.one 3))
  (seqS (setS (lstC nilA) (.one 4))
  (seqS (forS (itRange1 (consA (callB lenG (consA (vE 2) nilA)) nilA)) (.one 5) (seqS (setS (callF 2 f__law_cell_at (consA (vE 0) (consA (op2 addG (retO (.int 2)) (vE 5)) nilA))) (.one 6))
  (seqS (setS (op2 addG (op2 subI (op2 subI (retO (.int 9)) (callB lenG (consA (vE 4) nilA))) (callB lenG (consA (vE 2) nilA))) (vE 5)) (.one 7))
  (seqS (setS (op2 ixG (lstE (consA (retO (.int 1)) (consA (callB min2G (consA (retO (.int 3)) (consA (vE 7) nilA))) (consA (op2 addG (retO (.int 1)) (op2 modI (op2 fdivI (vE 6) (retO (.int 4))) (vE 7))) nilA)))) (callB min2G (consA (op2 modI (vE 6) (retO (.int 4))) (consA (retO (.int 2)) nilA)))) (.one 8))
  (seqS (dropS (methL appendG (vE 3) (consA (callF 2 f__law_table_by (consA (op2 fdivI (vE 6) (retO (.int 32))) (consA (vE 8) nilA))) nilA)))
  (forS (itRange1 (consA (vE 8) nilA)) (.one 9) (seqS (setS (op2 modI (callF 2 f__law_cell_at (consA (vE 0) (consA (op2 addG (retO (.int 6)) (callB lenG (consA (vE 4) nilA))) nilA))) (op2 addG (callB lenG (consA (vE 4) nilA)) (retO (.int 1)))) (.one 10))
  (dropS (methL insertG (vE 4) (consA (vE 10) (consA (tupE (consA (vE 5) (consA (vE 9) nilA))) nilA)))))))))))
  (retS (lstE (consA (vE 2) (consA (vE 3) (consA (vE 4) nilA)))))))))))
def f__law_mixed : FSem := fnOut 11 b__law_mixed
theorem ok__law_mixed {P : Program} {w : World} {K : PySem.W.Frag} {T : List (Addr × Str)} {mg : Str → Option Value} {base : Heap} (B : Bt mg) (h__law_table_by : FnD P w K T mg base "_law_table_by" 1 2 f__law_table_by) (h__law_cell_at : FnD P w K T mg base "_law_cell_at" 1 2 f__law_cell_at) {a : Addr} {fd : FuncData} (F : Fun K "_law_mixed" "_law_mixed" s__law_mixed a fd) : FnOk P w K mg base (L2.CX P w) 2 a fd p__law_mixed (spP K T 1 f__law_mixed) :=
  fnP (body := b__law_mixed) (n := 11) F sc__law_mixed rfl fun cdv A outer s H E hc => 
  (pdb_cons (pds_set 1 hc (d_add pd_int (d_mod (pd_call (x := "_law_cell_at") hc h__law_cell_at (by decide) rfl (pda_cons (pd_var 0) (pda_cons pd_int pda_nil))) pd_int)))
  (pdb_cons (pds_if (t_eq hc (d_mod (d_fdiv (pd_call (x := "_law_cell_at") hc h__law_cell_at (by decide) rfl (pda_cons (pd_var 0) (pda_cons pd_int pda_nil))) pd_int) pd_int) pd_int) (pdb_one (pds_set 1 hc (d_add (pd_var 1) pd_int))) pdb_nil)
  (pdb_cons (pds_set 2 hc (pd_call (x := "_law_table_by") hc h__law_table_by (by decide) rfl (pda_cons (pd_call (x := "_law_cell_at") hc h__law_cell_at (by decide) rfl (pda_cons (pd_var 0) (pda_cons pd_int pda_nil))) (pda_cons (pd_var 1) pda_nil))))
  (pdb_cons (pds_set 3 hc (pd_lstC pda_nil))
  (pdb_cons (pds_set 4 hc (pd_lstC pda_nil))
  (pdb_cons (pds_for hc (pdi_range1 rfl B.range (pda_cons (pd_callB (x := "len") call_len calld_len rfl B.len boot_len' (pda_cons (pd_var 2) pda_nil)) pda_nil)) (tg_one 5 hc.nd) (pdb_cons (pds_set 6 hc (pd_call (x := "_law_cell_at") hc h__law_cell_at (by decide) rfl (pda_cons (pd_var 0) (pda_cons (d_add pd_int (pd_var 5)) pda_nil))))
  (pdb_cons (pds_set 7 hc (d_add (d_sub (d_sub pd_int (pd_callB (x := "len") call_len calld_len rfl B.len boot_len' (pda_cons (pd_var 4) pda_nil))) (pd_callB (x := "len") call_len calld_len rfl B.len boot_len' (pda_cons (pd_var 2) pda_nil))) (pd_var 5)))
  (pdb_cons (pds_set 8 hc (d_ix (pd_lst (pda_cons pd_int (pda_cons (pd_callB (x := "min") (call_min2 hc.calm) calld_min2 rfl B.min boot_min' (pda_cons pd_int (pda_cons (pd_var 7) pda_nil))) (pda_cons (d_add pd_int (d_mod (d_fdiv (pd_var 6) pd_int) (pd_var 7))) pda_nil)))) (pd_callB (x := "min") (call_min2 hc.calm) calld_min2 rfl B.min boot_min' (pda_cons (d_mod (pd_var 6) pd_int) (pda_cons pd_int pda_nil)))))
  (pdb_cons (pds_expr (pd_ml PySem.F.slot_list_append PySem.F.type_list_append mt_append methd_append (pd_var 3) (pda_cons (pd_call (x := "_law_table_by") hc h__law_table_by (by decide) rfl (pda_cons (d_fdiv (pd_var 6) pd_int) (pda_cons (pd_var 8) pda_nil))) pda_nil)))
  (pdb_one (pds_for hc (pdi_range1 rfl B.range (pda_cons (pd_var 8) pda_nil)) (tg_one 9 hc.nd) (pdb_cons (pds_set 10 hc (d_mod (pd_call (x := "_law_cell_at") hc h__law_cell_at (by decide) rfl (pda_cons (pd_var 0) (pda_cons (d_add pd_int (pd_callB (x := "len") call_len calld_len rfl B.len boot_len' (pda_cons (pd_var 4) pda_nil))) pda_nil))) (d_add (pd_callB (x := "len") call_len calld_len rfl B.len boot_len' (pda_cons (pd_var 4) pda_nil)) pd_int)))
  (pdb_one (pds_expr (pd_ml PySem.F.slot_list_insert PySem.F.type_list_insert mt_insert methd_insert (pd_var 4) (pda_cons (pd_var 10) (pda_cons (pd_tup (pda_cons (pd_var 5) (pda_cons (pd_var 9) pda_nil))) pda_nil)))))))))))))
  (pdb_one (pds_ret (pd_lst (pda_cons (pd_var 2) (pda_cons (pd_var 3) (pda_cons (pd_var 4) pda_nil))))))))))))
theorem bd__law_mixed : BindsTx "_law_mixed" s__law_mixed p__law_mixed := fun _ _ _ _ _ _ us hl => match us, hl with | [_], _ => rfl
theorem d__law_mixed {P : Program} {w : World} {K : PySem.W.Frag} {T : List (Addr × Str)} {mg : Str → Option Value} {base : Heap} (B : Bt mg) (Tx : TxF K mg "_law_mixed" s__law_mixed) (h__law_table_by : FnD P w K T mg base "_law_table_by" 1 2 f__law_table_by) (h__law_cell_at : FnD P w K T mg base "_law_cell_at" 1 2 f__law_cell_at) : FnD P w K T mg base "_law_mixed" 2 1 f__law_mixed := fnD_mk p__law_mixed Tx rfl bd__law_mixed fun a fd F => ok__law_mixed B h__law_table_by h__law_cell_at F

def t__law_beats : (st : Stmt) ×' (top 35 = st) := by
  refine ⟨?s, ?h⟩
  case h => (conv => lhs; whnf)
def s__law_beats : Stmt := t__law_beats.1
abbrev N__law_beats : List Str := ["mixed", "one", "other"]
abbrev p__law_beats : List Str := ["mixed", "one", "other"]
theorem sc__law_beats : FnScope N__law_beats p__law_beats (defScope s__law_beats) := ⟨rfl, rfl, rfl, by decide +kernel, rfl, by decide +kernel, by decide +kernel⟩
def b__law_beats : SemS := (seqS (ifS (testE (op2 eqG (op2 ixG (vE 1) (retO (.int 0))) (op2 ixG (vE 2) (retO (.int 0))))) (retS (op2 ixG (op2 ixG (op2 ixG (op2 ixG (vE 0) (retO (.int 1))) (op2 ixG (vE 1) (retO (.int 0)))) (op2 ixG (vE 1) (retO (.int 1)))) (op2 ixG (vE 2) (retO (.int 1))))) skipS)
  (retS (op2 ixG (op2 ixG (op2 ixG (vE 0) (retO (.int 0))) (op2 ixG (vE 1) (retO (.int 0)))) (op2 ixG (vE 2) (retO (.int 0))))))
def f__law_beats : FSem := fnOut 3 b__law_beats
theorem ok__law_beats {P : Program} {w : World} {K : PySem.W.Frag} {T : List (Addr × Str)} {mg : Str → Option Value} {base : Heap} (B : Bt mg) {a : Addr} {fd : FuncData} (F : Fun K "_law_beats" "_law_beats" s__law_beats a fd) : FnOk P w K mg base (L2.CX P w) 1 a fd p__law_beats (spP K T 3 f__law_beats) :=
  fnP (body := b__law_beats) (n := 3) F sc__law_beats rfl fun cdv A outer s H E hc => 
  (pdb_cons (pds_if (t_eq hc (d_ix (pd_var 1) pd_int) (d_ix (pd_var 2) pd_int)) (pdb_one (pds_ret (d_ix (d_ix (d_ix (d_ix (pd_var 0) pd_int) (d_ix (pd_var 1) pd_int)) (d_ix (pd_var 1) pd_int)) (d_ix (pd_var 2) pd_int)))) pdb_nil)
  (pdb_one (pds_ret (d_ix (d_ix (d_ix (pd_var 0) pd_int) (d_ix (pd_var 1) pd_int)) (d_ix (pd_var 2) pd_int)))))
theorem bd__law_beats : BindsTx "_law_beats" s__law_beats p__law_beats := fun _ _ _ _ _ _ us hl => match us, hl with | [_, _, _], _ => rfl
theorem d__law_beats {P : Program} {w : World} {K : PySem.W.Frag} {T : List (Addr × Str)} {mg : Str → Option Value} {base : Heap} (B : Bt mg) (Tx : TxF K mg "_law_beats" s__law_beats) : FnD P w K T mg base "_law_beats" 1 3 f__law_beats := fnD_mk p__law_beats Tx rfl bd__law_beats fun a fd F => ok__law_beats B F

def t__law_table : (st : Stmt) ×' (top 36 = st) := by
  refine ⟨?s, ?h⟩
  case h => (conv => lhs; whnf)
def s__law_table : Stmt := t__law_table.1
abbrev N__law_table : List Str := ["mixed", "rows", "one", "other"]
abbrev p__law_table : List Str := ["mixed"]
theorem sc__law_table : FnScope N__law_table p__law_table (defScope s__law_table) := ⟨rfl, rfl, rfl, by decide +kernel, rfl, by decide +kernel, by decide +kernel⟩
def b__law_table : SemS := (seqS (setS (lstC nilA) (.one 1))
  (seqS (forS (itSeq (op2 ixG (vE 0) (retO (.int 2)))) (.one 2) (dropS (methL appendG (vE 1) (consA (lcE (itSeq (op2 ixG (vE 0) (retO (.int 2)))) (.one 3) [3] yesT (callF 3 f__law_beats (consA (vE 0) (consA (vE 2) (consA (vE 3) nilA))))) nilA))))
  (retS (vE 1))))
def f__law_table : FSem := fnOut 4 b__law_table
theorem ok__law_table {P : Program} {w : World} {K : PySem.W.Frag} {T : List (Addr × Str)} {mg : Str → Option Value} {base : Heap} (B : Bt mg) (h__law_beats : FnD P w K T mg base "_law_beats" 1 3 f__law_beats) {a : Addr} {fd : FuncData} (F : Fun K "_law_table" "_law_table" s__law_table a fd) : FnOk P w K mg base (L2.CX P w) 2 a fd p__law_table (spP K T 1 f__law_table) :=
  fnP (body := b__law_table) (n := 4) F sc__law_table rfl fun cdv A outer s H E hc => 
  (pdb_cons (pds_set 1 hc (pd_lstC pda_nil))
  (pdb_cons (pds_for hc (pdi_seq (d_ix (pd_var 0) pd_int)) (tg_one 2 hc.nd) (pdb_one (pds_expr (pd_ml PySem.F.slot_list_append PySem.F.type_list_append mt_append methd_append (pd_var 1) (pda_cons (pd_lc hc (pdi_seq (d_ix (pd_var 0) pd_int)) (blkOk_by (own := [("other", 3)]) (by rfl)) (by decide) (fun _ _ _ _ _ => (tg_one 3 (hc.blk).nd)) (fun _ _ _ _ _ => pts_yes) (fun _ _ _ _ _ => (pd_call (x := "_law_beats") (hc.blk) h__law_beats (by decide) rfl (pda_cons (pd_var 0) (pda_cons (pd_var 2) (pda_cons (pd_var 3) pda_nil)))))) pda_nil)))))
  (pdb_one (pds_ret (pd_var 1)))))
theorem bd__law_table : BindsTx "_law_table" s__law_table p__law_table := fun _ _ _ _ _ _ us hl => match us, hl with | [_], _ => rfl
theorem d__law_table {P : Program} {w : World} {K : PySem.W.Frag} {T : List (Addr × Str)} {mg : Str → Option Value} {base : Heap} (B : Bt mg) (Tx : TxF K mg "_law_table" s__law_table) (h__law_beats : FnD P w K T mg base "_law_beats" 1 3 f__law_beats) : FnD P w K T mg base "_law_table" 2 1 f__law_table := fnD_mk p__law_table Tx rfl bd__law_table fun a fd F => ok__law_table B h__law_beats F

def t__law_pieces : (st : Stmt) ×' (top 37 = st) := by
  refine ⟨?s, ?h⟩
  case h => (conv => lhs; whnf)
def s__law_pieces : Stmt := t__law_pieces.1
abbrev N__law_pieces : List Str := ["mixed", "pieces", "k", "thing"]
abbrev p__law_pieces : List Str := ["mixed"]
theorem sc__law_pieces : FnScope N__law_pieces p__law_pieces (defScope s__law_pieces) := ⟨rfl, rfl, rfl, by decide +kernel, rfl, by decide +kernel, by decide +kernel⟩
def b__law_pieces : SemS := (seqS (setS (lstC nilA) (.one 1))
  (seqS (forS (itRange1 (consA (callB lenG (consA (op2 ixG (vE 0) (retO (.int 0))) nilA)) nilA)) (.one 2) (dropS (methL appendG (vE 1) (consA (lcE (itRange1 (consA (callB lenG (consA (op2 ixG (vE 0) (retO (.int 2))) nilA)) nilA)) (.one 3) [3] (testE (op2 eqG (op2 ixG (op2 ixG (op2 ixG (vE 0) (retO (.int 2))) (vE 3)) (retO (.int 0))) (vE 2))) (vE 3)) nilA))))
  (retS (vE 1))))
def f__law_pieces : FSem := fnOut 4 b__law_pieces
theorem ok__law_pieces {P : Program} {w : World} {K : PySem.W.Frag} {T : List (Addr × Str)} {mg : Str → Option Value} {base : Heap} (B : Bt mg) {a : Addr} {fd : FuncData} (F : Fun K "_law_pieces" "_law_pieces" s__law_pieces a fd) : FnOk P w K mg base (L2.CX P w) 1 a fd p__law_pieces (spP K T 1 f__law_pieces) :=
  fnP (body := b__law_pieces) (n := 4) F sc__law_pieces rfl fun cdv A outer s H E hc => 
  (pdb_cons (pds_set 1 hc (pd_lstC pda_nil))
  (pdb_cons (pds_for hc (pdi_range1 rfl B.range (pda_cons (pd_callB (x := "len") call_len calld_len rfl B.len boot_len' (pda_cons (d_ix (pd_var 0) pd_int) pda_nil)) pda_nil)) (tg_one 2 hc.nd) (pdb_one (pds_expr (pd_ml PySem.F.slot_list_append PySem.F.type_list_append mt_append methd_append (pd_var 1) (pda_cons (pd_lc hc (pdi_range1 rfl B.range (pda_cons (pd_callB (x := "len") call_len calld_len rfl B.len boot_len' (pda_cons (d_ix (pd_var 0) pd_int) pda_nil)) pda_nil)) (blkOk_by (own := [("thing", 3)]) (by rfl)) (by decide) (fun _ _ _ _ _ => (tg_one 3 (hc.blk).nd)) (fun _ _ _ _ _ => (pts_if (t_eq (hc.blk) (d_ix (d_ix (d_ix (pd_var 0) pd_int) (pd_var 3)) pd_int) (pd_var 2)))) (fun _ _ _ _ _ => (pd_var 3))) pda_nil)))))
  (pdb_one (pds_ret (pd_var 1)))))
theorem bd__law_pieces : BindsTx "_law_pieces" s__law_pieces p__law_pieces := fun _ _ _ _ _ _ us hl => match us, hl with | [_], _ => rfl
theorem d__law_pieces {P : Program} {w : World} {K : PySem.W.Frag} {T : List (Addr × Str)} {mg : Str → Option Value} {base : Heap} (B : Bt mg) (Tx : TxF K mg "_law_pieces" s__law_pieces) : FnD P w K T mg base "_law_pieces" 1 1 f__law_pieces := fnD_mk p__law_pieces Tx rfl bd__law_pieces fun a fd F => ok__law_pieces B F

def t__law_part : (st : Stmt) ×' (top 38 = st) := by
  refine ⟨?s, ?h⟩
  case h => (conv => lhs; whnf)
def s__law_part : Stmt := t__law_part.1
abbrev N__law_part : List Str := ["table", "things", "one", "other"]
abbrev p__law_part : List Str := ["table", "things"]
theorem sc__law_part : FnScope N__law_part p__law_part (defScope s__law_part) := ⟨rfl, rfl, rfl, by decide +kernel, rfl, by decide +kernel, by decide +kernel⟩
def b__law_part : SemS := (retS (lcE (itSeq (vE 1)) (.one 2) [2] yesT (lcE (itSeq (vE 1)) (.one 3) [3] yesT (op2 ixG (op2 ixG (vE 0) (vE 2)) (vE 3)))))
def f__law_part : FSem := fnOut 4 b__law_part
theorem ok__law_part {P : Program} {w : World} {K : PySem.W.Frag} {T : List (Addr × Str)} {mg : Str → Option Value} {base : Heap} (B : Bt mg) {a : Addr} {fd : FuncData} (F : Fun K "_law_part" "_law_part" s__law_part a fd) : FnOk P w K mg base (L2.CX P w) 1 a fd p__law_part (spP K T 2 f__law_part) :=
  fnP (body := b__law_part) (n := 4) F sc__law_part rfl fun cdv A outer s H E hc => 
  (pdb_one (pds_ret (pd_lc hc (pdi_seq (pd_var 1)) (blkOk_by (own := [("one", 2)]) (by rfl)) (by decide) (fun _ _ _ _ _ => (tg_one 2 (hc.blk).nd)) (fun _ _ _ _ _ => pts_yes) (fun _ _ _ _ _ => (pd_lc (hc.blk) (pdi_seq (pd_var 1)) (blkOk_by (own := [("other", 3)]) (by rfl)) (by decide) (fun _ _ _ _ _ => (tg_one 3 ((hc.blk).blk).nd)) (fun _ _ _ _ _ => pts_yes) (fun _ _ _ _ _ => (d_ix (d_ix (pd_var 0) (pd_var 2)) (pd_var 3))))))))
theorem bd__law_part : BindsTx "_law_part" s__law_part p__law_part := fun _ _ _ _ _ _ us hl => match us, hl with | [_, _], _ => rfl
theorem d__law_part {P : Program} {w : World} {K : PySem.W.Frag} {T : List (Addr × Str)} {mg : Str → Option Value} {base : Heap} (B : Bt mg) (Tx : TxF K mg "_law_part" s__law_part) : FnD P w K T mg base "_law_part" 1 2 f__law_part := fnD_mk p__law_part Tx rfl bd__law_part fun a fd F => ok__law_part B F

def t__law_weights : (st : Stmt) ×' (top 39 = st) := by
  refine ⟨?s, ?h⟩
  case h => (conv => lhs; whnf)
def s__law_weights : Stmt := t__law_weights.1
abbrev N__law_weights : List Str := ["table", "found", "weight"]
abbrev p__law_weights : List Str := ["table"]
theorem sc__law_weights : FnScope N__law_weights p__law_weights (defScope s__law_weights) := ⟨rfl, rfl, rfl, by decide +kernel, rfl, by decide +kernel, by decide +kernel⟩
def b__law_weights : SemS := (seqS (setS (callF 1 f_weighing (consA (vE 0) nilA)) (.one 1))
  (seqS (ifS (orT (notT (testE (isiE .list (vE 1)))) (testE (op2 neG (callB lenG (consA (vE 1) nilA)) (callB lenG (consA (vE 0) nilA))))) (retS (retO .non)) skipS)
  (seqS (forS (itSeq (vE 1)) (.one 2) (ifS (orT (notT (testE (callF 1 f__law_whole (consA (vE 2) nilA)))) (testE (op2 ltI (vE 2) (retO (.int 0))))) (retS (retO .non)) skipS))
  (seqS (ifS (testE (op2 eqG (callB sumG (consA (vE 1) nilA)) (retO (.int 0)))) (retS (retO .non)) skipS)
  (retS (vE 1))))))
def f__law_weights : FSem := fnOut 3 b__law_weights
theorem ok__law_weights {P : Program} {w : World} {K : PySem.W.Frag} {T : List (Addr × Str)} {mg : Str → Option Value} {base : Heap} (B : Bt mg) (h_weighing : FnD P w K T mg base "weighing" 7 1 f_weighing) (h__law_whole : FnD P w K T mg base "_law_whole" 1 1 f__law_whole) {a : Addr} {fd : FuncData} (F : Fun K "_law_weights" "_law_weights" s__law_weights a fd) : FnOk P w K mg base (L2.CX P w) 8 a fd p__law_weights (spP K T 1 f__law_weights) :=
  fnP (body := b__law_weights) (n := 3) F sc__law_weights rfl fun cdv A outer s H E hc => 
  (pdb_cons (pds_set 1 hc (pd_call (x := "weighing") hc h_weighing (by decide) rfl (pda_cons (pd_var 0) pda_nil)))
  (pdb_cons (pds_if (pt_w (pw_or' (pt_not' (pt_of (pd_isi (x := "list") .list rfl B.isinstance rfl B.list boot_list' (pd_var 1)))) (pw_or1' (t_ne hc (pd_callB (x := "len") call_len calld_len rfl B.len boot_len' (pda_cons (pd_var 1) pda_nil)) (pd_callB (x := "len") call_len calld_len rfl B.len boot_len' (pda_cons (pd_var 0) pda_nil)))))) (pdb_one (pds_ret pd_non)) pdb_nil)
  (pdb_cons (pds_for hc (pdi_seq (pd_var 1)) (tg_one 2 hc.nd) (pdb_one (pds_if (pt_w (pw_or' (pt_not' (pt_of (pd_call (x := "_law_whole") hc h__law_whole (by decide) rfl (pda_cons (pd_var 2) pda_nil)))) (pw_or1' (t_lt (pd_var 2) pd_int)))) (pdb_one (pds_ret pd_non)) pdb_nil)))
  (pdb_cons (pds_if (t_eq hc (pd_callB (x := "sum") (cr_sum hc.calm) calld_sum rfl B.sum boot_sum' (pda_cons (pd_var 1) pda_nil)) pd_int) (pdb_one (pds_ret pd_non)) pdb_nil)
  (pdb_one (pds_ret (pd_var 1)))))))
theorem bd__law_weights : BindsTx "_law_weights" s__law_weights p__law_weights := fun _ _ _ _ _ _ us hl => match us, hl with | [_], _ => rfl
theorem d__law_weights {P : Program} {w : World} {K : PySem.W.Frag} {T : List (Addr × Str)} {mg : Str → Option Value} {base : Heap} (B : Bt mg) (Tx : TxF K mg "_law_weights" s__law_weights) (h_weighing : FnD P w K T mg base "weighing" 7 1 f_weighing) (h__law_whole : FnD P w K T mg base "_law_whole" 1 1 f__law_whole) : FnD P w K T mg base "_law_weights" 8 1 f__law_weights := fnD_mk p__law_weights Tx rfl bd__law_weights fun a fd F => ok__law_weights B h_weighing h__law_whole F

def t__law_right : (st : Stmt) ×' (top 40 = st) := by
  refine ⟨?s, ?h⟩
  case h => (conv => lhs; whnf)
def s__law_right : Stmt := t__law_right.1
abbrev N__law_right : List Str := ["table", "pieces", "weights", "outer", "k", "inner", "at", "weight", "due", "piece"]
abbrev p__law_right : List Str := ["table", "pieces"]
theorem sc__law_right : FnScope N__law_right p__law_right (defScope s__law_right) := ⟨rfl, rfl, rfl, by decide +kernel, rfl, by decide +kernel, by decide +kernel⟩
def b__law_right : SemS := (seqS (setS (callF 1 f__law_weights (consA (vE 0) nilA)) (.one 2))
  (seqS (setS (callF 1 f__law_weights (consA (callF 2 f_folded (consA (vE 0) (consA (lcE (itSeq (vE 1)) (.one 9) [9] yesT (callB listG (consA (vE 9) nilA))) nilA))) nilA)) (.one 3))
  (seqS (ifS (orT (testE (op2 isG (vE 2) (retO .non))) (orT (testE (op2 isG (vE 3) (retO .non))) (testE (op2 neG (callB lenG (consA (vE 3) nilA)) (callB lenG (consA (vE 1) nilA)))))) (retS (retO (.bl false))) skipS)
  (seqS (forS (itRange1 (consA (callB lenG (consA (vE 1) nilA)) nilA)) (.one 4) (seqS (setS (callF 1 f__law_weights (consA (callF 2 f__law_part (consA (vE 0) (consA (op2 ixG (vE 1) (vE 4)) nilA))) nilA)) (.one 5))
  (seqS (ifS (testE (op2 isG (vE 5) (retO .non))) (retS (retO (.bl false))) skipS)
  (forS (itRange1 (consA (callB lenG (consA (vE 5) nilA)) nilA)) (.one 6) (seqS (setS (op2 ixG (vE 2) (op2 ixG (op2 ixG (vE 1) (vE 4)) (vE 6))) (.one 7))
  (seqS (setS (op2 mulG (op2 mulG (op2 ixG (vE 3) (vE 4)) (op2 ixG (vE 5) (vE 6))) (callB sumG (consA (vE 2) nilA))) (.one 8))
  (ifS (testE (op2 neG (op2 mulG (op2 mulG (vE 7) (callB sumG (consA (vE 3) nilA))) (callB sumG (consA (vE 5) nilA))) (vE 8))) (retS (retO (.bl false))) skipS)))))))
  (retS (retO (.bl true)))))))
def f__law_right : FSem := fnOut 10 b__law_right
theorem ok__law_right {P : Program} {w : World} {K : PySem.W.Frag} {T : List (Addr × Str)} {mg : Str → Option Value} {base : Heap} (B : Bt mg) (h__law_weights : FnD P w K T mg base "_law_weights" 8 1 f__law_weights) (h_folded : FnD P w K T mg base "folded" 3 2 f_folded) (h__law_part : FnD P w K T mg base "_law_part" 1 2 f__law_part) {a : Addr} {fd : FuncData} (F : Fun K "_law_right" "_law_right" s__law_right a fd) : FnOk P w K mg base (L2.CX P w) 9 a fd p__law_right (spP K T 2 f__law_right) :=
  fnP (body := b__law_right) (n := 10) F sc__law_right rfl fun cdv A outer s H E hc => 
  (pdb_cons (pds_set 2 hc (pd_call (x := "_law_weights") hc h__law_weights (by decide) rfl (pda_cons (pd_var 0) pda_nil)))
  (pdb_cons (pds_set 3 hc (pd_call (x := "_law_weights") hc h__law_weights (by decide) rfl (pda_cons (pd_call (x := "folded") hc h_folded (by decide) rfl (pda_cons (pd_var 0) (pda_cons (pd_lc hc (pdi_seq (pd_var 1)) (blkOk_by (own := [("piece", 9)]) (by rfl)) (by decide) (fun _ _ _ _ _ => (tg_one 9 (hc.blk).nd)) (fun _ _ _ _ _ => pts_yes) (fun _ _ _ _ _ => (pd_callTy (x := "list") call_list_of calld_list rfl B.list boot_list' (pda_cons (pd_var 9) pda_nil)))) pda_nil))) pda_nil)))
  (pdb_cons (pds_if (pt_w (pw_or' (t_is (pd_var 2) pd_non) (pw_or' (t_is (pd_var 3) pd_non) (pw_or1' (t_ne hc (pd_callB (x := "len") call_len calld_len rfl B.len boot_len' (pda_cons (pd_var 3) pda_nil)) (pd_callB (x := "len") call_len calld_len rfl B.len boot_len' (pda_cons (pd_var 1) pda_nil))))))) (pdb_one (pds_ret pd_bl)) pdb_nil)
  (pdb_cons (pds_for hc (pdi_range1 rfl B.range (pda_cons (pd_callB (x := "len") call_len calld_len rfl B.len boot_len' (pda_cons (pd_var 1) pda_nil)) pda_nil)) (tg_one 4 hc.nd) (pdb_cons (pds_set 5 hc (pd_call (x := "_law_weights") hc h__law_weights (by decide) rfl (pda_cons (pd_call (x := "_law_part") hc h__law_part (by decide) rfl (pda_cons (pd_var 0) (pda_cons (d_ix (pd_var 1) (pd_var 4)) pda_nil))) pda_nil)))
  (pdb_cons (pds_if (t_is (pd_var 5) pd_non) (pdb_one (pds_ret pd_bl)) pdb_nil)
  (pdb_one (pds_for hc (pdi_range1 rfl B.range (pda_cons (pd_callB (x := "len") call_len calld_len rfl B.len boot_len' (pda_cons (pd_var 5) pda_nil)) pda_nil)) (tg_one 6 hc.nd) (pdb_cons (pds_set 7 hc (d_ix (pd_var 2) (d_ix (d_ix (pd_var 1) (pd_var 4)) (pd_var 6))))
  (pdb_cons (pds_set 8 hc (d_mul (d_mul (d_ix (pd_var 3) (pd_var 4)) (d_ix (pd_var 5) (pd_var 6))) (pd_callB (x := "sum") (cr_sum hc.calm) calld_sum rfl B.sum boot_sum' (pda_cons (pd_var 2) pda_nil))))
  (pdb_one (pds_if (t_ne hc (d_mul (d_mul (pd_var 7) (pd_callB (x := "sum") (cr_sum hc.calm) calld_sum rfl B.sum boot_sum' (pda_cons (pd_var 3) pda_nil))) (pd_callB (x := "sum") (cr_sum hc.calm) calld_sum rfl B.sum boot_sum' (pda_cons (pd_var 5) pda_nil))) (pd_var 8)) (pdb_one (pds_ret pd_bl)) pdb_nil)))))))))
  (pdb_one (pds_ret pd_bl))))))
theorem bd__law_right : BindsTx "_law_right" s__law_right p__law_right := fun _ _ _ _ _ _ us hl => match us, hl with | [_, _], _ => rfl
theorem d__law_right {P : Program} {w : World} {K : PySem.W.Frag} {T : List (Addr × Str)} {mg : Str → Option Value} {base : Heap} (B : Bt mg) (Tx : TxF K mg "_law_right" s__law_right) (h__law_weights : FnD P w K T mg base "_law_weights" 8 1 f__law_weights) (h_folded : FnD P w K T mg base "folded" 3 2 f_folded) (h__law_part : FnD P w K T mg base "_law_part" 1 2 f__law_part) : FnD P w K T mg base "_law_right" 9 2 f__law_right := fnD_mk p__law_right Tx rfl bd__law_right fun a fd F => ok__law_right B h__law_weights h_folded h__law_part F

def t_law : (st : Stmt) ×' (top 41 = st) := by
  refine ⟨?s, ?h⟩
  case h => (conv => lhs; whnf)
def s_law : Stmt := t_law.1
abbrev N_law : List Str := ["script", "mixed", "table", "row"]
abbrev p_law : List Str := ["script"]
theorem sc_law : FnScope N_law p_law (defScope s_law) := ⟨rfl, rfl, rfl, by decide +kernel, rfl, by decide +kernel, by decide +kernel⟩
def b_law : SemS := (seqS (setS (callF 1 f__law_mixed (consA (vE 0) nilA)) (.one 1))
  (seqS (setS (callF 1 f__law_table (consA (vE 1) nilA)) (.one 2))
  (retS (andE (callF 2 f__law_right (consA (vE 2) (consA (callF 1 f__law_pieces (consA (vE 1) nilA)) nilA))) (callF 2 f__law_right (consA (vE 2) (consA (callF 1 f_parts (consA (lcE (itSeq (vE 2)) (.one 3) [3] yesT (callB listG (consA (vE 3) nilA))) nilA)) nilA)))))))
def f_law : FSem := fnOut 4 b_law
theorem ok_law {P : Program} {w : World} {K : PySem.W.Frag} {T : List (Addr × Str)} {mg : Str → Option Value} {base : Heap} (B : Bt mg) (h__law_mixed : FnD P w K T mg base "_law_mixed" 2 1 f__law_mixed) (h__law_table : FnD P w K T mg base "_law_table" 2 1 f__law_table) (h__law_right : FnD P w K T mg base "_law_right" 9 2 f__law_right) (h__law_pieces : FnD P w K T mg base "_law_pieces" 1 1 f__law_pieces) (h_parts : FnD P w K T mg base "parts" 4 1 f_parts) {a : Addr} {fd : FuncData} (F : Fun K "law" "law" s_law a fd) : FnOk P w K mg base (L2.CX P w) 10 a fd p_law (spP K T 1 f_law) :=
  fnP (body := b_law) (n := 4) F sc_law rfl fun cdv A outer s H E hc => 
  (pdb_cons (pds_set 1 hc (pd_call (x := "_law_mixed") hc h__law_mixed (by decide) rfl (pda_cons (pd_var 0) pda_nil)))
  (pdb_cons (pds_set 2 hc (pd_call (x := "_law_table") hc h__law_table (by decide) rfl (pda_cons (pd_var 1) pda_nil)))
  (pdb_one (pds_ret (pd_and (pd_call (x := "_law_right") hc h__law_right (by decide) rfl (pda_cons (pd_var 2) (pda_cons (pd_call (x := "_law_pieces") hc h__law_pieces (by decide) rfl (pda_cons (pd_var 1) pda_nil)) pda_nil))) (pd_one (pd_call (x := "_law_right") hc h__law_right (by decide) rfl (pda_cons (pd_var 2) (pda_cons (pd_call (x := "parts") hc h_parts (by decide) rfl (pda_cons (pd_lc hc (pdi_seq (pd_var 2)) (blkOk_by (own := [("row", 3)]) (by rfl)) (by decide) (fun _ _ _ _ _ => (tg_one 3 (hc.blk).nd)) (fun _ _ _ _ _ => pts_yes) (fun _ _ _ _ _ => (pd_callTy (x := "list") call_list_of calld_list rfl B.list boot_list' (pda_cons (pd_var 3) pda_nil)))) pda_nil)) pda_nil)))))))))
theorem bd_law : BindsTx "law" s_law p_law := fun _ _ _ _ _ _ us hl => match us, hl with | [_], _ => rfl
theorem d_law {P : Program} {w : World} {K : PySem.W.Frag} {T : List (Addr × Str)} {mg : Str → Option Value} {base : Heap} (B : Bt mg) (Tx : TxF K mg "law" s_law) (h__law_mixed : FnD P w K T mg base "_law_mixed" 2 1 f__law_mixed) (h__law_table : FnD P w K T mg base "_law_table" 2 1 f__law_table) (h__law_right : FnD P w K T mg base "_law_right" 9 2 f__law_right) (h__law_pieces : FnD P w K T mg base "_law_pieces" 1 1 f__law_pieces) (h_parts : FnD P w K T mg base "parts" 4 1 f_parts) : FnD P w K T mg base "law" 10 1 f_law := fnD_mk p_law Tx rfl bd_law fun a fd F => ok_law B h__law_mixed h__law_table h__law_right h__law_pieces h_parts F

end K78

namespace K78
open Aw
noncomputable def g_paired_sum (rec : (List (List Bool)) → (List Nat) → Option Int) (table : (List (List Bool))) (things : (List Nat)) : Option (Flow Int Empty Int) := (thenF (σ := Unit) (if (decide (things = ([] : List Nat))) = true then (some (.ret (1 : Int))) else (some (.nx ()))) fun (s1 : Unit) => (((things)[0]?).bind fun t2 => (if 1 < 2 ^ 62 then (if (List.length things) < 2 ^ 62 then (thenF (σ := (Int)) (forO (fun (k : Nat) (s6 : (Int)) => (if ((List.drop 1 (List.take k things))).length + ((List.drop (k + 1) things)).length ≤ 100000 then ((rec table ((List.drop 1 (List.take k things)) ++ (List.drop (k + 1) things))).bind fun t9 => (((table)[t2]?).bind fun t11 => (((things)[k]?).bind fun t13 => (((t11)[t13]?).bind fun t15 => (if 0 < 2 then (if (decide (t15 = (decide ((k % 2) = 1)))) = true then (some (.nx ((s6 + t9)))) else (some (.nx ((s6 - t9))))) else none))))) else none)) (rng 1 (List.length things)) ((0 : Int))) fun (s18 : (Int)) => (some (.ret s18))) else none) else none)))
theorem xb_paired_sum {fd : FSem} {rec : (List (List Bool)) → (List Nat) → Option Int} (hrec : ∀ (table : (List (List Bool))) (things : (List Nat)) (v : Int), rec table things = some v → fd [En.e table, En.e things] = .ok (En.e v)) (table : (List (List Bool))) (things : (List Nat)) : XB (layStart 6 [En.e table, En.e things]) (b_paired_sum fd) (fun (_ : Int) => [.unk, .unk, .unk, .unk, .unk, .unk]) (fun (_ : Empty) => []) rPl (g_paired_sum rec table things) := by
  unfold b_paired_sum g_paired_sum
  exact (xb_seq (post1 := fun (s1 : Unit) => [.val (En.e (table : (List (List Bool)))), .val (En.e (things : (List Nat))), .unk, .unk, .unk, .unk]) (xb_ite (t_of (x_eq (α := (List Nat)) (by decide) ((x_val 1)).e ((x_nil (α := Nat))).e)) (xb_retV (x_int 1)) (xb_skip (le_k (le_k (le_k (le_k (le_k (le_k le_nil))))))))
  fun s1 => (xb_bind fun t2 h3 => (xb_cons (s_set 2 (x_ix h3 ((x_val 1)).e (x_nat 0)))
  (xb_cons (s_set 3 (x_int 0))
  (xb_if fun h4 => (xb_if fun h5 => (xb_seq (post1 := fun (s18 : (Int)) => [.val (En.e (table : (List (List Bool)))), .val (En.e (things : (List Nat))), .val (En.e (t2 : Nat)), .val (En.e (s18 : Int)), .unk, .unk]) (xb_forE (lays := fun (s6 : (Int)) => [.val (En.e (table : (List (List Bool)))), .val (En.e (things : (List Nat))), .val (En.e (t2 : Nat)), .val (En.e (s6 : Int)), .unk, .unk]) (i_range2 h4 h5 (x_nat 1) (x_len ((x_val 1)).e)) (le_k (le_k (le_k (le_k (le_k (le_k le_nil)))))) (fun k h7 s6 => (xb_if fun h8 => (xb_bind fun t9 h10 => (xb_cons (s_set 5 (x_callT (a_cons (x_val 0) (a_cons (x_add h8 ((x_cut ((x_val 1)).e (x_nat 1) (x_val 4))).e ((x_drop ((x_val 1)).e (x_addN (x_val 4) (x_nat 1)))).e) a_nil)) (hrec _ _ _ h10) (En.pu _)))
  (xb_bind fun t11 h12 => (xb_bind fun t13 h14 => (xb_bind fun t15 h16 => (xb_if fun h17 => (xb_ite (t_of (x_eq (α := Bool) (by decide) ((x_ix h16 ((x_ix h12 ((x_val 0)).e (x_val 2))).e (x_ix h14 ((x_val 1)).e (x_val 4)))).e ((x_eq (α := Nat) (by decide) ((x_modN h17 (x_val 4) (x_nat 2))).e ((x_nat 1)).e)).e)) (xb_end (s_set 3 (x_addI (x_val 3) (x_val 5))) (le_k (le_k (le_k (le_k (le_u (le_u le_nil))))))) (xb_end (s_set 3 (x_subI (x_val 3) (x_val 5))) (le_k (le_k (le_k (le_k (le_u (le_u le_nil)))))))))))))))))
  fun s18 => (xb_retV (x_val 3)))))))))
noncomputable def oR_paired_sum : Nat → (List (List Bool)) → (List Nat) → Option Int
  | 0 => fun _ _ => none
  | d + 1 => fun table things => outO (g_paired_sum (oR_paired_sum d) table things)
theorem rR_paired_sum : ∀ (d : Nat) (table : (List (List Bool))) (things : (List Nat)) (v : Int), oR_paired_sum d table things = some v → fR_paired_sum d [En.e table, En.e things] = .ok (En.e v)
  | 0, _, _, _, h => by cases h
  | d + 1, table, things, v, h => outO_ok (xb_paired_sum (rR_paired_sum d) table things) (by simp only [pureL, En.pu, Bool.and_self]) h
noncomputable def o_paired_sum (table : (List (List Bool))) (things : (List Nat)) : Option Int := oR_paired_sum 4 table things
theorem r_paired_sum {table : (List (List Bool))} {things : (List Nat)} {v : Int} (h : o_paired_sum table things = some v) : f_paired_sum [En.e table, En.e things] = .ok (En.e v) := rR_paired_sum 4 table things v h

noncomputable def g_kernel (table : (List (List Bool))) : Option (Flow (List Int) Empty (List Int)) := (if (List.length table) < 2 ^ 62 then (thenF (σ := ((List Int))) (forO (fun (k : Nat) (s2 : ((List Int))) => (if (List.length table) < 2 ^ 62 then ((compO (List.range (List.length table)) (fun (one : Nat) => (some (!decide (one = k)))) (fun (one : Nat) => (some one))).bind fun t6 => ((o_paired_sum table t6).bind fun t8 => (if 0 < 2 then (if mulOk 2 (k % 2) = true then (if mulOk t8 (((1 : Nat) : Int) - (((2 * (k % 2)) : Nat) : Int)) = true then (if (s2).length < 100000 then (some (.nx ((s2 ++ [(t8 * (((1 : Nat) : Int) - (((2 * (k % 2)) : Nat) : Int)))])))) else none) else none) else none) else none))) else none)) (List.range (List.length table)) (([] : List Int))) fun (s14 : ((List Int))) => (some (.ret s14))) else none)
theorem xb_kernel (table : (List (List Bool))) : XB (layStart 5 [En.e table]) b_kernel (fun (_ : (List Int)) => [.unk, .unk, .unk, .unk, .unk]) (fun (_ : Empty) => []) rPl (g_kernel table) := by
  unfold b_kernel g_kernel
  exact (xb_cons (s_newE (us := ([] : List Int)) 1 a_nil rfl)
  (xb_if fun h1 => (xb_seq (post1 := fun (s14 : ((List Int))) => [.val (En.e (table : (List (List Bool)))), .cell (.lst (List.map En.e (s14 : (List Int)))), .unk, .unk, .unk]) (xb_forE (lays := fun (s2 : ((List Int))) => [.val (En.e (table : (List (List Bool)))), .cell (.lst (List.map En.e (s2 : (List Int)))), .unk, .unk, .unk]) (i_range h1 (x_len ((x_val 0)).e)) (le_k (le_k (le_k (le_k (le_k le_nil))))) (fun k h3 s2 => (xb_if fun h4 => (xb_bind fun t6 h7 => (xb_cons (s_set 3 (x_lc (i_range h4 (x_len ((x_val 0)).e)) (hc := (fun one h5 => (to_ret (t_of (x_ne (α := Nat) (by decide) ((x_val 4)).e ((x_val 2)).e))))) (he := (fun one h5 => (xo_ret (x_val 4)))) h7))
  (xb_bind fun t8 h9 => (xb_if fun h10 => (xb_if fun h11 => (xb_if fun h12 => (xb_if fun h13 => (xb_end (s_appendE 1 (x_mulI h12 (x_callT (a_cons (x_val 0) (a_cons (x_val 3) a_nil)) (r_paired_sum h9) (En.pu _)) (x_subI (x_cast (x_nat 1)) (x_cast (x_mulN h11 (x_nat 2) (x_modN h10 (x_val 2) (x_nat 2)))))) h13) (le_k (le_k (le_u (le_u (le_k le_nil))))))))))))))))
  fun s14 => (xb_ret (x_cellL 1)))))
noncomputable def o_kernel (table : (List (List Bool))) : Option (List Int) := outO (g_kernel table)
theorem r_kernel {table : (List (List Bool))} {v : (List Int)} (h : o_kernel table = some v) : f_kernel [En.e table] = .ok (En.e v) := outO_ok (xb_kernel table) (by simp only [pureL, En.pu, Bool.and_self]) h

noncomputable def g_part (table : (List (List Bool))) (things : (List Nat)) : Option (Flow (List (List Bool)) Empty (List (List Bool))) := (thenF (σ := ((List (List Bool)))) (forO (fun (one : Nat) (s1 : ((List (List Bool)))) => ((compO things (fun (other : Nat) => (some true)) (fun (other : Nat) => (((table)[one]?).bind fun t4 => (((t4)[other]?).bind fun t6 => (some t6))))).bind fun t8 => (if (s1).length < 100000 then (some (.nx ((s1 ++ [t8])))) else none))) things (([] : List (List Bool)))) fun (s11 : ((List (List Bool)))) => (some (.ret s11)))
theorem xb_part (table : (List (List Bool))) (things : (List Nat)) : XB (layStart 5 [En.e table, En.e things]) b_part (fun (_ : (List (List Bool))) => [.unk, .unk, .unk, .unk, .unk]) (fun (_ : Empty) => []) rPl (g_part table things) := by
  unfold b_part g_part
  exact (xb_cons (s_newE (us := ([] : List (List Bool))) 2 a_nil rfl)
  (xb_seq (post1 := fun (s11 : ((List (List Bool)))) => [.val (En.e (table : (List (List Bool)))), .val (En.e (things : (List Nat))), .cell (.lst (List.map En.e (s11 : (List (List Bool))))), .unk, .unk]) (xb_forE (lays := fun (s1 : ((List (List Bool)))) => [.val (En.e (table : (List (List Bool)))), .val (En.e (things : (List Nat))), .cell (.lst (List.map En.e (s1 : (List (List Bool))))), .unk, .unk]) (i_list (x_val 1)) (le_k (le_k (le_k (le_k (le_k le_nil))))) (fun one h2 s1 => (xb_bind fun t8 h9 => (xb_if fun h10 => (xb_end (s_appendE 2 (x_lc (i_list (x_val 1)) (hc := (fun other h3 => to_yes)) (he := (fun other h3 => (xo_bind fun t4 h5 => (xo_bind fun t6 h7 => (xo_ret (x_ix h7 ((x_ix h5 ((x_val 0)).e (x_val 3))).e (x_val 4))))))) h9) h10) (le_k (le_k (le_k (le_u (le_k le_nil))))))))))
  fun s11 => (xb_ret (x_cellL 2))))
noncomputable def o_part (table : (List (List Bool))) (things : (List Nat)) : Option (List (List Bool)) := outO (g_part table things)
theorem r_part {table : (List (List Bool))} {things : (List Nat)} {v : (List (List Bool))} (h : o_part table things = some v) : f_part [En.e table, En.e things] = .ok (En.e v) := outO_ok (xb_part table things) (by simp only [pureL, En.pu, Bool.and_self]) h

noncomputable def g_beaten_by (table : (List (List Bool))) (one : Nat) : Option (Flow (List Nat) Empty (List Nat)) := (if (List.length table) < 2 ^ 62 then ((compO (List.range (List.length table)) (fun (other : Nat) => (((table)[one]?).bind fun t3 => (((t3)[other]?).bind fun t5 => (some t5)))) (fun (other : Nat) => (some other))).bind fun t7 => (some (.ret t7))) else none)
theorem xb_beaten_by (table : (List (List Bool))) (one : Nat) : XB (layStart 3 [En.e table, En.e one]) b_beaten_by (fun (_ : (List Nat)) => [.unk, .unk, .unk]) (fun (_ : Empty) => []) rPl (g_beaten_by table one) := by
  unfold b_beaten_by g_beaten_by
  exact (xb_if fun h1 => (xb_bind fun t7 h8 => (xb_retV (x_lc (i_range h1 (x_len ((x_val 0)).e)) (hc := (fun other h2 => (to_bind fun t3 h4 => (to_bind fun t5 h6 => (to_ret (t_of (x_ix h6 ((x_ix h4 ((x_val 0)).e (x_val 1))).e (x_val 2)))))))) (he := (fun other h2 => (xo_ret (x_val 2)))) h8))))
noncomputable def o_beaten_by (table : (List (List Bool))) (one : Nat) : Option (List Nat) := outO (g_beaten_by table one)
theorem r_beaten_by {table : (List (List Bool))} {one : Nat} {v : (List Nat)} (h : o_beaten_by table one = some v) : f_beaten_by [En.e table, En.e one] = .ok (En.e v) := outO_ok (xb_beaten_by table one) (by simp only [pureL, En.pu, Bool.and_self]) h

noncomputable def g_beaters_of (table : (List (List Bool))) (one : Nat) : Option (Flow (List Nat) Empty (List Nat)) := (if (List.length table) < 2 ^ 62 then ((compO (List.range (List.length table)) (fun (other : Nat) => (((table)[other]?).bind fun t3 => (((t3)[one]?).bind fun t5 => (some t5)))) (fun (other : Nat) => (some other))).bind fun t7 => (some (.ret t7))) else none)
theorem xb_beaters_of (table : (List (List Bool))) (one : Nat) : XB (layStart 3 [En.e table, En.e one]) b_beaters_of (fun (_ : (List Nat)) => [.unk, .unk, .unk]) (fun (_ : Empty) => []) rPl (g_beaters_of table one) := by
  unfold b_beaters_of g_beaters_of
  exact (xb_if fun h1 => (xb_bind fun t7 h8 => (xb_retV (x_lc (i_range h1 (x_len ((x_val 0)).e)) (hc := (fun other h2 => (to_bind fun t3 h4 => (to_bind fun t5 h6 => (to_ret (t_of (x_ix h6 ((x_ix h4 ((x_val 0)).e (x_val 2))).e (x_val 1)))))))) (he := (fun other h2 => (xo_ret (x_val 2)))) h8))))
noncomputable def o_beaters_of (table : (List (List Bool))) (one : Nat) : Option (List Nat) := outO (g_beaters_of table one)
theorem r_beaters_of {table : (List (List Bool))} {one : Nat} {v : (List Nat)} (h : o_beaters_of table one = some v) : f_beaters_of [En.e table, En.e one] = .ok (En.e v) := outO_ok (xb_beaters_of table one) (by simp only [pureL, En.pu, Bool.and_self]) h

noncomputable def g_score (table : (List (List Bool))) (weights : (List Int)) (thing : Nat) : Option (Flow Int Empty Int) := ((o_beaten_by table thing).bind fun t1 => ((compO t1 (fun (one : Nat) => (some true)) (fun (one : Nat) => (((weights)[one]?).bind fun t4 => (some t4)))).bind fun t6 => (let above : Int := (List.sum t6); ((o_beaters_of table thing).bind fun t8 => ((compO t8 (fun (one : Nat) => (some true)) (fun (one : Nat) => (((weights)[one]?).bind fun t11 => (some t11)))).bind fun t13 => (some (.ret (above - (List.sum t13)))))))))
theorem xb_score (table : (List (List Bool))) (weights : (List Int)) (thing : Nat) : XB (layStart 5 [En.e table, En.e weights, En.e thing]) b_score (fun (_ : Int) => [.unk, .unk, .unk, .unk, .unk]) (fun (_ : Empty) => []) rPl (g_score table weights thing) := by
  unfold b_score g_score
  exact (xb_bind fun t1 h2 => (xb_bind fun t6 h7 => (xb_cons (s_set 3 (x_sumI ((x_lc (i_list (x_callT (a_cons (x_val 0) (a_cons (x_val 2) a_nil)) (r_beaten_by h2) (En.pu _))) (hc := (fun one h3 => to_yes)) (he := (fun one h3 => (xo_bind fun t4 h5 => (xo_ret (x_ix h5 ((x_val 1)).e (x_val 4)))))) h7)).e))
  (xb_bind fun t8 h9 => (xb_bind fun t13 h14 => (xb_retV (x_subI (x_val 3) (x_sumI ((x_lc (i_list (x_callT (a_cons (x_val 0) (a_cons (x_val 2) a_nil)) (r_beaters_of h9) (En.pu _))) (hc := (fun one h10 => to_yes)) (he := (fun one h10 => (xo_bind fun t11 h12 => (xo_ret (x_ix h12 ((x_val 1)).e (x_val 4)))))) h14)).e))))))))
noncomputable def o_score (table : (List (List Bool))) (weights : (List Int)) (thing : Nat) : Option Int := outO (g_score table weights thing)
theorem r_score {table : (List (List Bool))} {weights : (List Int)} {thing : Nat} {v : Int} (h : o_score table weights thing = some v) : f_score [En.e table, En.e weights, En.e thing] = .ok (En.e v) := outO_ok (xb_score table weights thing) (by simp only [pureL, En.pu, Bool.and_self]) h

noncomputable def g_is_even (table : (List (List Bool))) (weights : (List Int)) : Option (Flow Bool Empty Bool) := ((leastI weights).bind fun t1 => ((orO (decide (t1 < ((0 : Nat) : Int))) ((mostI weights).bind fun t3 => (some (decide (t3 = ((0 : Nat) : Int)))))).bind fun t5 => (thenF (σ := Unit) (if t5 = true then (some (.ret false)) else (some (.nx ()))) fun (s7 : Unit) => (if (List.length table) < 2 ^ 62 then (thenF (σ := Unit) (forO (fun (thing : Nat) (s9 : Unit) => ((o_score table weights thing).bind fun t11 => (((weights)[thing]?).bind fun t13 => (thenF (σ := Unit) (if ((decide (((0 : Nat) : Int) < t13)) && (!decide (t11 = ((0 : Nat) : Int)))) = true then (some (.ret false)) else (some (.nx ()))) fun (s15 : Unit) => (((weights)[thing]?).bind fun t16 => (if ((decide (t16 = ((0 : Nat) : Int))) && (decide (((0 : Nat) : Int) ≤ t11))) = true then (some (.ret false)) else (some (.nx ())))))))) (List.range (List.length table)) ()) fun (s18 : Unit) => (some (.ret true))) else none))))
theorem xb_is_even (table : (List (List Bool))) (weights : (List Int)) : XB (layStart 4 [En.e table, En.e weights]) b_is_even (fun (_ : Bool) => [.unk, .unk, .unk, .unk]) (fun (_ : Empty) => []) rPl (g_is_even table weights) := by
  unfold b_is_even g_is_even
  exact (xb_bind fun t1 h2 => (xb_bind fun t5 h6 => (xb_seq (post1 := fun (s7 : Unit) => [.val (En.e (table : (List (List Bool)))), .val (En.e (weights : (List Int))), .unk, .unk]) (xb_ite ((to_or (t_of (x_ltI (x_leastI h2 ((x_val 1)).e) (x_cast (x_nat 0)))) (to_bind fun t3 h4 => (to_ret (t_of (x_eq (α := Int) (by decide) ((x_mostI h4 ((x_val 1)).e)).e ((x_cast (x_nat 0))).e))))) t5 h6) (xb_retV (x_bl false)) (xb_skip (le_k (le_k (le_k (le_k le_nil))))))
  fun s7 => (xb_if fun h8 => (xb_seq (post1 := fun (s18 : Unit) => [.val (En.e (table : (List (List Bool)))), .val (En.e (weights : (List Int))), .unk, .unk]) (xb_forE (lays := fun (s9 : Unit) => [.val (En.e (table : (List (List Bool)))), .val (En.e (weights : (List Int))), .unk, .unk]) (i_range h8 (x_len ((x_val 0)).e)) (le_k (le_k (le_k (le_k le_nil)))) (fun thing h10 s9 => (xb_bind fun t11 h12 => (xb_cons (s_set 3 (x_callT (a_cons (x_val 0) (a_cons (x_val 1) (a_cons (x_val 2) a_nil))) (r_score h12) (En.pu _)))
  (xb_bind fun t13 h14 => (xb_seq (post1 := fun (s15 : Unit) => [.val (En.e (table : (List (List Bool)))), .val (En.e (weights : (List Int))), .val (En.e (thing : Nat)), .val (En.e (t11 : Int))]) (xb_ite (t_and (t_of (x_gtI (x_ix h14 ((x_val 1)).e (x_val 2)) (x_cast (x_nat 0)))) (t_of (x_ne (α := Int) (by decide) ((x_val 3)).e ((x_cast (x_nat 0))).e))) (xb_retV (x_bl false)) (xb_skip (le_k (le_k (le_k (le_k le_nil))))))
  fun s15 => (xb_bind fun t16 h17 => (xb_ite (t_and (t_of (x_eq (α := Int) (by decide) ((x_ix h17 ((x_val 1)).e (x_val 2))).e ((x_cast (x_nat 0))).e)) (t_of (x_geI (x_val 3) (x_cast (x_nat 0))))) (xb_retV (x_bl false)) (xb_skip (le_k (le_k (le_u (le_u le_nil)))))))))))))
  fun s18 => (xb_retV (x_bl true)))))))
noncomputable def o_is_even (table : (List (List Bool))) (weights : (List Int)) : Option Bool := outO (g_is_even table weights)
theorem r_is_even {table : (List (List Bool))} {weights : (List Int)} {v : Bool} (h : o_is_even table weights = some v) : f_is_even [En.e table, En.e weights] = .ok (En.e v) := outO_ok (xb_is_even table weights) (by simp only [pureL, En.pu, Bool.and_self]) h

noncomputable def g_odd_sets (many_ : Nat) : Option (Flow (List (List Nat)) Empty (List (List Nat))) := (let sets : (List (List Nat)) := [([] : List Nat)]; (if many_ < 2 ^ 62 then (thenF (σ := ((List (List Nat)))) (forO (fun (thing : Nat) (s2 : ((List (List Nat)))) => ((compO s2 (fun (one : (List Nat)) => (some true)) (fun (one : (List Nat)) => (if (one).length + ([thing]).length ≤ 100000 then (some (one ++ [thing])) else none))).bind fun t6 => (if (s2).length + (t6).length ≤ 100000 then (some (.nx ((s2 ++ t6)))) else none))) (List.range many_) (sets)) fun (s9 : ((List (List Nat)))) => ((compO s9 (fun (one : (List Nat)) => (if 0 < 2 then (some (decide (((List.length one) % 2) = 1))) else none)) (fun (one : (List Nat)) => (some one))).bind fun t12 => (some (.ret t12)))) else none))
theorem xb_odd_sets (many_ : Nat) : XB (layStart 4 [En.e many_]) b_odd_sets (fun (_ : (List (List Nat))) => [.unk, .unk, .unk, .unk]) (fun (_ : Empty) => []) rPl (g_odd_sets many_) := by
  unfold b_odd_sets g_odd_sets
  exact (xb_cons (s_set 1 (x_lst (us := [([] : List Nat)]) (a_cons (x_nil (α := Nat)) a_nil) rfl))
  (xb_if fun h1 => (xb_seq (post1 := fun (s9 : ((List (List Nat)))) => [.val (En.e (many_ : Nat)), .val (En.e (s9 : (List (List Nat)))), .unk, .unk]) (xb_forE (lays := fun (s2 : ((List (List Nat)))) => [.val (En.e (many_ : Nat)), .val (En.e (s2 : (List (List Nat)))), .unk, .unk]) (i_range h1 (x_val 0)) (le_k (le_k (le_k (le_k le_nil)))) (fun thing h3 s2 => (xb_bind fun t6 h7 => (xb_if fun h8 => (xb_end (s_set 1 (x_add h8 ((x_val 1)).e ((x_lc (i_list (x_val 1)) (hc := (fun one h4 => to_yes)) (he := (fun one h4 => (xo_if fun h5 => (xo_ret (x_add h5 ((x_val 3)).e ((x_lst (us := [thing]) (a_cons (x_val 2) a_nil) rfl)).e))))) h7)).e)) (le_k (le_k (le_u (le_k le_nil)))))))))
  fun s9 => (xb_bind fun t12 h13 => (xb_retV (x_lc (i_list (x_val 1)) (hc := (fun one h10 => (to_if fun h11 => (to_ret (t_of (x_eq (α := Nat) (by decide) ((x_modN h11 (x_len ((x_val 3)).e) (x_nat 2))).e ((x_nat 1)).e)))))) (he := (fun one h10 => (xo_ret (x_val 3)))) h13))))))
noncomputable def o_odd_sets (many_ : Nat) : Option (List (List Nat)) := outO (g_odd_sets many_)
theorem r_odd_sets {many_ : Nat} {v : (List (List Nat))} (h : o_odd_sets many_ = some v) : f_odd_sets [En.e many_] = .ok (En.e v) := outO_ok (xb_odd_sets many_) (by simp only [pureL, En.pu, Bool.and_self]) h

noncomputable def g_common (one : Int) (other : Int) : Option (Flow Int Empty Int) := (thenF (σ := (Int × Int)) (whileO (fun (s1 : (Int × Int)) => (some (decide (((0 : Nat) : Int) < s1.2)))) (fun (s1 : (Int × Int)) => (if 0 < s1.2 then (let rest : Int := (s1.1 % s1.2); (some (.nx (s1.2, rest)))) else none)) 100000 (one, other)) fun (s3 : (Int × Int)) => (some (.ret s3.1)))
theorem xb_common (one : Int) (other : Int) : XB (layStart 3 [En.e one, En.e other]) b_common (fun (_ : Int) => [.unk, .unk, .unk]) (fun (_ : Empty) => []) rPl (g_common one other) := by
  unfold b_common g_common
  exact (xb_seq (post1 := fun (s3 : (Int × Int)) => [.val (En.e (s3.1 : Int)), .val (En.e (s3.2 : Int)), .unk]) (xb_while (lays := fun (s1 : (Int × Int)) => [.val (En.e (s1.1 : Int)), .val (En.e (s1.2 : Int)), .unk]) (le_k (le_k (le_k le_nil))) (fun s1 => (to_ret (t_of (x_gtI (x_val 1) (x_cast (x_nat 0)))))) (fun s1 => (xb_if fun h2 => (xb_cons (s_set 2 (x_modI h2 (x_val 0) (x_val 1)))
  (xb_cons (s_set 0 (x_val 1))
  (xb_end (s_set 1 (x_val 2)) (le_k (le_k (le_u le_nil)))))))))
  fun s3 => (xb_retV (x_val 0)))
noncomputable def o_common (one : Int) (other : Int) : Option Int := outO (g_common one other)
theorem r_common {one : Int} {other : Int} {v : Int} (h : o_common one other = some v) : f_common [En.e one, En.e other] = .ok (En.e v) := outO_ok (xb_common one other) (by simp only [pureL, En.pu, Bool.and_self]) h

noncomputable def g_lowest (weights : (List Int)) : Option (Flow (List Int) Empty (List Int)) := (thenF (σ := (Int)) (forO (fun (weight : Int) (s1 : (Int)) => ((o_common weight s1).bind fun t3 => (some (.nx (t3))))) weights ((0 : Int))) fun (s5 : (Int)) => ((compO weights (fun (weight : Int) => (some true)) (fun (weight : Int) => (if 0 < s5 then (if s5 < 1000000 then (some (weight / s5)) else none) else none))).bind fun t9 => (some (.ret t9))))
theorem xb_lowest (weights : (List Int)) : XB (layStart 3 [En.e weights]) b_lowest (fun (_ : (List Int)) => [.unk, .unk, .unk]) (fun (_ : Empty) => []) rPl (g_lowest weights) := by
  unfold b_lowest g_lowest
  exact (xb_cons (s_set 1 (x_int 0))
  (xb_seq (post1 := fun (s5 : (Int)) => [.val (En.e (weights : (List Int))), .val (En.e (s5 : Int)), .unk]) (xb_forE (lays := fun (s1 : (Int)) => [.val (En.e (weights : (List Int))), .val (En.e (s1 : Int)), .unk]) (i_list (x_val 0)) (le_k (le_k (le_k le_nil))) (fun weight h2 s1 => (xb_bind fun t3 h4 => (xb_end (s_set 1 (x_callT (a_cons (x_val 2) (a_cons (x_val 1) a_nil)) (r_common h4) (En.pu _))) (le_k (le_k (le_u le_nil)))))))
  fun s5 => (xb_bind fun t9 h10 => (xb_retV (x_lc (i_list (x_val 0)) (hc := (fun weight h6 => to_yes)) (he := (fun weight h6 => (xo_if fun h7 => (xo_if fun h8 => (xo_ret (x_fdivI h7 h8 (x_val 2) (x_val 1))))))) h10)))))
noncomputable def o_lowest (weights : (List Int)) : Option (List Int) := outO (g_lowest weights)
theorem r_lowest {weights : (List Int)} {v : (List Int)} (h : o_lowest weights = some v) : f_lowest [En.e weights] = .ok (En.e v) := outO_ok (xb_lowest weights) (by simp only [pureL, En.pu, Bool.and_self]) h

noncomputable def g_weights_on (table : (List (List Bool))) (things : (List Nat)) : Option (Flow (List Int) Empty (List Int)) := ((compO table (fun (row : (List Bool)) => (some true)) (fun (row : (List Bool)) => (some (0 : Int)))).bind fun t2 => ((o_part table things).bind fun t4 => ((o_kernel t4).bind fun t6 => (thenF (σ := ((List Int))) (forO (fun (x9 : (Nat × Int)) (s8 : ((List Int))) => (if x9.1 < (s8).length then (some (.nx ((List.set s8 x9.1 x9.2)))) else none)) (List.zip things t6) (t2)) fun (s12 : ((List Int))) => (((things)[0]?).bind fun t13 => (((s12)[t13]?).bind fun t15 => (thenF (σ := Unit) (if (decide (t15 < ((0 : Nat) : Int))) = true then ((compO s12 (fun (weight : Int) => (some true)) (fun (weight : Int) => (some (((0 : Nat) : Int) - weight)))).bind fun t18 => (some (.ret t18))) else (some (.nx ()))) fun (s20 : Unit) => (some (.ret s12)))))))))
theorem xb_weights_on (table : (List (List Bool))) (things : (List Nat)) : XB (layStart 6 [En.e table, En.e things]) b_weights_on (fun (_ : (List Int)) => [.unk, .unk, .unk, .unk, .unk, .unk]) (fun (_ : Empty) => []) rPl (g_weights_on table things) := by
  unfold b_weights_on g_weights_on
  exact (xb_bind fun t2 h3 => (xb_cons (s_newLc 2 (i_list (x_val 0)) (hc := (fun row h1 => to_yes)) (he := (fun row h1 => (xo_ret (x_int 0)))) h3)
  (xb_bind fun t4 h5 => (xb_bind fun t6 h7 => (xb_seq (post1 := fun (s12 : ((List Int))) => [.val (En.e (table : (List (List Bool)))), .val (En.e (things : (List Nat))), .cell (.lst (List.map En.e (s12 : (List Int)))), .unk, .unk, .unk]) (xb_forE (lays := fun (s8 : ((List Int))) => [.val (En.e (table : (List (List Bool)))), .val (En.e (things : (List Nat))), .cell (.lst (List.map En.e (s8 : (List Int)))), .unk, .unk, .unk]) (i_zip (x_val 1) (x_callT (a_cons (x_callT (a_cons (x_val 0) (a_cons (x_val 1) a_nil)) (r_part h5) (En.pu _)) a_nil) (r_kernel h7) (En.pu _))) (le_k (le_k (le_k (le_k (le_k (le_k le_nil)))))) (fun x9 h10 s8 => (xb_if fun h11 => (xb_end (s_setItem 2 (x_val 3) (x_val 4) h11) (le_k (le_k (le_k (le_u (le_u (le_k le_nil))))))))))
  fun s12 => (xb_bind fun t13 h14 => (xb_bind fun t15 h16 => (xb_seq (post1 := fun (s20 : Unit) => [.val (En.e (table : (List (List Bool)))), .val (En.e (things : (List Nat))), .val (En.e (s12 : (List Int))), .unk, .unk, .unk]) (xb_ghost 2 rfl (xb_ite (t_of (x_ltI (x_ix h16 ((x_val 2)).e (x_ix h14 ((x_val 1)).e (x_nat 0))) (x_cast (x_nat 0)))) (xb_bind fun t18 h19 => (xb_retV (x_lc (i_list (x_val 2)) (hc := (fun weight h17 => to_yes)) (he := (fun weight h17 => (xo_ret (x_subI (x_cast (x_nat 0)) (x_val 4))))) h19))) (xb_skip (le_k (le_k (le_k (le_k (le_k (le_k le_nil)))))))))
  fun s20 => (xb_retV (x_val 2))))))))))
noncomputable def o_weights_on (table : (List (List Bool))) (things : (List Nat)) : Option (List Int) := outO (g_weights_on table things)
theorem r_weights_on {table : (List (List Bool))} {things : (List Nat)} {v : (List Int)} (h : o_weights_on table things = some v) : f_weights_on [En.e table, En.e things] = .ok (En.e v) := outO_ok (xb_weights_on table things) (by simp only [pureL, En.pu, Bool.and_self]) h

noncomputable def g_weighing (table : (List (List Bool))) : Option (Flow (List Int) Empty (List Int)) := (let told : (List Int) := ([] : List Int); ((o_odd_sets (List.length table)).bind fun t1 => (thenF (σ := ((List Int))) (forO (fun (things : (List Nat)) (s3 : ((List Int))) => (if (decide (s3 = ([] : List Int))) = true then ((o_weights_on table things).bind fun t5 => ((o_is_even table t5).bind fun t7 => (if t7 = true then ((o_lowest t5).bind fun t9 => (some (.nx (t9)))) else (some (.nx (s3)))))) else (some (.nx (s3))))) t1 (told)) fun (s11 : ((List Int))) => (some (.ret s11)))))
theorem xb_weighing (table : (List (List Bool))) : XB (layStart 4 [En.e table]) b_weighing (fun (_ : (List Int)) => [.unk, .unk, .unk, .unk]) (fun (_ : Empty) => []) rPl (g_weighing table) := by
  unfold b_weighing g_weighing
  exact (xb_cons (s_set 1 (x_nil (α := Int)))
  (xb_bind fun t1 h2 => (xb_seq (post1 := fun (s11 : ((List Int))) => [.val (En.e (table : (List (List Bool)))), .val (En.e (s11 : (List Int))), .unk, .unk]) (xb_forE (lays := fun (s3 : ((List Int))) => [.val (En.e (table : (List (List Bool)))), .val (En.e (s3 : (List Int))), .unk, .unk]) (i_list (x_callT (a_cons (x_len ((x_val 0)).e) a_nil) (r_odd_sets h2) (En.pu _))) (le_k (le_k (le_k (le_k le_nil)))) (fun things h4 s3 => (xb_ite (t_of (x_eq (α := (List Int)) (by decide) ((x_val 1)).e ((x_nil (α := Int))).e)) (xb_bind fun t5 h6 => (xb_cons (s_set 3 (x_callT (a_cons (x_val 0) (a_cons (x_val 2) a_nil)) (r_weights_on h6) (En.pu _)))
  (xb_bind fun t7 h8 => (xb_ite (t_of (x_callT (a_cons (x_val 0) (a_cons (x_val 3) a_nil)) (r_is_even h8) (En.pu _))) (xb_bind fun t9 h10 => (xb_end (s_set 1 (x_callT (a_cons (x_val 3) a_nil) (r_lowest h10) (En.pu _))) (le_k (le_k (le_u (le_u le_nil)))))) (xb_skip (le_k (le_k (le_u (le_u le_nil))))))))) (xb_skip (le_k (le_k (le_u (le_k le_nil))))))))
  fun s11 => (xb_retV (x_val 1)))))
noncomputable def o_weighing (table : (List (List Bool))) : Option (List Int) := outO (g_weighing table)
theorem r_weighing {table : (List (List Bool))} {v : (List Int)} (h : o_weighing table = some v) : f_weighing [En.e table] = .ok (En.e v) := outO_ok (xb_weighing table) (by simp only [pureL, En.pu, Bool.and_self]) h

noncomputable def g_reached (table : (List (List Bool))) (one : Nat) : Option (Flow (List Nat) Empty (List Nat)) := (thenF (σ := ((List (Nat × Bool)) × (List Nat))) (whileO (fun (s1 : ((List (Nat × Bool)) × (List Nat))) => (some (decide (0 < (List.length s1.2))))) (fun (s1 : ((List (Nat × Bool)) × (List Nat))) => ((List.getLast? s1.2).bind fun t2 => (if (List.length table) < 2 ^ 62 then (thenF (σ := ((List (Nat × Bool)) × (List Nat))) (forO (fun (other : Nat) (s5 : ((List (Nat × Bool)) × (List Nat))) => (((table)[t2]?).bind fun t7 => (((t7)[other]?).bind fun t9 => (if (t9 && (!hasK s5.1 other)) = true then (if (s5.1).length < 100000 then (if (s5.2).length < 100000 then (some (.nx ((putM s5.1 other true), (s5.2 ++ [other])))) else none) else none) else (some (.nx (s5.1, s5.2))))))) (List.range (List.length table)) (s1.1, (List.dropLast s1.2))) fun (s13 : ((List (Nat × Bool)) × (List Nat))) => (some (.nx (s13.1, s13.2)))) else none))) 100000 ([(one, true)], [one])) fun (s14 : ((List (Nat × Bool)) × (List Nat))) => (if (s14.1).length ≤ 100000 then (some (.ret (sortN (List.map Prod.fst s14.1)))) else none))
theorem xb_reached (table : (List (List Bool))) (one : Nat) : XB (layStart 6 [En.e table, En.e one]) b_reached (fun (_ : (List Nat)) => [.unk, .unk, .unk, .unk, .unk, .unk]) (fun (_ : Empty) => []) rPl (g_reached table one) := by
  unfold b_reached g_reached
  exact (xb_cons (s_newD1 2 (x_val 1) (x_bl true))
  (xb_cons (s_newE (us := [one]) 3 (a_cons (x_val 1) a_nil) rfl)
  (xb_seq (post1 := fun (s14 : ((List (Nat × Bool)) × (List Nat))) => [.val (En.e (table : (List (List Bool)))), .val (En.e (one : Nat)), .cell (dctC (s14.1 : (List (Nat × Bool)))), .cell (.lst (List.map En.e (s14.2 : (List Nat)))), .unk, .unk]) (xb_while (lays := fun (s1 : ((List (Nat × Bool)) × (List Nat))) => [.val (En.e (table : (List (List Bool)))), .val (En.e (one : Nat)), .cell (dctC (s1.1 : (List (Nat × Bool)))), .cell (.lst (List.map En.e (s1.2 : (List Nat)))), .unk, .unk]) (le_k (le_k (le_k (le_k (le_k (le_k le_nil)))))) (fun s1 => (to_ret (t_of (x_gtN (x_len (x_cellL 3)) (x_nat 0))))) (fun s1 => (xb_bind fun t2 h3 => (xb_cons (s_popE 4 3 h3)
  (xb_if fun h4 => (xb_last (post1 := fun (s13 : ((List (Nat × Bool)) × (List Nat))) => [.val (En.e (table : (List (List Bool)))), .val (En.e (one : Nat)), .cell (dctC (s13.1 : (List (Nat × Bool)))), .cell (.lst (List.map En.e (s13.2 : (List Nat)))), .val (En.e (t2 : Nat)), .unk]) (xb_forE (lays := fun (s5 : ((List (Nat × Bool)) × (List Nat))) => [.val (En.e (table : (List (List Bool)))), .val (En.e (one : Nat)), .cell (dctC (s5.1 : (List (Nat × Bool)))), .cell (.lst (List.map En.e (s5.2 : (List Nat)))), .val (En.e (t2 : Nat)), .unk]) (i_range h4 (x_len ((x_val 0)).e)) (le_k (le_k (le_k (le_k (le_k (le_k le_nil)))))) (fun other h6 s5 => (xb_bind fun t7 h8 => (xb_bind fun t9 h10 => (xb_ite (t_and (t_of (x_ix h10 ((x_ix h8 ((x_val 0)).e (x_val 4))).e (x_val 5))) (t_of (x_notInM 2 (x_val 5)))) (xb_if fun h11 => (xb_cons (s_put 2 (x_bl true) (x_val 5) h11)
  (xb_if fun h12 => (xb_end (s_appendE 3 (x_val 5) h12) (le_k (le_k (le_k (le_k (le_k (le_u le_nil)))))))))) (xb_skip (le_k (le_k (le_k (le_k (le_k (le_u le_nil)))))))))))) fun s13 => ⟨_, rfl, (le_k (le_k (le_k (le_k (le_u (le_k le_nil))))))⟩))))))
  fun s14 => (xb_if fun h15 => (xb_retV (x_sortN ((x_listM 2 h15)).e))))))
noncomputable def o_reached (table : (List (List Bool))) (one : Nat) : Option (List Nat) := outO (g_reached table one)
theorem r_reached {table : (List (List Bool))} {one : Nat} {v : (List Nat)} (h : o_reached table one = some v) : f_reached [En.e table, En.e one] = .ok (En.e v) := outO_ok (xb_reached table one) (by simp only [pureL, En.pu, Bool.and_self]) h

noncomputable def g_rings (table : (List (List Bool))) : Option (Flow (List (List Nat)) Empty (List (List Nat))) := (if (List.length table) < 2 ^ 62 then ((compO (List.range (List.length table)) (fun (one : Nat) => (some true)) (fun (one : Nat) => ((o_reached table one).bind fun t3 => (some (List.length t3))))).bind fun t5 => (if (List.length table) < 2 ^ 62 then (if 0 < 2 ^ 62 then (thenF (σ := ((List (List Nat)))) (forO (fun (size : Nat) (s9 : ((List (List Nat)))) => (if (List.length table) < 2 ^ 62 then ((compO (List.range (List.length table)) (fun (one : Nat) => (((t5)[one]?).bind fun t13 => (some (decide (t13 = size))))) (fun (one : Nat) => (some one))).bind fun t15 => (if (decide (0 < (List.length t15))) = true then (if (s9).length < 100000 then (some (.nx ((s9 ++ [t15])))) else none) else (some (.nx (s9))))) else none)) (rngD (List.length table) 0) (([] : List (List Nat)))) fun (s18 : ((List (List Nat)))) => (some (.ret s18))) else none) else none)) else none)
theorem xb_rings (table : (List (List Bool))) : XB (layStart 6 [En.e table]) b_rings (fun (_ : (List (List Nat))) => [.unk, .unk, .unk, .unk, .unk, .unk]) (fun (_ : Empty) => []) rPl (g_rings table) := by
  unfold b_rings g_rings
  exact (xb_if fun h1 => (xb_bind fun t5 h6 => (xb_cons (s_set 1 (x_lc (i_range h1 (x_len ((x_val 0)).e)) (hc := (fun one h2 => to_yes)) (he := (fun one h2 => (xo_bind fun t3 h4 => (xo_ret (x_len ((x_callT (a_cons (x_val 0) (a_cons (x_val 5) a_nil)) (r_reached h4) (En.pu _))).e))))) h6))
  (xb_cons (s_newE (us := ([] : List (List Nat))) 2 a_nil rfl)
  (xb_if fun h7 => (xb_if fun h8 => (xb_seq (post1 := fun (s18 : ((List (List Nat)))) => [.val (En.e (table : (List (List Bool)))), .val (En.e (t5 : (List Nat))), .cell (.lst (List.map En.e (s18 : (List (List Nat))))), .unk, .unk, .unk]) (xb_forE (lays := fun (s9 : ((List (List Nat)))) => [.val (En.e (table : (List (List Bool)))), .val (En.e (t5 : (List Nat))), .cell (.lst (List.map En.e (s9 : (List (List Nat))))), .unk, .unk, .unk]) (i_down h7 h8 (x_len ((x_val 0)).e) (x_nat 0)) (le_k (le_k (le_k (le_k (le_k (le_k le_nil)))))) (fun size h10 s9 => (xb_if fun h11 => (xb_bind fun t15 h16 => (xb_cons (s_set 4 (x_lc (i_range h11 (x_len ((x_val 0)).e)) (hc := (fun one h12 => (to_bind fun t13 h14 => (to_ret (t_of (x_eq (α := Nat) (by decide) ((x_ix h14 ((x_val 1)).e (x_val 5))).e ((x_val 3)).e)))))) (he := (fun one h12 => (xo_ret (x_val 5)))) h16))
  (xb_ite (t_of (x_gtN (x_len ((x_val 4)).e) (x_nat 0))) (xb_if fun h17 => (xb_end (s_appendE 2 (x_val 4) h17) (le_k (le_k (le_k (le_u (le_u (le_k le_nil)))))))) (xb_skip (le_k (le_k (le_k (le_u (le_u (le_k le_nil)))))))))))))
  fun s18 => (xb_ret (x_cellL 2)))))))))
noncomputable def o_rings (table : (List (List Bool))) : Option (List (List Nat)) := outO (g_rings table)
theorem r_rings {table : (List (List Bool))} {v : (List (List Nat))} (h : o_rings table = some v) : f_rings [En.e table] = .ok (En.e v) := outO_ok (xb_rings table) (by simp only [pureL, En.pu, Bool.and_self]) h

noncomputable def g_breaker (table : (List (List Bool))) (things : (List Nat)) : Option (Flow Int Empty Int) := (if (List.length table) < 2 ^ 62 then (thenF (σ := Unit) (forO (fun (other : Nat) (s2 : Unit) => (if (!decide (other ∈ things)) = true then ((compO things (fun (one : Nat) => (((table)[other]?).bind fun t5 => (((t5)[one]?).bind fun t7 => (some t7)))) (fun (one : Nat) => (some one))).bind fun t9 => (if (decide (0 < (List.length t9)) && decide ((List.length t9) < (List.length things))) = true then (some (.ret ((other : Nat) : Int))) else (some (.nx ())))) else (some (.nx ())))) (List.range (List.length table)) ()) fun (s11 : Unit) => (some (.ret (-1 : Int)))) else none)
theorem xb_breaker (table : (List (List Bool))) (things : (List Nat)) : XB (layStart 5 [En.e table, En.e things]) b_breaker (fun (_ : Int) => [.unk, .unk, .unk, .unk, .unk]) (fun (_ : Empty) => []) rPl (g_breaker table things) := by
  unfold b_breaker g_breaker
  exact (xb_if fun h1 => (xb_seq (post1 := fun (s11 : Unit) => [.val (En.e (table : (List (List Bool)))), .val (En.e (things : (List Nat))), .unk, .unk, .unk]) (xb_forE (lays := fun (s2 : Unit) => [.val (En.e (table : (List (List Bool)))), .val (En.e (things : (List Nat))), .unk, .unk, .unk]) (i_range h1 (x_len ((x_val 0)).e)) (le_k (le_k (le_k (le_k (le_k le_nil))))) (fun other h3 s2 => (xb_ite (t_of (x_notInN (x_val 2) ((x_val 1)).e)) (xb_bind fun t9 h10 => (xb_cons (s_set 3 (x_lc (i_list (x_val 1)) (hc := (fun one h4 => (to_bind fun t5 h6 => (to_bind fun t7 h8 => (to_ret (t_of (x_ix h8 ((x_ix h6 ((x_val 0)).e (x_val 2))).e (x_val 4)))))))) (he := (fun one h4 => (xo_ret (x_val 4)))) h10))
  (xb_ite (t_of (x_ltltN (x_nat 0) (x_len ((x_val 3)).e) (x_len ((x_val 1)).e))) (xb_retV (x_cast (x_val 2))) (xb_skip (le_k (le_k (le_u (le_u (le_k le_nil))))))))) (xb_skip (le_k (le_k (le_u (le_k (le_k le_nil)))))))))
  fun s11 => (xb_retV (x_negI (x_int 1)))))
noncomputable def o_breaker (table : (List (List Bool))) (things : (List Nat)) : Option Int := outO (g_breaker table things)
theorem r_breaker {table : (List (List Bool))} {things : (List Nat)} {v : Int} (h : o_breaker table things = some v) : f_breaker [En.e table, En.e things] = .ok (En.e v) := outO_ok (xb_breaker table things) (by simp only [pureL, En.pu, Bool.and_self]) h

noncomputable def g_stands_together (table : (List (List Bool))) (things : (List Nat)) : Option (Flow Bool Empty Bool) := ((o_breaker table things).bind fun t1 => (some (.ret (decide (t1 < ((0 : Nat) : Int))))))
theorem xb_stands_together (table : (List (List Bool))) (things : (List Nat)) : XB (layStart 2 [En.e table, En.e things]) b_stands_together (fun (_ : Bool) => [.unk, .unk]) (fun (_ : Empty) => []) rPl (g_stands_together table things) := by
  unfold b_stands_together g_stands_together
  exact (xb_bind fun t1 h2 => (xb_retV (x_ltI (x_callT (a_cons (x_val 0) (a_cons (x_val 1) a_nil)) (r_breaker h2) (En.pu _)) (x_cast (x_nat 0)))))
noncomputable def o_stands_together (table : (List (List Bool))) (things : (List Nat)) : Option Bool := outO (g_stands_together table things)
theorem r_stands_together {table : (List (List Bool))} {things : (List Nat)} {v : Bool} (h : o_stands_together table things = some v) : f_stands_together [En.e table, En.e things] = .ok (En.e v) := outO_ok (xb_stands_together table things) (by simp only [pureL, En.pu, Bool.and_self]) h

noncomputable def g_closure (table : (List (List Bool))) (things : (List Nat)) : Option (Flow (List Nat) Empty (List Nat)) := (let found : (List Nat) := (sortN things); ((o_breaker table found).bind fun t1 => (thenF (σ := ((List Nat) × Int)) (whileO (fun (s3 : ((List Nat) × Int)) => (some (decide (((0 : Nat) : Int) ≤ s3.2)))) (fun (s3 : ((List Nat) × Int)) => (if 0 ≤ s3.2 then (if (s3.1).length + ([(Int.toNat s3.2)]).length ≤ 100000 then (let found_6 : (List Nat) := (sortN (s3.1 ++ [(Int.toNat s3.2)])); ((o_breaker table found_6).bind fun t7 => (some (.nx (found_6, t7))))) else none) else none)) 100000 (found, t1)) fun (s9 : ((List Nat) × Int)) => (some (.ret s9.1)))))
theorem xb_closure (table : (List (List Bool))) (things : (List Nat)) : XB (layStart 4 [En.e table, En.e things]) b_closure (fun (_ : (List Nat)) => [.unk, .unk, .unk, .unk]) (fun (_ : Empty) => []) rPl (g_closure table things) := by
  unfold b_closure g_closure
  exact (xb_cons (s_set 2 (x_sortN ((x_val 1)).e))
  (xb_bind fun t1 h2 => (xb_cons (s_set 3 (x_callT (a_cons (x_val 0) (a_cons (x_val 2) a_nil)) (r_breaker h2) (En.pu _)))
  (xb_seq (post1 := fun (s9 : ((List Nat) × Int)) => [.val (En.e (table : (List (List Bool)))), .val (En.e (things : (List Nat))), .val (En.e (s9.1 : (List Nat))), .val (En.e (s9.2 : Int))]) (xb_while (lays := fun (s3 : ((List Nat) × Int)) => [.val (En.e (table : (List (List Bool)))), .val (En.e (things : (List Nat))), .val (En.e (s3.1 : (List Nat))), .val (En.e (s3.2 : Int))]) (le_k (le_k (le_k (le_k le_nil)))) (fun s3 => (to_ret (t_of (x_geI (x_val 3) (x_cast (x_nat 0)))))) (fun s3 => (xb_if fun h4 => (xb_if fun h5 => (xb_cons (s_set 2 (x_sortN ((x_add h5 ((x_val 2)).e ((x_lst (us := [(Int.toNat s3.2)]) (a_cons (x_toN h4 (x_val 3)) a_nil) rfl)).e)).e))
  (xb_bind fun t7 h8 => (xb_end (s_set 3 (x_callT (a_cons (x_val 0) (a_cons (x_val 2) a_nil)) (r_breaker h8) (En.pu _))) (le_k (le_k (le_k (le_k le_nil)))))))))))
  fun s9 => (xb_retV (x_val 2))))))
noncomputable def o_closure (table : (List (List Bool))) (things : (List Nat)) : Option (List Nat) := outO (g_closure table things)
theorem r_closure {table : (List (List Bool))} {things : (List Nat)} {v : (List Nat)} (h : o_closure table things = some v) : f_closure [En.e table, En.e things] = .ok (En.e v) := outO_ok (xb_closure table things) (by simp only [pureL, En.pu, Bool.and_self]) h

noncomputable def g_together (table : (List (List Bool))) (one : Nat) (other : Nat) : Option (Flow Bool Empty Bool) := ((orO (decide (one = other)) ((o_closure table [one, other]).bind fun t1 => (some (decide ((List.length t1) < (List.length table)))))).bind fun t3 => (some (.ret t3)))
theorem xb_together (table : (List (List Bool))) (one : Nat) (other : Nat) : XB (layStart 3 [En.e table, En.e one, En.e other]) b_together (fun (_ : Bool) => [.unk, .unk, .unk]) (fun (_ : Empty) => []) rPl (g_together table one other) := by
  unfold b_together g_together
  exact (xb_bind fun t3 h4 => (xb_retV ((xo_or (x_eq (α := Nat) (by decide) ((x_val 1)).e ((x_val 2)).e) (xo_bind fun t1 h2 => (xo_ret (x_ltN (x_len ((x_callT (a_cons (x_val 0) (a_cons (x_lst (us := [one, other]) (a_cons (x_val 1) (a_cons (x_val 2) a_nil)) rfl) a_nil)) (r_closure h2) (En.pu _))).e) (x_len ((x_val 0)).e))))) t3 h4)))
noncomputable def o_together (table : (List (List Bool))) (one : Nat) (other : Nat) : Option Bool := outO (g_together table one other)
theorem r_together {table : (List (List Bool))} {one : Nat} {other : Nat} {v : Bool} (h : o_together table one other = some v) : f_together [En.e table, En.e one, En.e other] = .ok (En.e v) := outO_ok (xb_together table one other) (by simp only [pureL, En.pu, Bool.and_self]) h

noncomputable def g_parts (table : (List (List Bool))) : Option (Flow (List (List Nat)) Empty (List (List Nat))) := ((o_rings table).bind fun t1 => (thenF (σ := Unit) (if ((decide (1 < (List.length t1))) || (decide ((List.length table) = 1))) = true then (some (.ret t1)) else (some (.nx ()))) fun (s3 : Unit) => (if (List.length table) < 2 ^ 62 then (thenF (σ := ((List (List Nat)) × (List (Nat × Bool)))) (forO (fun (one : Nat) (s5 : ((List (List Nat)) × (List (Nat × Bool)))) => (if (!hasK s5.2 one) = true then (if (List.length table) < 2 ^ 62 then ((compO (List.range (List.length table)) (fun (other : Nat) => ((o_together table one other).bind fun t9 => (some t9))) (fun (other : Nat) => (some other))).bind fun t11 => (thenF (σ := ((List (Nat × Bool)))) (forO (fun (other : Nat) (s13 : ((List (Nat × Bool)))) => (if (s13).length < 100000 then (some (.nx ((putM s13 other true)))) else none)) t11 (s5.2)) fun (s16 : ((List (Nat × Bool)))) => (if (s5.1).length < 100000 then (some (.nx ((s5.1 ++ [t11]), s16))) else none))) else none) else (some (.nx (s5.1, s5.2))))) (List.range (List.length table)) (([] : List (List Nat)), ([] : (List (Nat × Bool))))) fun (s18 : ((List (List Nat)) × (List (Nat × Bool)))) => (some (.ret s18.1))) else none)))
theorem xb_parts (table : (List (List Bool))) : XB (layStart 7 [En.e table]) b_parts (fun (_ : (List (List Nat))) => [.unk, .unk, .unk, .unk, .unk, .unk, .unk]) (fun (_ : Empty) => []) rPl (g_parts table) := by
  unfold b_parts g_parts
  exact (xb_bind fun t1 h2 => (xb_cons (s_set 1 (x_callT (a_cons (x_val 0) a_nil) (r_rings h2) (En.pu _)))
  (xb_seq (post1 := fun (s3 : Unit) => [.val (En.e (table : (List (List Bool)))), .val (En.e (t1 : (List (List Nat)))), .unk, .unk, .unk, .unk, .unk]) (xb_ite (t_or (t_of (x_gtN (x_len ((x_val 1)).e) (x_nat 1))) (t_of (x_eq (α := Nat) (by decide) ((x_len ((x_val 0)).e)).e ((x_nat 1)).e))) (xb_retV (x_val 1)) (xb_skip (le_k (le_k (le_k (le_k (le_k (le_k (le_k le_nil)))))))))
  fun s3 => (xb_cons (s_newE (us := ([] : List (List Nat))) 2 a_nil rfl)
  (xb_cons (s_newD (κ := Nat) (α := Bool) 3)
  (xb_if fun h4 => (xb_seq (post1 := fun (s18 : ((List (List Nat)) × (List (Nat × Bool)))) => [.val (En.e (table : (List (List Bool)))), .val (En.e (t1 : (List (List Nat)))), .cell (.lst (List.map En.e (s18.1 : (List (List Nat))))), .cell (dctC (s18.2 : (List (Nat × Bool)))), .unk, .unk, .unk]) (xb_forE (lays := fun (s5 : ((List (List Nat)) × (List (Nat × Bool)))) => [.val (En.e (table : (List (List Bool)))), .val (En.e (t1 : (List (List Nat)))), .cell (.lst (List.map En.e (s5.1 : (List (List Nat))))), .cell (dctC (s5.2 : (List (Nat × Bool)))), .unk, .unk, .unk]) (i_range h4 (x_len ((x_val 0)).e)) (le_k (le_k (le_k (le_k (le_k (le_k (le_k le_nil))))))) (fun one h6 s5 => (xb_ite (t_of (x_notInM 3 (x_val 4))) (xb_if fun h7 => (xb_bind fun t11 h12 => (xb_cons (s_set 5 (x_lc (i_range h7 (x_len ((x_val 0)).e)) (hc := (fun other h8 => (to_bind fun t9 h10 => (to_ret (t_of (x_callT (a_cons (x_val 0) (a_cons (x_val 4) (a_cons (x_val 6) a_nil))) (r_together h10) (En.pu _))))))) (he := (fun other h8 => (xo_ret (x_val 6)))) h12))
  (xb_seq (post1 := fun (s16 : ((List (Nat × Bool)))) => [.val (En.e (table : (List (List Bool)))), .val (En.e (t1 : (List (List Nat)))), .cell (.lst (List.map En.e (s5.1 : (List (List Nat))))), .cell (dctC (s16 : (List (Nat × Bool)))), .val (En.e (one : Nat)), .val (En.e (t11 : (List Nat))), .unk]) (xb_forE (lays := fun (s13 : ((List (Nat × Bool)))) => [.val (En.e (table : (List (List Bool)))), .val (En.e (t1 : (List (List Nat)))), .cell (.lst (List.map En.e (s5.1 : (List (List Nat))))), .cell (dctC (s13 : (List (Nat × Bool)))), .val (En.e (one : Nat)), .val (En.e (t11 : (List Nat))), .unk]) (i_list (x_val 5)) (le_k (le_k (le_k (le_k (le_k (le_k (le_k le_nil))))))) (fun other h14 s13 => (xb_if fun h15 => (xb_end (s_put 3 (x_bl true) (x_val 6) h15) (le_k (le_k (le_k (le_k (le_k (le_k (le_u le_nil)))))))))))
  fun s16 => (xb_if fun h17 => (xb_end (s_appendE 2 (x_val 5) h17) (le_k (le_k (le_k (le_k (le_u (le_u (le_k le_nil))))))))))))) (xb_skip (le_k (le_k (le_k (le_k (le_u (le_k (le_k le_nil)))))))))))
  fun s18 => (xb_ret (x_cellL 2)))))))))
noncomputable def o_parts (table : (List (List Bool))) : Option (List (List Nat)) := outO (g_parts table)
theorem r_parts {table : (List (List Bool))} {v : (List (List Nat))} (h : o_parts table = some v) : f_parts [En.e table] = .ok (En.e v) := outO_ok (xb_parts table) (by simp only [pureL, En.pu, Bool.and_self]) h

noncomputable def g_places_of (pieces : (List (List Nat))) (many_ : Nat) : Option (Flow (List Int) Empty (List Int)) := (if many_ < 2 ^ 62 then ((compO (List.range many_) (fun (thing : Nat) => (some true)) (fun (thing : Nat) => (some (-1 : Int)))).bind fun t3 => (thenF (σ := ((List Int))) (forO (fun (x6 : (Nat × (List Nat))) (s5 : ((List Int))) => (thenF (σ := Unit) (if (decide (x6.2 = ([] : List Nat))) = true then none else (some (.nx ()))) fun (s8 : Unit) => (thenF (σ := ((List Int))) (forO (fun (thing : Nat) (s9 : ((List Int))) => ((orO (decide (thing < 0)) ((orO (decide (many_ ≤ thing)) (((s9)[thing]?).bind fun t11 => (some (decide (((0 : Nat) : Int) ≤ t11))))).bind fun t13 => (some t13))).bind fun t15 => (thenF (σ := Unit) (if t15 = true then none else (some (.nx ()))) fun (s17 : Unit) => (if thing < (s9).length then (some (.nx ((List.set s9 thing ((x6.1 : Nat) : Int))))) else none)))) x6.2 (s5)) fun (s19 : ((List Int))) => (some (.nx (s19)))))) (enumL pieces) (t3)) fun (s20 : ((List Int))) => (thenF (σ := Unit) (if (decide ((-1 : Int) ∈ s20)) = true then none else (some (.nx ()))) fun (s21 : Unit) => (some (.ret s20))))) else none)
theorem xb_places_of (pieces : (List (List Nat))) (many_ : Nat) : XB (layStart 6 [En.e pieces, En.e many_]) b_places_of (fun (_ : (List Int)) => [.unk, .unk, .unk, .unk, .unk, .unk]) (fun (_ : Empty) => []) rPl (g_places_of pieces many_) := by
  unfold b_places_of g_places_of
  exact (xb_if fun h1 => (xb_bind fun t3 h4 => (xb_cons (s_newLc 2 (i_range h1 (x_val 1)) (hc := (fun thing h2 => to_yes)) (he := (fun thing h2 => (xo_ret (x_negI (x_int 1))))) h4)
  (xb_seq (post1 := fun (s20 : ((List Int))) => [.val (En.e (pieces : (List (List Nat)))), .val (En.e (many_ : Nat)), .cell (.lst (List.map En.e (s20 : (List Int)))), .unk, .unk, .unk]) (xb_forE (lays := fun (s5 : ((List Int))) => [.val (En.e (pieces : (List (List Nat)))), .val (En.e (many_ : Nat)), .cell (.lst (List.map En.e (s5 : (List Int)))), .unk, .unk, .unk]) (i_enum (x_val 0)) (le_k (le_k (le_k (le_k (le_k (le_k le_nil)))))) (fun x6 h7 s5 => (xb_seq (post1 := fun (s8 : Unit) => [.val (En.e (pieces : (List (List Nat)))), .val (En.e (many_ : Nat)), .cell (.lst (List.map En.e (s5 : (List Int)))), .val (En.e (x6.1 : Nat)), .val (En.e (x6.2 : (List Nat))), .unk]) (xb_ite (t_of (x_eq (α := (List Nat)) (by decide) ((x_val 4)).e ((x_nil (α := Nat))).e)) xb_none (xb_skip (le_k (le_k (le_k (le_k (le_k (le_k le_nil))))))))
  fun s8 => (xb_last (post1 := fun (s19 : ((List Int))) => [.val (En.e (pieces : (List (List Nat)))), .val (En.e (many_ : Nat)), .cell (.lst (List.map En.e (s19 : (List Int)))), .val (En.e (x6.1 : Nat)), .val (En.e (x6.2 : (List Nat))), .unk]) (xb_forE (lays := fun (s9 : ((List Int))) => [.val (En.e (pieces : (List (List Nat)))), .val (En.e (many_ : Nat)), .cell (.lst (List.map En.e (s9 : (List Int)))), .val (En.e (x6.1 : Nat)), .val (En.e (x6.2 : (List Nat))), .unk]) (i_list (x_val 4)) (le_k (le_k (le_k (le_k (le_k (le_k le_nil)))))) (fun thing h10 s9 => (xb_bind fun t15 h16 => (xb_seq (post1 := fun (s17 : Unit) => [.val (En.e (pieces : (List (List Nat)))), .val (En.e (many_ : Nat)), .cell (.lst (List.map En.e (s9 : (List Int)))), .val (En.e (x6.1 : Nat)), .val (En.e (x6.2 : (List Nat))), .val (En.e (thing : Nat))]) (xb_ite ((to_or (t_of (x_ltN (x_val 5) (x_nat 0))) (to_bind fun t13 h14 => (to_ret ((to_or (t_of (x_geN (x_val 5) (x_val 1))) (to_bind fun t11 h12 => (to_ret (t_of (x_geI (x_ix h12 (x_cellL 2) (x_val 5)) (x_cast (x_nat 0))))))) t13 h14)))) t15 h16) xb_none (xb_skip (le_k (le_k (le_k (le_k (le_k (le_k le_nil))))))))
  fun s17 => (xb_if fun h18 => (xb_end (s_setItem 2 (x_val 5) (x_cast (x_val 3)) h18) (le_k (le_k (le_k (le_k (le_k (le_u le_nil)))))))))))) fun s19 => ⟨_, rfl, (le_k (le_k (le_k (le_u (le_u (le_k le_nil))))))⟩))))
  fun s20 => (xb_seq (post1 := fun (s21 : Unit) => [.val (En.e (pieces : (List (List Nat)))), .val (En.e (many_ : Nat)), .cell (.lst (List.map En.e (s20 : (List Int)))), .unk, .unk, .unk]) (xb_ite (t_of (x_inI (x_negI (x_int 1)) (x_cellL 2))) xb_none (xb_skip (le_k (le_k (le_k (le_k (le_k (le_k le_nil))))))))
  fun s21 => (xb_ret (x_cellL 2)))))))
noncomputable def o_places_of (pieces : (List (List Nat))) (many_ : Nat) : Option (List Int) := outO (g_places_of pieces many_)
theorem r_places_of {pieces : (List (List Nat))} {many_ : Nat} {v : (List Int)} (h : o_places_of pieces many_ = some v) : f_places_of [En.e pieces, En.e many_] = .ok (En.e v) := outO_ok (xb_places_of pieces many_) (by simp only [pureL, En.pu, Bool.and_self]) h

noncomputable def g_folded (table : (List (List Bool))) (pieces : (List (List Nat))) : Option (Flow (List (List Bool)) Empty (List (List Bool))) := ((o_places_of pieces (List.length table)).bind fun t1 => (thenF (σ := Unit) (forO (fun (piece : (List Nat)) (s3 : Unit) => ((o_stands_together table piece).bind fun t5 => (if (!t5) = true then none else (some (.nx ()))))) pieces ()) fun (s7 : Unit) => ((compO pieces (fun (piece : (List Nat)) => (some true)) (fun (piece : (List Nat)) => (((piece)[0]?).bind fun t9 => (some t9)))).bind fun t11 => (thenF (σ := ((List (List Bool)))) (forO (fun (one : Nat) (s13 : ((List (List Bool)))) => ((compO t11 (fun (other : Nat) => (some true)) (fun (other : Nat) => (((table)[one]?).bind fun t16 => (((t16)[other]?).bind fun t18 => (some t18))))).bind fun t20 => (if (s13).length < 100000 then (some (.nx ((s13 ++ [t20])))) else none))) t11 (([] : List (List Bool)))) fun (s23 : ((List (List Bool)))) => (some (.ret s23))))))
theorem xb_folded (table : (List (List Bool))) (pieces : (List (List Nat))) : XB (layStart 7 [En.e table, En.e pieces]) b_folded (fun (_ : (List (List Bool))) => [.unk, .unk, .unk, .unk, .unk, .unk, .unk]) (fun (_ : Empty) => []) rPl (g_folded table pieces) := by
  unfold b_folded g_folded
  exact (xb_bind fun t1 h2 => (xb_cons (s_drop (x_callT (a_cons (x_val 1) (a_cons (x_len ((x_val 0)).e) a_nil)) (r_places_of h2) (En.pu _)))
  (xb_seq (post1 := fun (s7 : Unit) => [.val (En.e (table : (List (List Bool)))), .val (En.e (pieces : (List (List Nat)))), .unk, .unk, .unk, .unk, .unk]) (xb_forE (lays := fun (s3 : Unit) => [.val (En.e (table : (List (List Bool)))), .val (En.e (pieces : (List (List Nat)))), .unk, .unk, .unk, .unk, .unk]) (i_list (x_val 1)) (le_k (le_k (le_k (le_k (le_k (le_k (le_k le_nil))))))) (fun piece h4 s3 => (xb_bind fun t5 h6 => (xb_ite (t_not (t_of (x_callT (a_cons (x_val 0) (a_cons (x_val 2) a_nil)) (r_stands_together h6) (En.pu _)))) xb_none (xb_skip (le_k (le_k (le_u (le_k (le_k (le_k (le_k le_nil))))))))))))
  fun s7 => (xb_bind fun t11 h12 => (xb_cons (s_set 3 (x_lc (i_list (x_val 1)) (hc := (fun piece h8 => to_yes)) (he := (fun piece h8 => (xo_bind fun t9 h10 => (xo_ret (x_ix h10 ((x_val 2)).e (x_nat 0)))))) h12))
  (xb_cons (s_newE (us := ([] : List (List Bool))) 4 a_nil rfl)
  (xb_seq (post1 := fun (s23 : ((List (List Bool)))) => [.val (En.e (table : (List (List Bool)))), .val (En.e (pieces : (List (List Nat)))), .unk, .val (En.e (t11 : (List Nat))), .cell (.lst (List.map En.e (s23 : (List (List Bool))))), .unk, .unk]) (xb_forE (lays := fun (s13 : ((List (List Bool)))) => [.val (En.e (table : (List (List Bool)))), .val (En.e (pieces : (List (List Nat)))), .unk, .val (En.e (t11 : (List Nat))), .cell (.lst (List.map En.e (s13 : (List (List Bool))))), .unk, .unk]) (i_list (x_val 3)) (le_k (le_k (le_k (le_k (le_k (le_k (le_k le_nil))))))) (fun one h14 s13 => (xb_bind fun t20 h21 => (xb_if fun h22 => (xb_end (s_appendE 4 (x_lc (i_list (x_val 3)) (hc := (fun other h15 => to_yes)) (he := (fun other h15 => (xo_bind fun t16 h17 => (xo_bind fun t18 h19 => (xo_ret (x_ix h19 ((x_ix h17 ((x_val 0)).e (x_val 5))).e (x_val 6))))))) h21) h22) (le_k (le_k (le_k (le_k (le_k (le_u (le_k le_nil))))))))))))
  fun s23 => (xb_ret (x_cellL 4)))))))))
noncomputable def o_folded (table : (List (List Bool))) (pieces : (List (List Nat))) : Option (List (List Bool)) := outO (g_folded table pieces)
theorem r_folded {table : (List (List Bool))} {pieces : (List (List Nat))} {v : (List (List Bool))} (h : o_folded table pieces = some v) : f_folded [En.e table, En.e pieces] = .ok (En.e v) := outO_ok (xb_folded table pieces) (by simp only [pureL, En.pu, Bool.and_self]) h

noncomputable def g__law_whole (found : Int) : Option (Flow Bool Empty Bool) := (some (.ret (true && (!false))))
theorem xb__law_whole (found : Int) : XB (layStart 1 [En.e found]) b__law_whole (fun (_ : Bool) => [.unk]) (fun (_ : Empty) => []) rPl (g__law_whole found) := by
  unfold b__law_whole g__law_whole
  exact (xb_retV (x_and (x_isiK (α := Int) .int true (x_val 0)) (x_not (x_isiK (α := Int) .bool false (x_val 0)))))
noncomputable def o__law_whole (found : Int) : Option Bool := outO (g__law_whole found)
theorem r__law_whole {found : Int} {v : Bool} (h : o__law_whole found = some v) : f__law_whole [En.e found] = .ok (En.e v) := outO_ok (xb__law_whole found) (by simp only [pureL, En.pu, Bool.and_self]) h

noncomputable def g__law_part (table : (List (List Bool))) (things : (List Nat)) : Option (Flow (List (List Bool)) Empty (List (List Bool))) := ((compO things (fun (one : Nat) => (some true)) (fun (one : Nat) => ((compO things (fun (other : Nat) => (some true)) (fun (other : Nat) => (((table)[one]?).bind fun t3 => (((t3)[other]?).bind fun t5 => (some t5))))).bind fun t7 => (some t7)))).bind fun t9 => (some (.ret t9)))
theorem xb__law_part (table : (List (List Bool))) (things : (List Nat)) : XB (layStart 4 [En.e table, En.e things]) b__law_part (fun (_ : (List (List Bool))) => [.unk, .unk, .unk, .unk]) (fun (_ : Empty) => []) rPl (g__law_part table things) := by
  unfold b__law_part g__law_part
  exact (xb_bind fun t9 h10 => (xb_retV (x_lc (i_list (x_val 1)) (hc := (fun one h1 => to_yes)) (he := (fun one h1 => (xo_bind fun t7 h8 => (xo_ret (x_lc (i_list (x_val 1)) (hc := (fun other h2 => to_yes)) (he := (fun other h2 => (xo_bind fun t3 h4 => (xo_bind fun t5 h6 => (xo_ret (x_ix h6 ((x_ix h4 ((x_val 0)).e (x_val 2))).e (x_val 3))))))) h8))))) h10)))
noncomputable def o__law_part (table : (List (List Bool))) (things : (List Nat)) : Option (List (List Bool)) := outO (g__law_part table things)
theorem r__law_part {table : (List (List Bool))} {things : (List Nat)} {v : (List (List Bool))} (h : o__law_part table things = some v) : f__law_part [En.e table, En.e things] = .ok (En.e v) := outO_ok (xb__law_part table things) (by simp only [pureL, En.pu, Bool.and_self]) h

noncomputable def g__law_weights (table : (List (List Bool))) : Option (Flow (Option (List Int)) Empty (Option (List Int))) := ((o_weighing table).bind fun t1 => (thenF (σ := Unit) (if ((!true) || (!decide ((List.length t1) = (List.length table)))) = true then (some (.ret (none : (Option (List Int))))) else (some (.nx ()))) fun (s3 : Unit) => (thenF (σ := Unit) (forO (fun (weight : Int) (s4 : Unit) => ((o__law_whole weight).bind fun t6 => (if ((!t6) || (decide (weight < ((0 : Nat) : Int)))) = true then (some (.ret (none : (Option (List Int))))) else (some (.nx ()))))) t1 ()) fun (s8 : Unit) => (thenF (σ := Unit) (if (decide ((List.sum t1) = ((0 : Nat) : Int))) = true then (some (.ret (none : (Option (List Int))))) else (some (.nx ()))) fun (s9 : Unit) => (some (.ret (some t1 : (Option (List Int)))))))))
theorem xb__law_weights (table : (List (List Bool))) : XB (layStart 3 [En.e table]) b__law_weights (fun (_ : (Option (List Int))) => [.unk, .unk, .unk]) (fun (_ : Empty) => []) rPl (g__law_weights table) := by
  unfold b__law_weights g__law_weights
  exact (xb_bind fun t1 h2 => (xb_cons (s_set 1 (x_callT (a_cons (x_val 0) a_nil) (r_weighing h2) (En.pu _)))
  (xb_seq (post1 := fun (s3 : Unit) => [.val (En.e (table : (List (List Bool)))), .val (En.e (t1 : (List Int))), .unk]) (xb_ite (t_or (t_not (t_of (x_isiK (α := (List Int)) .list true (x_val 1)))) (t_of (x_ne (α := Nat) (by decide) ((x_len ((x_val 1)).e)).e ((x_len ((x_val 0)).e)).e))) (xb_retV (x_noneO x_const)) (xb_skip (le_k (le_k (le_k le_nil)))))
  fun s3 => (xb_seq (post1 := fun (s8 : Unit) => [.val (En.e (table : (List (List Bool)))), .val (En.e (t1 : (List Int))), .unk]) (xb_forE (lays := fun (s4 : Unit) => [.val (En.e (table : (List (List Bool)))), .val (En.e (t1 : (List Int))), .unk]) (i_list (x_val 1)) (le_k (le_k (le_k le_nil))) (fun weight h5 s4 => (xb_bind fun t6 h7 => (xb_ite (t_or (t_not (t_of (x_callT (a_cons (x_val 2) a_nil) (r__law_whole h7) (En.pu _)))) (t_of (x_ltI (x_val 2) (x_cast (x_nat 0))))) (xb_retV (x_noneO x_const)) (xb_skip (le_k (le_k (le_u le_nil))))))))
  fun s8 => (xb_seq (post1 := fun (s9 : Unit) => [.val (En.e (table : (List (List Bool)))), .val (En.e (t1 : (List Int))), .unk]) (xb_ite (t_of (x_eq (α := Int) (by decide) ((x_sumI ((x_val 1)).e)).e ((x_cast (x_nat 0))).e)) (xb_retV (x_noneO x_const)) (xb_skip (le_k (le_k (le_k le_nil)))))
  fun s9 => (xb_retV (x_toSome (x_val 1))))))))
noncomputable def o__law_weights (table : (List (List Bool))) : Option (Option (List Int)) := outO (g__law_weights table)
theorem r__law_weights {table : (List (List Bool))} {v : (Option (List Int))} (h : o__law_weights table = some v) : f__law_weights [En.e table] = .ok (En.e v) := outO_ok (xb__law_weights table) (by simp only [pureL, En.pu, Bool.and_self]) h

noncomputable def g__law_right (table : (List (List Bool))) (pieces : (List (List Nat))) : Option (Flow Bool Empty Bool) := ((o__law_weights table).bind fun t1 => ((compO pieces (fun (piece : (List Nat)) => (some true)) (fun (piece : (List Nat)) => (some piece))).bind fun t4 => ((o_folded table t4).bind fun t6 => ((o__law_weights t6).bind fun t8 => ((orO (Option.isNone t1) ((orO (Option.isNone t8) ((t8).bind fun t10 => (some (!decide ((List.length t10) = (List.length pieces)))))).bind fun t12 => (some t12))).bind fun t14 => (thenF (σ := Unit) (if t14 = true then (some (.ret false)) else (some (.nx ()))) fun (s16 : Unit) => (if (List.length pieces) < 2 ^ 62 then (thenF (σ := Unit) (forO (fun (k : Nat) (s18 : Unit) => (((pieces)[k]?).bind fun t20 => ((o__law_part table t20).bind fun t22 => ((o__law_weights t22).bind fun t24 => (thenF (σ := Unit) (if (Option.isNone t24) = true then (some (.ret false)) else (some (.nx ()))) fun (s26 : Unit) => ((t24).bind fun t27 => (if (List.length t27) < 2 ^ 62 then (thenF (σ := Unit) (forO (fun (at_ : Nat) (s30 : Unit) => ((t1).bind fun t32 => (((pieces)[k]?).bind fun t34 => (((t34)[at_]?).bind fun t36 => (((t32)[t36]?).bind fun t38 => ((t8).bind fun t40 => (((t40)[k]?).bind fun t42 => ((t24).bind fun t44 => (((t44)[at_]?).bind fun t46 => (if mulOk t42 t46 = true then ((t1).bind fun t49 => (if mulOk (t42 * t46) (List.sum t49) = true then (let due : Int := ((t42 * t46) * (List.sum t49)); ((t8).bind fun t52 => (if mulOk t38 (List.sum t52) = true then ((t24).bind fun t55 => (if mulOk (t38 * (List.sum t52)) (List.sum t55) = true then (if (!decide (((t38 * (List.sum t52)) * (List.sum t55)) = due)) = true then (some (.ret false)) else (some (.nx ()))) else none)) else none))) else none)) else none)))))))))) (List.range (List.length t27)) ()) fun (s58 : Unit) => (some (.nx ()))) else none))))))) (List.range (List.length pieces)) ()) fun (s59 : Unit) => (some (.ret true))) else none)))))))
theorem xb__law_right (table : (List (List Bool))) (pieces : (List (List Nat))) : XB (layStart 10 [En.e table, En.e pieces]) b__law_right (fun (_ : Bool) => [.unk, .unk, .unk, .unk, .unk, .unk, .unk, .unk, .unk, .unk]) (fun (_ : Empty) => []) rPl (g__law_right table pieces) := by
  unfold b__law_right g__law_right
  exact (xb_bind fun t1 h2 => (xb_cons (s_set 2 (x_callT (a_cons (x_val 0) a_nil) (r__law_weights h2) (En.pu _)))
  (xb_bind fun t4 h5 => (xb_bind fun t6 h7 => (xb_bind fun t8 h9 => (xb_cons (s_set 3 (x_callT (a_cons (x_callT (a_cons (x_val 0) (a_cons (x_lc (i_list (x_val 1)) (hc := (fun piece h3 => to_yes)) (he := (fun piece h3 => (xo_ret (x_copy ((x_val 9)).e)))) h5) a_nil)) (r_folded h7) (En.pu _)) a_nil) (r__law_weights h9) (En.pu _)))
  (xb_bind fun t14 h15 => (xb_seq (post1 := fun (s16 : Unit) => [.val (En.e (table : (List (List Bool)))), .val (En.e (pieces : (List (List Nat)))), .val (En.e (t1 : (Option (List Int)))), .val (En.e (t8 : (Option (List Int)))), .unk, .unk, .unk, .unk, .unk, .unk]) (xb_ite ((to_or (t_of (x_isNone (x_val 2))) (to_bind fun t12 h13 => (to_ret ((to_or (t_of (x_isNone (x_val 3))) (to_bind fun t10 h11 => (to_ret (t_of (x_ne (α := Nat) (by decide) ((x_len ((x_some h11 (x_val 3))).e)).e ((x_len ((x_val 1)).e)).e))))) t12 h13)))) t14 h15) (xb_retV (x_bl false)) (xb_skip (le_k (le_k (le_k (le_k (le_k (le_k (le_k (le_k (le_k (le_k le_nil))))))))))))
  fun s16 => (xb_if fun h17 => (xb_seq (post1 := fun (s59 : Unit) => [.val (En.e (table : (List (List Bool)))), .val (En.e (pieces : (List (List Nat)))), .val (En.e (t1 : (Option (List Int)))), .val (En.e (t8 : (Option (List Int)))), .unk, .unk, .unk, .unk, .unk, .unk]) (xb_forE (lays := fun (s18 : Unit) => [.val (En.e (table : (List (List Bool)))), .val (En.e (pieces : (List (List Nat)))), .val (En.e (t1 : (Option (List Int)))), .val (En.e (t8 : (Option (List Int)))), .unk, .unk, .unk, .unk, .unk, .unk]) (i_range h17 (x_len ((x_val 1)).e)) (le_k (le_k (le_k (le_k (le_k (le_k (le_k (le_k (le_k (le_k le_nil)))))))))) (fun k h19 s18 => (xb_bind fun t20 h21 => (xb_bind fun t22 h23 => (xb_bind fun t24 h25 => (xb_cons (s_set 5 (x_callT (a_cons (x_callT (a_cons (x_val 0) (a_cons (x_ix h21 ((x_val 1)).e (x_val 4)) a_nil)) (r__law_part h23) (En.pu _)) a_nil) (r__law_weights h25) (En.pu _)))
  (xb_seq (post1 := fun (s26 : Unit) => [.val (En.e (table : (List (List Bool)))), .val (En.e (pieces : (List (List Nat)))), .val (En.e (t1 : (Option (List Int)))), .val (En.e (t8 : (Option (List Int)))), .val (En.e (k : Nat)), .val (En.e (t24 : (Option (List Int)))), .unk, .unk, .unk, .unk]) (xb_ite (t_of (x_isNone (x_val 5))) (xb_retV (x_bl false)) (xb_skip (le_k (le_k (le_k (le_k (le_k (le_k (le_k (le_k (le_k (le_k le_nil))))))))))))
  fun s26 => (xb_bind fun t27 h28 => (xb_if fun h29 => (xb_last (post1 := fun (s58 : Unit) => [.val (En.e (table : (List (List Bool)))), .val (En.e (pieces : (List (List Nat)))), .val (En.e (t1 : (Option (List Int)))), .val (En.e (t8 : (Option (List Int)))), .val (En.e (k : Nat)), .val (En.e (t24 : (Option (List Int)))), .unk, .unk, .unk, .unk]) (xb_forE (lays := fun (s30 : Unit) => [.val (En.e (table : (List (List Bool)))), .val (En.e (pieces : (List (List Nat)))), .val (En.e (t1 : (Option (List Int)))), .val (En.e (t8 : (Option (List Int)))), .val (En.e (k : Nat)), .val (En.e (t24 : (Option (List Int)))), .unk, .unk, .unk, .unk]) (i_range h29 (x_len ((x_some h28 (x_val 5))).e)) (le_k (le_k (le_k (le_k (le_k (le_k (le_k (le_k (le_k (le_k le_nil)))))))))) (fun at_ h31 s30 => (xb_bind fun t32 h33 => (xb_bind fun t34 h35 => (xb_bind fun t36 h37 => (xb_bind fun t38 h39 => (xb_cons (s_set 7 (x_ix h39 ((x_some h33 (x_val 2))).e (x_ix h37 ((x_ix h35 ((x_val 1)).e (x_val 4))).e (x_val 6))))
  (xb_bind fun t40 h41 => (xb_bind fun t42 h43 => (xb_bind fun t44 h45 => (xb_bind fun t46 h47 => (xb_if fun h48 => (xb_bind fun t49 h50 => (xb_if fun h51 => (xb_cons (s_set 8 (x_mulI h51 (x_mulI h48 (x_ix h43 ((x_some h41 (x_val 3))).e (x_val 4)) (x_ix h47 ((x_some h45 (x_val 5))).e (x_val 6))) (x_sumI ((x_some h50 (x_val 2))).e)))
  (xb_bind fun t52 h53 => (xb_if fun h54 => (xb_bind fun t55 h56 => (xb_if fun h57 => (xb_ite (t_of (x_ne (α := Int) (by decide) ((x_mulI h57 (x_mulI h54 (x_val 7) (x_sumI ((x_some h53 (x_val 3))).e)) (x_sumI ((x_some h56 (x_val 5))).e))).e ((x_val 8)).e)) (xb_retV (x_bl false)) (xb_skip (le_k (le_k (le_k (le_k (le_k (le_k (le_u (le_u (le_u (le_k le_nil))))))))))))))))))))))))))))))) fun s58 => ⟨_, rfl, (le_k (le_k (le_k (le_k (le_u (le_u (le_k (le_k (le_k (le_k le_nil))))))))))⟩))))))))))
  fun s59 => (xb_retV (x_bl true))))))))))))
noncomputable def o__law_right (table : (List (List Bool))) (pieces : (List (List Nat))) : Option Bool := outO (g__law_right table pieces)
theorem r__law_right {table : (List (List Bool))} {pieces : (List (List Nat))} {v : Bool} (h : o__law_right table pieces = some v) : f__law_right [En.e table, En.e pieces] = .ok (En.e v) := outO_ok (xb__law_right table pieces) (by simp only [pureL, En.pu, Bool.and_self]) h

noncomputable def g_law (script : D) : Option (Flow Bool Empty Bool) := ((oX f__law_mixed [script]).bind fun t1 => ((oT (List (List Bool)) f__law_table [t1]).bind fun t3 => ((oT (List (List Nat)) f__law_pieces [t1]).bind fun t5 => ((o__law_right t3 t5).bind fun t7 => ((andO t7 ((compO t3 (fun (row : (List Bool)) => (some true)) (fun (row : (List Bool)) => (some row))).bind fun t10 => ((o_parts t10).bind fun t12 => ((o__law_right t3 t12).bind fun t14 => (some t14))))).bind fun t16 => (some (.ret t16)))))))
theorem xb_law (script : D) : XB (layStart 4 [script]) b_law (fun (_ : Bool) => [.unk, .unk, .unk, .unk]) (fun (_ : Empty) => []) rPl (g_law script) := by
  unfold b_law g_law
  exact (xb_bind fun t1 h2 => (xb_cons (s_set 1 (x_callT (a_cons (x_val 0) a_nil) (oX_ok h2).1 (oX_ok h2).2))
  (xb_bind fun t3 h4 => (xb_cons (s_set 2 (x_callT (a_cons (x_val 1) a_nil) (oT_ok h4) (En.pu _)))
  (xb_bind fun t5 h6 => (xb_bind fun t7 h8 => (xb_bind fun t16 h17 => (xb_retV ((xo_and (x_callT (a_cons (x_val 2) (a_cons (x_callT (a_cons (x_val 1) a_nil) (oT_ok h6) (En.pu _)) a_nil)) (r__law_right h8) (En.pu _)) (xo_bind fun t10 h11 => (xo_bind fun t12 h13 => (xo_bind fun t14 h15 => (xo_ret (x_callT (a_cons (x_val 2) (a_cons (x_callT (a_cons (x_lc (i_list (x_val 2)) (hc := (fun row h9 => to_yes)) (he := (fun row h9 => (xo_ret (x_copy ((x_val 3)).e)))) h11) a_nil) (r_parts h13) (En.pu _)) a_nil)) (r__law_right h15) (En.pu _))))))) t16 h17)))))))))
noncomputable def o_law (script : D) : Option Bool := outO (g_law script)
theorem r_law {script : D} {v : Bool} (hpscript : pureD script = true) (h : o_law script = some v) : f_law [script] = .ok (En.e v) := outO_ok (xb_law script) (by simp only [pureL, En.pu, Bool.and_self, hpscript]) h

end K78


/-! reached, rings, top_ring -/
namespace K78
open Aw
theorem putM_new {κ α : Type} [DecidableEq κ] {m : List (κ × α)} {k : κ} {v : α} (h : k ∉ m.map (·.1)) : putM m k v = m ++ [(k, v)] := by
  unfold putM; rw [if_neg h]
theorem sp_reached {n : Nat} {t : Tb} (hq : Sq n t) (hn : n ≤ 1000) {a : Nat} (ha : a < n) : o_reached t a = some (reachL t n a) := by
  unfold o_reached g_reached
  let I : Nat → List (Nat × Bool) × List Nat → Prop := fun m s => (s.1.map (·.1)).Nodup ∧ (∀ x ∈ s.1.map (·.1), x < n ∧ Rch t n a x) ∧ a ∈ s.1.map (·.1) ∧ s.2.Nodup ∧ (∀ x ∈ s.2, x ∈ s.1.map (·.1)) ∧
    (∀ x ∈ s.1.map (·.1), x ∉ s.2 → ∀ y, y < n → ent t x y = true → y ∈ s.1.map (·.1)) ∧ 2 * (n - (s.1.map (·.1)).length) + s.2.length ≤ m
  have hW := whileO_I (β := Empty) (ρ := List Nat) (c := fun (s1 : (List (Nat × Bool)) × (List Nat)) => some (decide (0 < s1.2.length))) (b := fun (s1 : ((List (Nat × Bool)) × (List Nat))) => ((List.getLast? s1.2).bind fun t2 => (if (List.length t) < 2 ^ 62 then (thenF (σ := ((List (Nat × Bool)) × (List Nat))) (forO (fun (other : Nat) (s5 : ((List (Nat × Bool)) × (List Nat))) => (((t)[t2]?).bind fun t7 => (((t7)[other]?).bind fun t9 => (if (t9 && (!hasK s5.1 other)) = true then (if (s5.1).length < 100000 then (if (s5.2).length < 100000 then (some (.nx ((putM s5.1 other true), (s5.2 ++ [other])))) else none) else none) else (some (.nx (s5.1, s5.2))))))) (List.range (List.length t)) (s1.1, (List.dropLast s1.2))) fun (s13 : ((List (Nat × Bool)) × (List Nat))) => (some (.nx (s13.1, s13.2)))) else none)))
    I (Q := fun s => (s.1.map (·.1)).Nodup ∧ (∀ x ∈ s.1.map (·.1), x < n ∧ Rch t n a x) ∧ a ∈ s.1.map (·.1) ∧ ∀ x ∈ s.1.map (·.1), ∀ y, y < n → ent t x y = true → y ∈ s.1.map (·.1)) ?_ 100000 (2 * n + 1) ([(a, true)], [a]) (by omega) ?_
  obtain ⟨s', h1, h2⟩ := hW
  · rw [h1, thenF_nx]
    obtain ⟨q1, q2, q3, q4⟩ := h2
    have hl : s'.1.length ≤ 100000 := by
      have := len_le_of_lt q1 fun x hx => (q2 x hx).1
      rw [List.length_map] at this; omega
    rw [lim_of hl]
    refine congrArg some ?_
    exact sort_lst (n := n) q1 fun x => ⟨q2 x, fun hr => hr.2.closed q3 q4⟩
  · rintro m ⟨M, L⟩ ⟨i1, i2, i3, i4, i5, i6, i7⟩
    simp only at i1 i2 i3 i4 i5 i6 i7
    by_cases hL : L = []
    · subst hL
      exact .inl ⟨rfl, i1, i2, i3, fun x hx => i6 x hx (by simp)⟩
    · obtain ⟨L', h, rfl⟩ : ∃ L' h, L = L' ++ [h] := ⟨L.dropLast, L.getLast hL, (List.dropLast_concat_getLast hL).symm⟩
      have hh : h < n := (i2 h (i5 h (by simp))).1
      have hhr := (i2 h (i5 h (by simp))).2
      have nd' := List.nodup_append.mp i4
      refine .inr ⟨by simp, ?_⟩
      let J : Nat → List (Nat × Bool) × List Nat → Prop := fun i s => (s.1.map (·.1)).Nodup ∧ (∀ x ∈ s.1.map (·.1), x < n ∧ Rch t n a x) ∧ a ∈ s.1.map (·.1) ∧ s.2.Nodup ∧ (∀ x ∈ s.2, x ∈ s.1.map (·.1)) ∧
        (∀ x ∈ s.1.map (·.1), x ∉ s.2 → x ≠ h → ∀ y, y < n → ent t x y = true → y ∈ s.1.map (·.1)) ∧ (∀ y, y < i → ent t h y = true → y ∈ s.1.map (·.1)) ∧ h ∈ s.1.map (·.1) ∧ 2 * (n - (s.1.map (·.1)).length) + s.2.length + 1 ≤ m
      have hF := forO_I (β := List (Nat × Bool) × List Nat) (ρ := List Nat) (b := fun (other : Nat) (s5 : ((List (Nat × Bool)) × (List Nat))) => (((t)[h]?).bind fun t7 => (((t7)[other]?).bind fun t9 => (if (t9 && (!hasK s5.1 other)) = true then (if (s5.1).length < 100000 then (if (s5.2).length < 100000 then (some (.nx ((putM s5.1 other true), (s5.2 ++ [other])))) else none) else none) else (some (.nx (s5.1, s5.2)))))))
        J (xs := List.range t.length) (s := (M, L')) ⟨i1, i2, i3, nd'.1, fun x hx => i5 x (by simp [hx]), fun x hx hxl hxh => i6 x hx (by simp [hxl, hxh]), fun y hy => by omega, i5 h (by simp), by simp only [List.length_append, List.length_singleton] at i7; simp only; omega⟩ ?_
      obtain ⟨s2, f1, f2⟩ := hF
      · refine ⟨s2, m - 1, ?_, ?_, ?_⟩
        · simp only [List.getLast?_append, List.getLast?_singleton, Option.some_or, Option.bind_some, List.dropLast_concat]
          rw [lim_of (by rw [hq.len]; exact lt62 hn), f1, thenF_nx]
        · obtain ⟨_, _, _, _, _, _, _, _, j9⟩ := f2
          omega
        · obtain ⟨j1, j2, j3, j4, j5, j6, j7, j8, j9⟩ := f2
          refine ⟨j1, j2, j3, j4, j5, fun x hx hxl y hy he => ?_, by omega⟩
          by_cases hxh : x = h
          · subst hxh
            exact j7 y (by rw [List.length_range, hq.len]; exact hy) he
          · exact j6 x hx hxl hxh y hy he
      · rintro i x ⟨M, L⟩ hi ⟨j1, j2, j3, j4, j5, j6, j7, j8, j9⟩
        simp only at j1 j2 j3 j4 j5 j6 j7 j8 j9
        have hin : i < n := by
          have := (List.getElem?_eq_some_iff.mp hi).1
          rwa [List.length_range, hq.len] at this
        rw [List.getElem?_range (by rw [hq.len]; exact hin)] at hi
        cases hi
        rw [bind_of (hq.get hh), bind_of (hq.get2 hh hin)]
        have hMl := len_le_of_lt j1 fun x hx => (j2 x hx).1
        have hLl := len_le_of_lt j4 fun x hx => (j2 x (j5 x hx)).1
        by_cases hc : (ent t h i && !hasK M i) = true
        · rw [if_pos hc]
          simp only [Bool.and_eq_true, Bool.not_eq_true', hasK, decide_eq_false_iff_not] at hc
          obtain ⟨he, hni⟩ := hc
          rw [lim_of (by rw [List.length_map] at hMl; simp only; omega), lim_of (by simp only; omega)]
          refine ⟨_, rfl, ?_⟩
          have hk : (putM M i true).map (·.1) = M.map (·.1) ++ [i] := by rw [putM_new hni, List.map_append]; rfl
          have hiL : i ∉ L := fun q => hni (j5 i q)
          show J (i + 1) (putM M i true, L ++ [i])
          simp only [J, hk]
          refine ⟨?_, fun x hx => ?_, by simp [j3], ?_, fun x hx => ?_, fun x hx hxl hxh y hy hxy => ?_, fun y hy hxy => ?_, by simp [j8], ?_⟩
          · rw [List.nodup_append]
            exact ⟨j1, by simp, fun x hx y hy e => by simp at hy; subst hy; subst e; exact hni hx⟩
          · rcases List.mem_append.mp hx with hx | hx
            · exact j2 x hx
            · simp at hx; subst hx; exact ⟨hin, .step hhr hh hin he⟩
          · rw [List.nodup_append]
            exact ⟨j4, by simp, fun x hx y hy e => by simp at hy; subst hy; subst e; exact hiL hx⟩
          · rcases List.mem_append.mp hx with hx | hx
            · exact List.mem_append_left _ (j5 x hx)
            · exact List.mem_append_right _ hx
          · rcases List.mem_append.mp hx with hx | hx
            · exact List.mem_append_left _ (j6 x hx (fun q => hxl (List.mem_append_left _ q)) hxh y hy hxy)
            · exact absurd (List.mem_append_right _ hx) hxl
          · by_cases hyi : y = i
            · subst hyi; simp
            · exact List.mem_append_left _ (j7 y (by omega) hxy)
          · have h2 : (M.map (·.1) ++ [i]).length ≤ n := len_le_of_lt (by
              rw [List.nodup_append]
              exact ⟨j1, by simp, fun x hx y hy e => by simp at hy; subst hy; subst e; exact hni hx⟩) fun x hx => by
              rcases List.mem_append.mp hx with hx | hx
              · exact (j2 x hx).1
              · simp at hx; subst hx; exact hin
            simp only [List.length_append, List.length_singleton] at h2 ⊢
            omega
        · rw [if_neg hc]
          refine ⟨_, rfl, j1, j2, j3, j4, j5, j6, fun y hy hxy => ?_, j8, j9⟩
          by_cases hyi : y = i
          · subst hyi
            by_cases hm : y ∈ M.map (·.1)
            · exact hm
            · exact absurd (by simp [hxy, hasK, hm]) hc
          · exact j7 y (by omega) hxy
  · refine ⟨by simp, fun x hx => ?_, by simp, by simp, fun x hx => by simpa using hx, fun x hx hxl => by simp at hx hxl; exact absurd hx hxl, by simp; omega⟩
    simp at hx; subst hx; exact ⟨ha, .refl⟩
theorem sp_rings {n : Nat} {t : Tb} (hq : Sq n t) (hn : n ≤ 1000) : o_rings t = some (ringsL t n) := by
  unfold o_rings g_rings
  have h62 := lt62 hn
  simp only [hq.len]
  rw [lim_of h62]
  have h1 : compO (List.range n) (fun (one : Nat) => (some true)) (fun (one : Nat) => ((o_reached t one).bind fun t3 => (some (List.length t3)))) = some ((List.range n).map (rnk t n)) :=
    mapO_some (rnk t n) (by rw [List.length_range]; omega) fun x hx => by
      rw [sp_reached hq hn (List.mem_range.mp hx)]; rfl
  rw [bind_of h1, lim_of h62, lim_of (by decide)]
  have h2 := forO_app (β := Empty) (ρ := List (List Nat)) (τ := List Nat) (b := fun (size : Nat) (s9 : ((List (List Nat)))) => (if n < 2 ^ 62 then ((compO (List.range n) (fun (one : Nat) => (((List.map (rnk t n) (List.range n))[one]?).bind fun t13 => (some (decide (t13 = size))))) (fun (one : Nat) => (some one))).bind fun t15 => (if (decide (0 < (List.length t15))) = true then (if (s9).length < 100000 then (some (.nx ((s9 ++ [t15])))) else none) else (some (.nx (s9))))) else none))
    (fun s => if 0 < (ring t n s).length then [ring t n s] else []) 2000 (xs := rngD n 0) (s := []) ?_ ?_
  · rw [h2, thenF_nx, List.nil_append]; rfl
  · have := ringsL_len t n
    unfold ringsL at this
    rw [List.length_flatMap] at this
    rw [List.length_nil]; omega
  · intro size hs s hl
    have hc : compO (List.range n) (fun (one : Nat) => (((List.map (rnk t n) (List.range n))[one]?).bind fun t13 => (some (decide (t13 = size))))) (fun (one : Nat) => (some one)) = some (ring t n size) := by
      rw [compO_some (fun x => @decide (rnk t n x = size) (Classical.propDecidable _)) id (by rw [List.length_range]; omega)]
      · rw [List.map_id]; rfl
      · intro x hx
        rw [List.getElem?_map, List.getElem?_range (List.mem_range.mp hx)]
        refine ⟨?_, fun _ => rfl⟩
        refine congrArg some ?_
        by_cases h : rnk t n x = size <;> simp [h]
    rw [lim_of h62, bind_of hc]
    by_cases h0 : 0 < (ring t n size).length
    · rw [if_pos h0] at hl
      simp only [h0, decide_true, if_true]
      rw [lim_of (by simp at hl; omega)]
    · simp only [h0, decide_false, if_false, Bool.false_eq_true, List.append_nil]
end K78


/-! breaker, stands_together, closure, together, parts -/
namespace K78
open Aw
def brkI (o : Option Nat) : Int := match o with | some x => (x : Int) | none => -1
theorem sp_breaker {n : Nat} {t : Tb} (hq : Sq n t) (hn : n ≤ 1000) {L : List Nat} (hL : ∀ x ∈ L, x < n) (hl : L.length ≤ 1000) : o_breaker t L = some (brkI (brk t n L)) := by
  refine out_of ?_
  unfold g_breaker
  rw [hq.len]
  refine limI (lt62 hn) (findI (brkP t L) (fun x => (x : Int)) (fun x hx => ?_) ?_)
  · have hx := List.mem_range.mp hx
    by_cases hm : x ∈ L
    · simp [hm, brkP]
    · simp only [hm, decide_false, Bool.not_false, if_true]
      refine filtI (ent t x) (by omega) (fun y hy => ?_) ?_
      · rw [bind_of (hq.get hx), bind_of (hq.get2 hx (hL y hy))]
      · simp only [brkP, hm, not_false_eq_true, decide_true, Bool.true_and, Bool.decide_and]
  · unfold brk
    cases (List.range n).find? (brkP t L) <;> rfl
theorem sp_stands {n : Nat} {t : Tb} (hq : Sq n t) (hn : n ≤ 1000) {L : List Nat} (hL : ∀ x ∈ L, x < n) (hl : L.length ≤ 1000) (hm : Mod t n (· ∈ L)) : o_stands_together t L = some true := by
  refine out_of ?_
  unfold g_stands_together
  rw [bind_of (sp_breaker hq hn hL hl), (brk_none hL).mpr hm]; rfl
theorem sp_closure {n : Nat} {t : Tb} (hq : Sq n t) (hn : n ≤ 1000) {L : List Nat} (hL : ∀ x ∈ L, x < n) (nd : L.Nodup) : o_closure t L = some (lst n (Cl t n L)) := by
  refine out_of ?_
  unfold g_closure
  have srt : ∀ {xs : List Nat}, xs.Nodup → (sortN xs).Pairwise (· < ·) := fun {xs} nd => by
    have h1 := sortN_le xs
    have h2 : (sortN xs).Nodup := (sortN_perm xs).nodup_iff.mpr nd
    exact (h1.and h2).imp fun h => by omega
  have hm : ∀ {xs : List Nat} {x : Nat}, x ∈ sortN xs ↔ x ∈ xs := fun {xs x} => (sortN_perm xs).mem_iff
  let I : Nat → List Nat × Int → Prop := fun m s => s.1.Pairwise (· < ·) ∧ (∀ x ∈ s.1, x < n) ∧ (∀ x ∈ L, x ∈ s.1) ∧ (∀ x ∈ s.1, Cl t n L x) ∧ s.2 = brkI (brk t n s.1) ∧ n - s.1.length ≤ m
  have ndl : ∀ {xs : List Nat}, xs.Pairwise (· < ·) → xs.Nodup := fun h => h.imp fun h => by omega
  have h0 : ∀ x ∈ sortN L, x < n := fun x hx => hL x (hm.mp hx)
  have hl0 := len_le_of_lt (ndl (srt nd)) h0
  refine bindI (sp_breaker hq hn h0 (by omega)) (whileI I (Q := fun s => s.1 = lst n (Cl t n L)) n (by omega) ⟨srt nd, h0, fun x hx => hm.mpr hx, fun x hx => Cl.of (hm.mp hx), rfl, by simp only; omega⟩ ?_ ?_)
  · rintro m ⟨f, b⟩ ⟨i1, i2, i3, i4, i5, i6⟩
    simp only at i1 i2 i3 i4 i5 i6
    cases hb : brk t n f with
    | none =>
      rw [hb] at i5; subst i5
      refine .inl ⟨rfl, rise_eq i1 (lst_lt _ _) fun x => ?_⟩
      rw [mem_lst]
      exact ⟨fun hx => ⟨i2 x hx, i4 x hx⟩, fun ⟨_, hx⟩ => hx _ ((brk_none i2).mp hb) i3⟩
    | some x =>
      rw [hb] at i5; subst i5
      obtain ⟨hx, hxf, a, b, ha, hbf, e1, e2⟩ := brk_some hb
      have hlf := len_le_of_lt (ndl i1) i2
      have nd2 : (f ++ [x]).Nodup := List.nodup_append.mpr ⟨ndl i1, by simp, fun u hu v hv e => by simp at hv; subst hv; subst e; exact hxf hu⟩
      have h2 : ∀ y ∈ sortN (f ++ [x]), y < n := fun y hy => by
        rcases List.mem_append.mp (hm.mp hy) with h | h
        · exact i2 y h
        · simp at h; subst h; exact hx
      have hl2 := len_le_of_lt (ndl (srt nd2)) h2
      have hlen : (sortN (f ++ [x])).length = f.length + 1 := by rw [(sortN_perm _).length_eq, List.length_append]; rfl
      refine .inr ⟨by simp [brkI], (sortN (f ++ [x]), brkI (brk t n (sortN (f ++ [x])))), m - 1, ?_, by omega, srt nd2, h2, fun y hy => hm.mpr (List.mem_append_left _ (i3 y hy)), fun y hy => ?_, rfl, by simp only; omega⟩
      · refine limI (by simp [brkI]) (limI ?_ ?_)
        · simp only [List.length_singleton]; omega
        · simp only [brkI, Int.toNat_natCast]
          exact bindI (sp_breaker hq hn h2 (by omega)) rfl
      · rcases List.mem_append.mp (hm.mp hy) with h | h
        · exact i4 y h
        · simp at h; subst h
          refine Classical.byContradiction fun hc => ?_
          have := Cl.mod t n L y hx hc a b (i2 a ha) (i2 b hbf) (i4 a ha) (i4 b hbf)
          rw [e1, e2] at this; cases this
  · rintro ⟨f, b⟩ h
    simp only at h; subst h; rfl
open Classical in
theorem sp_together {n : Nat} {t : Tb} (hq : Sq n t) (hn : n ≤ 1000) {a b : Nat} (ha : a < n) (hb : b < n) : o_together t a b = some (decide (Bes t n a b)) := by
  refine out_of ?_
  unfold g_together
  have h : orO (decide (a = b)) ((o_closure t [a, b]).bind fun t1 => some (decide (t1.length < t.length))) = some (decide (Bes t n a b)) := by
    by_cases e : a = b
    · have : Bes t n a b := .inl e
      rw [e] at this
      simp [orO, e, this]
    · rw [sp_closure hq hn (L := [a, b]) (by simp; exact ⟨ha, hb⟩) (by simp [e]), hq.len]
      simp only [e, orO, decide_false, if_false, Bool.false_eq_true, Option.bind_some]
      refine congrArg some (decide_eq_decide.mpr ?_)
      rw [bes_iff]; simp [e]
  exact bindI h rfl
/-- the class of a thing -/
noncomputable def cls (t : Tb) (n a : Nat) : List Nat := lst n (Bes t n a)
structure PInv (t : Tb) (n i : Nat) (s : List (List Nat) × List (Nat × Bool)) : Prop where
  cls : ∀ p ∈ s.1, ∃ a, a < n ∧ p = cls t n a
  nd : s.1.flatten.Nodup
  upto : ∀ x, x < i → x ∈ s.1.flatten
  met : ∀ x, x ∈ s.2.map (·.1) ↔ x ∈ s.1.flatten
  mnd : (s.2.map (·.1)).Nodup
theorem cls_parts {t : Tb} {n : Nat} {s : List (List Nat) × List (Nat × Bool)} (h : PInv t n n s) : PartsOf t n s.1 where
  ne := fun p hp => by
    obtain ⟨a, ha, rfl⟩ := h.cls p hp
    exact List.ne_nil_of_mem (mem_lst.mpr ⟨ha, .inl rfl⟩)
  lt := fun p hp x hx => by
    obtain ⟨a, ha, rfl⟩ := h.cls p hp
    exact (mem_lst.mp hx).1
  nd := h.nd
  all := h.upto
  mod := fun p hp => by
    obtain ⟨a, ha, rfl⟩ := h.cls p hp
    exact (bes_mod ha).congr fun x hx => by
      show _ ↔ x ∈ lst n _
      rw [mem_lst]; exact ⟨fun h => ⟨hx, h⟩, fun h => h.2⟩
theorem sp_parts {n : Nat} {t : Tb} (h : IsTb n t) (hn : n ≤ 1000) (h0 : 0 < n) : ∃ ps, o_parts t = some ps ∧ PartsOf t n ps ∧ ((ringsL t n).length = 1 ∨ ps = ringsL t n) := by
  have hq := h.sq
  have hr1 : 1 ≤ (ringsL t n).length := by
    have := ringsL_head h h0
    cases q : ringsL t n with
    | nil => rw [q] at this; cases this
    | cons => simp
  have key : ∀ {o : Option (Flow (List (List Nat)) Empty (List (List Nat)))}, (∃ ps, o = some (.ret ps) ∧ PartsOf t n ps ∧ ((ringsL t n).length = 1 ∨ ps = ringsL t n)) → ∃ ps, outO o = some ps ∧ PartsOf t n ps ∧ ((ringsL t n).length = 1 ∨ ps = ringsL t n) := by
    rintro o ⟨ps, rfl, h⟩; exact ⟨ps, rfl, h⟩
  refine key ?_
  unfold g_parts
  rw [bind_of (sp_rings hq hn), hq.len]
  by_cases hc : (decide (1 < (ringsL t n).length) || decide (n = 1)) = true
  · rw [if_pos hc]
    exact ⟨_, rfl, ringsL_parts h, .inr rfl⟩
  · rw [if_neg hc, thenF_nx]
    simp only [Bool.or_eq_true, decide_eq_true_eq, not_or] at hc
    have hs := strong_of h h0 (by omega)
    rw [lim_of (lt62 hn)]
    refine forE (Q := fun o => ∃ ps, o = some (.ret ps) ∧ PartsOf t n ps ∧ ((ringsL t n).length = 1 ∨ ps = ringsL t n)) (fun i s => PInv t n i s) ⟨by simp, by simp, fun x hx => by omega, by simp, by simp⟩ ?_ ?_
    · rintro i a ⟨fs, M⟩ hi I
      have hin : i < n := by
        have := (List.getElem?_eq_some_iff.mp hi).1
        rwa [List.length_range] at this
      rw [List.getElem?_range hin] at hi
      cases hi
      have ffl : ∀ x ∈ fs.flatten, x < n := fun x hx => by
        obtain ⟨p, hp, hx⟩ := List.mem_flatten.mp hx
        obtain ⟨b, _, rfl⟩ := I.cls p hp
        exact (mem_lst.mp hx).1
      by_cases hm : i ∈ M.map (·.1)
      · refine ⟨(fs, M), by simp [hasK, hm], I.cls, I.nd, fun x hx => ?_, I.met, I.mnd⟩
        by_cases e : x = i
        · subst e; exact (I.met x).mp hm
        · exact I.upto x (by omega)
      · simp only [hasK, hm, decide_false, Bool.not_false, if_true]
        rw [lim_of (lt62 hn)]
        have e1 : (compO (List.range n) (fun other => (o_together t i other).bind fun t9 => some t9) fun other => some other) = some (cls t n i) := by
          rw [filt_some (fun x => @decide (Bes t n i x) (Classical.propDecidable _)) (by rw [List.length_range]; omega) fun x hx => by rw [sp_together hq hn hin (List.mem_range.mp hx)]; rfl]
          rfl
        rw [bind_of e1]
        have hcl : ∀ x ∈ cls t n i, x < n := fun x hx => (mem_lst.mp hx).1
        have hdis : ∀ a ∈ fs.flatten, a ∉ cls t n i := fun x hx hc => by
          obtain ⟨p, hp, hx⟩ := List.mem_flatten.mp hx
          obtain ⟨b, hb, rfl⟩ := I.cls p hp
          refine hm ((I.met i).mpr (List.mem_flatten.mpr ⟨_, hp, mem_lst.mpr ⟨hin, ?_⟩⟩))
          exact bes_trans h hs hb (mem_lst.mp hx).1 hin (mem_lst.mp hx).2 (mem_lst.mp hc).2.symm
        refine forE (Q := fun o => ∃ s', o = some (.nx s') ∧ PInv t n (i + 1) s') (fun j (m : List (Nat × Bool)) => (∀ x, x ∈ m.map (·.1) ↔ x ∈ M.map (·.1) ∨ x ∈ (cls t n i).take j) ∧ (m.map (·.1)).Nodup) ⟨by simp, I.mnd⟩ ?_ ?_
        · rintro j x m hj ⟨k1, k2⟩
          have hx : ∀ x ∈ m.map (·.1), x < n := fun x hx => by
            rcases (k1 x).mp hx with hx | hx
            · exact ffl x ((I.met x).mp hx)
            · exact hcl x (List.mem_of_mem_take hx)
          have hl := len_le_of_lt k2 hx
          rw [List.length_map] at hl
          rw [lim_of (by omega)]
          refine ⟨_, rfl, fun y => ?_, putM_nd k2⟩
          have ht : (cls t n i).take (j + 1) = (cls t n i).take j ++ [x] := by rw [List.take_add_one, hj]; rfl
          rw [mem_putM, k1, ht, List.mem_append, List.mem_singleton, or_assoc]
        · rintro m ⟨k1, k2⟩
          rw [List.take_length] at k1
          have hfl : fs.length ≤ n := Nat.le_trans (len_le_flat fun p hp => by
            obtain ⟨a, ha, rfl⟩ := I.cls p hp
            exact List.ne_nil_of_mem (mem_lst.mpr ⟨ha, .inl rfl⟩)) (len_le_of_lt I.nd ffl)
          rw [lim_of (by omega)]
          refine ⟨_, rfl, fun p hp => ?_, ?_, fun x hx => ?_, fun x => ?_, k2⟩
          · rcases List.mem_append.mp hp with hp | hp
            · exact I.cls p hp
            · simp at hp; exact ⟨i, hin, hp⟩
          · simp only [List.flatten_append, List.flatten_singleton]
            exact List.nodup_append.mpr ⟨I.nd, lst_nodup _ _, fun a ha b hb e => hdis a ha (e ▸ hb)⟩
          · simp only [List.flatten_append, List.flatten_singleton, List.mem_append]
            by_cases e : x = i
            · subst e; exact .inr (mem_lst.mpr ⟨hin, .inl rfl⟩)
            · exact .inl (I.upto x (by omega))
          · simp only [List.flatten_append, List.flatten_singleton, List.mem_append]
            rw [k1, I.met]
    · rintro ⟨fs, M⟩ I
      rw [List.length_range] at I
      exact ⟨fs, rfl, cls_parts I, .inl (by omega)⟩
end K78


/-! places_of, folded -/
namespace K78
open Aw
theorem enumL_get {α : Type} {xs : List α} {i : Nat} {p : Nat × α} (h : (enumL xs)[i]? = some p) : p.1 = i ∧ xs[i]? = some p.2 := by
  unfold enumL at h
  rw [List.getElem?_map, List.getElem?_zipIdx] at h
  cases q : xs[i]? with
  | none => rw [q] at h; cases h
  | some x =>
    rw [q] at h
    cases h
    exact ⟨by simp, rfl⟩
theorem enumL_len {α : Type} {xs : List α} : (enumL xs).length = xs.length := by simp [enumL]
/-- the things told so far have a place -/
def Plc (n : Nat) (pre : List Nat) (L : List Int) : Prop := L.length = n ∧ ∀ x, x < n → (x ∈ pre → ∃ a : Nat, L[x]? = some (a : Int)) ∧ (x ∉ pre → L[x]? = some (-1))
theorem sp_places {n : Nat} {t : Tb} {ps : List (List Nat)} (P : PartsOf t n ps) (hn : n ≤ 1000) : ∃ v, o_places_of ps n = some v := by
  suffices h : ∃ v, g_places_of ps n = some (.ret v) by
    obtain ⟨v, h⟩ := h; exact ⟨v, out_of h⟩
  unfold g_places_of
  rw [lim_of (lt62 hn)]
  have e1 : compO (List.range n) (fun (_ : Nat) => some true) (fun (_ : Nat) => some (-1 : Int)) = some ((List.range n).map fun _ => (-1 : Int)) :=
    mapO_some (g := fun _ => some (-1 : Int)) (fun _ => (-1 : Int)) (by rw [List.length_range]; omega) fun _ _ => rfl
  rw [bind_of e1]
  refine forE (Q := fun o => ∃ v, o = some (.ret v)) (fun i s => Plc n (ps.take i).flatten s) ⟨by simp, fun x hx => ⟨fun h => by simp at h, fun _ => by simp [hx]⟩⟩ ?_ ?_
  · rintro i ⟨k, p⟩ L hi hL
    obtain ⟨hk, hp⟩ := enumL_get hi
    simp only at hk hp
    subst hk
    have hmem := List.mem_of_getElem? hp
    have hne := P.ne _ hmem
    have hkl := (List.getElem?_eq_some_iff.mp hp).1
    simp only [hne, decide_false, Bool.false_eq_true, if_false, thenF_nx]
    have hsplit : ps.flatten = (ps.take k).flatten ++ p ++ (ps.drop (k + 1)).flatten := by
      conv => lhs; rw [← List.take_append_drop k ps, List.drop_eq_getElem_cons hkl]
      rw [List.flatten_append, List.flatten_cons, List.append_assoc]
      rw [List.getElem?_eq_getElem hkl] at hp
      rw [Option.some.inj hp]
    have hnd : ((ps.take k).flatten ++ p).Nodup := by
      have := P.nd
      rw [hsplit] at this
      exact (List.nodup_append.mp this).1
    have htk1 : ps.take (k + 1) = ps.take k ++ [p] := by rw [List.take_add_one, hp]; rfl
    refine forE (Q := fun o => ∃ s', o = some (.nx s') ∧ Plc n (ps.take (k + 1)).flatten s') (fun j s => Plc n ((ps.take k).flatten ++ p.take j) s) (by rw [List.take_zero, List.append_nil]; exact hL) ?_ ?_
    · rintro j x L hj hL
      have hx := P.lt _ hmem x (List.mem_of_getElem? hj)
      have hjl := (List.getElem?_eq_some_iff.mp hj).1
      have htk : p.take (j + 1) = p.take j ++ [x] := by rw [List.take_add_one, hj]; rfl
      have hnot : x ∉ (ps.take k).flatten ++ p.take j := by
        intro h
        have h2 := hnd
        rw [List.getElem?_eq_getElem hjl] at hj
        have hj := Option.some.inj hj
        conv at h2 => rw [← List.take_append_drop j p, List.drop_eq_getElem_cons hjl, ← List.append_assoc, hj]
        exact (List.nodup_append.mp h2).2.2 _ h _ List.mem_cons_self rfl
      have hm1 := (hL.2 x hx).2 hnot
      have e2 : orO (decide (x < 0)) ((orO (decide (n ≤ x)) ((L[x]?).bind fun t11 => some (decide (((0 : Nat) : Int) ≤ t11)))).bind fun t13 => some t13) = some false := by
        rw [hm1]
        simp [orO, show ¬ n ≤ x by omega]
      rw [bind_of e2]
      simp only [Bool.false_eq_true, if_false, thenF_nx]
      rw [lim_of (by rw [hL.1]; exact hx)]
      refine ⟨_, rfl, by rw [List.length_set]; exact hL.1, fun y hy => ?_⟩
      rw [htk, ← List.append_assoc]
      by_cases e : x = y
      · subst e
        refine ⟨fun _ => ⟨k, ?_⟩, fun h => absurd (by simp) h⟩
        rw [List.getElem?_set_self (by rw [hL.1]; exact hx)]
      · rw [List.getElem?_set_ne e]
        have := hL.2 y hy
        rw [List.mem_append, List.mem_singleton]
        exact ⟨fun h => this.1 (h.resolve_right fun q => e q.symm), fun h => this.2 fun q => h (.inl q)⟩
    · intro L hL
      rw [List.take_length] at hL
      refine ⟨L, rfl, ?_⟩
      rw [htk1, List.flatten_append, List.flatten_singleton]
      exact hL
  · intro L hL
    rw [enumL_len, List.take_length] at hL
    have : ¬ (-1 : Int) ∈ L := by
      intro h
      obtain ⟨x, hx, e⟩ := List.mem_iff_getElem.mp h
      have hxn : x < n := by rw [← hL.1]; exact hx
      obtain ⟨a, ha⟩ := (hL.2 x hxn).1 (P.all x hxn)
      rw [List.getElem?_eq_getElem hx, e] at ha
      have := Option.some.inj ha
      omega
    simp only [this, decide_false, Bool.false_eq_true, if_false, thenF_nx]
    exact ⟨_, rfl⟩
theorem sp_folded {n : Nat} {t : Tb} {ps : List (List Nat)} (hq : Sq n t) (P : PartsOf t n ps) (hn : n ≤ 1000) : o_folded t ps = some (sub t (heads ps)) := by
  obtain ⟨v, hv⟩ := sp_places P hn
  refine out_of ?_
  have hpl := P.len
  unfold g_folded
  rw [hq.len, bind_of hv]
  refine passI (fun p hp => ?_) ?_
  · rw [bind_of (sp_stands hq hn (P.lt p hp) (Nat.le_trans (P.sub_len hp) hn) (P.mod p hp))]; rfl
  · refine mapI (fun p : List Nat => p.headD 0) (by omega) (fun p hp => ?_) ?_
    · have := P.ne p hp
      cases p with
      | nil => exact absurd rfl this
      | cons a l => rfl
    · show thenF (forO _ (heads ps) []) _ = _
      have hl : (heads ps).length = ps.length := heads_len
      refine appI (fun a => [(heads ps).map (ent t a)]) 2000 (by rw [List.length_nil, show (heads ps).map (fun a => [(heads ps).map (ent t a)].length) = (heads ps).map (fun _ => 1) from rfl, List.map_const', List.sum_replicate_nat]; omega) (fun a ha s hs => ?_) ?_
      · have ea : (compO (heads ps) (fun (_ : Nat) => some true) (fun (other : Nat) => (t[a]?).bind fun t16 => (t16[other]?).bind fun t18 => some t18)) = some ((heads ps).map (ent t a)) :=
          mapO_some (ent t a) (by omega) fun b hb => by rw [bind_of (hq.get (P.heads_lt a ha)), bind_of (hq.get2 (P.heads_lt a ha) (P.heads_lt b hb))]
        have ea2 : (compO (List.map (fun p : List Nat => p.headD 0) ps) (fun (_ : Nat) => some true) (fun (other : Nat) => (t[a]?).bind fun t16 => (t16[other]?).bind fun t18 => some t18)) = some ((heads ps).map (ent t a)) := ea
        rw [bind_of ea2]
        simp only [List.length_singleton] at hs
        rw [lim_of (by omega)]
      · rw [List.nil_append]
        refine congrArg (fun x => some (Flow.ret x)) ?_
        rw [sub, List.flatMap_def]
        rw [show (List.map (fun a => [List.map (ent t a) (heads ps)]) (heads ps)).flatten = (heads ps).map fun a => (heads ps).map (ent t a) by
          generalize heads ps = hs2
          have : ∀ (f : Nat → List Bool) (xs : List Nat), (xs.map fun a => [f a]).flatten = xs.map f := by
            intro f xs
            induction xs with
            | nil => rfl
            | cons x xs ih => rw [List.map_cons, List.flatten_cons, ih]; rfl
          exact this (fun a => List.map (ent t a) hs2) hs2]
end K78


/-! _law_part -/
namespace K78
open Aw
theorem sp_part {n : Nat} {t : Tb} (hq : Sq n t) {L : List Nat} (hL : ∀ x ∈ L, x < n) (hl : L.length ≤ 1000) : o__law_part t L = some (sub t L) := by
  refine out_of ?_
  unfold g__law_part
  refine mapI (fun a => L.map (ent t a)) (by omega) (fun a ha => ?_) rfl
  exact mapI (ent t a) (by omega) (fun b hb => by rw [bind_of (hq.get (hL a ha)), bind_of (hq.get2 (hL a ha) (hL b hb))]) rfl
end K78


/-! pairings, scores, even weights, odd sets -/
namespace K78
open Aw
def wf (W : List Int) : Nat → Int := fun i => W.getD i 0
theorem wf_get {W : List Int} {i : Nat} (h : i < W.length) : W[i]? = some (wf W i) := by
  unfold wf; rw [List.getD_eq_getElem?_getD, List.getElem?_eq_getElem h]; rfl
theorem rng_get {a b i x : Nat} (h : (rng a b)[i]? = some x) : x = a + i ∧ a + i < b := by
  unfold rng at h
  rw [List.getElem?_map] at h
  by_cases hi : i < b - a
  · rw [List.getElem?_range hi] at h
    cases h; exact ⟨rfl, by omega⟩
  · rw [List.getElem?_eq_none (by rw [List.length_range]; omega)] at h; cases h
theorem rng_len {a b : Nat} : (rng a b).length = b - a := by simp [rng]
theorem sp_pf {n : Nat} {t : Tb} (h : IsTb n t) (hn : n ≤ 1000) : ∀ (d : Nat) (L : List Nat), (∀ x ∈ L, x < n) → L.Nodup → L.length ≤ 2 * d → oR_paired_sum (d + 1) t L = some (pfF (sg t) (d + 1) L)
  | d, [], _, _, _ => by
    show outO (g_paired_sum (oR_paired_sum d) t []) = _
    unfold g_paired_sum
    simp [pfF, outO]
  | 0, x :: xs, _, _, hd => by simp at hd
  | d + 1, x :: xs, hL, nd, hd => by
    have hx := hL x List.mem_cons_self
    have nd' := List.nodup_cons.mp nd
    have hlen := len_le_of_lt nd hL
    refine out_of ?_
    unfold g_paired_sum
    have hne : ¬ (x :: xs : List Nat) = [] := by simp
    simp only [hne, decide_false, Bool.false_eq_true, if_false, thenF_nx]
    refine bindI (a := x) rfl (limI (by decide) (limI (lt62 (by omega)) (forI (fun i s => s = sm i fun k => (if k % 2 = 0 then 1 else -1) * sg t x (xs.getD k 0) * pfF (sg t) (d + 1) (xs.eraseIdx k)) rfl ?_ ?_)))
    · rintro i k s hi rfl
      obtain ⟨rfl, hi⟩ := rng_get hi
      have hlc : (x :: xs).length = xs.length + 1 := rfl
      have hi' : i < xs.length := by omega
      have e1 : List.drop 1 (List.take (1 + i) (x :: xs)) ++ List.drop (1 + i + 1) (x :: xs) = xs.eraseIdx i := by
        rw [List.eraseIdx_eq_take_drop_succ, show 1 + i = i + 1 by omega]; rfl
      have l1 : (xs.eraseIdx i).length = xs.length - 1 := List.length_eraseIdx_of_lt hi'
      have l2 : (List.drop 1 (List.take (1 + i) (x :: xs))).length + (List.drop (1 + i + 1) (x :: xs)).length ≤ 100000 := by
        rw [← List.length_append, e1]; omega
      have hm := getD_mem hi'
      have hy := hL _ (List.mem_cons_of_mem _ hm)
      have hxy : x ≠ xs.getD i 0 := fun e => nd'.1 (e ▸ hm)
      have hr := sp_pf h hn d (xs.eraseIdx i) (fun y hy => hL y (List.mem_cons_of_mem _ (List.mem_of_mem_eraseIdx hy))) (nd'.2.sublist (List.eraseIdx_sublist _ _)) (by omega)
      have g1 : (x :: xs)[1 + i]? = some (xs.getD i 0) := by rw [show 1 + i = i + 1 by omega, List.getElem?_cons_succ, getD_some hi']
      rw [lim_of l2, e1, bind_of hr, bind_of (h.sq.get hx), bind_of g1, bind_of (h.sq.get2 hx hy)]
      simp only [show (0 : Nat) < 2 by omega, if_true]
      rw [sm_succ]
      have hsg : sg t x (xs.getD i 0) = if ent t x (xs.getD i 0) = true then 1 else -1 := by
        unfold sg
        rw [h.two _ _ hx hy hxy]
        cases ent t (xs.getD i 0) x <;> simp
      rw [hsg]
      by_cases p : i % 2 = 0
      · have p1 : (1 + i) % 2 = 1 := by omega
        cases ent t x (xs.getD i 0) <;> simp [p, p1] <;> omega
      · have p1 : (1 + i) % 2 = 0 := by omega
        have p2 : i % 2 = 1 := by omega
        cases ent t x (xs.getD i 0) <;> simp [p2, p1] <;> omega
    · rintro s rfl
      rw [rng_len]; rfl
theorem sp_kernel {m : Nat} {u : Tb} (h : IsTb m u) (hm : m ≤ 7) : o_kernel u = some ((List.range m).map (krn (sg u) m)) := by
  refine out_of ?_
  unfold g_kernel
  rw [h.sq.len]
  refine limI (lt62 (by omega)) (appI (fun k => [krn (sg u) m k]) 1000 (by rw [show (List.range m).map (fun x => [krn (sg u) m x].length) = (List.range m).map (fun _ => 1) from rfl, List.map_const', List.sum_replicate_nat, List.length_range, List.length_nil]; omega) (fun k hk s hs => ?_) ?_)
  · have hk := List.mem_range.mp hk
    have e1 : (compO (List.range m) (fun (one : Nat) => some (!decide (one = k))) fun one => some one) = some (others m k) := by
      rw [filt_some (fun x => decide (x ≠ k)) (by rw [List.length_range]; omega) fun x _ => by simp]
      rfl
    have hl : (others m k).length ≤ 6 := by
      have h1 : ((k :: others m k)).Nodup := List.nodup_cons.mpr ⟨fun q => by simp [others] at q, List.Pairwise.filter _ List.nodup_range⟩
      have := len_le_of_lt h1 fun x hx => by
        rcases List.mem_cons.mp hx with rfl | hx
        · exact hk
        · exact List.mem_range.mp (List.mem_filter.mp hx).1
      rw [List.length_cons] at this; omega
    have e2 : o_paired_sum u (others m k) = some (pfF (sg u) 4 (others m k)) := sp_pf h (by omega) 3 (others m k) (fun x hx => List.mem_range.mp (List.mem_filter.mp hx).1) (List.Pairwise.filter _ List.nodup_range) hl
    refine limI (lt62 (by omega)) ?_
    rw [bind_of e1, bind_of e2, lim_of (by omega)]
    have mo : ∀ (i j : Int), j.natAbs < 18446744073709551616 → mulOk i j = true := fun i j hj => by
      unfold mulOk; simp [hj]
    rw [lim_of (mo _ _ (by omega)), lim_of (mo _ _ (by omega))]
    simp only [List.length_singleton] at hs
    rw [lim_of (by omega)]
    refine congrArg (fun x => some (Flow.nx (s ++ [x]))) ?_
    unfold krn
    by_cases p : k % 2 = 0
    · rw [if_pos p, p]; simp
    · rw [if_neg p, show k % 2 = 1 by omega]; simp
  · rw [List.nil_append]
    refine congrArg (fun x => some (Flow.ret x)) ?_
    rw [List.flatMap_def]
    have : ∀ (f : Nat → Int) (xs : List Nat), (xs.map fun a => [f a]).flatten = xs.map f := by
      intro f xs
      induction xs with
      | nil => rfl
      | cons x xs ih => rw [List.map_cons, List.flatten_cons, ih]; rfl
    exact this _ _
theorem sp_prt {n : Nat} {t : Tb} (hq : Sq n t) {L : List Nat} (hL : ∀ x ∈ L, x < n) (hl : L.length ≤ 1000) : o_part t L = some (sub t L) := by
  refine out_of ?_
  unfold g_part
  refine appI (fun a => [L.map (ent t a)]) 2000 (by rw [show L.map (fun a => [L.map (ent t a)].length) = L.map (fun _ => 1) from rfl, List.map_const', List.sum_replicate_nat, List.length_nil]; omega) (fun a ha s hs => ?_) ?_
  · have ea : (compO L (fun (_ : Nat) => some true) (fun (other : Nat) => (t[a]?).bind fun t16 => (t16[other]?).bind fun t18 => some t18)) = some (L.map (ent t a)) :=
      mapO_some (ent t a) (by omega) fun b hb => by rw [bind_of (hq.get (hL a ha)), bind_of (hq.get2 (hL a ha) (hL b hb))]
    rw [bind_of ea]
    simp only [List.length_singleton] at hs
    rw [lim_of (by omega)]
  · rw [List.nil_append]
    refine congrArg (fun x => some (Flow.ret x)) ?_
    rw [sub, List.flatMap_def]
    have : ∀ (f : Nat → List Bool) (xs : List Nat), (xs.map fun a => [f a]).flatten = xs.map f := by
      intro f xs
      induction xs with
      | nil => rfl
      | cons x xs ih => rw [List.map_cons, List.flatten_cons, ih]; rfl
    exact this _ _
theorem sum_filter (p : Nat → Bool) (f : Nat → Int) : ∀ n : Nat, (((List.range n).filter p).map f).sum = sm n fun j => if p j = true then f j else 0
  | 0 => rfl
  | n + 1 => by
    rw [List.range_succ, List.filter_append, List.map_append, List.sum_append, sum_filter p f n, sm_succ]
    cases q : p n <;> simp [q]
theorem sp_score {n : Nat} {t : Tb} (h : IsTb n t) (hn : n ≤ 1000) {W : List Int} (hW : W.length = n) {i : Nat} (hi : i < n) : o_score t W i = some (scr t n (wf W) i) := by
  have hq := h.sq
  have b1 : o_beaten_by t i = some ((List.range n).filter (ent t i)) := by
    refine out_of ?_
    unfold g_beaten_by
    rw [hq.len]
    exact limI (lt62 hn) (filtI (ent t i) (by rw [List.length_range]; omega) (fun j hj => by rw [bind_of (hq.get hi), bind_of (hq.get2 hi (List.mem_range.mp hj))]) rfl)
  have b2 : o_beaters_of t i = some ((List.range n).filter fun j => ent t j i) := by
    refine out_of ?_
    unfold g_beaters_of
    rw [hq.len]
    exact limI (lt62 hn) (filtI (fun j => ent t j i) (by rw [List.length_range]; omega) (fun j hj => by rw [bind_of (hq.get (List.mem_range.mp hj)), bind_of (hq.get2 (List.mem_range.mp hj) hi)]) rfl)
  have hl : ∀ p : Nat → Bool, ((List.range n).filter p).length ≤ 100000 := fun p => by
    have := List.length_filter_le p (List.range n)
    rw [List.length_range] at this; omega
  have hg : ∀ (p : Nat → Bool), ∀ j ∈ (List.range n).filter p, (W[j]?).bind (fun t4 => some t4) = some (wf W j) := fun p j hj => by
    rw [wf_get (by rw [hW]; exact List.mem_range.mp (List.mem_filter.mp hj).1)]; rfl
  refine out_of ?_
  unfold g_score
  refine bindI b1 (mapI (wf W) (hl _) (hg _) (bindI b2 (mapI (wf W) (hl _) (hg _) ?_)))
  refine congrArg (fun x => some (Flow.ret x)) ?_
  rw [sum_filter, sum_filter, ← sm_sub]
  refine sm_congr fun j hj => ?_
  unfold sg
  by_cases e : i = j
  · subst e; rw [h.self i hi]; simp
  · rw [h.two i j hi hj e]
    cases ent t j i <;> simp
open Classical in
theorem sp_even {n : Nat} {t : Tb} (h : IsTb n t) (hn : n ≤ 1000) (h0 : 0 < n) {W : List Int} (hW : W.length = n) : o_is_even t W = some (decide (Even t n (wf W))) := by
  have mem : ∀ i, i < n → wf W i ∈ W := fun i hi => by
    unfold wf; rw [List.getD_eq_getElem?_getD, List.getElem?_eq_getElem (by rw [hW]; exact hi)]; exact List.getElem_mem _
  have get : ∀ x ∈ W, ∃ i, i < n ∧ wf W i = x := fun x hx => by
    obtain ⟨i, hi, e⟩ := List.mem_iff_getElem.mp hx
    exact ⟨i, by rw [← hW]; exact hi, by unfold wf; rw [List.getD_eq_getElem?_getD, List.getElem?_eq_getElem hi]; exact e⟩
  obtain ⟨m, hm⟩ : ∃ m, leastI W = some m := by
    cases W with
    | nil => simp at hW; omega
    | cons x xs => exact ⟨_, rfl⟩
  obtain ⟨M, hM⟩ : ∃ M, mostI W = some M := by
    cases W with
    | nil => simp at hW; omega
    | cons x xs => exact ⟨_, rfl⟩
  obtain ⟨l1, l2⟩ := leastI_le hm
  obtain ⟨m1, m2⟩ := mostI_ge hM
  refine out_of ?_
  unfold g_is_even
  rw [bind_of hm]
  have e1 : orO (decide (m < ((0 : Nat) : Int))) ((mostI W).bind fun t3 => some (decide (t3 = ((0 : Nat) : Int)))) = some (decide (m < 0 ∨ M = 0)) := by
    rw [hM]
    unfold orO
    by_cases q : m < 0 <;> simp [q]
  rw [bind_of e1]
  by_cases q : m < 0 ∨ M = 0
  · have : ¬ Even t n (wf W) := fun E => by
      obtain ⟨i, hi, hp⟩ := E.some
      rcases q with q | q
      · obtain ⟨j, hj, e⟩ := get m l2
        have := E.nn j hj; omega
      · have := m1 _ (mem i hi); omega
    simp [q, this]
  · have nn : ∀ i, i < n → 0 ≤ wf W i := fun i hi => by have := l1 _ (mem i hi); omega
    simp only [q, decide_false, Bool.false_eq_true, if_false, thenF_nx]
    rw [h.sq.len]
    refine limI (lt62 hn) (findI (fun i => (decide (0 < wf W i) && !decide (scr t n (wf W) i = 0)) || (decide (wf W i = 0) && decide (0 ≤ scr t n (wf W) i))) (fun _ => false) (fun i hi => ?_) ?_)
    · have hi := List.mem_range.mp hi
      rw [bind_of (sp_score h hn hW hi), wf_get (by rw [hW]; exact hi)]
      simp only [Option.bind_some]
      by_cases q1 : 0 < wf W i
      · have q2 : ¬ wf W i = 0 := by omega
        by_cases q3 : scr t n (wf W) i = 0 <;> simp [q1, q2, q3]
      · have q2 : wf W i = 0 := by have := nn i hi; omega
        by_cases q3 : 0 ≤ scr t n (wf W) i <;> simp [q2, q3]
    · have key : ((List.range n).find? fun i => (decide (0 < wf W i) && !decide (scr t n (wf W) i = 0)) || (decide (wf W i = 0) && decide (0 ≤ scr t n (wf W) i))) = none ↔ Even t n (wf W) := by
        rw [List.find?_eq_none]
        constructor
        · intro hh
          refine ⟨nn, ?_, fun i hi hp => ?_, fun i hi hz => ?_⟩
          · obtain ⟨j, hj, e⟩ := get M m2
            exact ⟨j, hj, by have := nn j hj; omega⟩
          · have := hh i (List.mem_range.mpr hi)
            simp [hp] at this; exact this.1
          · have := hh i (List.mem_range.mpr hi)
            simp [hz] at this; exact this
        · intro E i hi
          have hi := List.mem_range.mp hi
          by_cases q1 : 0 < wf W i
          · have q2 : ¬ wf W i = 0 := by omega
            simp [q1, q2, E.on i hi q1]
          · have q2 : wf W i = 0 := by have := nn i hi; omega
            have := E.off i hi q2
            have q3 : ¬ 0 ≤ scr t n (wf W) i := by omega
            simp [q2, q3]
      cases z : (List.range n).find? fun i => (decide (0 < wf W i) && !decide (scr t n (wf W) i = 0)) || (decide (wf W i = 0) && decide (0 ≤ scr t n (wf W) i)) with
      | none => have := key.mp z; simp [this]
      | some x =>
        have : ¬ Even t n (wf W) := fun E => by rw [key.mpr E] at z; cases z
        simp [this]
def Ris (n : Nat) (S : List Nat) : Prop := S.Pairwise (· < ·) ∧ ∀ x ∈ S, x < n
theorem sp_odd_sets {n : Nat} (hn : n ≤ 16) : ∃ L, o_odd_sets n = some L ∧ ∀ S, S ∈ L ↔ Ris n S ∧ S.length % 2 = 1 := by
  have key : ∀ {o : Option (Flow (List (List Nat)) Empty (List (List Nat)))}, (∃ L, o = some (.ret L) ∧ ∀ S, S ∈ L ↔ Ris n S ∧ S.length % 2 = 1) → ∃ L, outO o = some L ∧ ∀ S, S ∈ L ↔ Ris n S ∧ S.length % 2 = 1 := by
    rintro o ⟨L, rfl, h⟩; exact ⟨L, rfl, h⟩
  refine key ?_
  unfold g_odd_sets
  simp only
  rw [lim_of (lt62 (by omega))]
  refine forE (Q := fun o => ∃ L, o = some (.ret L) ∧ ∀ S, S ∈ L ↔ Ris n S ∧ S.length % 2 = 1) (fun i L => (∀ S, S ∈ L ↔ Ris i S) ∧ L.length ≤ 2 ^ i) ⟨fun S => ?_, by simp⟩ ?_ ?_
  · rw [List.mem_singleton]
    constructor
    · rintro rfl; exact ⟨List.Pairwise.nil, by simp⟩
    · rintro ⟨_, h⟩
      cases S with
      | nil => rfl
      | cons a l => have := h a List.mem_cons_self; omega
  · rintro i a L hi ⟨I, hl⟩
    have hin : i < n := by
      have := (List.getElem?_eq_some_iff.mp hi).1
      rwa [List.length_range] at this
    rw [List.getElem?_range hin] at hi
    cases hi
    have h2i : 2 ^ i ≤ 2 ^ 15 := Nat.pow_le_pow_right (by decide) (by omega)
    have e1 : compO L (fun (_ : List Nat) => some true) (fun (one : List Nat) => if one.length + [i].length ≤ 100000 then some (one ++ [i]) else none) = some (L.map fun S => S ++ [i]) :=
      mapO_some (fun S => S ++ [i]) (by omega) fun S hS => by
        have := (I S).mp hS
        have h1 := len_le_of_lt (this.1.imp fun h => Nat.ne_of_lt h) this.2
        rw [lim_of (by rw [List.length_singleton]; omega)]
    rw [bind_of e1, lim_of (by rw [List.length_map]; omega)]
    refine ⟨_, rfl, fun S => ?_, by rw [List.length_append, List.length_map, Nat.pow_succ]; omega⟩
    rw [List.mem_append, I, List.mem_map]
    constructor
    · rintro (⟨h1, h2⟩ | ⟨S', hS', rfl⟩)
      · exact ⟨h1, fun x hx => Nat.lt_succ_of_lt (h2 x hx)⟩
      · obtain ⟨h1, h2⟩ := (I S').mp hS'
        refine ⟨List.pairwise_append.mpr ⟨h1, by simp, fun a ha b hb => by simp at hb; subst hb; exact h2 a ha⟩, fun x hx => ?_⟩
        rcases List.mem_append.mp hx with hx | hx
        · exact Nat.lt_succ_of_lt (h2 x hx)
        · simp at hx; omega
    · rintro ⟨h1, h2⟩
      by_cases hi : i ∈ S
      · right
        obtain ⟨pre, post, rfl⟩ := List.append_of_mem hi
        have hp := (List.pairwise_append.mp h1).2.1
        have : post = [] := by
          cases post with
          | nil => rfl
          | cons b l =>
            have q1 := (List.pairwise_cons.mp hp).1 b List.mem_cons_self
            have q2 := h2 b (by simp)
            omega
        subst this
        refine ⟨pre, (I pre).mpr ⟨(List.pairwise_append.mp h1).1, fun x hx => ?_⟩, rfl⟩
        exact (List.pairwise_append.mp h1).2.2 x hx i List.mem_cons_self
      · left
        refine ⟨h1, fun x hx => ?_⟩
        have q1 := h2 x hx
        have q2 : x ≠ i := fun e => hi (e ▸ hx)
        omega
  · rintro L ⟨I, hl⟩
    rw [List.length_range] at I hl
    have h2n : 2 ^ n ≤ 2 ^ 16 := Nat.pow_le_pow_right (by decide) hn
    refine ⟨L.filter fun S => decide (S.length % 2 = 1), ?_, fun S => ?_⟩
    · exact filtI (fun S => decide (S.length % 2 = 1)) (by omega) (fun S _ => by simp) rfl
    · rw [List.mem_filter, I, decide_eq_true_eq]
end K78


/-! weights_on, lowest, weighing -/
namespace K78
open Aw
/-- weights written, thing by thing -/
theorem wf_set {W : List Int} {x : Nat} {v : Int} (hx : x < W.length) (i : Nat) : wf (W.set x v) i = if x = i then v else wf W i := by
  unfold wf
  rw [List.getD_eq_getElem?_getD, List.getElem?_set]
  by_cases e : x = i
  · subst e; rw [if_pos rfl, if_pos hx, if_pos rfl]; rfl
  · rw [if_neg e, if_neg e, ← List.getD_eq_getElem?_getD]
theorem wf_map {W : List Int} (f : Int → Int) (h0 : f 0 = 0) (i : Nat) : wf (W.map f) i = f (wf W i) := by
  unfold wf
  rw [List.getD_eq_getElem?_getD, List.getElem?_map, List.getD_eq_getElem?_getD]
  cases W[i]? with
  | none => exact h0.symm
  | some x => rfl
theorem zip_get {S : List Nat} {v : Nat → Int} {m i : Nat} {p : Nat × Int} (hm : S.length = m) (h : (List.zip S ((List.range m).map v))[i]? = some p) : i < m ∧ p.1 = S.getD i 0 ∧ p.2 = v i := by
  rw [List.getElem?_zip_eq_some] at h
  obtain ⟨h1, h2⟩ := h
  have hi : i < m := by rw [← hm]; exact (List.getElem?_eq_some_iff.mp h1).1
  rw [getD_some (by rw [hm]; exact hi)] at h1
  rw [List.getElem?_map, List.getElem?_range hi] at h2
  exact ⟨hi, (Option.some.inj h1).symm, (Option.some.inj h2).symm⟩
theorem sp_weights_on {n : Nat} {t : Tb} (h : IsTb n t) (hn : n ≤ 8) {S : List Nat} (hS : Ris n S) (ho : S.length % 2 = 1) :
    ∃ W : List Int, o_weights_on t S = some W ∧ W.length = n ∧ (∀ x, x < n → x ∉ S → wf W x = 0) ∧ (∀ x, -4096 ≤ wf W x ∧ wf W x ≤ 4096) ∧
      ∃ c : Int, (c = 1 ∨ c = -1) ∧ (∀ k, k < S.length → wf W (S.getD k 0) = c * krn (sg (sub t S)) S.length k) ∧ 0 ≤ wf W (S.getD 0 0) := by
  have ndS : S.Nodup := hS.1.imp fun h => Nat.ne_of_lt h
  have hlS := len_le_of_lt ndS hS.2
  have hu := sub_tb h ndS hS.2
  have h0S : 0 < S.length := by omega
  have h0n : S.getD 0 0 < n := hS.2 _ (getD_mem h0S)
  have hb : ∀ k, -4096 ≤ krn (sg (sub t S)) S.length k ∧ krn (sg (sub t S)) S.length k ≤ 4096 := fun k => by
    have := pf_bound (a := sg (sub t S)) 4 (others S.length k) (fun x _ y _ => by
      unfold sg
      split
      · exact .inl rfl
      · split
        · exact .inr (.inl rfl)
        · exact .inr (.inr rfl)) (by
      have h1 := List.length_filter_le (fun x => decide (x ≠ k)) (List.range S.length)
      rw [List.length_range] at h1
      unfold others; omega)
    have e : (8 : Int) ^ 4 = 4096 := by decide
    rw [e] at this
    unfold krn
    split <;> omega
  have key : ∀ {o : Option (Flow (List Int) Empty (List Int))}, (∃ W : List Int, o = some (.ret W) ∧ W.length = n ∧ (∀ x, x < n → x ∉ S → wf W x = 0) ∧ (∀ x, -4096 ≤ wf W x ∧ wf W x ≤ 4096) ∧
      ∃ c : Int, (c = 1 ∨ c = -1) ∧ (∀ k, k < S.length → wf W (S.getD k 0) = c * krn (sg (sub t S)) S.length k) ∧ 0 ≤ wf W (S.getD 0 0)) → ∃ W : List Int, outO o = some W ∧ W.length = n ∧ (∀ x, x < n → x ∉ S → wf W x = 0) ∧ (∀ x, -4096 ≤ wf W x ∧ wf W x ≤ 4096) ∧
      ∃ c : Int, (c = 1 ∨ c = -1) ∧ (∀ k, k < S.length → wf W (S.getD k 0) = c * krn (sg (sub t S)) S.length k) ∧ 0 ≤ wf W (S.getD 0 0) := by
    rintro o ⟨W, rfl, h⟩; exact ⟨W, rfl, h⟩
  refine key ?_
  unfold g_weights_on
  have e1 : (compO t (fun (_ : List Bool) => some true) fun (_ : List Bool) => some (0 : Int)) = some (t.map fun _ => (0 : Int)) :=
    mapO_some (g := fun _ => some (0 : Int)) (fun _ => (0 : Int)) (by rw [h.sq.len]; omega) fun _ _ => rfl
  rw [bind_of e1, bind_of (sp_prt h.sq hS.2 (by omega)), bind_of (sp_kernel hu (by omega))]
  have hz : ∀ x, wf (t.map fun _ => (0 : Int)) x = 0 := fun x => by
    unfold wf
    rw [List.getD_eq_getElem?_getD, List.getElem?_map]
    cases t[x]? <;> rfl
  refine forE (Q := fun o => ∃ W : List Int, o = some (.ret W) ∧ W.length = n ∧ (∀ x, x < n → x ∉ S → wf W x = 0) ∧ (∀ x, -4096 ≤ wf W x ∧ wf W x ≤ 4096) ∧
      ∃ c : Int, (c = 1 ∨ c = -1) ∧ (∀ k, k < S.length → wf W (S.getD k 0) = c * krn (sg (sub t S)) S.length k) ∧ 0 ≤ wf W (S.getD 0 0))
    (fun i W => W.length = n ∧ (∀ k, k < i → wf W (S.getD k 0) = krn (sg (sub t S)) S.length k) ∧ (∀ x, (∀ k, k < i → S.getD k 0 ≠ x) → wf W x = 0) ∧ ∀ x, -4096 ≤ wf W x ∧ wf W x ≤ 4096)
    ⟨by rw [List.length_map, h.sq.len], fun k hk => by omega, fun x _ => hz x, fun x => by rw [hz x]; omega⟩ ?_ ?_
  · rintro i ⟨x, v⟩ W hi ⟨i1, i2, i3, i4⟩
    obtain ⟨him, e1, e2⟩ := zip_get rfl hi
    simp only at e1 e2
    subst e1 e2
    have hx := hS.2 _ (getD_mem him)
    rw [lim_of (by rw [i1]; exact hx)]
    refine ⟨_, rfl, by rw [List.length_set]; exact i1, fun k hk => ?_, fun y hy => ?_, fun y => ?_⟩
    · rw [wf_set (by rw [i1]; exact hx)]
      by_cases e : k = i
      · subst e; rw [if_pos rfl]
      · rw [if_neg fun q => e (getD_inj ndS him (by omega) q).symm]
        exact i2 k (by omega)
    · rw [wf_set (by rw [i1]; exact hx), if_neg (hy i (by omega))]
      exact i3 y fun k hk => hy k (by omega)
    · rw [wf_set (by rw [i1]; exact hx)]
      split
      · exact hb _
      · exact i4 y
  · rintro W ⟨i1, i2, i3, i4⟩
    have hzl : (List.zip S ((List.range S.length).map (krn (sg (sub t S)) S.length))).length = S.length := by simp
    rw [hzl] at i2 i3
    have out : ∀ x, x < n → x ∉ S → wf W x = 0 := fun x _ hx => i3 x fun k hk e => hx (e ▸ getD_mem hk)
    rw [bind_of (getD_some h0S), bind_of (wf_get (by rw [i1]; exact h0n))]
    by_cases q : wf W (S.getD 0 0) < 0
    · have q' : wf W (S.getD 0 0) < ((0 : Nat) : Int) := q
      simp only [q', decide_true, if_true]
      have e2 : (compO W (fun (_ : Int) => some true) fun (weight : Int) => some (((0 : Nat) : Int) - weight)) = some (W.map fun w => 0 - w) :=
        mapO_some (g := fun (weight : Int) => some (((0 : Nat) : Int) - weight)) (fun w => 0 - w) (by omega) fun _ _ => rfl
      rw [bind_of e2, thenF_ret]
      have em : ∀ x, wf (W.map fun w => 0 - w) x = 0 - wf W x := fun x => wf_map (fun w => 0 - w) rfl x
      refine ⟨_, rfl, by rw [List.length_map]; exact i1, fun x hx hn => by rw [em, out x hx hn]; rfl, fun x => by rw [em]; have := i4 x; omega, -1, .inr rfl, fun k hk => by rw [em, i2 k hk]; omega, by rw [em]; omega⟩
    · have q' : ¬ wf W (S.getD 0 0) < ((0 : Nat) : Int) := q
      simp only [q', decide_false, Bool.false_eq_true, if_false, thenF_nx]
      exact ⟨W, rfl, i1, out, i4, 1, .inl rfl, fun k hk => by rw [i2 k hk]; omega, by omega⟩
/-- the greatest common divisor, by rests -/
theorem sp_common {a b : Int} (ha : 0 ≤ a) (hb : 0 ≤ b) (hl : b ≤ 4096) : ∃ g, o_common a b = some g ∧ 0 ≤ g ∧ (0 < a ∨ 0 < b → 0 < g) ∧ (∃ c, a = g * c) ∧ (∃ c, b = g * c) ∧ (g ≤ 4096 ∨ g ≤ a) := by
  have key : ∀ {o : Option (Flow Int Empty Int)}, (∃ g, o = some (.ret g) ∧ 0 ≤ g ∧ (0 < a ∨ 0 < b → 0 < g) ∧ (∃ c, a = g * c) ∧ (∃ c, b = g * c) ∧ (g ≤ 4096 ∨ g ≤ a)) → ∃ g, outO o = some g ∧ 0 ≤ g ∧ (0 < a ∨ 0 < b → 0 < g) ∧ (∃ c, a = g * c) ∧ (∃ c, b = g * c) ∧ (g ≤ 4096 ∨ g ≤ a) := by
    rintro o ⟨g, rfl, h⟩; exact ⟨g, rfl, h⟩
  refine key ?_
  unfold g_common
  -- whatever divides both now divides both first
  let I : Nat → Int × Int → Prop := fun m s => 0 ≤ s.1 ∧ 0 ≤ s.2 ∧ s.2 ≤ m ∧ (0 < a ∨ 0 < b → 0 < s.1 ∨ 0 < s.2) ∧ (∀ g : Int, (∃ c, s.1 = g * c) → (∃ c, s.2 = g * c) → (∃ c, a = g * c) ∧ ∃ c, b = g * c) ∧ (s.1 ≤ 4096 ∨ s.1 ≤ a) ∧ s.2 ≤ 4096
  have hw := whileO_I (β := Empty) (ρ := Int) (c := fun (s1 : (Int × Int)) => (some (decide (((0 : Nat) : Int) < s1.2)))) (b := fun (s1 : (Int × Int)) => (if 0 < s1.2 then (let rest : Int := (s1.1 % s1.2); (some (.nx (s1.2, rest)))) else none)) I (Q := fun s => 0 ≤ s.1 ∧ s.2 = 0 ∧ (0 < a ∨ 0 < b → 0 < s.1) ∧ (∀ g : Int, (∃ c, s.1 = g * c) → (∃ c, s.2 = g * c) → (∃ c, a = g * c) ∧ ∃ c, b = g * c) ∧ (s.1 ≤ 4096 ∨ s.1 ≤ a)) ?_ 100000 b.toNat (a, b) (by omega) ⟨ha, hb, by simp only; omega, fun h => h, fun g h1 h2 => ⟨h1, h2⟩, .inr (Int.le_refl _), hl⟩
  · obtain ⟨⟨x, y⟩, e, q1, q2, q3, q4, q5⟩ := hw
    simp only at q1 q2 q3 q4 q5
    subst q2
    rw [e, thenF_nx]
    obtain ⟨d1, d2⟩ := q4 x ⟨1, by omega⟩ ⟨0, by omega⟩
    exact ⟨x, rfl, q1, q3, d1, d2, q5⟩
  · rintro m ⟨x, y⟩ ⟨i1, i2, i3, i4, i5, i6, i7⟩
    simp only at i1 i2 i3 i4 i5 i6 i7
    by_cases q : 0 < y
    · right
      have q' : ((0 : Nat) : Int) < y := q
      have r1 := Int.emod_nonneg x (show y ≠ 0 by omega)
      have r2 := Int.emod_lt_of_pos x q
      refine ⟨by rw [decide_eq_true q'], (y, x % y), (x % y).toNat, ?_, by omega, by simp only; omega, r1, by simp only; omega, fun _ => .inl q, fun g h1 h2 => ?_, by simp only; omega, by simp only; omega⟩
      · rw [if_pos q]
      · obtain ⟨c1, e1⟩ := h1
        obtain ⟨c2, e2⟩ := h2
        simp only at e1 e2
        have ex := Int.emod_add_mul_ediv x y
        refine i5 g ⟨c2 + c1 * (x / y), ?_⟩ ⟨c1, e1⟩
        rw [e2, e1] at ex
        rw [← e1] at ex
        have : g * (c2 + c1 * (x / y)) = g * c2 + g * c1 * (x / y) := by grind
        rw [this, ← e1]
        exact ex.symm
    · left
      have q' : ¬ ((0 : Nat) : Int) < y := q
      have hy : y = 0 := by omega
      exact ⟨by rw [decide_eq_false q'], i1, hy, fun h => (i4 h).resolve_right q, i5, i6⟩
theorem sp_lowest {n : Nat} {W : List Int} (hn : n ≤ 8) (hW : W.length = n) (nn : ∀ i, i < n → 0 ≤ wf W i) (hb : ∀ x, wf W x ≤ 4096) (hp : ∃ i, i < n ∧ 0 < wf W i) :
    ∃ (V : List Int) (g : Int), o_lowest W = some V ∧ V.length = n ∧ 0 < g ∧ ∀ i, i < n → wf V i * g = 1 * wf W i := by
  have key : ∀ {o : Option (Flow (List Int) Empty (List Int))}, (∃ (V : List Int) (g : Int), o = some (.ret V) ∧ V.length = n ∧ 0 < g ∧ ∀ i, i < n → wf V i * g = 1 * wf W i) → ∃ (V : List Int) (g : Int), outO o = some V ∧ V.length = n ∧ 0 < g ∧ ∀ i, i < n → wf V i * g = 1 * wf W i := by
    rintro o ⟨V, g, rfl, h⟩; exact ⟨V, g, rfl, h⟩
  refine key ?_
  unfold g_lowest
  refine forE (Q := fun o => ∃ (V : List Int) (g : Int), o = some (.ret V) ∧ V.length = n ∧ 0 < g ∧ ∀ i, i < n → wf V i * g = 1 * wf W i) (fun i g => 0 ≤ g ∧ g ≤ 4096 ∧ (∀ k, k < i → (∃ c, wf W k = g * c) ∧ (0 < wf W k → 0 < g))) ⟨Int.le_refl _, by omega, fun k hk => by omega⟩ ?_ ?_
  · rintro i x g hi ⟨i1, i2, i3⟩
    have hin : i < n := by rw [← hW]; exact (List.getElem?_eq_some_iff.mp hi).1
    have ex : x = wf W i := by
      rw [wf_get (by rw [hW]; exact hin)] at hi
      exact (Option.some.inj hi).symm
    subst ex
    obtain ⟨g2, e, c1, c2, c3, c4, c5⟩ := sp_common (nn i hin) i1 i2
    rw [bind_of e]
    refine ⟨_, rfl, c1, by have := hb i; omega, fun k hk => ?_⟩
    by_cases e : k = i
    · subst e; exact ⟨c3, fun h => c2 (.inl h)⟩
    · obtain ⟨⟨c, hc⟩, h2⟩ := i3 k (by omega)
      obtain ⟨c', hc'⟩ := c4
      exact ⟨⟨c' * c, by rw [hc, hc', Int.mul_assoc]⟩, fun h => c2 (.inr (h2 h))⟩
  · rintro g ⟨i1, i2, i3⟩
    rw [hW] at i3
    obtain ⟨j, hj, hjp⟩ := hp
    have hg := (i3 j hj).2 hjp
    have e2 : (compO W (fun (_ : Int) => some true) fun (weight : Int) => (if 0 < g then (if g < 1000000 then (some (weight / g)) else none) else none)) = some (W.map fun w => w / g) :=
      mapO_some (g := fun (weight : Int) => (if 0 < g then (if g < 1000000 then (some (weight / g)) else none) else none)) (fun w => w / g) (by omega) fun _ _ => by rw [if_pos hg, if_pos (by omega)]
    rw [bind_of e2]
    refine ⟨_, g, rfl, by rw [List.length_map]; exact hW, hg, fun i hi => ?_⟩
    rw [wf_map (fun w => w / g) (Int.zero_ediv g)]
    obtain ⟨c, hc⟩ := (i3 i hi).1
    rw [hc, Int.mul_ediv_cancel_left _ (by omega)]
    grind
/-- the weights told -/
structure Told (t : Tb) (n : Nat) (V : List Int) : Prop where
  len : V.length = n
  ev : Even t n (wf V)
  bd : ∀ i, i < n → wf V i ≤ 4096
open Classical in
theorem sp_weighing {n : Nat} {t : Tb} (h : IsTb n t) (hn : n ≤ 8) (h0 : 0 < n) : ∃ V, o_weighing t = some V ∧ Told t n V := by
  have key : ∀ {o : Option (Flow (List Int) Empty (List Int))}, (∃ V, o = some (.ret V) ∧ Told t n V) → ∃ V, outO o = some V ∧ Told t n V := by
    rintro o ⟨V, rfl, h⟩; exact ⟨V, rfl, h⟩
  refine key ?_
  unfold g_weighing
  obtain ⟨L, hL, mL⟩ := sp_odd_sets (n := n) (by omega)
  rw [h.sq.len]
  simp only
  rw [bind_of hL]
  refine forE (Q := fun o => ∃ V, o = some (.ret V) ∧ Told t n V) (fun i s => Told t n s ∨ (s = [] ∧ ∀ j S W, j < i → L[j]? = some S → o_weights_on t S = some W → W.length = n → ¬ Even t n (wf W))) (.inr ⟨rfl, fun j S W hj => by omega⟩) ?_ ?_
  · rintro i S s hi I
    obtain ⟨hR, hodd⟩ := (mL S).mp (List.mem_of_getElem? hi)
    rcases I with I | ⟨rfl, I⟩
    · have : ¬ s = [] := fun e => by have := I.len; rw [e] at this; simp at this; omega
      simp only [this, decide_false, Bool.false_eq_true, if_false]
      exact ⟨s, rfl, .inl I⟩
    · simp only [decide_true, if_true]
      obtain ⟨W, w1, w2, w3, w4, _⟩ := sp_weights_on h hn hR hodd
      rw [bind_of w1, bind_of (sp_even h (by omega) h0 w2)]
      by_cases E : Even t n (wf W)
      · simp only [E, decide_true, if_true]
        obtain ⟨V, g, v1, v2, v3, v4⟩ := sp_lowest hn w2 E.nn (fun x => (w4 x).2) E.some
        rw [bind_of v1]
        refine ⟨_, rfl, .inl ⟨v2, Even.scale v3 (by decide) v4 E, fun i hi => ?_⟩⟩
        have e := v4 i hi
        have b := (w4 i).2
        have n1 := (Even.scale v3 (by decide) v4 E).nn i hi
        have : wf V i ≤ wf V i * g := by
          have := Int.mul_le_mul_of_nonneg_left (show 1 ≤ g by omega) n1
          omega
        omega
      · simp only [E, decide_false, Bool.false_eq_true, if_false]
        refine ⟨_, rfl, .inr ⟨rfl, fun j S' W' hj hS' hW' hl' => ?_⟩⟩
        by_cases e : j = i
        · subst e
          rw [hi] at hS'; cases hS'
          rw [w1] at hW'; cases hW'
          exact E
        · exact I j S' W' (by omega) hS' hW' hl'
  · rintro s I
    rcases I with I | ⟨rfl, I⟩
    · exact ⟨s, rfl, I⟩
    · exfalso
      obtain ⟨w, E, ho⟩ := exists_even h h0
      have hodd := E.supp h ho
      have hR : Ris n (lst n fun i => 0 < w i) := ⟨lst_lt _ _, fun x hx => (mem_lst.mp hx).1⟩
      have hmem := (mL _).mpr ⟨hR, hodd⟩
      obtain ⟨j, hj, ej⟩ := List.mem_iff_getElem.mp hmem
      obtain ⟨W, w1, w2, w3, w4, c, w5, w6, w7⟩ := sp_weights_on h hn hR hodd
      refine I j _ W hj (by rw [List.getElem?_eq_getElem hj, ej]) w1 w2 ?_
      generalize hS : (lst n fun i => 0 < w i) = S at *
      have memS : ∀ x, x ∈ S ↔ x < n ∧ 0 < w x := fun x => by rw [← hS, mem_lst]
      have ndS : S.Nodup := hR.1.imp fun h => Nat.ne_of_lt h
      have hlS := len_le_of_lt ndS hR.2
      have hu := sub_tb h ndS hR.2
      have h0S : 0 < S.length := by omega
      -- the weights alone, within
      have hin : ∀ i, i < S.length → scr (sub t S) S.length (fun k => w (S.getD k 0)) i = 0 := fun i hi => by
        have hx := (memS _).mp (getD_mem hi)
        rw [← E.on _ hx.1 hx.2]
        unfold scr
        have e1 : sm n (fun j => sg t (S.getD i 0) j * w j) = sm n fun j => if decide (0 < w j) = true then sg t (S.getD i 0) j * w j else 0 := sm_congr fun j hj => by
          by_cases q : 0 < w j
          · simp [q]
          · have := E.nn j hj
            have z : w j = 0 := by omega
            simp [z]
        rw [e1, ← sum_filter]
        have e2 : ((List.range n).filter fun j => decide (0 < w j)) = S := by
          rw [← hS]; unfold lst
          exact List.filter_congr fun x _ => decide_eq_decide.mpr Iff.rfl
        rw [e2, sum_list]
        exact sm_congr fun j hj => by rw [sg_sub hi hj]
      have kz := krn_zero (a := sg (sub t S)) (m := S.length) (by omega) hodd fun i j hi hj => sg_skew hu hi hj
      -- both stand alike
      have prop : ∀ k, k < S.length → krn (sg (sub t S)) S.length k * w (S.getD 0 0) = krn (sg (sub t S)) S.length 0 * w (S.getD k 0) := fun k hk => by
        have z := ker_zero hu (S := fun _ => True) h0S True.intro (sm S.length fun i => ((krn (sg (sub t S)) S.length i * w (S.getD 0 0) - krn (sg (sub t S)) S.length 0 * w (S.getD i 0)).natAbs : Int)).toNat
          (fun i => krn (sg (sub t S)) S.length i * w (S.getD 0 0) - krn (sg (sub t S)) S.length 0 * w (S.getD i 0))
          (by rw [Int.toNat_of_nonneg (sm_nonneg fun i _ => by omega)]; exact Int.le_refl _)
          (fun i _ q => absurd True.intro q)
          (fun i hi _ => by
            rw [scr_sub (v := krn (sg (sub t S)) S.length) (w := fun i => w (S.getD i 0)), hin i hi]
            have := kz i hi
            unfold scr
            rw [this]; simp)
          (by omega) k hk
        omega
      have k0 : krn (sg (sub t S)) S.length 0 % 2 = 1 := by
        unfold krn
        rw [if_pos rfl, Int.one_mul]
        refine pf_odd 3 (others S.length 0) (List.Pairwise.filter _ List.nodup_range) (fun x hx y hy hxy => ?_) ?_ ?_
        · exact sg_odd hu (List.mem_range.mp (List.mem_filter.mp hx).1) (List.mem_range.mp (List.mem_filter.mp hy).1) hxy
        · obtain ⟨m, hm⟩ : ∃ m, S.length = m + 1 := ⟨S.length - 1, by omega⟩
          have : (others S.length 0).length = S.length - 1 := by
            unfold others
            rw [hm, List.range_succ_eq_map, List.filter_cons_of_neg (by simp), List.filter_map, List.length_map, List.filter_eq_self.mpr fun x _ => by simp, List.length_range]; omega
          omega
        · have h1 := List.length_filter_le (fun x => decide (x ≠ 0)) (List.range S.length)
          have : (others S.length 0).length = S.length - 1 := by
            obtain ⟨m, hm⟩ : ∃ m, S.length = m + 1 := ⟨S.length - 1, by omega⟩
            unfold others
            rw [hm, List.range_succ_eq_map, List.filter_cons_of_neg (by simp), List.filter_map, List.length_map, List.filter_eq_self.mpr fun x _ => by simp, List.length_range]; omega
          omega
      have hw0 := ((memS _).mp (getD_mem h0S)).2
      have hc0 : 0 < c * krn (sg (sub t S)) S.length 0 := by
        rw [w6 0 h0S] at w7
        rcases w5 with rfl | rfl <;> omega
      refine Even.scale (w := w) hw0 hc0 (fun x hx => ?_) E
      by_cases hxS : x ∈ S
      · obtain ⟨k, hk, rfl⟩ := mem_getD hxS
        rw [w6 k hk]
        have := prop k hk
        grind
      · rw [w3 x hx hxS]
        have z : w x = 0 := by
          have := E.nn x hx
          by_cases q : 0 < w x
          · exact absurd ((memS x).mpr ⟨hx, q⟩) hxS
          · omega
        rw [z]; simp
end K78


namespace K78
open Aw
theorem r_cell_at (ns : List Int) (k : Nat) : f__law_cell_at [.scr ns, .int (k : Nat)] = .ok (.int (ns.getD k 0)) := by
  refine out_pure (S := []) ?_ rfl
  by_cases h : k < ns.length
  · have e : ns[k]? = some ns[k] := List.getElem?_eq_getElem h
    simp only [b__law_cell_at, x_partV, bnI_ok, cutD_1, len_en, asSeq_en, asLst_en, lstOf_en, x_callF, x_callFR, liftP_ok, liftR_ok, liftB_bl, liftB_int, callV1, callV2, callV3, callV4, callRV1, callRV2, callRV3, callRV4, p_int, p_bl, p_scr, p_non, p_str, p_lst, p_tup, p_nil, p_cons, p_en, p_ens, Bool.and_self, en_norm, mod_ok, fdiv_lit, mul_lit, add_nat, add_one, lt_int, le_int, gt_int, ge_int, min_int, max_int, neg_int, eq_int, ne_int, eq_bl, ne_bl, len_lst, len_tup, len_scr, Int.reduceLT, Int.reduceLE, Nat.reduceLeDiff, x_bind, x_then, x_seq, x_ret, x_op2, x_op1, x_step, x_nilA, x_consA, x_callB, x_testE, x_toB, x_if, x_retS, x_dropS, x_setS, x_skip, x_andT, x_orT, x_notT, x_ifE, x_andE, x_orE, x_notE, x_chain, x_tupE, x_lstE, x_lstC, x_methL, x_for, x_itSeq, x_asSeq, x_asSeqT, x_asSeqS, x_range1, x_range2, x_enum, x_asLst, x_asg, x_isi, x_slice, x_noPart, x_rev, bnd_ok, bnd_err, thn_ok, thn_err, sq_nx, sq_ret, sq_brk, sq_ct, sq_err, bnB_ok, startE, List.map_cons, List.map_nil, List.length_cons, List.length_nil, Nat.reduceAdd, Nat.reduceSub, List.replicate_succ, List.replicate_zero, List.append_nil, List.cons_append, List.nil_append, if_true, if_false, Bool.false_eq_true, x_v0, x_vs, n_int, n_bl, n_str, n_non, n_lst, n_tup, n_scr, List.getElem?_cons_zero, List.getElem?_cons_succ, List.set_cons_zero, List.set_cons_succ, wipeD, Option.map_some, Bool.not_true, Bool.not_false, len_scr, ltI, intG, Int.ofNat_lt, h, decide_true, ix_scr e, List.getD, e, Option.getD_some]
  · have e : ns[k]? = none := List.getElem?_eq_none (by omega)
    simp only [b__law_cell_at, x_partV, bnI_ok, cutD_1, len_en, asSeq_en, asLst_en, lstOf_en, x_callF, x_callFR, liftP_ok, liftR_ok, liftB_bl, liftB_int, callV1, callV2, callV3, callV4, callRV1, callRV2, callRV3, callRV4, p_int, p_bl, p_scr, p_non, p_str, p_lst, p_tup, p_nil, p_cons, p_en, p_ens, Bool.and_self, en_norm, mod_ok, fdiv_lit, mul_lit, add_nat, add_one, lt_int, le_int, gt_int, ge_int, min_int, max_int, neg_int, eq_int, ne_int, eq_bl, ne_bl, len_lst, len_tup, len_scr, Int.reduceLT, Int.reduceLE, Nat.reduceLeDiff, x_bind, x_then, x_seq, x_ret, x_op2, x_op1, x_step, x_nilA, x_consA, x_callB, x_testE, x_toB, x_if, x_retS, x_dropS, x_setS, x_skip, x_andT, x_orT, x_notT, x_ifE, x_andE, x_orE, x_notE, x_chain, x_tupE, x_lstE, x_lstC, x_methL, x_for, x_itSeq, x_asSeq, x_asSeqT, x_asSeqS, x_range1, x_range2, x_enum, x_asLst, x_asg, x_isi, x_slice, x_noPart, x_rev, bnd_ok, bnd_err, thn_ok, thn_err, sq_nx, sq_ret, sq_brk, sq_ct, sq_err, bnB_ok, startE, List.map_cons, List.map_nil, List.length_cons, List.length_nil, Nat.reduceAdd, Nat.reduceSub, List.replicate_succ, List.replicate_zero, List.append_nil, List.cons_append, List.nil_append, if_true, if_false, Bool.false_eq_true, x_v0, x_vs, n_int, n_bl, n_str, n_non, n_lst, n_tup, n_scr, List.getElem?_cons_zero, List.getElem?_cons_succ, List.set_cons_zero, List.set_cons_succ, wipeD, Option.map_some, Bool.not_true, Bool.not_false, len_scr, ltI, intG, Int.ofNat_lt, h, decide_false, List.getD, e, Option.getD_none]
/-- the rows' cells, and the cell of rows -/
abbrev tbS (n : Nat) (t : Tb) : Store := t.map rowC ++ [.lst ((List.range n).map D.loc)]
theorem tbS_row {n : Nat} {t : Tb} (h : Sq n t) {i : Nat} (hi : i < n) : (tbS n t)[i]? = some (rowC (t.getD i [])) := by
  rw [List.getElem?_append_left (by simp [h.len]; exact hi), List.getElem?_map, h.get hi]; rfl
theorem tbS_rows {n : Nat} {t : Tb} (h : Sq n t) : (tbS n t)[n]? = some (.lst ((List.range n).map D.loc)) := by
  rw [List.getElem?_append_right (by simp [h.len])]
  simp [h.len]
theorem tbS_set {n : Nat} {t : Tb} (h : Sq n t) {i j : Nat} (hi : i < n) (b : Bool) : (tbS n t).set i (.lst (((t.getD i []).map En.e).set j (.bl b))) = tbS n (setE t i j b) := by
  unfold tbS setE
  rw [List.set_append_left _ _ (by simp [h.len]; exact hi), List.map_set]
  congr 2
  simp only [rowC, List.map_set]; rfl
theorem resA_tb {n : Nat} {t : Tb} (h : Sq n t) : resA (tbS n t) (.loc n) = some (En.e t) := by
  have hr : ∀ k i, i < n → resLoc (tbS n t) (k + 1) i = some (En.e (t.getD i [])) := by
    intro k i hi
    rw [resLoc_lst k (tbS_row h hi), resL_pure _ _ (pureL_map _ En.pu _)]; rfl
  show resLoc (tbS n t) (3 + 1) n = _
  rw [resLoc_lst 3 (tbS_rows h), resL_locs fun i hi => hr 2 i (List.mem_range.mp hi)]
  show some (D.lst _) = some (D.lst _)
  congr 2
  apply List.ext_getElem?
  intro i
  rw [List.getElem?_map, List.getElem?_map]
  by_cases hi : i < n
  · rw [List.getElem?_range hi, h.get hi]; rfl
  · rw [List.getElem?_eq_none (by simp; omega), List.getElem?_eq_none (by rw [h.len]; omega)]; rfl
theorem r_table_by (c : Int) (n : Nat) (hn : n ≤ 100) : ∃ t, IsTb n t ∧ f__law_table_by [.int c, .int (n : Nat)] = .ok (En.e t) := by
  let t0 : Tb := (List.range n).map fun _ => (List.range n).map fun _ => false
  have hs0 : Sq n t0 := sq_of n fun _ _ => false
  have e0 : ∀ i j, ent t0 i j = false := by
    intro i j
    unfold ent
    rw [List.getD_eq_getElem?_getD (l := t0)]
    cases q : t0[i]? with
    | none => rfl
    | some row =>
      have hm := List.mem_of_getElem? q
      obtain ⟨a, _, rfl⟩ := List.mem_map.mp hm
      rw [Option.getD_some, List.getD_eq_getElem?_getD, List.getElem?_map]
      cases (List.range n)[j]? <;> rfl
  have hn62 : n < 2 ^ 62 := Nat.lt_of_le_of_lt hn (by decide)
  have h1 : lcC (itRange1 (consA (vE 1) nilA)) (.one 6) [6] yesT (op2 mulGC (lstE (consA (retO (.bl false)) nilA)) (vE 1)) [some (.int c), some (.int (n : Nat)), none, none, none, none, none] [] = .ok (.loc n) (tbS n t0) := by
    rw [lcC_new (S0 := []) (enc := fun i : Nat => D.int (i : Nat)) (g := fun _ => rowC (List.replicate n false)) (xs := List.range n)]
    · simp only [List.length_nil, List.length_range, Nat.zero_add, List.nil_append]
      congr 1
      simp [tbS, t0, List.map_map, Function.comp_def, List.map_const']
    · simp only [x_partV, bnI_ok, cutD_1, len_en, asSeq_en, asLst_en, lstOf_en, x_callF, x_callFR, liftP_ok, liftR_ok, liftB_bl, liftB_int, callV1, callV2, callV3, callV4, callRV1, callRV2, callRV3, callRV4, p_int, p_bl, p_scr, p_non, p_str, p_lst, p_tup, p_nil, p_cons, p_en, p_ens, Bool.and_self, en_norm, mod_ok, fdiv_lit, mul_lit, add_nat, add_one, lt_int, le_int, gt_int, ge_int, min_int, max_int, neg_int, eq_int, ne_int, eq_bl, ne_bl, len_lst, len_tup, len_scr, Int.reduceLT, Int.reduceLE, Nat.reduceLeDiff, x_bind, x_then, x_seq, x_ret, x_op2, x_op1, x_step, x_nilA, x_consA, x_callB, x_testE, x_toB, x_if, x_retS, x_dropS, x_setS, x_skip, x_andT, x_orT, x_notT, x_ifE, x_andE, x_orE, x_notE, x_chain, x_tupE, x_lstE, x_lstC, x_methL, x_for, x_itSeq, x_asSeq, x_asSeqT, x_asSeqS, x_range1, x_range2, x_enum, x_asLst, x_asg, x_isi, x_slice, x_noPart, x_rev, bnd_ok, bnd_err, thn_ok, thn_err, sq_nx, sq_ret, sq_brk, sq_ct, sq_err, bnB_ok, startE, List.map_cons, List.map_nil, List.length_cons, List.length_nil, Nat.reduceAdd, Nat.reduceSub, List.replicate_succ, List.replicate_zero, List.append_nil, List.cons_append, List.nil_append, if_true, if_false, Bool.false_eq_true, x_v0, x_vs, n_int, n_bl, n_str, n_non, n_lst, n_tup, n_scr, List.getElem?_cons_zero, List.getElem?_cons_succ, List.set_cons_zero, List.set_cons_succ, wipeD, Option.map_some, Bool.not_true, Bool.not_false, x_rangeI1 hn62]; rfl
    · rw [List.length_range]; omega
    · intro i hi S1
      refine ⟨_, rfl, ?_⟩
      simp only [x_partV, bnI_ok, cutD_1, len_en, asSeq_en, asLst_en, lstOf_en, x_callF, x_callFR, liftP_ok, liftR_ok, liftB_bl, liftB_int, callV1, callV2, callV3, callV4, callRV1, callRV2, callRV3, callRV4, p_int, p_bl, p_scr, p_non, p_str, p_lst, p_tup, p_nil, p_cons, p_en, p_ens, Bool.and_self, en_norm, mod_ok, fdiv_lit, mul_lit, add_nat, add_one, lt_int, le_int, gt_int, ge_int, min_int, max_int, neg_int, eq_int, ne_int, eq_bl, ne_bl, len_lst, len_tup, len_scr, Int.reduceLT, Int.reduceLE, Nat.reduceLeDiff, x_bind, x_then, x_seq, x_ret, x_op2, x_op1, x_step, x_nilA, x_consA, x_callB, x_testE, x_toB, x_if, x_retS, x_dropS, x_setS, x_skip, x_andT, x_orT, x_notT, x_ifE, x_andE, x_orE, x_notE, x_chain, x_tupE, x_lstE, x_lstC, x_methL, x_for, x_itSeq, x_asSeq, x_asSeqT, x_asSeqS, x_range1, x_range2, x_enum, x_asLst, x_asg, x_isi, x_slice, x_noPart, x_rev, bnd_ok, bnd_err, thn_ok, thn_err, sq_nx, sq_ret, sq_brk, sq_ct, sq_err, bnB_ok, startE, List.map_cons, List.map_nil, List.length_cons, List.length_nil, Nat.reduceAdd, Nat.reduceSub, List.replicate_succ, List.replicate_zero, List.append_nil, List.cons_append, List.nil_append, if_true, if_false, Bool.false_eq_true, x_v0, x_vs, n_int, n_bl, n_str, n_non, n_lst, n_tup, n_scr, List.getElem?_cons_zero, List.getElem?_cons_succ, List.set_cons_zero, List.set_cons_succ, wipeD, Option.map_some, Bool.not_true, Bool.not_false, List.length_nil, Nat.zero_add, show (1 : Nat) ≤ 100000 by omega, rep_one false (show n ≤ 100000 by omega)]
  -- the two loops
  let Inv : Nat → Nat → Tb → Prop := fun a b t => Sq n t ∧ (∀ i, i < n → ent t i i = false) ∧ ∀ i j, i < j → j < n → (i < a ∨ (i = a ∧ j < b)) → ent t i j = !ent t j i
  suffices h : ∃ d, f__law_table_by [.int c, .int (n : Nat)] = .ok d ∧ ∃ t, IsTb n t ∧ d = En.e t by
    obtain ⟨d, h1, t, h2, rfl⟩ := h
    exact ⟨t, h2, h1⟩
  refine out_W ?_
  unfold b__law_table_by
  simp only [x_partV, bnI_ok, cutD_1, len_en, asSeq_en, asLst_en, lstOf_en, x_callF, x_callFR, liftP_ok, liftR_ok, liftB_bl, liftB_int, callV1, callV2, callV3, callV4, callRV1, callRV2, callRV3, callRV4, p_int, p_bl, p_scr, p_non, p_str, p_lst, p_tup, p_nil, p_cons, p_en, p_ens, Bool.and_self, en_norm, mod_ok, fdiv_lit, mul_lit, add_nat, add_one, lt_int, le_int, gt_int, ge_int, min_int, max_int, neg_int, eq_int, ne_int, eq_bl, ne_bl, len_lst, len_tup, len_scr, Int.reduceLT, Int.reduceLE, Nat.reduceLeDiff, x_bind, x_then, x_seq, x_ret, x_op2, x_op1, x_step, x_nilA, x_consA, x_callB, x_testE, x_toB, x_if, x_retS, x_dropS, x_setS, x_skip, x_andT, x_orT, x_notT, x_ifE, x_andE, x_orE, x_notE, x_chain, x_tupE, x_lstE, x_lstC, x_methL, x_for, x_itSeq, x_asSeq, x_asSeqT, x_asSeqS, x_range1, x_range2, x_enum, x_asLst, x_asg, x_isi, x_slice, x_noPart, x_rev, bnd_ok, bnd_err, thn_ok, thn_err, sq_nx, sq_ret, sq_brk, sq_ct, sq_err, bnB_ok, startE, List.map_cons, List.map_nil, List.length_cons, List.length_nil, Nat.reduceAdd, Nat.reduceSub, List.replicate_succ, List.replicate_zero, List.append_nil, List.cons_append, List.nil_append, if_true, if_false, Bool.false_eq_true, x_v0, x_vs, n_int, n_bl, n_str, n_non, n_lst, n_tup, n_scr, List.getElem?_cons_zero, List.getElem?_cons_succ, List.set_cons_zero, List.set_cons_succ, wipeD, Option.map_some, Bool.not_true, Bool.not_false, h1, mul_ok (show (48271 : Int).natAbs < 18446744073709551616 by omega), mod_ok (show (0 : Int) < 2147483647 by omega), x_rangeI1 hn62]
  refine W_sq (W_for (fun i r S => ∃ t x o p, r = [some (.int c), some (.int (n : Nat)), some (.loc n), some (.int x), o, p, none] ∧ S = tbS n t ∧ Inv i (i + 1) t) ⟨t0, _, none, none, rfl, rfl, hs0, fun i _ => e0 i i, fun i j h1 h2 h3 => by omega⟩ ?_ ?_)
  · rintro i d r S hd ⟨t, x, o, p, rfl, rfl, hi⟩
    have hin : i < n := by
      have := (List.getElem?_eq_some_iff.mp hd).1
      simpa [upto] using this
    have : d = .int (i : Nat) := by
      rw [upto_get hin] at hd; exact (Option.some.inj hd).symm
    subst this
    refine ⟨_, rfl, ?_⟩
    simp only [x_partV, bnI_ok, cutD_1, len_en, asSeq_en, asLst_en, lstOf_en, x_callF, x_callFR, liftP_ok, liftR_ok, liftB_bl, liftB_int, callV1, callV2, callV3, callV4, callRV1, callRV2, callRV3, callRV4, p_int, p_bl, p_scr, p_non, p_str, p_lst, p_tup, p_nil, p_cons, p_en, p_ens, Bool.and_self, en_norm, mod_ok, fdiv_lit, mul_lit, add_nat, add_one, lt_int, le_int, gt_int, ge_int, min_int, max_int, neg_int, eq_int, ne_int, eq_bl, ne_bl, len_lst, len_tup, len_scr, Int.reduceLT, Int.reduceLE, Nat.reduceLeDiff, x_bind, x_then, x_seq, x_ret, x_op2, x_op1, x_step, x_nilA, x_consA, x_callB, x_testE, x_toB, x_if, x_retS, x_dropS, x_setS, x_skip, x_andT, x_orT, x_notT, x_ifE, x_andE, x_orE, x_notE, x_chain, x_tupE, x_lstE, x_lstC, x_methL, x_for, x_itSeq, x_asSeq, x_asSeqT, x_asSeqS, x_range1, x_range2, x_enum, x_asLst, x_asg, x_isi, x_slice, x_noPart, x_rev, bnd_ok, bnd_err, thn_ok, thn_err, sq_nx, sq_ret, sq_brk, sq_ct, sq_err, bnB_ok, startE, List.map_cons, List.map_nil, List.length_cons, List.length_nil, Nat.reduceAdd, Nat.reduceSub, List.replicate_succ, List.replicate_zero, List.append_nil, List.cons_append, List.nil_append, if_true, if_false, Bool.false_eq_true, x_v0, x_vs, n_int, n_bl, n_str, n_non, n_lst, n_tup, n_scr, List.getElem?_cons_zero, List.getElem?_cons_succ, List.set_cons_zero, List.set_cons_succ, wipeD, Option.map_some, Bool.not_true, Bool.not_false, add_one, x_rangeI2 (show i + 1 < 2 ^ 62 by omega) hn62]
    refine W_for (fun j r S => ∃ t x p, r = [some (.int c), some (.int (n : Nat)), some (.loc n), some (.int x), some (.int (i : Nat)), p, none] ∧ S = tbS n t ∧ Inv i (i + 1 + j) t) ⟨t, x, p, rfl, rfl, hi⟩ ?_ ?_
    · rintro j d r S hd ⟨t, x, p, rfl, rfl, hi⟩
      have hj : j < n - (i + 1) := by
        have := (List.getElem?_eq_some_iff.mp hd).1
        simpa using this
      rw [List.getElem?_map, List.getElem?_range hj] at hd
      cases hd
      refine ⟨_, rfl, ?_⟩
      obtain ⟨hq, hself, hI⟩ := hi
      have hq1 := hq.setE i (i + 1 + j) (decide (x % 2 = 0))
      have hjn : i + 1 + j < n := by omega
      simp only [x_partV, bnI_ok, cutD_1, len_en, asSeq_en, asLst_en, lstOf_en, x_callF, x_callFR, liftP_ok, liftR_ok, liftB_bl, liftB_int, callV1, callV2, callV3, callV4, callRV1, callRV2, callRV3, callRV4, p_int, p_bl, p_scr, p_non, p_str, p_lst, p_tup, p_nil, p_cons, p_en, p_ens, Bool.and_self, en_norm, mod_ok, fdiv_lit, mul_lit, add_nat, add_one, lt_int, le_int, gt_int, ge_int, min_int, max_int, neg_int, eq_int, ne_int, eq_bl, ne_bl, len_lst, len_tup, len_scr, Int.reduceLT, Int.reduceLE, Nat.reduceLeDiff, x_bind, x_then, x_seq, x_ret, x_op2, x_op1, x_step, x_nilA, x_consA, x_callB, x_testE, x_toB, x_if, x_retS, x_dropS, x_setS, x_skip, x_andT, x_orT, x_notT, x_ifE, x_andE, x_orE, x_notE, x_chain, x_tupE, x_lstE, x_lstC, x_methL, x_for, x_itSeq, x_asSeq, x_asSeqT, x_asSeqS, x_range1, x_range2, x_enum, x_asLst, x_asg, x_isi, x_slice, x_noPart, x_rev, bnd_ok, bnd_err, thn_ok, thn_err, sq_nx, sq_ret, sq_brk, sq_ct, sq_err, bnB_ok, startE, List.map_cons, List.map_nil, List.length_cons, List.length_nil, Nat.reduceAdd, Nat.reduceSub, List.replicate_succ, List.replicate_zero, List.append_nil, List.cons_append, List.nil_append, if_true, if_false, Bool.false_eq_true, x_v0, x_vs, n_int, n_bl, n_str, n_non, n_lst, n_tup, n_scr, List.getElem?_cons_zero, List.getElem?_cons_succ, List.set_cons_zero, List.set_cons_succ, wipeD, Option.map_some, Bool.not_true, Bool.not_false, mod_ok (show (0 : Int) < 2 by omega), eq_int, norm_loc (tbS_rows hq), ix_loc (tbS_rows hq) (show ((List.range n).map D.loc)[i]? = some (.loc i) by simp [hin]), norm_loc (tbS_row hq hin), set_cell (tbS_row hq hin) (show i + 1 + j < _ by rw [List.length_map, hq.row i hin]; omega), tbS_set hq hin]
      simp only [x_partV, bnI_ok, cutD_1, len_en, asSeq_en, asLst_en, lstOf_en, x_callF, x_callFR, liftP_ok, liftR_ok, liftB_bl, liftB_int, callV1, callV2, callV3, callV4, callRV1, callRV2, callRV3, callRV4, p_int, p_bl, p_scr, p_non, p_str, p_lst, p_tup, p_nil, p_cons, p_en, p_ens, Bool.and_self, en_norm, mod_ok, fdiv_lit, mul_lit, add_nat, add_one, lt_int, le_int, gt_int, ge_int, min_int, max_int, neg_int, eq_int, ne_int, eq_bl, ne_bl, len_lst, len_tup, len_scr, Int.reduceLT, Int.reduceLE, Nat.reduceLeDiff, x_bind, x_then, x_seq, x_ret, x_op2, x_op1, x_step, x_nilA, x_consA, x_callB, x_testE, x_toB, x_if, x_retS, x_dropS, x_setS, x_skip, x_andT, x_orT, x_notT, x_ifE, x_andE, x_orE, x_notE, x_chain, x_tupE, x_lstE, x_lstC, x_methL, x_for, x_itSeq, x_asSeq, x_asSeqT, x_asSeqS, x_range1, x_range2, x_enum, x_asLst, x_asg, x_isi, x_slice, x_noPart, x_rev, bnd_ok, bnd_err, thn_ok, thn_err, sq_nx, sq_ret, sq_brk, sq_ct, sq_err, bnB_ok, startE, List.map_cons, List.map_nil, List.length_cons, List.length_nil, Nat.reduceAdd, Nat.reduceSub, List.replicate_succ, List.replicate_zero, List.append_nil, List.cons_append, List.nil_append, if_true, if_false, Bool.false_eq_true, x_v0, x_vs, n_int, n_bl, n_str, n_non, n_lst, n_tup, n_scr, List.getElem?_cons_zero, List.getElem?_cons_succ, List.set_cons_zero, List.set_cons_succ, wipeD, Option.map_some, Bool.not_true, Bool.not_false, norm_loc (tbS_rows hq1), ix_loc (tbS_rows hq1) (show ((List.range n).map D.loc)[i + 1 + j]? = some (.loc (i + 1 + j)) by simp [hjn]), norm_loc (tbS_row hq1 hjn), set_cell (tbS_row hq1 hjn) (show i < _ by rw [List.length_map, hq1.row _ hjn]; omega), tbS_set hq1 hjn, fdiv_ok (show (0 : Int) < 2 by omega) (show (2 : Int).natAbs.log2 < 9000 by decide)]
      refine W_nx ⟨_, _, _, rfl, rfl, hq1.setE _ _ _, fun a ha => ?_, fun a b h1 h2 h3 => ?_⟩
      · rw [hq1.ent_setE hjn hin, hq.ent_setE hin hjn, if_neg (by omega), if_neg (by omega)]
        exact hself a ha
      · rw [hq1.ent_setE hjn hin, hq.ent_setE hin hjn, hq1.ent_setE hjn hin, hq.ent_setE hin hjn, if_neg (by omega)]
        by_cases he : i = a ∧ i + 1 + j = b
        · obtain ⟨rfl, rfl⟩ := he
          rw [if_pos ⟨rfl, rfl⟩, if_pos ⟨rfl, rfl⟩, ← decide_not]
          exact decide_eq_decide.mpr (by omega)
        · rw [if_neg he, if_neg (by omega), if_neg (by omega)]
          exact hI a b h1 h2 (by omega)
    · rintro r S ⟨t, x, p, rfl, rfl, hi⟩
      refine ⟨t, x, _, p, rfl, rfl, hi.1, hi.2.1, fun a b h1 h2 h3 => hi.2.2 a b h1 h2 ?_⟩
      simp only [List.length_map, List.length_range]
      omega
  · rintro r S ⟨t, x, o, p, rfl, rfl, hq, hself, hI⟩
    rw [show (upto n).length = n by simp [upto]] at hI
    simp only [x_partV, bnI_ok, cutD_1, len_en, asSeq_en, asLst_en, lstOf_en, x_callF, x_callFR, liftP_ok, liftR_ok, liftB_bl, liftB_int, callV1, callV2, callV3, callV4, callRV1, callRV2, callRV3, callRV4, p_int, p_bl, p_scr, p_non, p_str, p_lst, p_tup, p_nil, p_cons, p_en, p_ens, Bool.and_self, en_norm, mod_ok, fdiv_lit, mul_lit, add_nat, add_one, lt_int, le_int, gt_int, ge_int, min_int, max_int, neg_int, eq_int, ne_int, eq_bl, ne_bl, len_lst, len_tup, len_scr, Int.reduceLT, Int.reduceLE, Nat.reduceLeDiff, x_bind, x_then, x_seq, x_ret, x_op2, x_op1, x_step, x_nilA, x_consA, x_callB, x_testE, x_toB, x_if, x_retS, x_dropS, x_setS, x_skip, x_andT, x_orT, x_notT, x_ifE, x_andE, x_orE, x_notE, x_chain, x_tupE, x_lstE, x_lstC, x_methL, x_for, x_itSeq, x_asSeq, x_asSeqT, x_asSeqS, x_range1, x_range2, x_enum, x_asLst, x_asg, x_isi, x_slice, x_noPart, x_rev, bnd_ok, bnd_err, thn_ok, thn_err, sq_nx, sq_ret, sq_brk, sq_ct, sq_err, bnB_ok, startE, List.map_cons, List.map_nil, List.length_cons, List.length_nil, Nat.reduceAdd, Nat.reduceSub, List.replicate_succ, List.replicate_zero, List.append_nil, List.cons_append, List.nil_append, if_true, if_false, Bool.false_eq_true, x_v0, x_vs, n_int, n_bl, n_str, n_non, n_lst, n_tup, n_scr, List.getElem?_cons_zero, List.getElem?_cons_succ, List.set_cons_zero, List.set_cons_succ, wipeD, Option.map_some, Bool.not_true, Bool.not_false, norm_loc (tbS_rows hq)]
    refine ⟨_, ?_, t, ⟨hq, hself, fun i j hi hj hij => ?_⟩, rfl⟩
    · exact resA_tb hq
    · by_cases h : i < j
      · exact hI i j h hj (.inl hi)
      · have := hI j i (by omega) hi (.inl hj)
        rw [this, Bool.not_not]
end K78


namespace K78
open Aw
/-- the pairs of tables within tables: (k, a) for each thing a of the k-th one -/
def Home (inner : List Tb) (p : Nat × Nat) : Prop := p.1 < inner.length ∧ p.2 < (inner.getD p.1 []).length
structure Part (i : Nat) (n : Nat) (inner : List Tb) (homes : List (Nat × Nat)) : Prop where
  len : inner.length = i
  tb : ∀ (k : Nat) (t : Tb), inner[k]? = some t → ∃ s, 1 ≤ s ∧ IsTb s t
  nd : homes.Nodup
  mem : ∀ p, p ∈ homes ↔ Home inner p
  le : homes.length + n ≤ 8 + i
structure Mix (n : Nat) (outer : Tb) (inner : List Tb) (homes : List (Nat × Nat)) : Prop where
  n1 : 1 ≤ n
  n8 : n ≤ 8
  out : IsTb n outer
  part : Part n n inner homes
theorem home_add {inner : List Tb} {t : Tb} {p : Nat × Nat} : Home (inner ++ [t]) p ↔ Home inner p ∨ (p.1 = inner.length ∧ p.2 < t.length) := by
  unfold Home
  rw [List.length_append, List.getD_eq_getElem?_getD, List.getD_eq_getElem?_getD]
  by_cases h : p.1 < inner.length
  · rw [List.getElem?_append_left h]
    constructor
    · exact fun q => .inl ⟨h, q.2⟩
    · rintro (q | q)
      · exact ⟨by omega, q.2⟩
      · omega
  · rw [List.getElem?_append_right (by omega)]
    by_cases h2 : p.1 = inner.length
    · rw [h2]
      simp
    · constructor
      · intro q; simp at q; omega
      · rintro (q | q)
        · omega
        · exact absurd q.1 h2
theorem r_size (c : Int) (m : Nat) (hm : 1 ≤ m) : ∃ s : Nat, 1 ≤ s ∧ s ≤ m ∧ ∀ (r : Aw.Env) (S : Store), r[6]? = some (some (.int c)) → r[7]? = some (some (.int (m : Nat))) →
    op2 ixG (lstE (consA (retO (.int 1)) (consA (callB min2G (consA (retO (.int 3)) (consA (vE 7) nilA))) (consA (op2 addG (retO (.int 1)) (op2 modI (op2 fdivI (vE 6) (retO (.int 4))) (vE 7))) nilA)))) (callB min2G (consA (op2 modI (vE 6) (retO (.int 4))) (consA (retO (.int 2)) nilA))) r S = .ok (.int (s : Nat)) S := by
  have hpos : (0 : Int) < (m : Nat) := by omega
  have h0 : 0 ≤ c % 4 := Int.emod_nonneg _ (by omega)
  have h4 : c % 4 < 4 := Int.emod_lt_of_pos _ (by omega)
  have g0 : 0 ≤ c / 4 % (m : Nat) := Int.emod_nonneg _ (by omega)
  have g1 : c / 4 % (m : Nat) < (m : Nat) := Int.emod_lt_of_pos _ hpos
  have sz : (3 : Nat) ≤ 100000 := by omega
  have ev : ∀ (s : Nat), (∀ S : Store, stepO (ixG S (.lst [.int 1, .int (if (m : Int) < 3 then (m : Int) else 3), .int (1 + c / 4 % (m : Nat))]) (.int (if (2 : Int) < c % 4 then 2 else c % 4))) = .ok (.int (s : Nat)) S) → ∀ (r : Aw.Env) (S : Store), r[6]? = some (some (.int c)) → r[7]? = some (some (.int (m : Nat))) →
    op2 ixG (lstE (consA (retO (.int 1)) (consA (callB min2G (consA (retO (.int 3)) (consA (vE 7) nilA))) (consA (op2 addG (retO (.int 1)) (op2 modI (op2 fdivI (vE 6) (retO (.int 4))) (vE 7))) nilA)))) (callB min2G (consA (op2 modI (vE 6) (retO (.int 4))) (consA (retO (.int 2)) nilA))) r S = .ok (.int (s : Nat)) S := by
    intro s h r S h6 h7
    have e6 : vE 6 r S = .ok (.int c) S := by rw [x_var h6]; rfl
    have e7 : vE 7 r S = .ok (.int (m : Nat)) S := by rw [x_var h7]; rfl
    simp only [x_partV, bnI_ok, cutD_1, len_en, asSeq_en, asLst_en, lstOf_en, x_callF, x_callFR, liftP_ok, liftR_ok, liftB_bl, liftB_int, callV1, callV2, callV3, callV4, callRV1, callRV2, callRV3, callRV4, p_int, p_bl, p_scr, p_non, p_str, p_lst, p_tup, p_nil, p_cons, p_en, p_ens, Bool.and_self, en_norm, mod_ok, fdiv_lit, mul_lit, add_nat, add_one, lt_int, le_int, gt_int, ge_int, min_int, max_int, neg_int, eq_int, ne_int, eq_bl, ne_bl, len_lst, len_tup, len_scr, Int.reduceLT, Int.reduceLE, Nat.reduceLeDiff, x_bind, x_then, x_seq, x_ret, x_op2, x_op1, x_step, x_nilA, x_consA, x_callB, x_testE, x_toB, x_if, x_retS, x_dropS, x_setS, x_skip, x_andT, x_orT, x_notT, x_ifE, x_andE, x_orE, x_notE, x_chain, x_tupE, x_lstE, x_lstC, x_methL, x_for, x_itSeq, x_asSeq, x_asSeqT, x_asSeqS, x_range1, x_range2, x_enum, x_asLst, x_asg, x_isi, x_slice, x_noPart, x_rev, bnd_ok, bnd_err, thn_ok, thn_err, sq_nx, sq_ret, sq_brk, sq_ct, sq_err, bnB_ok, startE, List.map_cons, List.map_nil, List.length_cons, List.length_nil, Nat.reduceAdd, Nat.reduceSub, List.replicate_succ, List.replicate_zero, List.append_nil, List.cons_append, List.nil_append, if_true, if_false, Bool.false_eq_true, x_v0, x_vs, n_int, n_bl, n_str, n_non, n_lst, n_tup, n_scr, List.getElem?_cons_zero, List.getElem?_cons_succ, List.set_cons_zero, List.set_cons_succ, wipeD, Option.map_some, Bool.not_true, Bool.not_false, e6, e7, mod_ok hpos, add_int, sz, h]
  by_cases q0 : c % 4 = 0
  · refine ⟨1, Nat.le_refl 1, hm, ev 1 fun S => ?_⟩
    rw [q0, if_neg (show ¬ (2 : Int) < 0 by omega)]
    rw [show (0 : Int) = ((0 : Nat) : Int) from rfl, ix_lst (d := .int 1) rfl, n_int, x_step]; rfl
  · by_cases q1 : c % 4 = 1
    · rw [q1, if_neg (show ¬ (2 : Int) < 1 by omega)] at ev
      by_cases q : (m : Nat) < (3 : Int)
      · refine ⟨m, hm, Nat.le_refl m, ev m fun S => ?_⟩
        rw [if_pos q, show (1 : Int) = ((1 : Nat) : Int) from rfl, ix_lst (d := .int (m : Nat)) rfl, n_int, x_step]
      · refine ⟨3, by omega, by omega, ev 3 fun S => ?_⟩
        rw [if_neg q, show (1 : Int) = ((1 : Nat) : Int) from rfl, ix_lst (d := .int 3) rfl, n_int, x_step]; rfl
    · refine ⟨(1 + c / 4 % (m : Nat)).toNat, by omega, by omega, ev _ fun S => ?_⟩
      have e2 : (if (2 : Int) < c % 4 then 2 else c % 4) = ((2 : Nat) : Int) := by split <;> omega
      rw [e2, ix_lst (d := .int (1 + c / 4 % (m : Nat))) rfl, n_int, x_step]
      congr 2
      omega
theorem perm_ins {α : Type} (xs : List α) (x : α) (k : Nat) : (xs.take k ++ x :: xs.drop k).Perm (x :: xs) := by
  refine List.perm_middle.trans ?_
  rw [List.take_append_drop]
theorem map_ins {α β : Type} (f : α → β) (xs : List α) (x : α) (k : Nat) : (xs.map f).take k ++ f x :: (xs.map f).drop k = (xs.take k ++ x :: xs.drop k).map f := by
  simp [List.map_take, List.map_drop]
abbrev mixD (outer : Tb) (inner : List Tb) (homes : List (Nat × Nat)) : D := .lst [en outer, en inner, en homes]
theorem r_mixed (ns : List Int) : ∃ n outer inner homes, Mix n outer inner homes ∧ f__law_mixed [.scr ns] = .ok (mixD outer inner homes) := by
  suffices h : ∃ d, f__law_mixed [.scr ns] = .ok d ∧ ∃ n outer inner homes, Mix n outer inner homes ∧ d = mixD outer inner homes by
    obtain ⟨d, h1, n, o, i, h, h2, rfl⟩ := h
    exact ⟨n, o, i, h, h2, h1⟩
  refine out_W ?_
  unfold b__law_mixed
  -- how many
  let c := ns.getD 0 0
  have q0 : 0 ≤ c % 4 := Int.emod_nonneg _ (by omega)
  have q1 : c % 4 < 4 := Int.emod_lt_of_pos _ (by omega)
  have r0 := r_cell_at ns 0
  have r1 := r_cell_at ns 1
  simp only [Int.natCast_zero, Int.natCast_one] at r0 r1
  have h0 : ∃ n : Nat, 1 ≤ n ∧ n ≤ 8 ∧ ((1 + c % 4) + (if c / 4 % 4 = 1 then 4 else 0)) = (n : Nat) := by
    refine ⟨(1 + c % 4).toNat + if c / 4 % 4 = 1 then 4 else 0, by omega, by split <;> omega, by split <;> omega⟩
  obtain ⟨n, n1, n8, h0⟩ := h0
  obtain ⟨outer, ho, ho'⟩ := r_table_by (ns.getD 1 0) n (by omega)
  have n62 : n < 2 ^ 62 := Nat.lt_of_le_of_lt n8 (by decide)
  have h1' : (setS (op2 addG (retO (.int 1)) (op2 modI (callF 2 f__law_cell_at (consA (vE 0) (consA (retO (.int 0)) nilA))) (retO (.int 4)))) (.one 1)) (startE 11 [.scr ns]) [] = .nx [some (.scr ns), some (.int (1 + ns.getD 0 0 % 4)), none, none, none, none, none, none, none, none, none] [] := by
    simp only [x_partV, bnI_ok, cutD_1, len_en, asSeq_en, asLst_en, lstOf_en, x_callF, x_callFR, liftP_ok, liftR_ok, liftB_bl, liftB_int, callV1, callV2, callV3, callV4, callRV1, callRV2, callRV3, callRV4, p_int, p_bl, p_scr, p_non, p_str, p_lst, p_tup, p_nil, p_cons, p_en, p_ens, Bool.and_self, en_norm, mod_ok, fdiv_lit, mul_lit, add_nat, add_one, lt_int, le_int, gt_int, ge_int, min_int, max_int, neg_int, eq_int, ne_int, eq_bl, ne_bl, len_lst, len_tup, len_scr, Int.reduceLT, Int.reduceLE, Nat.reduceLeDiff, x_bind, x_then, x_seq, x_ret, x_op2, x_op1, x_step, x_nilA, x_consA, x_callB, x_testE, x_toB, x_if, x_retS, x_dropS, x_setS, x_skip, x_andT, x_orT, x_notT, x_ifE, x_andE, x_orE, x_notE, x_chain, x_tupE, x_lstE, x_lstC, x_methL, x_for, x_itSeq, x_asSeq, x_asSeqT, x_asSeqS, x_range1, x_range2, x_enum, x_asLst, x_asg, x_isi, x_slice, x_noPart, x_rev, bnd_ok, bnd_err, thn_ok, thn_err, sq_nx, sq_ret, sq_brk, sq_ct, sq_err, bnB_ok, startE, List.map_cons, List.map_nil, List.length_cons, List.length_nil, Nat.reduceAdd, Nat.reduceSub, List.replicate_succ, List.replicate_zero, List.append_nil, List.cons_append, List.nil_append, if_true, if_false, Bool.false_eq_true, x_v0, x_vs, n_int, n_bl, n_str, n_non, n_lst, n_tup, n_scr, List.getElem?_cons_zero, List.getElem?_cons_succ, List.set_cons_zero, List.set_cons_succ, wipeD, Option.map_some, Bool.not_true, Bool.not_false, add_int, r0]
  have h1 : ((ifS (testE (op2 eqG (op2 modI (op2 fdivI (callF 2 f__law_cell_at (consA (vE 0) (consA (retO (.int 0)) nilA))) (retO (.int 4))) (retO (.int 4))) (retO (.int 1)))) (setS (op2 addG (vE 1) (retO (.int 4))) (.one 1)) skipS) [some (.scr ns), some (.int (1 + ns.getD 0 0 % 4)), none, none, none, none, none, none, none, none, none] []) = .nx [some (.scr ns), some (.int (n : Nat)), none, none, none, none, none, none, none, none, none] [] := by
    simp only [x_partV, bnI_ok, cutD_1, len_en, asSeq_en, asLst_en, lstOf_en, x_callF, x_callFR, liftP_ok, liftR_ok, liftB_bl, liftB_int, callV1, callV2, callV3, callV4, callRV1, callRV2, callRV3, callRV4, p_int, p_bl, p_scr, p_non, p_str, p_lst, p_tup, p_nil, p_cons, p_en, p_ens, Bool.and_self, en_norm, mod_ok, fdiv_lit, mul_lit, add_nat, add_one, lt_int, le_int, gt_int, ge_int, min_int, max_int, neg_int, eq_int, ne_int, eq_bl, ne_bl, len_lst, len_tup, len_scr, Int.reduceLT, Int.reduceLE, Nat.reduceLeDiff, x_bind, x_then, x_seq, x_ret, x_op2, x_op1, x_step, x_nilA, x_consA, x_callB, x_testE, x_toB, x_if, x_retS, x_dropS, x_setS, x_skip, x_andT, x_orT, x_notT, x_ifE, x_andE, x_orE, x_notE, x_chain, x_tupE, x_lstE, x_lstC, x_methL, x_for, x_itSeq, x_asSeq, x_asSeqT, x_asSeqS, x_range1, x_range2, x_enum, x_asLst, x_asg, x_isi, x_slice, x_noPart, x_rev, bnd_ok, bnd_err, thn_ok, thn_err, sq_nx, sq_ret, sq_brk, sq_ct, sq_err, bnB_ok, startE, List.map_cons, List.map_nil, List.length_cons, List.length_nil, Nat.reduceAdd, Nat.reduceSub, List.replicate_succ, List.replicate_zero, List.append_nil, List.cons_append, List.nil_append, if_true, if_false, Bool.false_eq_true, x_v0, x_vs, n_int, n_bl, n_str, n_non, n_lst, n_tup, n_scr, List.getElem?_cons_zero, List.getElem?_cons_succ, List.set_cons_zero, List.set_cons_succ, wipeD, Option.map_some, Bool.not_true, Bool.not_false, r0]
    by_cases hq : c / 4 % 4 = 1
    · rw [if_pos hq] at h0
      simp only [show ns.getD 0 0 = c from rfl, hq, decide_true, x_partV, bnI_ok, cutD_1, len_en, asSeq_en, asLst_en, lstOf_en, x_callF, x_callFR, liftP_ok, liftR_ok, liftB_bl, liftB_int, callV1, callV2, callV3, callV4, callRV1, callRV2, callRV3, callRV4, p_int, p_bl, p_scr, p_non, p_str, p_lst, p_tup, p_nil, p_cons, p_en, p_ens, Bool.and_self, en_norm, mod_ok, fdiv_lit, mul_lit, add_nat, add_one, lt_int, le_int, gt_int, ge_int, min_int, max_int, neg_int, eq_int, ne_int, eq_bl, ne_bl, len_lst, len_tup, len_scr, Int.reduceLT, Int.reduceLE, Nat.reduceLeDiff, x_bind, x_then, x_seq, x_ret, x_op2, x_op1, x_step, x_nilA, x_consA, x_callB, x_testE, x_toB, x_if, x_retS, x_dropS, x_setS, x_skip, x_andT, x_orT, x_notT, x_ifE, x_andE, x_orE, x_notE, x_chain, x_tupE, x_lstE, x_lstC, x_methL, x_for, x_itSeq, x_asSeq, x_asSeqT, x_asSeqS, x_range1, x_range2, x_enum, x_asLst, x_asg, x_isi, x_slice, x_noPart, x_rev, bnd_ok, bnd_err, thn_ok, thn_err, sq_nx, sq_ret, sq_brk, sq_ct, sq_err, bnB_ok, startE, List.map_cons, List.map_nil, List.length_cons, List.length_nil, Nat.reduceAdd, Nat.reduceSub, List.replicate_succ, List.replicate_zero, List.append_nil, List.cons_append, List.nil_append, if_true, if_false, Bool.false_eq_true, x_v0, x_vs, n_int, n_bl, n_str, n_non, n_lst, n_tup, n_scr, List.getElem?_cons_zero, List.getElem?_cons_succ, List.set_cons_zero, List.set_cons_succ, wipeD, Option.map_some, Bool.not_true, Bool.not_false, add_int]
      simp only [h0]
    · rw [if_neg hq] at h0
      simp only [show ns.getD 0 0 = c from rfl, hq, decide_false, x_partV, bnI_ok, cutD_1, len_en, asSeq_en, asLst_en, lstOf_en, x_callF, x_callFR, liftP_ok, liftR_ok, liftB_bl, liftB_int, callV1, callV2, callV3, callV4, callRV1, callRV2, callRV3, callRV4, p_int, p_bl, p_scr, p_non, p_str, p_lst, p_tup, p_nil, p_cons, p_en, p_ens, Bool.and_self, en_norm, mod_ok, fdiv_lit, mul_lit, add_nat, add_one, lt_int, le_int, gt_int, ge_int, min_int, max_int, neg_int, eq_int, ne_int, eq_bl, ne_bl, len_lst, len_tup, len_scr, Int.reduceLT, Int.reduceLE, Nat.reduceLeDiff, x_bind, x_then, x_seq, x_ret, x_op2, x_op1, x_step, x_nilA, x_consA, x_callB, x_testE, x_toB, x_if, x_retS, x_dropS, x_setS, x_skip, x_andT, x_orT, x_notT, x_ifE, x_andE, x_orE, x_notE, x_chain, x_tupE, x_lstE, x_lstC, x_methL, x_for, x_itSeq, x_asSeq, x_asSeqT, x_asSeqS, x_range1, x_range2, x_enum, x_asLst, x_asg, x_isi, x_slice, x_noPart, x_rev, bnd_ok, bnd_err, thn_ok, thn_err, sq_nx, sq_ret, sq_brk, sq_ct, sq_err, bnB_ok, startE, List.map_cons, List.map_nil, List.length_cons, List.length_nil, Nat.reduceAdd, Nat.reduceSub, List.replicate_succ, List.replicate_zero, List.append_nil, List.cons_append, List.nil_append, if_true, if_false, Bool.false_eq_true, x_v0, x_vs, n_int, n_bl, n_str, n_non, n_lst, n_tup, n_scr, List.getElem?_cons_zero, List.getElem?_cons_succ, List.set_cons_zero, List.set_cons_succ, wipeD, Option.map_some, Bool.not_true, Bool.not_false]
      simp only [← h0, Int.add_zero]
  rw [x_seq, h1', sq_nx, x_seq, h1, sq_nx]
  have z0 : (0 : Nat) ≤ 100000 := by omega
  simp only [x_partV, bnI_ok, cutD_1, len_en, asSeq_en, asLst_en, lstOf_en, x_callF, x_callFR, liftP_ok, liftR_ok, liftB_bl, liftB_int, callV1, callV2, callV3, callV4, callRV1, callRV2, callRV3, callRV4, p_int, p_bl, p_scr, p_non, p_str, p_lst, p_tup, p_nil, p_cons, p_en, p_ens, Bool.and_self, en_norm, mod_ok, fdiv_lit, mul_lit, add_nat, add_one, lt_int, le_int, gt_int, ge_int, min_int, max_int, neg_int, eq_int, ne_int, eq_bl, ne_bl, len_lst, len_tup, len_scr, Int.reduceLT, Int.reduceLE, Nat.reduceLeDiff, x_bind, x_then, x_seq, x_ret, x_op2, x_op1, x_step, x_nilA, x_consA, x_callB, x_testE, x_toB, x_if, x_retS, x_dropS, x_setS, x_skip, x_andT, x_orT, x_notT, x_ifE, x_andE, x_orE, x_notE, x_chain, x_tupE, x_lstE, x_lstC, x_methL, x_for, x_itSeq, x_asSeq, x_asSeqT, x_asSeqS, x_range1, x_range2, x_enum, x_asLst, x_asg, x_isi, x_slice, x_noPart, x_rev, bnd_ok, bnd_err, thn_ok, thn_err, sq_nx, sq_ret, sq_brk, sq_ct, sq_err, bnB_ok, startE, List.map_cons, List.map_nil, List.length_cons, List.length_nil, Nat.reduceAdd, Nat.reduceSub, List.replicate_succ, List.replicate_zero, List.append_nil, List.cons_append, List.nil_append, if_true, if_false, Bool.false_eq_true, x_v0, x_vs, n_int, n_bl, n_str, n_non, n_lst, n_tup, n_scr, List.getElem?_cons_zero, List.getElem?_cons_succ, List.set_cons_zero, List.set_cons_succ, wipeD, Option.map_some, Bool.not_true, Bool.not_false, r1, ho', z0, ho.sq.len, x_rangeI1 n62]
  refine W_sq (W_for (fun i r S => ∃ inner homes o5 o6 o7 o8 o9 o10, r = [some (.scr ns), some (.int (n : Nat)), some (En.e outer), some (.loc 0), some (.loc 1), o5, o6, o7, o8, o9, o10] ∧ S = [.lst (inner.map (En.e (α := Tb))), .lst (homes.map (En.e (α := Nat × Nat)))] ∧ Part i n inner homes)
    ⟨[], [], none, none, none, none, none, none, rfl, rfl, rfl, fun k t h => by simp at h, List.nodup_nil, fun p => ⟨fun h => by simp at h, fun h => absurd h.1 (by simp)⟩, by simpa using n8⟩ ?_ ?_)
  · rintro i d r S hd ⟨inner, homes, o5, o6, o7, o8, o9, o10, rfl, rfl, hp⟩
    obtain ⟨hin, rfl⟩ := upto_at hd
    refine ⟨_, rfl, ?_⟩
    have hle := hp.le
    obtain ⟨m, hm⟩ : ∃ m : Nat, m + homes.length + n = 9 + i := ⟨9 + i - homes.length - n, by omega⟩
    have hm1 : 1 ≤ m := by omega
    have e7 : (9 : Int) - (homes.length : Nat) - (n : Nat) + (i : Nat) = (m : Nat) := by omega
    have rk := r_cell_at ns (2 + i)
    have e2i : (2 : Int) + (i : Nat) = ((2 + i : Nat) : Int) := by omega
    obtain ⟨s, s1, s2, hs⟩ := r_size (ns.getD (2 + i) 0) m hm1
    have l0 : ∀ (a b : List D), norm [Cell.lst a, .lst b] (.loc 0) = .loc 0 := fun _ _ => rfl
    have l1 : ∀ (a b : List D), norm [Cell.lst a, .lst b] (.loc 1) = .loc 1 := fun _ _ => rfl
    have l2 : ∀ (a b : List D), lenG [Cell.lst a, .lst b] [.loc 1] = some (.int (b.length : Nat), [Cell.lst a, .lst b]) := fun _ _ => rfl
    refine Cs_set fun G hG => ?_
    simp only [x_partV, bnI_ok, cutD_1, len_en, asSeq_en, asLst_en, lstOf_en, x_callF, x_callFR, liftP_ok, liftR_ok, liftB_bl, liftB_int, callV1, callV2, callV3, callV4, callRV1, callRV2, callRV3, callRV4, p_int, p_bl, p_scr, p_non, p_str, p_lst, p_tup, p_nil, p_cons, p_en, p_ens, Bool.and_self, en_norm, mod_ok, fdiv_lit, mul_lit, add_nat, add_one, lt_int, le_int, gt_int, ge_int, min_int, max_int, neg_int, eq_int, ne_int, eq_bl, ne_bl, len_lst, len_tup, len_scr, Int.reduceLT, Int.reduceLE, Nat.reduceLeDiff, x_bind, x_then, x_seq, x_ret, x_op2, x_op1, x_step, x_nilA, x_consA, x_callB, x_testE, x_toB, x_if, x_retS, x_dropS, x_setS, x_skip, x_andT, x_orT, x_notT, x_ifE, x_andE, x_orE, x_notE, x_chain, x_tupE, x_lstE, x_lstC, x_methL, x_for, x_itSeq, x_asSeq, x_asSeqT, x_asSeqS, x_range1, x_range2, x_enum, x_asLst, x_asg, x_isi, x_slice, x_noPart, x_rev, bnd_ok, bnd_err, thn_ok, thn_err, sq_nx, sq_ret, sq_brk, sq_ct, sq_err, bnB_ok, startE, List.map_cons, List.map_nil, List.length_cons, List.length_nil, Nat.reduceAdd, Nat.reduceSub, List.replicate_succ, List.replicate_zero, List.append_nil, List.cons_append, List.nil_append, if_true, if_false, Bool.false_eq_true, x_v0, x_vs, n_int, n_bl, n_str, n_non, n_lst, n_tup, n_scr, List.getElem?_cons_zero, List.getElem?_cons_succ, List.set_cons_zero, List.set_cons_succ, wipeD, Option.map_some, Bool.not_true, Bool.not_false, P_ok, add_int, e2i, rk]
    refine hG _ _ ?_
    clear hG G
    simp only [List.set_cons_zero, List.set_cons_succ]
    refine Cs_set fun G hG => ?_
    simp only [x_partV, bnI_ok, cutD_1, len_en, asSeq_en, asLst_en, lstOf_en, x_callF, x_callFR, liftP_ok, liftR_ok, liftB_bl, liftB_int, callV1, callV2, callV3, callV4, callRV1, callRV2, callRV3, callRV4, p_int, p_bl, p_scr, p_non, p_str, p_lst, p_tup, p_nil, p_cons, p_en, p_ens, Bool.and_self, en_norm, mod_ok, fdiv_lit, mul_lit, add_nat, add_one, lt_int, le_int, gt_int, ge_int, min_int, max_int, neg_int, eq_int, ne_int, eq_bl, ne_bl, len_lst, len_tup, len_scr, Int.reduceLT, Int.reduceLE, Nat.reduceLeDiff, x_bind, x_then, x_seq, x_ret, x_op2, x_op1, x_step, x_nilA, x_consA, x_callB, x_testE, x_toB, x_if, x_retS, x_dropS, x_setS, x_skip, x_andT, x_orT, x_notT, x_ifE, x_andE, x_orE, x_notE, x_chain, x_tupE, x_lstE, x_lstC, x_methL, x_for, x_itSeq, x_asSeq, x_asSeqT, x_asSeqS, x_range1, x_range2, x_enum, x_asLst, x_asg, x_isi, x_slice, x_noPart, x_rev, bnd_ok, bnd_err, thn_ok, thn_err, sq_nx, sq_ret, sq_brk, sq_ct, sq_err, bnB_ok, startE, List.map_cons, List.map_nil, List.length_cons, List.length_nil, Nat.reduceAdd, Nat.reduceSub, List.replicate_succ, List.replicate_zero, List.append_nil, List.cons_append, List.nil_append, if_true, if_false, Bool.false_eq_true, x_v0, x_vs, n_int, n_bl, n_str, n_non, n_lst, n_tup, n_scr, List.getElem?_cons_zero, List.getElem?_cons_succ, List.set_cons_zero, List.set_cons_succ, wipeD, Option.map_some, Bool.not_true, Bool.not_false, P_ok, add_int, sub_int, l1, l2, List.length_map, ho.sq.len, e7]
    refine hG _ _ ?_
    clear hG G
    simp only [List.set_cons_zero, List.set_cons_succ]
    refine Ws_set (hs _ _ rfl rfl) ?_
    simp only [List.set_cons_zero, List.set_cons_succ]
    have m9 : m ≤ 9 := by omega
    have s9 : s ≤ 9 := Nat.le_trans s2 m9
    obtain ⟨t, ht, ht'⟩ := r_table_by (ns.getD (2 + i) 0 / 32) s (by omega)
    have a1 := app_cell (S := [Cell.lst (inner.map (En.e (α := Tb))), .lst (homes.map (En.e (α := Nat × Nat)))]) (n := 0) (d := En.e t) rfl (by rw [List.length_map, hp.len]; omega)
    have a2 := lst_cell (S := [Cell.lst (inner.map (En.e (α := Tb))), .lst (homes.map (En.e (α := Nat × Nat)))]) (n := 0) rfl
    refine Cs_drop fun G hG => ?_
    simp only [x_partV, bnI_ok, cutD_1, len_en, asSeq_en, asLst_en, lstOf_en, x_callF, x_callFR, liftP_ok, liftR_ok, liftB_bl, liftB_int, callV1, callV2, callV3, callV4, callRV1, callRV2, callRV3, callRV4, p_int, p_bl, p_scr, p_non, p_str, p_lst, p_tup, p_nil, p_cons, p_en, p_ens, Bool.and_self, en_norm, mod_ok, fdiv_lit, mul_lit, add_nat, add_one, lt_int, le_int, gt_int, ge_int, min_int, max_int, neg_int, eq_int, ne_int, eq_bl, ne_bl, len_lst, len_tup, len_scr, Int.reduceLT, Int.reduceLE, Nat.reduceLeDiff, x_bind, x_then, x_seq, x_ret, x_op2, x_op1, x_step, x_nilA, x_consA, x_callB, x_testE, x_toB, x_if, x_retS, x_dropS, x_setS, x_skip, x_andT, x_orT, x_notT, x_ifE, x_andE, x_orE, x_notE, x_chain, x_tupE, x_lstE, x_lstC, x_methL, x_for, x_itSeq, x_asSeq, x_asSeqT, x_asSeqS, x_range1, x_range2, x_enum, x_asLst, x_asg, x_isi, x_slice, x_noPart, x_rev, bnd_ok, bnd_err, thn_ok, thn_err, sq_nx, sq_ret, sq_brk, sq_ct, sq_err, bnB_ok, startE, List.map_cons, List.map_nil, List.length_cons, List.length_nil, Nat.reduceAdd, Nat.reduceSub, List.replicate_succ, List.replicate_zero, List.append_nil, List.cons_append, List.nil_append, if_true, if_false, Bool.false_eq_true, x_v0, x_vs, n_int, n_bl, n_str, n_non, n_lst, n_tup, n_scr, List.getElem?_cons_zero, List.getElem?_cons_succ, List.set_cons_zero, List.set_cons_succ, wipeD, Option.map_some, Bool.not_true, Bool.not_false, P_ok, l0, a1, a2, ht', Option.isSome_some]
    refine hG _ _ ?_
    clear hG G
    rw [show List.map En.e inner ++ [En.e t] = (inner ++ [t]).map En.e by simp]
    have s62 : s < 2 ^ 62 := Nat.lt_of_le_of_lt (show s ≤ 9 by omega) (by decide)
    refine We_for (fun j r S => ∃ homes o9 o10, r = [some (.scr ns), some (.int (n : Nat)), some (En.e outer), some (.loc 0), some (.loc 1), some (.int (i : Nat)), some (.int (ns.getD (2 + i) 0)), some (.int (m : Nat)), some (.int (s : Nat)), o9, o10] ∧ S = [.lst ((inner ++ [t]).map (En.e (α := Tb))), .lst (homes.map (En.e (α := Nat × Nat)))] ∧ homes.Nodup ∧ (∀ p, p ∈ homes ↔ Home inner p ∨ (p.1 = i ∧ p.2 < j)) ∧ homes.length + m + n = 9 + i + j)
      (ds := upto s) (by simp only [x_partV, bnI_ok, cutD_1, len_en, asSeq_en, asLst_en, lstOf_en, x_callF, x_callFR, liftP_ok, liftR_ok, liftB_bl, liftB_int, callV1, callV2, callV3, callV4, callRV1, callRV2, callRV3, callRV4, p_int, p_bl, p_scr, p_non, p_str, p_lst, p_tup, p_nil, p_cons, p_en, p_ens, Bool.and_self, en_norm, mod_ok, fdiv_lit, mul_lit, add_nat, add_one, lt_int, le_int, gt_int, ge_int, min_int, max_int, neg_int, eq_int, ne_int, eq_bl, ne_bl, len_lst, len_tup, len_scr, Int.reduceLT, Int.reduceLE, Nat.reduceLeDiff, x_bind, x_then, x_seq, x_ret, x_op2, x_op1, x_step, x_nilA, x_consA, x_callB, x_testE, x_toB, x_if, x_retS, x_dropS, x_setS, x_skip, x_andT, x_orT, x_notT, x_ifE, x_andE, x_orE, x_notE, x_chain, x_tupE, x_lstE, x_lstC, x_methL, x_for, x_itSeq, x_asSeq, x_asSeqT, x_asSeqS, x_range1, x_range2, x_enum, x_asLst, x_asg, x_isi, x_slice, x_noPart, x_rev, bnd_ok, bnd_err, thn_ok, thn_err, sq_nx, sq_ret, sq_brk, sq_ct, sq_err, bnB_ok, startE, List.map_cons, List.map_nil, List.length_cons, List.length_nil, Nat.reduceAdd, Nat.reduceSub, List.replicate_succ, List.replicate_zero, List.append_nil, List.cons_append, List.nil_append, if_true, if_false, Bool.false_eq_true, x_v0, x_vs, n_int, n_bl, n_str, n_non, n_lst, n_tup, n_scr, List.getElem?_cons_zero, List.getElem?_cons_succ, List.set_cons_zero, List.set_cons_succ, wipeD, Option.map_some, Bool.not_true, Bool.not_false, x_rangeI1 s62]; try exact rfl) ⟨homes, o9, o10, rfl, rfl, hp.nd, fun p => by rw [hp.mem]; exact ⟨.inl, fun h => h.elim id fun q => absurd q.2 (by omega)⟩, by omega⟩ ?_ ?_
    · rintro j d r S hd ⟨homes, o9, o10, rfl, rfl, nd, mem, hl⟩
      obtain ⟨hjs, rfl⟩ := upto_at hd
      refine ⟨_, rfl, ?_⟩
      have r6 := r_cell_at ns (6 + homes.length)
      have e6 : (6 : Int) + (homes.length : Nat) = ((6 + homes.length : Nat) : Int) := by omega
      have hpos : (0 : Int) < (homes.length : Nat) + 1 := by omega
      have g0 := Int.emod_nonneg (ns.getD (6 + homes.length) 0) (show ((homes.length : Nat) : Int) + 1 ≠ 0 by omega)
      have g1 := Int.emod_lt_of_pos (ns.getD (6 + homes.length) 0) hpos
      obtain ⟨u, hu⟩ : ∃ u : Nat, ns.getD (6 + homes.length) 0 % ((homes.length : Nat) + 1) = (u : Nat) := ⟨_, (Int.toNat_of_nonneg g0).symm⟩
      have hul : u ≤ homes.length := by omega
      refine Cs_set fun G hG => ?_
      simp only [x_partV, bnI_ok, cutD_1, len_en, asSeq_en, asLst_en, lstOf_en, x_callF, x_callFR, liftP_ok, liftR_ok, liftB_bl, liftB_int, callV1, callV2, callV3, callV4, callRV1, callRV2, callRV3, callRV4, p_int, p_bl, p_scr, p_non, p_str, p_lst, p_tup, p_nil, p_cons, p_en, p_ens, Bool.and_self, en_norm, mod_ok, fdiv_lit, mul_lit, add_nat, add_one, lt_int, le_int, gt_int, ge_int, min_int, max_int, neg_int, eq_int, ne_int, eq_bl, ne_bl, len_lst, len_tup, len_scr, Int.reduceLT, Int.reduceLE, Nat.reduceLeDiff, x_bind, x_then, x_seq, x_ret, x_op2, x_op1, x_step, x_nilA, x_consA, x_callB, x_testE, x_toB, x_if, x_retS, x_dropS, x_setS, x_skip, x_andT, x_orT, x_notT, x_ifE, x_andE, x_orE, x_notE, x_chain, x_tupE, x_lstE, x_lstC, x_methL, x_for, x_itSeq, x_asSeq, x_asSeqT, x_asSeqS, x_range1, x_range2, x_enum, x_asLst, x_asg, x_isi, x_slice, x_noPart, x_rev, bnd_ok, bnd_err, thn_ok, thn_err, sq_nx, sq_ret, sq_brk, sq_ct, sq_err, bnB_ok, startE, List.map_cons, List.map_nil, List.length_cons, List.length_nil, Nat.reduceAdd, Nat.reduceSub, List.replicate_succ, List.replicate_zero, List.append_nil, List.cons_append, List.nil_append, if_true, if_false, Bool.false_eq_true, x_v0, x_vs, n_int, n_bl, n_str, n_non, n_lst, n_tup, n_scr, List.getElem?_cons_zero, List.getElem?_cons_succ, List.set_cons_zero, List.set_cons_succ, wipeD, Option.map_some, Bool.not_true, Bool.not_false, P_ok, add_int, l1, l2, List.length_map, e6, r6, mod_ok hpos, hu]
      refine hG _ _ ?_
      clear hG G
      simp only [List.set_cons_zero, List.set_cons_succ]
      have a3 := ins_cell (S := [Cell.lst ((inner ++ [t]).map (En.e (α := Tb))), .lst (homes.map (En.e (α := Nat × Nat)))]) (n := 1) (i := u) (d := En.e (i, j)) rfl (by rw [List.length_map]; omega) (by rw [List.length_map]; exact hul)
      rw [map_ins] at a3
      have a4 := lst_cell (S := [Cell.lst ((inner ++ [t]).map (En.e (α := Tb))), .lst (homes.map (En.e (α := Nat × Nat)))]) (n := 1) rfl
      have a5 : D.tup [.int (i : Nat), .int (j : Nat)] = En.e (i, j) := rfl
      refine Ce_drop fun G hG => ?_
      simp only [x_partV, bnI_ok, cutD_1, len_en, asSeq_en, asLst_en, lstOf_en, x_callF, x_callFR, liftP_ok, liftR_ok, liftB_bl, liftB_int, callV1, callV2, callV3, callV4, callRV1, callRV2, callRV3, callRV4, p_int, p_bl, p_scr, p_non, p_str, p_lst, p_tup, p_nil, p_cons, p_en, p_ens, Bool.and_self, en_norm, mod_ok, fdiv_lit, mul_lit, add_nat, add_one, lt_int, le_int, gt_int, ge_int, min_int, max_int, neg_int, eq_int, ne_int, eq_bl, ne_bl, len_lst, len_tup, len_scr, Int.reduceLT, Int.reduceLE, Nat.reduceLeDiff, x_bind, x_then, x_seq, x_ret, x_op2, x_op1, x_step, x_nilA, x_consA, x_callB, x_testE, x_toB, x_if, x_retS, x_dropS, x_setS, x_skip, x_andT, x_orT, x_notT, x_ifE, x_andE, x_orE, x_notE, x_chain, x_tupE, x_lstE, x_lstC, x_methL, x_for, x_itSeq, x_asSeq, x_asSeqT, x_asSeqS, x_range1, x_range2, x_enum, x_asLst, x_asg, x_isi, x_slice, x_noPart, x_rev, bnd_ok, bnd_err, thn_ok, thn_err, sq_nx, sq_ret, sq_brk, sq_ct, sq_err, bnB_ok, startE, List.map_cons, List.map_nil, List.length_cons, List.length_nil, Nat.reduceAdd, Nat.reduceSub, List.replicate_succ, List.replicate_zero, List.append_nil, List.cons_append, List.nil_append, if_true, if_false, Bool.false_eq_true, x_v0, x_vs, n_int, n_bl, n_str, n_non, n_lst, n_tup, n_scr, List.getElem?_cons_zero, List.getElem?_cons_succ, List.set_cons_zero, List.set_cons_succ, wipeD, Option.map_some, Bool.not_true, Bool.not_false, P_ok, l1, a3, a4, a5, Option.isSome_some, z0, show (2 : Nat) ≤ 100000 by omega]
      refine hG _ _ ?_
      clear hG G
      · have pm := perm_ins homes (i, j) u
        refine ⟨_, _, _, rfl, rfl, pm.nodup_iff.mpr (List.nodup_cons.mpr ⟨fun h => ?_, nd⟩), fun p => ?_, by rw [pm.length_eq, List.length_cons]; omega⟩
        · rcases (mem _).mp h with h | h
          · have := h.1; rw [hp.len] at this; exact absurd this (Nat.lt_irrefl i)
          · exact absurd h.2 (Nat.lt_irrefl j)
        · rw [pm.mem_iff, List.mem_cons, mem]
          constructor
          · rintro (rfl | h | h)
            · exact .inr ⟨rfl, Nat.lt_succ_self j⟩
            · exact .inl h
            · exact .inr ⟨h.1, by omega⟩
          · rintro (h | h)
            · exact .inr (.inl h)
            · by_cases q : p.2 = j
              · exact .inl (Prod.ext h.1 q)
              · exact .inr (.inr ⟨h.1, by omega⟩)
    · rintro r S ⟨homes, o9, o10, rfl, rfl, nd, mem, hl⟩
      rw [upto_len] at mem hl
      refine ⟨inner ++ [t], homes, _, _, _, _, _, _, rfl, rfl, by rw [List.length_append, hp.len]; rfl, fun k u h => ?_, nd, fun p => ?_, by omega⟩
      · by_cases hk : k < inner.length
        · rw [List.getElem?_append_left hk] at h
          exact hp.tb k u h
        · rw [List.getElem?_append_right (by omega)] at h
          have : k - inner.length = 0 := by
            have := (List.getElem?_eq_some_iff.mp h).1
            simp at this; omega
          rw [this] at h
          cases h
          exact ⟨s, s1, ht⟩
      · rw [mem, home_add, hp.len, ht.sq.len]
  · rintro r S ⟨inner, homes, o5, o6, o7, o8, o9, o10, rfl, rfl, hp⟩
    rw [upto_len] at hp
    refine We_ret (d := .lst [En.e outer, .loc 0, .loc 1]) (S1 := [.lst (inner.map (En.e (α := Tb))), .lst (homes.map (En.e (α := Nat × Nat)))]) ?_ ⟨mixD outer inner homes, ?_, n, outer, inner, homes, ⟨n1, n8, ho, hp⟩, rfl⟩
    · have l0 : ∀ (a b : List D), norm [Cell.lst a, .lst b] (.loc 0) = .loc 0 := fun _ _ => rfl
      have l1 : ∀ (a b : List D), norm [Cell.lst a, .lst b] (.loc 1) = .loc 1 := fun _ _ => rfl
      simp only [x_partV, bnI_ok, cutD_1, len_en, asSeq_en, asLst_en, lstOf_en, x_callF, x_callFR, liftP_ok, liftR_ok, liftB_bl, liftB_int, callV1, callV2, callV3, callV4, callRV1, callRV2, callRV3, callRV4, p_int, p_bl, p_scr, p_non, p_str, p_lst, p_tup, p_nil, p_cons, p_en, p_ens, Bool.and_self, en_norm, mod_ok, fdiv_lit, mul_lit, add_nat, add_one, lt_int, le_int, gt_int, ge_int, min_int, max_int, neg_int, eq_int, ne_int, eq_bl, ne_bl, len_lst, len_tup, len_scr, Int.reduceLT, Int.reduceLE, Nat.reduceLeDiff, x_bind, x_then, x_seq, x_ret, x_op2, x_op1, x_step, x_nilA, x_consA, x_callB, x_testE, x_toB, x_if, x_retS, x_dropS, x_setS, x_skip, x_andT, x_orT, x_notT, x_ifE, x_andE, x_orE, x_notE, x_chain, x_tupE, x_lstE, x_lstC, x_methL, x_for, x_itSeq, x_asSeq, x_asSeqT, x_asSeqS, x_range1, x_range2, x_enum, x_asLst, x_asg, x_isi, x_slice, x_noPart, x_rev, bnd_ok, bnd_err, thn_ok, thn_err, sq_nx, sq_ret, sq_brk, sq_ct, sq_err, bnB_ok, startE, List.map_cons, List.map_nil, List.length_cons, List.length_nil, Nat.reduceAdd, Nat.reduceSub, List.replicate_succ, List.replicate_zero, List.append_nil, List.cons_append, List.nil_append, if_true, if_false, Bool.false_eq_true, x_v0, x_vs, n_int, n_bl, n_str, n_non, n_lst, n_tup, n_scr, List.getElem?_cons_zero, List.getElem?_cons_succ, List.set_cons_zero, List.set_cons_succ, wipeD, Option.map_some, Bool.not_true, Bool.not_false, l0, l1]
    · have e0 : resLoc [Cell.lst (inner.map (En.e (α := Tb))), .lst (homes.map (En.e (α := Nat × Nat)))] (3 + 1) 0 = some (En.e inner) := by
        rw [resLoc_lst 3 rfl, resL_pure _ _ (p_ens inner)]; rfl
      have e1 : resLoc [Cell.lst (inner.map (En.e (α := Tb))), .lst (homes.map (En.e (α := Nat × Nat)))] (3 + 1) 1 = some (En.e homes) := by
        rw [resLoc_lst 3 rfl, resL_pure _ _ (p_ens homes)]; rfl
      simp only [resA, resD, resL, resD_pure _ _ (En.pu outer), e0, e1, Option.map_some]
end K78


namespace K78
open Aw
def beats (outer : Tb) (inner : List Tb) (p q : Nat × Nat) : Bool := if p.1 = q.1 then ent (inner.getD p.1 []) p.2 q.2 else ent outer p.1 q.1
theorem Part.get {i n : Nat} {inner : List Tb} {homes : List (Nat × Nat)} (h : Part i n inner homes) {k : Nat} (hk : k < inner.length) : inner[k]? = some (inner.getD k []) ∧ IsTb (inner.getD k []).length (inner.getD k []) ∧ 1 ≤ (inner.getD k []).length := by
  have e : inner[k]? = some (inner.getD k []) := by
    rw [List.getD_eq_getElem?_getD, List.getElem?_eq_getElem hk]; rfl
  obtain ⟨s, h1, h2⟩ := h.tb k _ e
  have := h2.sq.len
  exact ⟨e, by rw [this]; exact h2, by omega⟩
theorem pair_fst {S : Store} (p : Nat × Nat) : ixG S (En.e p) (.int 0) = some (.int (p.1 : Nat), S) := ix_fst p
theorem pair_snd {S : Store} (p : Nat × Nat) : ixG S (En.e p) (.int 1) = some (.int (p.2 : Nat), S) := ix_snd p
theorem n_mix {S : Store} (o : Tb) (i : List Tb) (h : List (Nat × Nat)) : norm S (mixD o i h) = mixD o i h := Eq.trans rfl rfl
theorem p_mix (o : Tb) (i : List Tb) (h : List (Nat × Nat)) : pureD (mixD o i h) = true := by
  simp only [x_partV, bnI_ok, cutD_1, len_en, asSeq_en, asLst_en, lstOf_en, x_callF, x_callFR, liftP_ok, liftR_ok, liftB_bl, liftB_int, callV1, callV2, callV3, callV4, callRV1, callRV2, callRV3, callRV4, p_int, p_bl, p_scr, p_non, p_str, p_lst, p_tup, p_nil, p_cons, p_en, p_ens, Bool.and_self, en_norm, mod_ok, fdiv_lit, mul_lit, add_nat, add_one, lt_int, le_int, gt_int, ge_int, min_int, max_int, neg_int, eq_int, ne_int, eq_bl, ne_bl, len_lst, len_tup, len_scr, Int.reduceLT, Int.reduceLE, Nat.reduceLeDiff, x_bind, x_then, x_seq, x_ret, x_op2, x_op1, x_step, x_nilA, x_consA, x_callB, x_testE, x_toB, x_if, x_retS, x_dropS, x_setS, x_skip, x_andT, x_orT, x_notT, x_ifE, x_andE, x_orE, x_notE, x_chain, x_tupE, x_lstE, x_lstC, x_methL, x_for, x_itSeq, x_asSeq, x_asSeqT, x_asSeqS, x_range1, x_range2, x_enum, x_asLst, x_asg, x_isi, x_slice, x_noPart, x_rev, bnd_ok, bnd_err, thn_ok, thn_err, sq_nx, sq_ret, sq_brk, sq_ct, sq_err, bnB_ok, startE, List.map_cons, List.map_nil, List.length_cons, List.length_nil, Nat.reduceAdd, Nat.reduceSub, List.replicate_succ, List.replicate_zero, List.append_nil, List.cons_append, List.nil_append, if_true, if_false, Bool.false_eq_true, x_v0, x_vs, n_int, n_bl, n_str, n_non, n_lst, n_tup, n_scr, List.getElem?_cons_zero, List.getElem?_cons_succ, List.set_cons_zero, List.set_cons_succ, wipeD, Option.map_some, Bool.not_true, Bool.not_false]
theorem mix0 {S : Store} (o : Tb) (i : List Tb) (h : List (Nat × Nat)) : ixG S (mixD o i h) (.int 0) = some (en o, S) := by
  rw [show (0 : Int) = ((0 : Nat) : Int) from rfl, ix_lst (d := en o) rfl, en_norm]
theorem mix1 {S : Store} (o : Tb) (i : List Tb) (h : List (Nat × Nat)) : ixG S (mixD o i h) (.int 1) = some (en i, S) := by
  rw [show (1 : Int) = ((1 : Nat) : Int) from rfl, ix_lst (d := en i) rfl, en_norm]
theorem mix2 {S : Store} (o : Tb) (i : List Tb) (h : List (Nat × Nat)) : ixG S (mixD o i h) (.int 2) = some (en h, S) := by
  rw [show (2 : Int) = ((2 : Nat) : Int) from rfl, ix_lst (d := en h) rfl, en_norm]
theorem ix_row {S : Store} {n : Nat} {t : Tb} (h : Sq n t) {i : Nat} (hi : i < n) : ixG S (en t) (.int (i : Nat)) = some (en (t.getD i []), S) := ix_tb h hi
theorem ix_ent {S : Store} {n : Nat} {t : Tb} (h : Sq n t) {i j : Nat} (hi : i < n) (hj : j < n) : ixG S (en (t.getD i [])) (.int (j : Nat)) = some (.bl (ent t i j), S) := ix_tb2 h hi hj
theorem Mix.fst {n : Nat} {outer : Tb} {inner : List Tb} {homes : List (Nat × Nat)} (M : Mix n outer inner homes) {p : Nat × Nat} (hp : Home inner p) : p.1 < n := by
  have := hp.1; rw [M.part.len] at this; exact this
theorem r_beats {n : Nat} {outer : Tb} {inner : List Tb} {homes : List (Nat × Nat)} (M : Mix n outer inner homes) {p q : Nat × Nat} (hp : Home inner p) (hq : Home inner q) :
    f__law_beats [mixD outer inner homes, En.e p, En.e q] = .ok (.bl (beats outer inner p q)) := by
  refine out_eq ?_
  unfold b__law_beats beats
  obtain ⟨g1, g2, g3⟩ := M.part.get hp.1
  by_cases h : p.1 = q.1
  · have hq2 : q.2 < (inner.getD p.1 []).length := by rw [h]; exact hq.2
    rw [if_pos h]
    refine Cs_if fun G hG => ?_
    simp only [x_partV, bnI_ok, cutD_1, len_en, asSeq_en, asLst_en, lstOf_en, x_callF, x_callFR, liftP_ok, liftR_ok, liftB_bl, liftB_int, callV1, callV2, callV3, callV4, callRV1, callRV2, callRV3, callRV4, p_int, p_bl, p_scr, p_non, p_str, p_lst, p_tup, p_nil, p_cons, p_en, p_ens, Bool.and_self, en_norm, mod_ok, fdiv_lit, mul_lit, add_nat, add_one, lt_int, le_int, gt_int, ge_int, min_int, max_int, neg_int, eq_int, ne_int, eq_bl, ne_bl, len_lst, len_tup, len_scr, Int.reduceLT, Int.reduceLE, Nat.reduceLeDiff, x_bind, x_then, x_seq, x_ret, x_op2, x_op1, x_step, x_nilA, x_consA, x_callB, x_testE, x_toB, x_if, x_retS, x_dropS, x_setS, x_skip, x_andT, x_orT, x_notT, x_ifE, x_andE, x_orE, x_notE, x_chain, x_tupE, x_lstE, x_lstC, x_methL, x_for, x_itSeq, x_asSeq, x_asSeqT, x_asSeqS, x_range1, x_range2, x_enum, x_asLst, x_asg, x_isi, x_slice, x_noPart, x_rev, bnd_ok, bnd_err, thn_ok, thn_err, sq_nx, sq_ret, sq_brk, sq_ct, sq_err, bnB_ok, startE, List.map_cons, List.map_nil, List.length_cons, List.length_nil, Nat.reduceAdd, Nat.reduceSub, List.replicate_succ, List.replicate_zero, List.append_nil, List.cons_append, List.nil_append, if_true, if_false, Bool.false_eq_true, x_v0, x_vs, n_int, n_bl, n_str, n_non, n_lst, n_tup, n_scr, List.getElem?_cons_zero, List.getElem?_cons_succ, List.set_cons_zero, List.set_cons_succ, wipeD, Option.map_some, Bool.not_true, Bool.not_false, P_ok, n_mix, pair_fst, h, decide_true]
    refine hG _ _ ?_
    clear hG G
    try simp only [if_true, if_false, Bool.false_eq_true]
    refine Ce_ret fun G hG => ?_
    simp only [x_partV, bnI_ok, cutD_1, len_en, asSeq_en, asLst_en, lstOf_en, x_callF, x_callFR, liftP_ok, liftR_ok, liftB_bl, liftB_int, callV1, callV2, callV3, callV4, callRV1, callRV2, callRV3, callRV4, p_int, p_bl, p_scr, p_non, p_str, p_lst, p_tup, p_nil, p_cons, p_en, p_ens, Bool.and_self, en_norm, mod_ok, fdiv_lit, mul_lit, add_nat, add_one, lt_int, le_int, gt_int, ge_int, min_int, max_int, neg_int, eq_int, ne_int, eq_bl, ne_bl, len_lst, len_tup, len_scr, Int.reduceLT, Int.reduceLE, Nat.reduceLeDiff, x_bind, x_then, x_seq, x_ret, x_op2, x_op1, x_step, x_nilA, x_consA, x_callB, x_testE, x_toB, x_if, x_retS, x_dropS, x_setS, x_skip, x_andT, x_orT, x_notT, x_ifE, x_andE, x_orE, x_notE, x_chain, x_tupE, x_lstE, x_lstC, x_methL, x_for, x_itSeq, x_asSeq, x_asSeqT, x_asSeqS, x_range1, x_range2, x_enum, x_asLst, x_asg, x_isi, x_slice, x_noPart, x_rev, bnd_ok, bnd_err, thn_ok, thn_err, sq_nx, sq_ret, sq_brk, sq_ct, sq_err, bnB_ok, startE, List.map_cons, List.map_nil, List.length_cons, List.length_nil, Nat.reduceAdd, Nat.reduceSub, List.replicate_succ, List.replicate_zero, List.append_nil, List.cons_append, List.nil_append, if_true, if_false, Bool.false_eq_true, x_v0, x_vs, n_int, n_bl, n_str, n_non, n_lst, n_tup, n_scr, List.getElem?_cons_zero, List.getElem?_cons_succ, List.set_cons_zero, List.set_cons_succ, wipeD, Option.map_some, Bool.not_true, Bool.not_false, P_ok, n_mix, pair_fst, pair_snd, mix1, ix_enl g1, ix_row g2.sq hp.2, ix_ent g2.sq hp.2 hq2]
    refine hG _ _ ?_
    clear hG G
    rfl
  · have h' : ¬ ((p.1 : Nat) : Int) = (q.1 : Nat) := fun e => h (Int.ofNat_inj.mp e)
    rw [if_neg h]
    refine Cs_if fun G hG => ?_
    simp only [x_partV, bnI_ok, cutD_1, len_en, asSeq_en, asLst_en, lstOf_en, x_callF, x_callFR, liftP_ok, liftR_ok, liftB_bl, liftB_int, callV1, callV2, callV3, callV4, callRV1, callRV2, callRV3, callRV4, p_int, p_bl, p_scr, p_non, p_str, p_lst, p_tup, p_nil, p_cons, p_en, p_ens, Bool.and_self, en_norm, mod_ok, fdiv_lit, mul_lit, add_nat, add_one, lt_int, le_int, gt_int, ge_int, min_int, max_int, neg_int, eq_int, ne_int, eq_bl, ne_bl, len_lst, len_tup, len_scr, Int.reduceLT, Int.reduceLE, Nat.reduceLeDiff, x_bind, x_then, x_seq, x_ret, x_op2, x_op1, x_step, x_nilA, x_consA, x_callB, x_testE, x_toB, x_if, x_retS, x_dropS, x_setS, x_skip, x_andT, x_orT, x_notT, x_ifE, x_andE, x_orE, x_notE, x_chain, x_tupE, x_lstE, x_lstC, x_methL, x_for, x_itSeq, x_asSeq, x_asSeqT, x_asSeqS, x_range1, x_range2, x_enum, x_asLst, x_asg, x_isi, x_slice, x_noPart, x_rev, bnd_ok, bnd_err, thn_ok, thn_err, sq_nx, sq_ret, sq_brk, sq_ct, sq_err, bnB_ok, startE, List.map_cons, List.map_nil, List.length_cons, List.length_nil, Nat.reduceAdd, Nat.reduceSub, List.replicate_succ, List.replicate_zero, List.append_nil, List.cons_append, List.nil_append, if_true, if_false, Bool.false_eq_true, x_v0, x_vs, n_int, n_bl, n_str, n_non, n_lst, n_tup, n_scr, List.getElem?_cons_zero, List.getElem?_cons_succ, List.set_cons_zero, List.set_cons_succ, wipeD, Option.map_some, Bool.not_true, Bool.not_false, P_ok, n_mix, pair_fst, h', decide_false]
    refine hG _ _ ?_
    clear hG G
    try simp only [if_true, if_false, Bool.false_eq_true]
    refine W_nx ?_
    refine Ce_ret fun G hG => ?_
    simp only [x_partV, bnI_ok, cutD_1, len_en, asSeq_en, asLst_en, lstOf_en, x_callF, x_callFR, liftP_ok, liftR_ok, liftB_bl, liftB_int, callV1, callV2, callV3, callV4, callRV1, callRV2, callRV3, callRV4, p_int, p_bl, p_scr, p_non, p_str, p_lst, p_tup, p_nil, p_cons, p_en, p_ens, Bool.and_self, en_norm, mod_ok, fdiv_lit, mul_lit, add_nat, add_one, lt_int, le_int, gt_int, ge_int, min_int, max_int, neg_int, eq_int, ne_int, eq_bl, ne_bl, len_lst, len_tup, len_scr, Int.reduceLT, Int.reduceLE, Nat.reduceLeDiff, x_bind, x_then, x_seq, x_ret, x_op2, x_op1, x_step, x_nilA, x_consA, x_callB, x_testE, x_toB, x_if, x_retS, x_dropS, x_setS, x_skip, x_andT, x_orT, x_notT, x_ifE, x_andE, x_orE, x_notE, x_chain, x_tupE, x_lstE, x_lstC, x_methL, x_for, x_itSeq, x_asSeq, x_asSeqT, x_asSeqS, x_range1, x_range2, x_enum, x_asLst, x_asg, x_isi, x_slice, x_noPart, x_rev, bnd_ok, bnd_err, thn_ok, thn_err, sq_nx, sq_ret, sq_brk, sq_ct, sq_err, bnB_ok, startE, List.map_cons, List.map_nil, List.length_cons, List.length_nil, Nat.reduceAdd, Nat.reduceSub, List.replicate_succ, List.replicate_zero, List.append_nil, List.cons_append, List.nil_append, if_true, if_false, Bool.false_eq_true, x_v0, x_vs, n_int, n_bl, n_str, n_non, n_lst, n_tup, n_scr, List.getElem?_cons_zero, List.getElem?_cons_succ, List.set_cons_zero, List.set_cons_succ, wipeD, Option.map_some, Bool.not_true, Bool.not_false, P_ok, n_mix, pair_fst, pair_snd, mix0, ix_row M.out.sq (M.fst hp), ix_ent M.out.sq (M.fst hp) (M.fst hq)]
    refine hG _ _ ?_
    clear hG G
    rfl
/-- the table of all things -/
def tab (outer : Tb) (inner : List Tb) (homes : List (Nat × Nat)) : Tb := homes.map fun p => homes.map (beats outer inner p)
theorem Mix.home {n : Nat} {outer : Tb} {inner : List Tb} {homes : List (Nat × Nat)} (M : Mix n outer inner homes) {p : Nat × Nat} (hp : p ∈ homes) : Home inner p := (M.part.mem p).mp hp
theorem Mix.few {n : Nat} {outer : Tb} {inner : List Tb} {homes : List (Nat × Nat)} (M : Mix n outer inner homes) : homes.length ≤ 8 := by
  have := M.part.le; omega
theorem r_row {n : Nat} {outer : Tb} {inner : List Tb} {homes : List (Nat × Nat)} (M : Mix n outer inner homes) {p : Nat × Nat} (hp : Home inner p) {hs : List (Nat × Nat)} (hh : ∀ q ∈ hs, Home inner q) (hl : hs.length ≤ 100000)
    {it : Sem (List D)} {r : Aw.Env} {S : Store} (hi : it r S = .ok (hs.map En.e) S) (k : Nat) (e1 e2 e3 : Sem D)
    (he : ∀ q ∈ hs, e1 ((wipeD r [k]).set k (some (En.e q))) S = .ok (mixD outer inner homes) S ∧ e2 ((wipeD r [k]).set k (some (En.e q))) S = .ok (En.e p) S ∧ e3 ((wipeD r [k]).set k (some (En.e q))) S = .ok (En.e q) S) :
    lcE it (.one k) [k] yesT (callF 3 f__law_beats (consA e1 (consA e2 (consA e3 nilA)))) r S = .ok (En.e (hs.map (beats outer inner p))) S := by
  rw [lc_all En.e (fun q => D.bl (beats outer inner p q)) hi hl fun q hq => ⟨_, rfl, by
    obtain ⟨h1, h2, h3⟩ := he q hq
    simp only [wipeD] at h1 h2 h3
    simp only [x_partV, bnI_ok, cutD_1, len_en, asSeq_en, asLst_en, lstOf_en, x_callF, x_callFR, liftP_ok, liftR_ok, liftB_bl, liftB_int, callV1, callV2, callV3, callV4, callRV1, callRV2, callRV3, callRV4, p_int, p_bl, p_scr, p_non, p_str, p_lst, p_tup, p_nil, p_cons, p_en, p_ens, Bool.and_self, en_norm, mod_ok, fdiv_lit, mul_lit, add_nat, add_one, lt_int, le_int, gt_int, ge_int, min_int, max_int, neg_int, eq_int, ne_int, eq_bl, ne_bl, len_lst, len_tup, len_scr, Int.reduceLT, Int.reduceLE, Nat.reduceLeDiff, x_bind, x_then, x_seq, x_ret, x_op2, x_op1, x_step, x_nilA, x_consA, x_callB, x_testE, x_toB, x_if, x_retS, x_dropS, x_setS, x_skip, x_andT, x_orT, x_notT, x_ifE, x_andE, x_orE, x_notE, x_chain, x_tupE, x_lstE, x_lstC, x_methL, x_for, x_itSeq, x_asSeq, x_asSeqT, x_asSeqS, x_range1, x_range2, x_enum, x_asLst, x_asg, x_isi, x_slice, x_noPart, x_rev, bnd_ok, bnd_err, thn_ok, thn_err, sq_nx, sq_ret, sq_brk, sq_ct, sq_err, bnB_ok, startE, List.map_cons, List.map_nil, List.length_cons, List.length_nil, Nat.reduceAdd, Nat.reduceSub, List.replicate_succ, List.replicate_zero, List.append_nil, List.cons_append, List.nil_append, if_true, if_false, Bool.false_eq_true, x_v0, x_vs, n_int, n_bl, n_str, n_non, n_lst, n_tup, n_scr, List.getElem?_cons_zero, List.getElem?_cons_succ, List.set_cons_zero, List.set_cons_succ, wipeD, Option.map_some, Bool.not_true, Bool.not_false, h1, h2, h3, p_mix, r_beats M hp (hh q hq)]⟩]
  rw [en_list, List.map_map]; rfl
theorem r_table {n : Nat} {outer : Tb} {inner : List Tb} {homes : List (Nat × Nat)} (M : Mix n outer inner homes) : f__law_table [mixD outer inner homes] = .ok (En.e (tab outer inner homes)) := by
  refine out_eq ?_
  unfold b__law_table
  simp only [startE, List.map_cons, List.map_nil, List.length_cons, List.length_nil, Nat.reduceAdd, Nat.reduceSub, List.replicate_succ, List.replicate_zero, List.append_nil, List.cons_append, List.nil_append]
  have hl : homes.length ≤ 100000 := by have := M.few; omega
  refine Cs_set fun G hG => ?_
  simp only [x_partV, bnI_ok, cutD_1, len_en, asSeq_en, asLst_en, lstOf_en, x_callF, x_callFR, liftP_ok, liftR_ok, liftB_bl, liftB_int, callV1, callV2, callV3, callV4, callRV1, callRV2, callRV3, callRV4, p_int, p_bl, p_scr, p_non, p_str, p_lst, p_tup, p_nil, p_cons, p_en, p_ens, Bool.and_self, en_norm, mod_ok, fdiv_lit, mul_lit, add_nat, add_one, lt_int, le_int, gt_int, ge_int, min_int, max_int, neg_int, eq_int, ne_int, eq_bl, ne_bl, len_lst, len_tup, len_scr, Int.reduceLT, Int.reduceLE, Nat.reduceLeDiff, x_bind, x_then, x_seq, x_ret, x_op2, x_op1, x_step, x_nilA, x_consA, x_callB, x_testE, x_toB, x_if, x_retS, x_dropS, x_setS, x_skip, x_andT, x_orT, x_notT, x_ifE, x_andE, x_orE, x_notE, x_chain, x_tupE, x_lstE, x_lstC, x_methL, x_for, x_itSeq, x_asSeq, x_asSeqT, x_asSeqS, x_range1, x_range2, x_enum, x_asLst, x_asg, x_isi, x_slice, x_noPart, x_rev, bnd_ok, bnd_err, thn_ok, thn_err, sq_nx, sq_ret, sq_brk, sq_ct, sq_err, bnB_ok, startE, List.map_cons, List.map_nil, List.length_cons, List.length_nil, Nat.reduceAdd, Nat.reduceSub, List.replicate_succ, List.replicate_zero, List.append_nil, List.cons_append, List.nil_append, if_true, if_false, Bool.false_eq_true, x_v0, x_vs, n_int, n_bl, n_str, n_non, n_lst, n_tup, n_scr, List.getElem?_cons_zero, List.getElem?_cons_succ, List.set_cons_zero, List.set_cons_succ, wipeD, Option.map_some, Bool.not_true, Bool.not_false, P_ok]
  refine hG _ _ ?_
  clear hG G
  simp only [List.set_cons_zero, List.set_cons_succ]
  refine Cs_for fun G hG => ?_
  simp only [x_partV, bnI_ok, cutD_1, len_en, asSeq_en, asLst_en, lstOf_en, x_callF, x_callFR, liftP_ok, liftR_ok, liftB_bl, liftB_int, callV1, callV2, callV3, callV4, callRV1, callRV2, callRV3, callRV4, p_int, p_bl, p_scr, p_non, p_str, p_lst, p_tup, p_nil, p_cons, p_en, p_ens, Bool.and_self, en_norm, mod_ok, fdiv_lit, mul_lit, add_nat, add_one, lt_int, le_int, gt_int, ge_int, min_int, max_int, neg_int, eq_int, ne_int, eq_bl, ne_bl, len_lst, len_tup, len_scr, Int.reduceLT, Int.reduceLE, Nat.reduceLeDiff, x_bind, x_then, x_seq, x_ret, x_op2, x_op1, x_step, x_nilA, x_consA, x_callB, x_testE, x_toB, x_if, x_retS, x_dropS, x_setS, x_skip, x_andT, x_orT, x_notT, x_ifE, x_andE, x_orE, x_notE, x_chain, x_tupE, x_lstE, x_lstC, x_methL, x_for, x_itSeq, x_asSeq, x_asSeqT, x_asSeqS, x_range1, x_range2, x_enum, x_asLst, x_asg, x_isi, x_slice, x_noPart, x_rev, bnd_ok, bnd_err, thn_ok, thn_err, sq_nx, sq_ret, sq_brk, sq_ct, sq_err, bnB_ok, startE, List.map_cons, List.map_nil, List.length_cons, List.length_nil, Nat.reduceAdd, Nat.reduceSub, List.replicate_succ, List.replicate_zero, List.append_nil, List.cons_append, List.nil_append, if_true, if_false, Bool.false_eq_true, x_v0, x_vs, n_int, n_bl, n_str, n_non, n_lst, n_tup, n_scr, List.getElem?_cons_zero, List.getElem?_cons_succ, List.set_cons_zero, List.set_cons_succ, wipeD, Option.map_some, Bool.not_true, Bool.not_false, P_ok, n_mix, mix2]
  refine hG _ _ ?_
  clear hG G
  refine W_for (fun i r S => ∃ o3, r = [some (mixD outer inner homes), some (.loc 0), o3, none] ∧ S = [.lst ((homes.take i).map fun p => En.e (homes.map (beats outer inner p)))]) ⟨none, rfl, rfl⟩ ?_ ?_
  · rintro i d r S hd ⟨o3, rfl, rfl⟩
    rw [List.getElem?_map] at hd
    cases hp : homes[i]? with
    | none => rw [hp] at hd; cases hd
    | some p =>
      rw [hp] at hd; cases hd
      have hm := M.home (List.mem_of_getElem? hp)
      refine ⟨_, rfl, ?_⟩
      have l0 : ∀ (a : List D), norm [Cell.lst a] (.loc 0) = .loc 0 := fun _ => rfl
      have a2 : ∀ (a : List D), lstOf [Cell.lst a] (.loc 0) = some a := fun _ => rfl
      have hrow : lcE (itSeq (op2 ixG (vE 0) (retO (.int 2)))) (.one 3) [3] yesT (callF 3 f__law_beats (consA (vE 0) (consA (vE 2) (consA (vE 3) nilA)))) [some (mixD outer inner homes), some (.loc 0), some (En.e p), none] [.lst ((homes.take i).map fun p => En.e (homes.map (beats outer inner p)))] = .ok (En.e (homes.map (beats outer inner p))) [.lst ((homes.take i).map fun p => En.e (homes.map (beats outer inner p)))] := by
        refine r_row M hm (fun q hq => M.home hq) hl ?_ 3 _ _ _ fun q hq => ?_
        · simp only [x_partV, bnI_ok, cutD_1, len_en, asSeq_en, asLst_en, lstOf_en, x_callF, x_callFR, liftP_ok, liftR_ok, liftB_bl, liftB_int, callV1, callV2, callV3, callV4, callRV1, callRV2, callRV3, callRV4, p_int, p_bl, p_scr, p_non, p_str, p_lst, p_tup, p_nil, p_cons, p_en, p_ens, Bool.and_self, en_norm, mod_ok, fdiv_lit, mul_lit, add_nat, add_one, lt_int, le_int, gt_int, ge_int, min_int, max_int, neg_int, eq_int, ne_int, eq_bl, ne_bl, len_lst, len_tup, len_scr, Int.reduceLT, Int.reduceLE, Nat.reduceLeDiff, x_bind, x_then, x_seq, x_ret, x_op2, x_op1, x_step, x_nilA, x_consA, x_callB, x_testE, x_toB, x_if, x_retS, x_dropS, x_setS, x_skip, x_andT, x_orT, x_notT, x_ifE, x_andE, x_orE, x_notE, x_chain, x_tupE, x_lstE, x_lstC, x_methL, x_for, x_itSeq, x_asSeq, x_asSeqT, x_asSeqS, x_range1, x_range2, x_enum, x_asLst, x_asg, x_isi, x_slice, x_noPart, x_rev, bnd_ok, bnd_err, thn_ok, thn_err, sq_nx, sq_ret, sq_brk, sq_ct, sq_err, bnB_ok, startE, List.map_cons, List.map_nil, List.length_cons, List.length_nil, Nat.reduceAdd, Nat.reduceSub, List.replicate_succ, List.replicate_zero, List.append_nil, List.cons_append, List.nil_append, if_true, if_false, Bool.false_eq_true, x_v0, x_vs, n_int, n_bl, n_str, n_non, n_lst, n_tup, n_scr, List.getElem?_cons_zero, List.getElem?_cons_succ, List.set_cons_zero, List.set_cons_succ, wipeD, Option.map_some, Bool.not_true, Bool.not_false, n_mix, mix2]
        · simp only [x_partV, bnI_ok, cutD_1, len_en, asSeq_en, asLst_en, lstOf_en, x_callF, x_callFR, liftP_ok, liftR_ok, liftB_bl, liftB_int, callV1, callV2, callV3, callV4, callRV1, callRV2, callRV3, callRV4, p_int, p_bl, p_scr, p_non, p_str, p_lst, p_tup, p_nil, p_cons, p_en, p_ens, Bool.and_self, en_norm, mod_ok, fdiv_lit, mul_lit, add_nat, add_one, lt_int, le_int, gt_int, ge_int, min_int, max_int, neg_int, eq_int, ne_int, eq_bl, ne_bl, len_lst, len_tup, len_scr, Int.reduceLT, Int.reduceLE, Nat.reduceLeDiff, x_bind, x_then, x_seq, x_ret, x_op2, x_op1, x_step, x_nilA, x_consA, x_callB, x_testE, x_toB, x_if, x_retS, x_dropS, x_setS, x_skip, x_andT, x_orT, x_notT, x_ifE, x_andE, x_orE, x_notE, x_chain, x_tupE, x_lstE, x_lstC, x_methL, x_for, x_itSeq, x_asSeq, x_asSeqT, x_asSeqS, x_range1, x_range2, x_enum, x_asLst, x_asg, x_isi, x_slice, x_noPart, x_rev, bnd_ok, bnd_err, thn_ok, thn_err, sq_nx, sq_ret, sq_brk, sq_ct, sq_err, bnB_ok, startE, List.map_cons, List.map_nil, List.length_cons, List.length_nil, Nat.reduceAdd, Nat.reduceSub, List.replicate_succ, List.replicate_zero, List.append_nil, List.cons_append, List.nil_append, if_true, if_false, Bool.false_eq_true, x_v0, x_vs, n_int, n_bl, n_str, n_non, n_lst, n_tup, n_scr, List.getElem?_cons_zero, List.getElem?_cons_succ, List.set_cons_zero, List.set_cons_succ, wipeD, Option.map_some, Bool.not_true, Bool.not_false, n_mix, and_self]
      have a1 := app_cell (S := [Cell.lst ((homes.take i).map fun p => En.e (homes.map (beats outer inner p)))]) (n := 0) (d := En.e (homes.map (beats outer inner p))) rfl (by rw [List.length_map, List.length_take]; have := M.few; omega)
      refine Ce_drop fun G hG => ?_
      simp only [x_partV, bnI_ok, cutD_1, len_en, asSeq_en, asLst_en, lstOf_en, x_callF, x_callFR, liftP_ok, liftR_ok, liftB_bl, liftB_int, callV1, callV2, callV3, callV4, callRV1, callRV2, callRV3, callRV4, p_int, p_bl, p_scr, p_non, p_str, p_lst, p_tup, p_nil, p_cons, p_en, p_ens, Bool.and_self, en_norm, mod_ok, fdiv_lit, mul_lit, add_nat, add_one, lt_int, le_int, gt_int, ge_int, min_int, max_int, neg_int, eq_int, ne_int, eq_bl, ne_bl, len_lst, len_tup, len_scr, Int.reduceLT, Int.reduceLE, Nat.reduceLeDiff, x_bind, x_then, x_seq, x_ret, x_op2, x_op1, x_step, x_nilA, x_consA, x_callB, x_testE, x_toB, x_if, x_retS, x_dropS, x_setS, x_skip, x_andT, x_orT, x_notT, x_ifE, x_andE, x_orE, x_notE, x_chain, x_tupE, x_lstE, x_lstC, x_methL, x_for, x_itSeq, x_asSeq, x_asSeqT, x_asSeqS, x_range1, x_range2, x_enum, x_asLst, x_asg, x_isi, x_slice, x_noPart, x_rev, bnd_ok, bnd_err, thn_ok, thn_err, sq_nx, sq_ret, sq_brk, sq_ct, sq_err, bnB_ok, startE, List.map_cons, List.map_nil, List.length_cons, List.length_nil, Nat.reduceAdd, Nat.reduceSub, List.replicate_succ, List.replicate_zero, List.append_nil, List.cons_append, List.nil_append, if_true, if_false, Bool.false_eq_true, x_v0, x_vs, n_int, n_bl, n_str, n_non, n_lst, n_tup, n_scr, List.getElem?_cons_zero, List.getElem?_cons_succ, List.set_cons_zero, List.set_cons_succ, wipeD, Option.map_some, Bool.not_true, Bool.not_false, P_ok, l0, a2, Option.isSome_some, hrow, a1]
      refine hG _ _ ?_
      clear hG G
      refine ⟨_, rfl, ?_⟩
      have ht : homes.take (i + 1) = homes.take i ++ [p] := by
        rw [List.take_add_one, hp]; rfl
      rw [ht, List.map_append]; rfl
  · rintro r S ⟨o3, rfl, rfl⟩
    rw [List.length_map, List.take_length]
    have l0 : ∀ (a : List D), norm [Cell.lst a] (.loc 0) = .loc 0 := fun _ => rfl
    refine Ce_ret fun G hG => ?_
    simp only [x_partV, bnI_ok, cutD_1, len_en, asSeq_en, asLst_en, lstOf_en, x_callF, x_callFR, liftP_ok, liftR_ok, liftB_bl, liftB_int, callV1, callV2, callV3, callV4, callRV1, callRV2, callRV3, callRV4, p_int, p_bl, p_scr, p_non, p_str, p_lst, p_tup, p_nil, p_cons, p_en, p_ens, Bool.and_self, en_norm, mod_ok, fdiv_lit, mul_lit, add_nat, add_one, lt_int, le_int, gt_int, ge_int, min_int, max_int, neg_int, eq_int, ne_int, eq_bl, ne_bl, len_lst, len_tup, len_scr, Int.reduceLT, Int.reduceLE, Nat.reduceLeDiff, x_bind, x_then, x_seq, x_ret, x_op2, x_op1, x_step, x_nilA, x_consA, x_callB, x_testE, x_toB, x_if, x_retS, x_dropS, x_setS, x_skip, x_andT, x_orT, x_notT, x_ifE, x_andE, x_orE, x_notE, x_chain, x_tupE, x_lstE, x_lstC, x_methL, x_for, x_itSeq, x_asSeq, x_asSeqT, x_asSeqS, x_range1, x_range2, x_enum, x_asLst, x_asg, x_isi, x_slice, x_noPart, x_rev, bnd_ok, bnd_err, thn_ok, thn_err, sq_nx, sq_ret, sq_brk, sq_ct, sq_err, bnB_ok, startE, List.map_cons, List.map_nil, List.length_cons, List.length_nil, Nat.reduceAdd, Nat.reduceSub, List.replicate_succ, List.replicate_zero, List.append_nil, List.cons_append, List.nil_append, if_true, if_false, Bool.false_eq_true, x_v0, x_vs, n_int, n_bl, n_str, n_non, n_lst, n_tup, n_scr, List.getElem?_cons_zero, List.getElem?_cons_succ, List.set_cons_zero, List.set_cons_succ, wipeD, Option.map_some, Bool.not_true, Bool.not_false, P_ok, l0]
    refine hG _ _ ?_
    clear hG G
    rw [resA_lst rfl (pureL_map _ (fun p => En.pu _) _)]
    show some (D.lst _) = some (D.lst _)
    rw [tab, List.map_map]; rfl
/-- the things of the k-th table -/
def piece (homes : List (Nat × Nat)) (k : Nat) : List Nat := (List.range homes.length).filter fun i => decide ((homes.getD i (0, 0)).1 = k)
def pieces (n : Nat) (homes : List (Nat × Nat)) : List (List Nat) := (List.range n).map (piece homes)
theorem r_pieces {n : Nat} {outer : Tb} {inner : List Tb} {homes : List (Nat × Nat)} (M : Mix n outer inner homes) : f__law_pieces [mixD outer inner homes] = .ok (En.e (pieces n homes)) := by
  refine out_eq ?_
  unfold b__law_pieces
  simp only [startE, List.map_cons, List.map_nil, List.length_cons, List.length_nil, Nat.reduceAdd, Nat.reduceSub, List.replicate_succ, List.replicate_zero, List.append_nil, List.cons_append, List.nil_append]
  have n62 : n < 2 ^ 62 := Nat.lt_of_le_of_lt M.n8 (by decide)
  have h62 : homes.length < 2 ^ 62 := Nat.lt_of_le_of_lt M.few (by decide)
  refine Cs_set fun G hG => ?_
  simp only [x_partV, bnI_ok, cutD_1, len_en, asSeq_en, asLst_en, lstOf_en, x_callF, x_callFR, liftP_ok, liftR_ok, liftB_bl, liftB_int, callV1, callV2, callV3, callV4, callRV1, callRV2, callRV3, callRV4, p_int, p_bl, p_scr, p_non, p_str, p_lst, p_tup, p_nil, p_cons, p_en, p_ens, Bool.and_self, en_norm, mod_ok, fdiv_lit, mul_lit, add_nat, add_one, lt_int, le_int, gt_int, ge_int, min_int, max_int, neg_int, eq_int, ne_int, eq_bl, ne_bl, len_lst, len_tup, len_scr, Int.reduceLT, Int.reduceLE, Nat.reduceLeDiff, x_bind, x_then, x_seq, x_ret, x_op2, x_op1, x_step, x_nilA, x_consA, x_callB, x_testE, x_toB, x_if, x_retS, x_dropS, x_setS, x_skip, x_andT, x_orT, x_notT, x_ifE, x_andE, x_orE, x_notE, x_chain, x_tupE, x_lstE, x_lstC, x_methL, x_for, x_itSeq, x_asSeq, x_asSeqT, x_asSeqS, x_range1, x_range2, x_enum, x_asLst, x_asg, x_isi, x_slice, x_noPart, x_rev, bnd_ok, bnd_err, thn_ok, thn_err, sq_nx, sq_ret, sq_brk, sq_ct, sq_err, bnB_ok, startE, List.map_cons, List.map_nil, List.length_cons, List.length_nil, Nat.reduceAdd, Nat.reduceSub, List.replicate_succ, List.replicate_zero, List.append_nil, List.cons_append, List.nil_append, if_true, if_false, Bool.false_eq_true, x_v0, x_vs, n_int, n_bl, n_str, n_non, n_lst, n_tup, n_scr, List.getElem?_cons_zero, List.getElem?_cons_succ, List.set_cons_zero, List.set_cons_succ, wipeD, Option.map_some, Bool.not_true, Bool.not_false, P_ok]
  refine hG _ _ ?_
  clear hG G
  simp only [List.set_cons_zero, List.set_cons_succ]
  refine Cs_for fun G hG => ?_
  simp only [x_partV, bnI_ok, cutD_1, len_en, asSeq_en, asLst_en, lstOf_en, x_callF, x_callFR, liftP_ok, liftR_ok, liftB_bl, liftB_int, callV1, callV2, callV3, callV4, callRV1, callRV2, callRV3, callRV4, p_int, p_bl, p_scr, p_non, p_str, p_lst, p_tup, p_nil, p_cons, p_en, p_ens, Bool.and_self, en_norm, mod_ok, fdiv_lit, mul_lit, add_nat, add_one, lt_int, le_int, gt_int, ge_int, min_int, max_int, neg_int, eq_int, ne_int, eq_bl, ne_bl, len_lst, len_tup, len_scr, Int.reduceLT, Int.reduceLE, Nat.reduceLeDiff, x_bind, x_then, x_seq, x_ret, x_op2, x_op1, x_step, x_nilA, x_consA, x_callB, x_testE, x_toB, x_if, x_retS, x_dropS, x_setS, x_skip, x_andT, x_orT, x_notT, x_ifE, x_andE, x_orE, x_notE, x_chain, x_tupE, x_lstE, x_lstC, x_methL, x_for, x_itSeq, x_asSeq, x_asSeqT, x_asSeqS, x_range1, x_range2, x_enum, x_asLst, x_asg, x_isi, x_slice, x_noPart, x_rev, bnd_ok, bnd_err, thn_ok, thn_err, sq_nx, sq_ret, sq_brk, sq_ct, sq_err, bnB_ok, startE, List.map_cons, List.map_nil, List.length_cons, List.length_nil, Nat.reduceAdd, Nat.reduceSub, List.replicate_succ, List.replicate_zero, List.append_nil, List.cons_append, List.nil_append, if_true, if_false, Bool.false_eq_true, x_v0, x_vs, n_int, n_bl, n_str, n_non, n_lst, n_tup, n_scr, List.getElem?_cons_zero, List.getElem?_cons_succ, List.set_cons_zero, List.set_cons_succ, wipeD, Option.map_some, Bool.not_true, Bool.not_false, P_ok, n_mix, mix0, M.out.sq.len, x_rangeI1 n62]
  refine hG _ _ ?_
  clear hG G
  refine W_for (fun i r S => ∃ o2, r = [some (mixD outer inner homes), some (.loc 0), o2, none] ∧ S = [.lst (((List.range i).map (piece homes)).map En.e)]) ⟨none, rfl, rfl⟩ ?_ ?_
  · rintro i d r S hd ⟨o2, rfl, rfl⟩
    obtain ⟨hin, rfl⟩ := upto_at hd
    refine ⟨_, rfl, ?_⟩
    have l0 : ∀ (a : List D), norm [Cell.lst a] (.loc 0) = .loc 0 := fun _ => rfl
    have a2 : ∀ (a : List D), lstOf [Cell.lst a] (.loc 0) = some a := fun _ => rfl
    have hrow : lcE (itRange1 (consA (callB lenG (consA (op2 ixG (vE 0) (retO (.int 2))) nilA)) nilA)) (.one 3) [3] (testE (op2 eqG (op2 ixG (op2 ixG (op2 ixG (vE 0) (retO (.int 2))) (vE 3)) (retO (.int 0))) (vE 2))) (vE 3) [some (mixD outer inner homes), some (.loc 0), some (.int (i : Nat)), none] [.lst (((List.range i).map (piece homes)).map En.e)] = .ok (En.e (piece homes i)) [.lst (((List.range i).map (piece homes)).map En.e)] := by
      rw [lc_map (fun j : Nat => D.int (j : Nat)) (fun j : Nat => D.int (j : Nat)) (fun j => decide ((homes.getD j (0, 0)).1 = i)) (xs := List.range homes.length) (by simp only [x_partV, bnI_ok, cutD_1, len_en, asSeq_en, asLst_en, lstOf_en, x_callF, x_callFR, liftP_ok, liftR_ok, liftB_bl, liftB_int, callV1, callV2, callV3, callV4, callRV1, callRV2, callRV3, callRV4, p_int, p_bl, p_scr, p_non, p_str, p_lst, p_tup, p_nil, p_cons, p_en, p_ens, Bool.and_self, en_norm, mod_ok, fdiv_lit, mul_lit, add_nat, add_one, lt_int, le_int, gt_int, ge_int, min_int, max_int, neg_int, eq_int, ne_int, eq_bl, ne_bl, len_lst, len_tup, len_scr, Int.reduceLT, Int.reduceLE, Nat.reduceLeDiff, x_bind, x_then, x_seq, x_ret, x_op2, x_op1, x_step, x_nilA, x_consA, x_callB, x_testE, x_toB, x_if, x_retS, x_dropS, x_setS, x_skip, x_andT, x_orT, x_notT, x_ifE, x_andE, x_orE, x_notE, x_chain, x_tupE, x_lstE, x_lstC, x_methL, x_for, x_itSeq, x_asSeq, x_asSeqT, x_asSeqS, x_range1, x_range2, x_enum, x_asLst, x_asg, x_isi, x_slice, x_noPart, x_rev, bnd_ok, bnd_err, thn_ok, thn_err, sq_nx, sq_ret, sq_brk, sq_ct, sq_err, bnB_ok, startE, List.map_cons, List.map_nil, List.length_cons, List.length_nil, Nat.reduceAdd, Nat.reduceSub, List.replicate_succ, List.replicate_zero, List.append_nil, List.cons_append, List.nil_append, if_true, if_false, Bool.false_eq_true, x_v0, x_vs, n_int, n_bl, n_str, n_non, n_lst, n_tup, n_scr, List.getElem?_cons_zero, List.getElem?_cons_succ, List.set_cons_zero, List.set_cons_succ, wipeD, Option.map_some, Bool.not_true, Bool.not_false, n_mix, mix2, x_rangeI1 h62]; rfl) (by rw [List.length_range]; have := M.few; omega) fun j hj => ⟨_, rfl, ?_, fun _ => ?_⟩]
      · rfl
      · have hjl := List.mem_range.mp hj
        have hg : homes[j]? = some (homes.getD j (0, 0)) := by
          rw [List.getD_eq_getElem?_getD, List.getElem?_eq_getElem hjl]; rfl
        simp only [x_partV, bnI_ok, cutD_1, len_en, asSeq_en, asLst_en, lstOf_en, x_callF, x_callFR, liftP_ok, liftR_ok, liftB_bl, liftB_int, callV1, callV2, callV3, callV4, callRV1, callRV2, callRV3, callRV4, p_int, p_bl, p_scr, p_non, p_str, p_lst, p_tup, p_nil, p_cons, p_en, p_ens, Bool.and_self, en_norm, mod_ok, fdiv_lit, mul_lit, add_nat, add_one, lt_int, le_int, gt_int, ge_int, min_int, max_int, neg_int, eq_int, ne_int, eq_bl, ne_bl, len_lst, len_tup, len_scr, Int.reduceLT, Int.reduceLE, Nat.reduceLeDiff, x_bind, x_then, x_seq, x_ret, x_op2, x_op1, x_step, x_nilA, x_consA, x_callB, x_testE, x_toB, x_if, x_retS, x_dropS, x_setS, x_skip, x_andT, x_orT, x_notT, x_ifE, x_andE, x_orE, x_notE, x_chain, x_tupE, x_lstE, x_lstC, x_methL, x_for, x_itSeq, x_asSeq, x_asSeqT, x_asSeqS, x_range1, x_range2, x_enum, x_asLst, x_asg, x_isi, x_slice, x_noPart, x_rev, bnd_ok, bnd_err, thn_ok, thn_err, sq_nx, sq_ret, sq_brk, sq_ct, sq_err, bnB_ok, startE, List.map_cons, List.map_nil, List.length_cons, List.length_nil, Nat.reduceAdd, Nat.reduceSub, List.replicate_succ, List.replicate_zero, List.append_nil, List.cons_append, List.nil_append, if_true, if_false, Bool.false_eq_true, x_v0, x_vs, n_int, n_bl, n_str, n_non, n_lst, n_tup, n_scr, List.getElem?_cons_zero, List.getElem?_cons_succ, List.set_cons_zero, List.set_cons_succ, wipeD, Option.map_some, Bool.not_true, Bool.not_false, n_mix, mix2, ix_enl hg, pair_fst, Int.ofNat_inj]
      · simp only [x_partV, bnI_ok, cutD_1, len_en, asSeq_en, asLst_en, lstOf_en, x_callF, x_callFR, liftP_ok, liftR_ok, liftB_bl, liftB_int, callV1, callV2, callV3, callV4, callRV1, callRV2, callRV3, callRV4, p_int, p_bl, p_scr, p_non, p_str, p_lst, p_tup, p_nil, p_cons, p_en, p_ens, Bool.and_self, en_norm, mod_ok, fdiv_lit, mul_lit, add_nat, add_one, lt_int, le_int, gt_int, ge_int, min_int, max_int, neg_int, eq_int, ne_int, eq_bl, ne_bl, len_lst, len_tup, len_scr, Int.reduceLT, Int.reduceLE, Nat.reduceLeDiff, x_bind, x_then, x_seq, x_ret, x_op2, x_op1, x_step, x_nilA, x_consA, x_callB, x_testE, x_toB, x_if, x_retS, x_dropS, x_setS, x_skip, x_andT, x_orT, x_notT, x_ifE, x_andE, x_orE, x_notE, x_chain, x_tupE, x_lstE, x_lstC, x_methL, x_for, x_itSeq, x_asSeq, x_asSeqT, x_asSeqS, x_range1, x_range2, x_enum, x_asLst, x_asg, x_isi, x_slice, x_noPart, x_rev, bnd_ok, bnd_err, thn_ok, thn_err, sq_nx, sq_ret, sq_brk, sq_ct, sq_err, bnB_ok, startE, List.map_cons, List.map_nil, List.length_cons, List.length_nil, Nat.reduceAdd, Nat.reduceSub, List.replicate_succ, List.replicate_zero, List.append_nil, List.cons_append, List.nil_append, if_true, if_false, Bool.false_eq_true, x_v0, x_vs, n_int, n_bl, n_str, n_non, n_lst, n_tup, n_scr, List.getElem?_cons_zero, List.getElem?_cons_succ, List.set_cons_zero, List.set_cons_succ, wipeD, Option.map_some, Bool.not_true, Bool.not_false]
    have a1 := app_cell (S := [Cell.lst (((List.range i).map (piece homes)).map En.e)]) (n := 0) (d := En.e (piece homes i)) rfl (by rw [List.length_map, List.length_map, List.length_range]; have := M.n8; omega)
    refine Ce_drop fun G hG => ?_
    simp only [x_partV, bnI_ok, cutD_1, len_en, asSeq_en, asLst_en, lstOf_en, x_callF, x_callFR, liftP_ok, liftR_ok, liftB_bl, liftB_int, callV1, callV2, callV3, callV4, callRV1, callRV2, callRV3, callRV4, p_int, p_bl, p_scr, p_non, p_str, p_lst, p_tup, p_nil, p_cons, p_en, p_ens, Bool.and_self, en_norm, mod_ok, fdiv_lit, mul_lit, add_nat, add_one, lt_int, le_int, gt_int, ge_int, min_int, max_int, neg_int, eq_int, ne_int, eq_bl, ne_bl, len_lst, len_tup, len_scr, Int.reduceLT, Int.reduceLE, Nat.reduceLeDiff, x_bind, x_then, x_seq, x_ret, x_op2, x_op1, x_step, x_nilA, x_consA, x_callB, x_testE, x_toB, x_if, x_retS, x_dropS, x_setS, x_skip, x_andT, x_orT, x_notT, x_ifE, x_andE, x_orE, x_notE, x_chain, x_tupE, x_lstE, x_lstC, x_methL, x_for, x_itSeq, x_asSeq, x_asSeqT, x_asSeqS, x_range1, x_range2, x_enum, x_asLst, x_asg, x_isi, x_slice, x_noPart, x_rev, bnd_ok, bnd_err, thn_ok, thn_err, sq_nx, sq_ret, sq_brk, sq_ct, sq_err, bnB_ok, startE, List.map_cons, List.map_nil, List.length_cons, List.length_nil, Nat.reduceAdd, Nat.reduceSub, List.replicate_succ, List.replicate_zero, List.append_nil, List.cons_append, List.nil_append, if_true, if_false, Bool.false_eq_true, x_v0, x_vs, n_int, n_bl, n_str, n_non, n_lst, n_tup, n_scr, List.getElem?_cons_zero, List.getElem?_cons_succ, List.set_cons_zero, List.set_cons_succ, wipeD, Option.map_some, Bool.not_true, Bool.not_false, P_ok, l0, a2, Option.isSome_some, hrow, a1]
    refine hG _ _ ?_
    clear hG G
    refine ⟨_, rfl, ?_⟩
    rw [List.range_succ, List.map_append, List.map_append]; rfl
  · rintro r S ⟨o2, rfl, rfl⟩
    rw [upto_len]
    have l0 : ∀ (a : List D), norm [Cell.lst a] (.loc 0) = .loc 0 := fun _ => rfl
    refine Ce_ret fun G hG => ?_
    simp only [x_partV, bnI_ok, cutD_1, len_en, asSeq_en, asLst_en, lstOf_en, x_callF, x_callFR, liftP_ok, liftR_ok, liftB_bl, liftB_int, callV1, callV2, callV3, callV4, callRV1, callRV2, callRV3, callRV4, p_int, p_bl, p_scr, p_non, p_str, p_lst, p_tup, p_nil, p_cons, p_en, p_ens, Bool.and_self, en_norm, mod_ok, fdiv_lit, mul_lit, add_nat, add_one, lt_int, le_int, gt_int, ge_int, min_int, max_int, neg_int, eq_int, ne_int, eq_bl, ne_bl, len_lst, len_tup, len_scr, Int.reduceLT, Int.reduceLE, Nat.reduceLeDiff, x_bind, x_then, x_seq, x_ret, x_op2, x_op1, x_step, x_nilA, x_consA, x_callB, x_testE, x_toB, x_if, x_retS, x_dropS, x_setS, x_skip, x_andT, x_orT, x_notT, x_ifE, x_andE, x_orE, x_notE, x_chain, x_tupE, x_lstE, x_lstC, x_methL, x_for, x_itSeq, x_asSeq, x_asSeqT, x_asSeqS, x_range1, x_range2, x_enum, x_asLst, x_asg, x_isi, x_slice, x_noPart, x_rev, bnd_ok, bnd_err, thn_ok, thn_err, sq_nx, sq_ret, sq_brk, sq_ct, sq_err, bnB_ok, startE, List.map_cons, List.map_nil, List.length_cons, List.length_nil, Nat.reduceAdd, Nat.reduceSub, List.replicate_succ, List.replicate_zero, List.append_nil, List.cons_append, List.nil_append, if_true, if_false, Bool.false_eq_true, x_v0, x_vs, n_int, n_bl, n_str, n_non, n_lst, n_tup, n_scr, List.getElem?_cons_zero, List.getElem?_cons_succ, List.set_cons_zero, List.set_cons_succ, wipeD, Option.map_some, Bool.not_true, Bool.not_false, P_ok, l0]
    refine hG _ _ ?_
    clear hG G
    exact resA_lst rfl (pureL_map _ (fun p => En.pu _) _)
end K78


/-! the mixed table is a table, and its pieces part it -/
namespace K78
open Aw
theorem tab_len (outer : Tb) (inner : List Tb) (hs : List (Nat × Nat)) : (tab outer inner hs).length = hs.length := by rw [tab, List.length_map]
theorem mem_piece {homes : List (Nat × Nat)} {k i : Nat} : i ∈ piece homes k ↔ i < homes.length ∧ (homes.getD i (0, 0)).1 = k := by
  unfold piece
  rw [List.mem_filter, List.mem_range, decide_eq_true_eq]
section
variable {n : Nat} {outer : Tb} {inner : List Tb} {homes : List (Nat × Nat)}
theorem Mix.pos (M : Mix n outer inner homes) : 0 < homes.length := by
  refine List.length_pos_iff.mpr fun h => ?_
  have h1 := M.part.get (k := 0) (by rw [M.part.len]; exact M.n1)
  have : ((0, 0) : Nat × Nat) ∈ homes := (M.part.mem _).mpr ⟨by rw [M.part.len]; exact M.n1, h1.2.2⟩
  rw [h] at this
  simp at this
theorem home_at (M : Mix n outer inner homes) {i : Nat} (hi : i < homes.length) : Home inner (homes.getD i (0, 0)) := by
  refine M.home ?_
  rw [List.getD_eq_getElem?_getD, List.getElem?_eq_getElem hi]
  exact List.getElem_mem hi
theorem tab_sq : Sq homes.length (tab outer inner homes) := by
  refine ⟨tab_len _ _ _, fun i hi => ?_⟩
  rw [List.getD_eq_getElem?_getD, tab, List.getElem?_map, List.getElem?_eq_getElem hi]
  simp
theorem tab_ent {i j : Nat} (hi : i < homes.length) (hj : j < homes.length) : ent (tab outer inner homes) i j = beats outer inner (homes.getD i (0, 0)) (homes.getD j (0, 0)) := by
  refine ent_of (row := homes.map (beats outer inner (homes.getD i (0, 0)))) ?_ ?_
  · rw [tab, List.getElem?_map, List.getElem?_eq_getElem hi, List.getD_eq_getElem?_getD, List.getElem?_eq_getElem hi]; rfl
  · rw [List.getElem?_map, List.getElem?_eq_getElem hj, List.getD_eq_getElem?_getD (l := homes) (i := j), List.getElem?_eq_getElem hj]; rfl
theorem tab_tb (M : Mix n outer inner homes) : IsTb homes.length (tab outer inner homes) where
  sq := tab_sq
  self := fun i hi => by
    have hh := home_at M hi
    obtain ⟨_, g2, _⟩ := M.part.get hh.1
    rw [tab_ent hi hi, beats, if_pos rfl, g2.self _ hh.2]
  two := fun i j hi hj hij => by
    have h1 := home_at M hi
    have h2 := home_at M hj
    have hne : homes.getD i (0, 0) ≠ homes.getD j (0, 0) := fun e => by
      rw [List.getD_eq_getElem?_getD, List.getD_eq_getElem?_getD, List.getElem?_eq_getElem hi, List.getElem?_eq_getElem hj] at e
      exact hij ((List.getElem_inj M.part.nd).mp e)
    rw [tab_ent hi hj, tab_ent hj hi]
    unfold beats
    by_cases e : (homes.getD i (0, 0)).1 = (homes.getD j (0, 0)).1
    · rw [if_pos e, if_pos e.symm]
      obtain ⟨_, g2, _⟩ := M.part.get h1.1
      rw [← e]
      exact g2.two _ _ h1.2 (by have := h2.2; rw [← e] at this; exact this) fun q => hne (Prod.ext e q)
    · rw [if_neg e, if_neg fun q => e q.symm]
      exact M.out.two _ _ (M.fst h1) (M.fst h2) e
theorem pieces_len : (pieces n homes).length = n := by rw [pieces, List.length_map, List.length_range]
theorem pieces_at {k : Nat} (hk : k < n) : (pieces n homes)[k]? = some (piece homes k) := by
  rw [pieces, List.getElem?_map, List.getElem?_range hk]; rfl
theorem mem_pieces {p : List Nat} (hp : p ∈ pieces n homes) : ∃ k, k < n ∧ p = piece homes k := by
  obtain ⟨k, hk, rfl⟩ := List.mem_map.mp hp
  exact ⟨k, List.mem_range.mp hk, rfl⟩
theorem pieces_parts (M : Mix n outer inner homes) : PartsOf (tab outer inner homes) homes.length (pieces n homes) where
  ne := fun p hp => by
    obtain ⟨k, hk, rfl⟩ := mem_pieces hp
    have hk' : k < inner.length := by rw [M.part.len]; exact hk
    obtain ⟨_, _, h3⟩ := M.part.get hk'
    have hm : (k, 0) ∈ homes := (M.part.mem _).mpr ⟨hk', h3⟩
    obtain ⟨i, hi, e⟩ := List.mem_iff_getElem.mp hm
    refine List.ne_nil_of_mem (a := i) (mem_piece.mpr ⟨hi, ?_⟩)
    rw [List.getD_eq_getElem?_getD, List.getElem?_eq_getElem hi, e]; rfl
  lt := fun p hp x hx => by
    obtain ⟨k, hk, rfl⟩ := mem_pieces hp
    exact (mem_piece.mp hx).1
  nd := by
    refine List.pairwise_flatten.mpr ⟨fun p hp => ?_, ?_⟩
    · obtain ⟨k, hk, rfl⟩ := mem_pieces hp
      exact List.Pairwise.filter _ List.nodup_range
    · refine List.pairwise_iff_getElem.mpr fun i j hi hj hij x hx y hy e => ?_
      rw [pieces_len] at hi hj
      have e1 := pieces_at (homes := homes) hi
      have e2 := pieces_at (homes := homes) hj
      rw [List.getElem?_eq_getElem (by rw [pieces_len]; exact hi)] at e1
      rw [List.getElem?_eq_getElem (by rw [pieces_len]; exact hj)] at e2
      rw [Option.some.inj e1] at hx
      rw [Option.some.inj e2] at hy
      have h1 := (mem_piece.mp hx).2
      have h2 := (mem_piece.mp hy).2
      rw [e] at h1
      omega
  all := fun x hx => List.mem_flatten.mpr ⟨_, List.mem_of_getElem? (pieces_at (M.fst (home_at M hx))), mem_piece.mpr ⟨hx, rfl⟩⟩
  mod := fun p hp x hx hn a b ha hb h1 h2 => by
    obtain ⟨k, hk, rfl⟩ := mem_pieces hp
    have a2 := (mem_piece.mp h1).2
    have b2 := (mem_piece.mp h2).2
    have o2 : ¬ (homes.getD x (0, 0)).1 = k := fun q => hn (mem_piece.mpr ⟨hx, q⟩)
    rw [tab_ent hx ha, tab_ent hx hb]
    unfold beats
    rw [if_neg (by rw [a2]; exact o2), if_neg (by rw [b2]; exact o2), a2, b2]
end
end K78


/-! _law_weights, _law_right, the law -/
namespace K78
open Aw
theorem sum_wf {W : List Int} {n : Nat} (h : W.length = n) : W.sum = sm n (wf W) := by
  unfold sm
  congr 1
  apply List.ext_getElem?
  intro i
  rw [List.getElem?_map]
  by_cases hi : i < n
  · rw [List.getElem?_range hi, wf_get (by rw [h]; exact hi)]; rfl
  · rw [List.getElem?_eq_none (by omega), List.getElem?_eq_none (by rw [List.length_range]; omega)]; rfl
theorem Told.bsum {t : Tb} {n : Nat} {V : List Int} (T : Told t n V) (hn : n ≤ 8) : 0 ≤ V.sum ∧ V.sum ≤ 32768 := by
  rw [sum_wf T.len]
  have h1 := sm_nonneg T.ev.nn
  have h2 := sm_bound (n := n) (f := wf V) (B := 4096) fun i hi => ⟨by have := T.ev.nn i hi; omega, T.bd i hi⟩
  have : (n : Int) * 4096 ≤ 8 * 4096 := Int.mul_le_mul_of_nonneg_right (by omega) (by decide)
  omega
theorem sp_law_weights {n : Nat} {t : Tb} (h : IsTb n t) (hn : n ≤ 8) (h0 : 0 < n) : ∃ V, o__law_weights t = some (some V) ∧ Told t n V := by
  obtain ⟨V, hV, T⟩ := sp_weighing h hn h0
  refine ⟨V, out_of ?_, T⟩
  unfold g__law_weights
  have hl : V.length = t.length := by rw [T.len, h.sq.len]
  refine bindI hV ?_
  have c1 : ((!true) || (!decide (V.length = t.length))) = false := by rw [decide_eq_true hl]; rfl
  rw [c1]
  simp only [Bool.false_eq_true, if_false, thenF_nx]
  refine passI (fun x hx => ?_) ?_
  · have hw : o__law_whole x = some true := by
      refine out_of ?_
      unfold g__law_whole
      rfl
    obtain ⟨i, hi, e⟩ := List.mem_iff_getElem.mp hx
    have hx0 : 0 ≤ x := by
      have := T.ev.nn i (by rw [← T.len]; exact hi)
      unfold wf at this
      rw [List.getD_eq_getElem?_getD, List.getElem?_eq_getElem hi] at this
      rw [← e]; exact this
    have : ¬ x < ((0 : Nat) : Int) := by omega
    rw [bind_of hw, decide_eq_false this]
    rfl
  · have hs : ¬ V.sum = ((0 : Nat) : Int) := by
      rw [sum_wf T.len]
      obtain ⟨i, hi, hp⟩ := T.ev.some
      have := sm_pos T.ev.nn hi hp
      omega
    simp only [hs, decide_false, Bool.false_eq_true, if_false, thenF_nx]
theorem mo {i j : Int} (hj : j.natAbs < 18446744073709551616) : mulOk i j = true := by
  unfold mulOk; simp [hj]
theorem sp_law_right {n : Nat} {t : Tb} {ps : List (List Nat)} (h : IsTb n t) (P : PartsOf t n ps) (hn : n ≤ 8) (h0 : 0 < n) : o__law_right t ps = some true := by
  have hq := h.sq
  have hF := P.fold_tb h
  have pl := P.len
  have hp0 : 0 < ps.length := by have := (P.pix h0).1; omega
  obtain ⟨W, hW, TW⟩ := sp_law_weights h hn h0
  obtain ⟨O, hO, TO⟩ := sp_law_weights hF (by omega) hp0
  refine out_of ?_
  unfold g__law_right
  refine bindI hW (mapI (fun p : List Nat => p) (by omega) (fun _ _ => rfl) ?_)
  rw [List.map_id']
  refine bindI (sp_folded hq P (by omega)) (bindI hO ?_)
  have c1 : orO (Option.isNone (some W)) ((orO (Option.isNone (some O)) ((some O).bind fun t10 => (some (!decide ((List.length t10) = (List.length ps)))))).bind fun t12 => (some t12)) = some false := by
    simp [orO, TO.len]
  refine bindI c1 ?_
  simp only [Bool.false_eq_true, if_false, thenF_nx]
  refine limI (lt62 (by omega)) (passI (fun k hk => ?_) rfl)
  have hk := List.mem_range.mp hk
  have hm := getDl_mem hk
  have hlt := P.lt _ hm
  have hsl := P.sub_len hm
  have hS := sub_tb h (P.sub_nd hm) hlt
  have hpos : 0 < (ps.getD k []).length := List.length_pos_iff.mpr (P.ne _ hm)
  obtain ⟨U, hU, TU⟩ := sp_law_weights hS (by omega) hpos
  refine bindI (getDl hk) (bindI (sp_part hq hlt (by omega)) (bindI hU ?_))
  simp only [Option.isNone_some, Bool.false_eq_true, if_false, thenF_nx, Option.bind_some]
  refine limI (by rw [TU.len]; exact lt62 (by omega)) (passI (fun i hi => ?_) rfl)
  have hi : i < (ps.getD k []).length := by have := List.mem_range.mp hi; rwa [TU.len] at this
  have hx := hlt _ (getD_mem hi)
  have bW := TW.bsum hn
  have bO := TO.bsum (by omega)
  have bU := TU.bsum (by omega)
  have bi := TU.bd i hi
  have ni := TU.ev.nn i hi
  refine bindI (getDl hk) (bindI (getD_some hi) (bindI (wf_get (by rw [TW.len]; exact hx)) (bindI (wf_get (by rw [TO.len]; exact hk)) (bindI (wf_get (by rw [TU.len]; exact hi)) ?_))))
  refine limI (mo (by omega)) (limI (mo (by omega)) (limI (mo (by omega)) (limI (mo (by omega)) ?_)))
  have := P.shares h hk hi TW.ev TO.ev TU.ev
  rw [← sum_wf TW.len, ← sum_wf TO.len, ← sum_wf TU.len] at this
  rw [this]
  simp
theorem r_law_all (ns : List Int) : f_law [.scr ns] = .ok (.bl true) := by
  obtain ⟨n, outer, inner, homes, M, hm⟩ := r_mixed ns
  have hT := tab_tb M
  have h8 : homes.length ≤ 8 := M.few
  have h0 : 0 < homes.length := M.pos
  obtain ⟨ps, hps, hP, _⟩ := sp_parts hT (by omega) h0
  have tl := tab_len outer inner homes
  refine r_law (hpscript := rfl) (v := true) ?_
  refine out_of ?_
  unfold g_law
  refine bindI (oX_of hm (p_mix _ _ _)) (bindI (oT_of (r_table M)) (bindI (oT_of (r_pieces M)) (bindI (sp_law_right hT (pieces_parts M) h8 h0) ?_)))
  have c : andO true ((compO (tab outer inner homes) (fun (row : (List Bool)) => (some true)) (fun (row : (List Bool)) => (some row))).bind fun t10 => ((o_parts t10).bind fun t12 => ((o__law_right (tab outer inner homes) t12).bind fun t14 => (some t14)))) = some true := by
    show ((compO (tab outer inner homes) (fun (row : (List Bool)) => (some true)) (fun (row : (List Bool)) => (some row))).bind _) = _
    refine mapI (fun row => row) (by omega) (fun _ _ => rfl) ?_
    rw [List.map_id']
    exact bindI hps (bindI (sp_law_right hT hP h8 h0) rfl)
  exact bindI c rfl
end K78

namespace K78H
open PySem PySem.Spec PyProof.Rows L2 K78 Aw
def fn0 : List He.DefD := [topD "paired_sum" s_paired_sum, topD "kernel" s_kernel, topD "part" s_part, topD "beaten_by" s_beaten_by, topD "beaters_of" s_beaters_of, topD "score" s_score, topD "is_even" s_is_even, topD "odd_sets" s_odd_sets, topD "common" s_common, topD "lowest" s_lowest, topD "weights_on" s_weights_on, topD "weighing" s_weighing, topD "reached" s_reached, topD "rings" s_rings, topD "breaker" s_breaker, topD "stands_together" s_stands_together]
def fn1 : List He.DefD := [topD "closure" s_closure, topD "together" s_together, topD "parts" s_parts, topD "places_of" s_places_of, topD "folded" s_folded, topD "_law_whole" s__law_whole, topD "_law_cell_at" s__law_cell_at, topD "_law_table_by" s__law_table_by, topD "_law_mixed" s__law_mixed, topD "_law_beats" s__law_beats, topD "_law_table" s__law_table, topD "_law_pieces" s__law_pieces, topD "_law_part" s__law_part, topD "_law_weights" s__law_weights, topD "_law_right" s__law_right, topD "law" s_law]
def fn : List He.DefD := fn0 ++ fn1
def fa0 : List He.Fa := [.glo "paired_sum", .glo "kernel", .glo "part", .glo "beaten_by", .glo "beaters_of", .glo "score", .glo "is_even", .glo "odd_sets", .glo "common", .glo "lowest", .glo "weights_on", .glo "weighing", .glo "reached", .glo "rings", .glo "breaker", .glo "stands_together"]
def fa1 : List He.Fa := [.glo "closure", .glo "together", .glo "parts", .glo "places_of", .glo "folded", .glo "_law_whole", .glo "_law_cell_at", .glo "_law_table_by", .glo "_law_mixed", .glo "_law_beats", .glo "_law_table", .glo "_law_pieces", .glo "_law_part", .glo "_law_weights", .glo "_law_right", .glo "law"]
def fa2 : List He.Fa := [.free "len", .free "range", .free "abs", .free "all", .free "any", .free "dict", .free "enumerate", .free "int", .free "bool", .free "str", .free "isinstance", .free "list", .free "max", .free "min", .free "repr", .free "reversed"]
def fa3 : List He.Fa := [.free "set", .free "sorted", .free "sum", .free "tuple", .free "zip"]
def fa : List He.Fa := fa0 ++ fa1 ++ fa2 ++ fa3
def lo0 : List PySem.Str := ["__name__", "paired_sum", "kernel", "part", "beaten_by", "beaters_of", "score", "is_even", "odd_sets", "common", "lowest", "weights_on", "weighing", "AskError", "BadParts", "reached"]
def lo1 : List PySem.Str := ["rings", "breaker", "stands_together", "closure", "together", "parts", "places_of", "folded", "_law_whole", "_law_cell_at", "_law_table_by", "_law_mixed", "_law_beats", "_law_table", "_law_pieces", "_law_part"]
def lo2 : List PySem.Str := ["_law_weights", "_law_right"]
def lo : List PySem.Str := lo0 ++ lo1 ++ lo2
abbrev R : PySem.W.OpenRow := PySem.W.OpenLaw.row PySem.Challenge.rw_askwide_k78_whole_shares
abbrev hk : PySem.W.Hook := hookX 4 fa fn []
def ob (s : PySem.W.SharedT) : Bool × He.AlD := obsX 4 fa fn [] (HandSHeadRun.getT s)
theorem ob_eq (s : PySem.W.SharedT) : ob s = hk.obs s.abs := obsX_eq (HandSHeadRun.getT_eq s)
theorem run (w : World) : HandSHeadRun.RunEq R (PySem.W.view R.prog [41]) hk ob 2000 lo w := by
  intro os
  kernel_rfl
theorem facts {P : Program} {w : World} {K : PySem.W.Frag} {h : Heap} {mg : Str → Option Value} {f : Addr} (X : K.In h) (G : h.Ns mainGlobals mg) (hfa : mg ("law" : Str) = some (.ref f)) (c : He.SaysD fa fn K) (cx : exOk K [] = true) :
    ∃ fd : FuncData, (∀ (s : Shared) (v : Value), BindsTo s fd ⟨[v], []⟩ [("script", v)]) ∧ ∀ base : Heap, K.In base → base.Ns mainGlobals mg → FnOk P w K mg base (L2.CX P w) 10 f fd ["script"] (spP K [] 1 f_law) := by
  have B : Bt mg := { len := free_of X G c 32, range := free_of X G c 33, abs := free_of X G c 34, all := free_of X G c 35, any := free_of X G c 36, dict := free_of X G c 37, enumerate := free_of X G c 38, int := free_of X G c 39, bool := free_of X G c 40, str := free_of X G c 41, isinstance := free_of X G c 42, list := free_of X G c 43, max := free_of X G c 44, min := free_of X G c 45, repr := free_of X G c 46, reversed := free_of X G c 47, set := free_of X G c 48, sorted := free_of X G c 49, sum := free_of X G c 50, tuple := free_of X G c 51, zip := free_of X G c 52 }
  have h_paired_sum : ∀ base : Heap, FnD P w K [] mg base "paired_sum" 4 2 f_paired_sum := fun base => d_paired_sum B (txF_of X G c 0 0) 
  have h_kernel : ∀ base : Heap, FnD P w K [] mg base "kernel" 5 1 f_kernel := fun base => d_kernel B (txF_of X G c 1 1) (h_paired_sum base)
  have h_part : ∀ base : Heap, FnD P w K [] mg base "part" 1 2 f_part := fun base => d_part B (txF_of X G c 2 2) 
  have h_beaten_by : ∀ base : Heap, FnD P w K [] mg base "beaten_by" 1 2 f_beaten_by := fun base => d_beaten_by B (txF_of X G c 3 3) 
  have h_beaters_of : ∀ base : Heap, FnD P w K [] mg base "beaters_of" 1 2 f_beaters_of := fun base => d_beaters_of B (txF_of X G c 4 4) 
  have h_score : ∀ base : Heap, FnD P w K [] mg base "score" 2 3 f_score := fun base => d_score B (txF_of X G c 5 5) (h_beaten_by base) (h_beaters_of base)
  have h_is_even : ∀ base : Heap, FnD P w K [] mg base "is_even" 3 2 f_is_even := fun base => d_is_even B (txF_of X G c 6 6) (h_score base)
  have h_odd_sets : ∀ base : Heap, FnD P w K [] mg base "odd_sets" 1 1 f_odd_sets := fun base => d_odd_sets B (txF_of X G c 7 7) 
  have h_common : ∀ base : Heap, FnD P w K [] mg base "common" 1 2 f_common := fun base => d_common B (txF_of X G c 8 8) 
  have h_lowest : ∀ base : Heap, FnD P w K [] mg base "lowest" 2 1 f_lowest := fun base => d_lowest B (txF_of X G c 9 9) (h_common base)
  have h_weights_on : ∀ base : Heap, FnD P w K [] mg base "weights_on" 6 2 f_weights_on := fun base => d_weights_on B (txF_of X G c 10 10) (h_kernel base) (h_part base)
  have h_weighing : ∀ base : Heap, FnD P w K [] mg base "weighing" 7 1 f_weighing := fun base => d_weighing B (txF_of X G c 11 11) (h_odd_sets base) (h_weights_on base) (h_is_even base) (h_lowest base)
  have h_reached : ∀ base : Heap, FnD P w K [] mg base "reached" 1 2 f_reached := fun base => d_reached B (txF_of X G c 12 12) 
  have h_rings : ∀ base : Heap, FnD P w K [] mg base "rings" 2 1 f_rings := fun base => d_rings B (txF_of X G c 13 13) (h_reached base)
  have h_breaker : ∀ base : Heap, FnD P w K [] mg base "breaker" 1 2 f_breaker := fun base => d_breaker B (txF_of X G c 14 14) 
  have h_stands_together : ∀ base : Heap, FnD P w K [] mg base "stands_together" 2 2 f_stands_together := fun base => d_stands_together B (txF_of X G c 15 15) (h_breaker base)
  have h_closure : ∀ base : Heap, FnD P w K [] mg base "closure" 2 2 f_closure := fun base => d_closure B (txF_of X G c 16 16) (h_breaker base)
  have h_together : ∀ base : Heap, FnD P w K [] mg base "together" 3 3 f_together := fun base => d_together B (txF_of X G c 17 17) (h_closure base)
  have h_parts : ∀ base : Heap, FnD P w K [] mg base "parts" 4 1 f_parts := fun base => d_parts B (txF_of X G c 18 18) (h_rings base) (h_together base)
  have h_places_of : ∀ base : Heap, FnD P w K [] mg base "places_of" 1 2 f_places_of := fun base => d_places_of B (txF_of X G c 19 19) 
  have h_folded : ∀ base : Heap, FnD P w K [] mg base "folded" 3 2 f_folded := fun base => d_folded B (txF_of X G c 20 20) (h_places_of base) (h_stands_together base)
  have h__law_whole : ∀ base : Heap, FnD P w K [] mg base "_law_whole" 1 1 f__law_whole := fun base => d__law_whole B (txF_of X G c 21 21) 
  have h__law_cell_at : ∀ base : Heap, FnD P w K [] mg base "_law_cell_at" 1 2 f__law_cell_at := fun base => d__law_cell_at B (txF_of X G c 22 22) 
  have h__law_table_by : ∀ base : Heap, FnD P w K [] mg base "_law_table_by" 1 2 f__law_table_by := fun base => d__law_table_by B (txF_of X G c 23 23) 
  have h__law_mixed : ∀ base : Heap, FnD P w K [] mg base "_law_mixed" 2 1 f__law_mixed := fun base => d__law_mixed B (txF_of X G c 24 24) (h__law_table_by base) (h__law_cell_at base)
  have h__law_beats : ∀ base : Heap, FnD P w K [] mg base "_law_beats" 1 3 f__law_beats := fun base => d__law_beats B (txF_of X G c 25 25) 
  have h__law_table : ∀ base : Heap, FnD P w K [] mg base "_law_table" 2 1 f__law_table := fun base => d__law_table B (txF_of X G c 26 26) (h__law_beats base)
  have h__law_pieces : ∀ base : Heap, FnD P w K [] mg base "_law_pieces" 1 1 f__law_pieces := fun base => d__law_pieces B (txF_of X G c 27 27) 
  have h__law_part : ∀ base : Heap, FnD P w K [] mg base "_law_part" 1 2 f__law_part := fun base => d__law_part B (txF_of X G c 28 28) 
  have h__law_weights : ∀ base : Heap, FnD P w K [] mg base "_law_weights" 8 1 f__law_weights := fun base => d__law_weights B (txF_of X G c 29 29) (h_weighing base) (h__law_whole base)
  have h__law_right : ∀ base : Heap, FnD P w K [] mg base "_law_right" 9 2 f__law_right := fun base => d__law_right B (txF_of X G c 30 30) (h__law_weights base) (h_folded base) (h__law_part base)
  obtain ⟨fd, F⟩ := c.def_ 31 (d := topD "law" s_law) rfl
  have e := hfa.symm.trans (He.glo_ok X G (c.fact 31 (f := .glo "law") rfl))
  cases e
  have b := FunD.bindsA (ps := ["script"]) F bd_law
  exact ⟨fd, fun s v => b s [v] rfl, fun base _ _ => ok_law B (h__law_mixed base) (h__law_table base) (h__law_right base) (h__law_pieces base) (h_parts base) (funD_fun F)⟩
end K78H
open PySem PySem.W PySem.Calls PyProof.Rows
theorem PySem.Challenge.cw_askwide_k78_whole_shares_holds : PySem.Challenge.rw_askwide_k78_whole_shares.Holds := by
  w_on; o_law
  refine HandSHeadRun.head_any (r := OpenLaw.row PySem.Challenge.rw_askwide_k78_whole_shares) (q := view (OpenLaw.row PySem.Challenge.rw_askwide_k78_whole_shares).prog [41]) (H := K78H.hk) (ob := K78H.ob) (M := 2000) (loose := K78H.lo) (d := HandSHeadRun.topDef (OpenLaw.row PySem.Challenge.rw_askwide_k78_whole_shares).prog 41) (kwd := []) K78H.ob_eq
    (by kernel_rfl) (fun s => by kernel_rfl) K78H.run (by kernel_rfl) (by kernel_rfl) (by kernel_rfl) (by rfl) (by first | assumption | decide +kernel) (by decide +kernel) ⟨rfl, rfl, rfl, rfl, rfl, by decide +kernel⟩ ?hw ?hc
  case hw => w_witness2
  case hc =>
    refine Aw.walk_plain (l := PySem.Challenge.rw_askwide_k78_whole_shares) (lv := 10) rfl (by kernel_rfl) ⟨rfl, by decide, by decide⟩ ?_
    intro w mg fa h Y G hmg0
    obtain ⟨K, KX, c, cx⟩ := Y
    have hmg : mg ("law" : PySem.Str) = some (.ref fa) := by
      have nm : (HandSHeadRun.topDef (OpenLaw.row PySem.Challenge.rw_askwide_k78_whole_shares).prog 41).name = ("law" : PySem.Str) := by kernel_rfl
      rw [← nm]
      exact hmg0
    obtain ⟨fd, hb, hF⟩ := K78H.facts (P := (PySem.Challenge.rw_askwide_k78_whole_shares).prog) (w := w) KX G hmg c cx
    exact ⟨K, fd, K78.f_law, KX, hb, fun ns h => K78.r_law_all ns, hF⟩

