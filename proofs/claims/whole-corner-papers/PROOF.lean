import PyProof.Rows.All
import Wide.All
import OpenK.AllK
import Wide.FinOn
import HandS.Conv
import HandS.Deep
import HandS.Defaults
import HandS.DictComp
import HandS.ForMost
import HandS.Head0
import HandS.Head1
import HandS.Head2
import HandS.HeadHook1
import HandS.HeadHook2
import HandS.IsInst
import HandS.SetBool
import HandS.SetFor
import HandS.SetKeys
import HandS.SortInts
import HandS.Strs
import HandS.Style
import HandS.TupAny
import HandS.TupMul
import HandS.TupSets
import HandS.Zip
import KE.GoesEnum
import KE.KDictKeyed
import KE.KDictSum
import KE.KDictZip
import KE.KRevSl
import KE.KStateDown
import PyProof.DictMoreH
import PyProof.ReprRoads
import PyProof.Rows.RegFStrParts
import PySem.Challenge.RW_endsandround_k16_whole_corner_papers
set_option Elab.async false
set_option linter.all false
set_option maxRecDepth 100000
set_option maxHeartbeats 4000000
/-! my layer: data, what is known of the heap, readings that evaluate to data -/
namespace DL
open PySem L2

inductive D where
  | non
  | bl (b : Bool)
  | int (i : Int)
  | str (x : Str)
  | tup (ds : List D)
  | lst (ds : List D)
  | dct (ks : List (List Int)) (ds : List D)
  | mach (k : Nat) (S : List (List Nat))
  | ptr (a : Addr)
  | obj (o : HO)

abbrev nat (n : Nat) : D := .int (n : Int)
abbrev nats (l : List Nat) : List D := l.map nat
def matT (S : List (List Nat)) : D := .tup (S.map fun r => .tup (nats r))
def matL (S : List (List Nat)) : D := .lst (S.map fun r => .lst (nats r))

inductive DR (C : Addr) (F : Hp) : V → D → Prop
  | non : DR C F .non .non
  | bl (b : Bool) : DR C F (.bl b) (.bl b)
  | int (i : Int) : DR C F (.int i) (.int i)
  | str (x : Str) : DR C F (.str x) (.str x)
  | tup {a : Addr} {xs : List V} {ds : List D} : F a = some (.tup xs) → xs.length = ds.length → (∀ (i : Nat) v d, xs[i]? = some v → ds[i]? = some d → DR C F v d) → DR C F (.ref a) (.tup ds)
  | lst {a : Addr} {xs : List V} {ds : List D} : F a = some (.lst xs) → xs.length = ds.length → (∀ (i : Nat) v d, xs[i]? = some v → ds[i]? = some d → DR C F v d) → DR C F (.ref a) (.lst ds)
  | dct {a : Addr} {ob : Obj} {kvs : List (List Key × V)} {ks : List (List Int)} {ds : List D} : F a = some (.frz ob (.dT kvs)) → kvs.map (·.1) = ks.map (fun k => k.map Sum.inl) → kvs.length = ds.length → (∀ (i : Nat) p d, kvs[i]? = some p → ds[i]? = some d → DR C F p.2 d) → DR C F (.ref a) (.dct ks ds)
  | mach {a dx : Addr} {fs : List (Str × V)} {k : Nat} {S : List (List Nat)} {v : V} : F a = some (.ins C dx fs) → fs.lookup ("commands" : Str) = some (.int k) → fs.lookup ("states" : Str) = some (.int S.length) → fs.lookup ("steps" : Str) = some v → DR C F v (matT S) → DR C F (.ref a) (.mach k S)
  | ptr (a : Addr) : DR C F (.ref a) (.ptr a)
  | obj {a : Addr} {o : HO} : F a = some o → DR C F (.ref a) (.obj o)

def DRs (C : Addr) (F : Hp) (xs : List V) (ds : List D) : Prop := xs.length = ds.length ∧ ∀ (i : Nat) v d, xs[i]? = some v → ds[i]? = some d → DR C F v d

section
variable {C : Addr} {F F' F1 H H' H1 : Hp} {v w : V} {d e : D} {xs ys : List V} {ds es : List D}
theorem DR.mono (k : Same F F') (h : DR C F v d) : DR C F' v d := by
  induction h with
  | non => exact .non
  | bl b => exact .bl b
  | int i => exact .int i
  | str x => exact .str x
  | tup h l _ ih => exact .tup (k _ _ h) l fun i v d a b => ih i v d a b
  | lst h l _ ih => exact .lst (k _ _ h) l fun i v d a b => ih i v d a b
  | dct h hk l _ ih => exact .dct (k _ _ h) hk l fun i v d a b => ih i v d a b
  | mach h h1 h2 h3 _ ih => exact .mach (k _ _ h) h1 h2 h3 ih
  | ptr a => exact .ptr a
  | obj h => exact .obj (k _ _ h)
theorem DRs.mono (k : Same F F') (h : DRs C F xs ds) : DRs C F' xs ds := ⟨h.1, fun i v d a b => (h.2 i v d a b).mono k⟩
theorem DRs.nil : DRs C F [] [] := ⟨rfl, fun i v d a _ => by simp at a⟩
theorem DRs.cons (h : DR C F v d) (t : DRs C F xs ds) : DRs C F (v :: xs) (d :: ds) := by
  refine ⟨by simp [t.1], fun i w e a b => ?_⟩
  cases i with
  | zero =>
    simp at a b
    subst a; subst b
    exact h
  | succ i => exact t.2 i w e (by simpa using a) (by simpa using b)
theorem DRs.head (h : DRs C F (v :: xs) (d :: ds)) : DR C F v d := h.2 0 v d rfl rfl
theorem DRs.tail (h : DRs C F (v :: xs) (d :: ds)) : DRs C F xs ds := ⟨by have := h.1; simpa using this, fun i w e a b => h.2 (i + 1) w e (by simpa using a) (by simpa using b)⟩
theorem DRs.app (h : DRs C F xs ds) (t : DRs C F ys es) : DRs C F (xs ++ ys) (ds ++ es) := by
  refine ⟨by simp [h.1, t.1], fun i w e a b => ?_⟩
  by_cases hi : i < xs.length
  · rw [List.getElem?_append_left hi] at a
    rw [List.getElem?_append_left (by rw [← h.1]; exact hi)] at b
    exact h.2 i w e a b
  · rw [List.getElem?_append_right (by omega)] at a
    rw [List.getElem?_append_right (by rw [← h.1]; omega), ← h.1] at b
    exact t.2 _ w e a b
theorem DRs.one (h : DR C F v d) : DRs C F [v] [d] := .cons h .nil
theorem DRs.get {i : Nat} (h : DRs C F xs ds) (hd : ds[i]? = some d) : ∃ v, xs[i]? = some v ∧ DR C F v d := by
  have hl : i < ds.length := (List.getElem?_eq_some_iff.mp hd).1
  have hx : i < xs.length := by rw [h.1]; exact hl
  exact ⟨xs[i], List.getElem?_eq_getElem hx, h.2 i _ d (List.getElem?_eq_getElem hx) hd⟩
theorem DRs.set {i : Nat} (h : DRs C F xs ds) (t : DR C F v d) : DRs C F (xs.set i v) (ds.set i d) := by
  refine ⟨by simp [h.1], fun j w e a b => ?_⟩
  by_cases q : i = j
  · subst q
    by_cases hi : i < xs.length
    · rw [List.getElem?_set_self hi] at a
      rw [List.getElem?_set_self (by rw [← h.1]; exact hi)] at b
      cases a; cases b
      exact t
    · rw [List.getElem?_eq_none (by simpa using hi)] at a
      cases a
  · rw [List.getElem?_set_ne q] at a b
    exact h.2 j w e a b
theorem DRs.rev (h : DRs C F xs ds) : DRs C F xs.reverse ds.reverse := by
  refine ⟨by simp [h.1], fun i w e a b => ?_⟩
  have h1 : i < xs.reverse.length := (List.getElem?_eq_some_iff.mp a).1
  have h2 : i < ds.reverse.length := (List.getElem?_eq_some_iff.mp b).1
  rw [List.getElem?_reverse (by simpa using h1)] at a
  rw [List.getElem?_reverse (by simpa using h2), ← h.1] at b
  exact h.2 _ w e a b
theorem DRs.take {n : Nat} (h : DRs C F xs ds) : DRs C F (xs.take n) (ds.take n) := by
  refine ⟨by simp [h.1], fun i w e a b => ?_⟩
  rw [List.getElem?_take] at a b
  split at a
  · rename_i hi
    rw [if_pos hi] at b
    exact h.2 i w e a b
  · cases a
theorem DRs.drop {n : Nat} (h : DRs C F xs ds) : DRs C F (xs.drop n) (ds.drop n) := by
  refine ⟨by simp [h.1], fun i w e a b => ?_⟩
  rw [List.getElem?_drop] at a b
  exact h.2 _ w e a b
theorem DRs.erase {n : Nat} (h : DRs C F xs ds) : DRs C F (xs.eraseIdx n) (ds.eraseIdx n) := by
  have e1 : xs.eraseIdx n = xs.take n ++ xs.drop (n + 1) := List.eraseIdx_eq_take_drop_succ ..
  have e2 : ds.eraseIdx n = ds.take n ++ ds.drop (n + 1) := List.eraseIdx_eq_take_drop_succ ..
  rw [e1, e2]
  exact h.take.app h.drop

theorem DR.int_inv {i : Int} (h : DR C F v (.int i)) : v = .int i := by cases h; rfl
theorem DR.bl_inv {b : Bool} (h : DR C F v (.bl b)) : v = .bl b := by cases h; rfl
theorem DR.non_inv (h : DR C F v .non) : v = .non := by cases h; rfl
theorem DR.ptr_inv {a : Addr} (h : DR C F v (.ptr a)) : v = .ref a := by cases h; rfl
theorem DR.obj_inv {o : HO} (h : DR C F v (.obj o)) : ∃ a, v = .ref a ∧ F a = some o := by
  cases h with
  | obj h => exact ⟨_, rfl, h⟩
theorem DR.tup_inv (h : DR C F v (.tup ds)) : ∃ a xs, v = .ref a ∧ F a = some (.tup xs) ∧ DRs C F xs ds := by
  cases h with
  | tup h l k => exact ⟨_, _, rfl, h, l, k⟩
theorem DR.lst_inv (h : DR C F v (.lst ds)) : ∃ a xs, v = .ref a ∧ F a = some (.lst xs) ∧ DRs C F xs ds := by
  cases h with
  | lst h l k => exact ⟨_, _, rfl, h, l, k⟩
theorem DRs.ints_inv : ∀ {ns : List Int} {xs : List V}, DRs C F xs (ns.map D.int) → xs = ns.map V.int
  | [], [], _ => rfl
  | [], _ :: _, h => by have := h.1; simp at this
  | _ :: _, [], h => by have := h.1; simp at this
  | n :: ns, x :: xs, h => by
    rw [List.map_cons] at h
    rw [h.head.int_inv, DRs.ints_inv h.tail, List.map_cons]
theorem DRs.ints (ns : List Int) : DRs C F (ns.map V.int) (ns.map D.int) := by
  induction ns with
  | nil => exact .nil
  | cons n ns ih => exact .cons (.int n) ih
theorem nats_ints (l : List Nat) : nats l = (l.map fun (n : Nat) => (n : Int)).map D.int := by
  unfold nats
  rw [List.map_map]
  rfl

/-! ### growth: F is what is known for good, H what is tracked -/
structure Gr (F H F' H' : Hp) : Prop where
  ex : Same F F'
  sub : Same F' H'
  keep : Same H H'
  new : ∀ a o, F' a = some o → F a = some o ∨ H a = none ∨ ∃ xs, o = .tup xs
theorem Gr.refl (k : Same F H) : Gr F H F H := ⟨Same.refl F, k, Same.refl H, fun _ _ h => .inl h⟩
theorem Gr.trans (a : Gr F H F1 H1) (b : Gr F1 H1 F' H') : Gr F H F' H' := by
  refine ⟨a.ex.trans b.ex, b.sub, a.keep.trans b.keep, fun p o h => ?_⟩
  rcases b.new p o h with q | q | q
  · exact a.new p o q
  · exact .inr (.inl (a.keep.free q))
  · exact .inr (.inr q)
theorem Same.new {p : Addr} {o : HO} (h : H p = none) : Same H (upd H p o) := fun a u e => by
  rw [upd_ne (ne_of_none e h)]
  exact e
theorem Gr.alloc {p : Addr} {o : HO} (k : Same F H) (h : H p = none) : Gr F H (upd F p o) (upd H p o) := by
  have hF : F p = none := k.free h
  refine ⟨Same.new hF, fun a u e => ?_, Same.new h, fun a u e => ?_⟩
  · by_cases q : a = p
    · subst q
      rw [upd_same] at e ⊢
      exact e
    · rw [upd_ne q] at e ⊢
      exact k a u e
  · by_cases q : a = p
    · subst q
      exact .inr (.inl h)
    · rw [upd_ne q] at e
      exact .inl e
theorem Gr.lay {p : Addr} {o : HO} (k : Same F H) (h : H p = none) : Gr F H F (upd H p o) := ⟨Same.refl F, fun a u e => Same.new h a u (k a u e), Same.new h, fun _ _ e => .inl e⟩
end

/-! ### own mutable objects -/
inductive MO where
  | lst (ds : List D)
  | dct (m : List (List Int × D))
  | any (p : Hp → HO → Prop)
abbrev Mu := List (Addr × MO)
def MOk (C : Addr) (F H : Hp) (a : Addr) : MO → Prop
  | .lst ds => ∃ xs, H a = some (.lst xs) ∧ DRs C F xs ds
  | .dct m => ∃ kvs, H a = some (.dT kvs) ∧ kvs.map (·.1) = m.map (fun p => p.1.map Sum.inl) ∧ DRs C F (kvs.map (·.2)) (m.map (·.2))
  | .any p => ∃ o, H a = some o ∧ (∀ xs, o ≠ .tup xs) ∧ ∃ F0, Same F0 F ∧ p F0 o
theorem MOk.there {C : Addr} {F H : Hp} {a : Addr} {m : MO} (h : MOk C F H a m) : ∃ o, H a = some o := by
  cases m with
  | lst ds => exact ⟨_, h.choose_spec.1⟩
  | dct m => exact ⟨_, h.choose_spec.1⟩
  | any p => exact ⟨_, h.choose_spec.1⟩
theorem MOk.notup {C : Addr} {F H : Hp} {a : Addr} {m : MO} {xs : List V} (h : MOk C F H a m) (e : H a = some (.tup xs)) : False := by
  cases m with
  | lst ds => obtain ⟨_, h1, _⟩ := h; rw [h1] at e; cases e
  | dct m => obtain ⟨_, h1, _⟩ := h; rw [h1] at e; cases e
  | any p => obtain ⟨o, h1, h2, _⟩ := h; rw [h1] at e; exact h2 xs (Option.some.inj e)
theorem MOk.mono {C : Addr} {F H F' H' : Hp} {a : Addr} {m : MO} (k : Same F F') (e : ∀ o, H a = some o → H' a = some o) (h : MOk C F H a m) : MOk C F' H' a m := by
  cases m with
  | lst ds => obtain ⟨xs, h1, h2⟩ := h; exact ⟨xs, e _ h1, h2.mono k⟩
  | dct m => obtain ⟨xs, h1, h2, h3⟩ := h; exact ⟨xs, e _ h1, h2, h3.mono k⟩
  | any p => obtain ⟨o, h1, h0, F0, h2, h3⟩ := h; exact ⟨o, e _ h1, h0, F0, h2.trans k, h3⟩

/-- where a def's body began: what was known, what was tracked, what it may change -/
structure Cn where
  F0 : Hp
  H0 : Hp
  M : Addr → Prop

def Own (c : Cn) (a : Addr) : MO → Prop
  | .any _ => c.M a ∨ c.H0 a = none
  | _ => c.H0 a = none
theorem Own.or {c : Cn} {a : Addr} {m : MO} (h : Own c a m) : c.M a ∨ c.H0 a = none := by
  cases m with
  | any p => exact h
  | lst ds => exact .inr h
  | dct m => exact .inr h
theorem Own.of {c : Cn} {a : Addr} {m : MO} (h : c.H0 a = none) : Own c a m := by
  cases m with
  | any p => exact .inr h
  | lst ds => exact h
  | dct m => exact h
structure SatF (C : Addr) (c : Cn) (rho : List (Option D)) (mu : Mu) (ts : List (V × D)) (s : L2.St) (F H : Hp) : Prop where
  ex : Same c.F0 F
  sub : Same F H
  keep : ∀ a o, ¬ c.M a → c.H0 a = some o → H a = some o
  new : ∀ a o, F a = some o → c.F0 a = some o ∨ c.H0 a = none ∨ ∃ xs, o = .tup xs
  dom : ∀ a, H a = none → c.H0 a = none
  slen : s.length = rho.length
  slot : ∀ (i : Nat) d, rho[i]? = some (some d) → ∃ v, s[i]? = some (some v) ∧ DR C F v d
  tmp : ∀ p ∈ ts, DR C F p.1 p.2
  nd : (mu.map (·.1)).Nodup
  mu : ∀ p ∈ mu, F p.1 = none ∧ Own c p.1 p.2 ∧ MOk C F H p.1 p.2
def Sat (C : Addr) (c : Cn) (rho : List (Option D)) (mu : Mu) (ts : List (V × D)) (s : L2.St) (H : Hp) : Prop := ∃ F, SatF C c rho mu ts s F H

section
variable {C : Addr} {c : Cn} {rho rho' : List (Option D)} {mu mu' : Mu} {ts ts' : List (V × D)} {s s' : L2.St} {F H F' H' : Hp} {v : V} {d : D}
theorem SatF.grow (h : SatF C c rho mu ts s F H) (g : Gr F H F' H') : SatF C c rho mu ts s F' H' where
  ex := h.ex.trans g.ex
  sub := g.sub
  keep := fun a o n e => g.keep a o (h.keep a o n e)
  new := fun a o e => by
    rcases g.new a o e with q | q | q
    · exact h.new a o q
    · exact .inr (.inl (h.dom a q))
    · exact .inr (.inr q)
  dom := fun a e => h.dom a (g.keep.free e)
  slen := h.slen
  slot := fun i d e => by
    obtain ⟨v, a, b⟩ := h.slot i d e
    exact ⟨v, a, b.mono g.ex⟩
  tmp := fun p hp => (h.tmp p hp).mono g.ex
  nd := h.nd
  mu := fun p hp => by
    obtain ⟨a, b, m⟩ := h.mu p hp
    refine ⟨?_, b, m.mono g.ex fun o e => g.keep _ o e⟩
    cases q : F' p.1 with
    | none => rfl
    | some o =>
      obtain ⟨u, hu⟩ := m.there
      rcases g.new _ o q with z | z | ⟨xs, z⟩
      · rw [a] at z; cases z
      · rw [hu] at z; cases z
      · subst z
        exact ((m.mono g.ex fun o e => g.keep _ o e).notup (g.sub _ _ q)).elim
theorem SatF.push (h : SatF C c rho mu ts s F H) (r : DR C F v d) : SatF C c rho mu ((v, d) :: ts) s F H :=
  ⟨h.ex, h.sub, h.keep, h.new, h.dom, h.slen, h.slot, fun p hp => (List.mem_cons.mp hp).elim (fun e => by subst e; exact r) (h.tmp p), h.nd, h.mu⟩
theorem SatF.temps (h : SatF C c rho mu ts s F H) (k : ∀ p ∈ ts', DR C F p.1 p.2) : SatF C c rho mu ts' s F H := ⟨h.ex, h.sub, h.keep, h.new, h.dom, h.slen, h.slot, k, h.nd, h.mu⟩
theorem SatF.fewer (h : SatF C c rho mu ts s F H) (k : ∀ p ∈ ts', p ∈ ts) : SatF C c rho mu ts' s F H := h.temps fun p hp => h.tmp p (k p hp)
theorem Sat.fewer (h : Sat C c rho mu ts s H) (k : ∀ p ∈ ts', p ∈ ts) : Sat C c rho mu ts' s H := let ⟨F, q⟩ := h; ⟨F, q.fewer k⟩
theorem Sat.pop {p : V × D} (h : Sat C c rho mu (p :: ts) s H) : Sat C c rho mu ts s H := h.fewer fun _ q => List.mem_cons_of_mem _ q
theorem SatF.slots (h : SatF C c rho mu ts s F H) (hl : s'.length = rho'.length) (k : ∀ (i : Nat) d, rho'[i]? = some (some d) → ∃ v, s'[i]? = some (some v) ∧ DR C F v d) : SatF C c rho' mu ts s' F H := ⟨h.ex, h.sub, h.keep, h.new, h.dom, hl, k, h.tmp, h.nd, h.mu⟩
theorem SatF.store {i : Nat} (h : SatF C c rho mu ts s F H) (r : DR C F v d) : SatF C c (rho.set i (some d)) mu ts (s.set i (some v)) F H := by
  refine h.slots (by simp [h.slen]) fun j e q => ?_
  by_cases hj : i = j
  · subst hj
    by_cases hi : i < rho.length
    · rw [List.getElem?_set_self hi] at q
      cases q
      exact ⟨v, by rw [List.getElem?_set_self (by rw [h.slen]; exact hi)], r⟩
    · rw [List.getElem?_eq_none (by simpa using hi)] at q
      cases q
  · rw [List.getElem?_set_ne hj] at q ⊢
    exact h.slot j e q
/-- what is known of slots is less -/
def Le : List (Option D) → List (Option D) → Prop
  | [], [] => True
  | none :: r, _ :: t => Le r t
  | some d :: r, x :: t => x = some d ∧ Le r t
  | _, _ => False
theorem Le.len : ∀ {r t : List (Option D)}, Le r t → r.length = t.length
  | [], [], _ => rfl
  | none :: r, _ :: t, h => by simp [Le.len (r := r) (t := t) h]
  | some d :: r, x :: t, h => by simp [Le.len (r := r) (t := t) h.2]
  | [], _ :: _, h => h.elim
  | none :: _, [], h => h.elim
  | some _ :: _, [], h => h.elim
theorem Le.get : ∀ {r t : List (Option D)} {i : Nat} {d : D}, Le r t → r[i]? = some (some d) → t[i]? = some (some d)
  | [], [], _, _, _, e => e
  | none :: r, _ :: t, 0, d, h, e => by simp at e
  | none :: r, _ :: t, i + 1, d, h, e => by simpa using Le.get (r := r) (t := t) (i := i) h (by simpa using e)
  | some d' :: r, x :: t, 0, d, h, e => by
    simp at e ⊢
    rw [h.1, e]
  | some d' :: r, x :: t, i + 1, d, h, e => by simpa using Le.get (r := r) (t := t) (i := i) h.2 (by simpa using e)
  | [], _ :: _, _, _, h, _ => h.elim
  | none :: _, [], _, _, h, _ => h.elim
  | some _ :: _, [], _, _, h, _ => h.elim
theorem Sat.weak (h : Sat C c rho mu ts s H) (k : Le rho' rho) : Sat C c rho' mu ts s H := by
  obtain ⟨F, h⟩ := h
  exact ⟨F, h.slots (by rw [h.slen, k.len]) fun i d e => h.slot i d (k.get e)⟩
/-- a new mutable object -/
theorem SatF.own {p : Addr} {o : HO} {m : MO} (h : SatF C c rho mu ts s F H) (hp : H p = none) (hm : MOk C F (upd H p o) p m) : SatF C c rho ((p, m) :: mu) ((.ref p, .ptr p) :: ts) s F (upd H p o) := by
  have g := h.grow (Gr.lay (o := o) h.sub hp)
  refine ⟨g.ex, g.sub, g.keep, g.new, g.dom, g.slen, g.slot, fun q hq => (List.mem_cons.mp hq).elim (fun e => by subst e; exact .ptr p) (g.tmp q), ?_, fun q hq => ?_⟩
  · rw [List.map_cons, List.nodup_cons]
    refine ⟨fun z => ?_, h.nd⟩
    obtain ⟨q, hq, e⟩ := List.mem_map.mp z
    obtain ⟨u, hu⟩ := (h.mu q hq).2.2.there
    rw [e, hp] at hu
    cases hu
  · rcases List.mem_cons.mp hq with e | hq
    · subst e
      exact ⟨h.sub.free hp, Own.of (h.dom p hp), hm⟩
    · exact g.mu q hq
theorem nodup_fst {mu : Mu} (nd : (mu.map (·.1)).Nodup) {p q : Addr × MO} (hp : p ∈ mu) (hq : q ∈ mu) (e : p.1 = q.1) : p = q := by
  induction mu with
  | nil => cases hp
  | cons x xs ih =>
    rw [List.map_cons, List.nodup_cons] at nd
    rcases List.mem_cons.mp hp with rfl | hp' <;> rcases List.mem_cons.mp hq with rfl | hq'
    · rfl
    · exact absurd (List.mem_map.mpr ⟨q, hq', e.symm⟩) nd.1
    · exact absurd (List.mem_map.mpr ⟨p, hp', e⟩) nd.1
    · exact ih nd.2 hp' hq'
/-- the state of the own object at a -/
def put (mu : Mu) (a : Addr) (m : MO) : Mu := mu.map fun p => if p.1 = a then (a, m) else p
theorem put_fst (mu : Mu) (a : Addr) (m : MO) : (put mu a m).map (·.1) = mu.map (·.1) := by
  unfold put
  rw [List.map_map]
  refine List.map_congr_left fun p _ => ?_
  show (if p.1 = a then (a, m) else p).1 = p.1
  by_cases h : p.1 = a
  · rw [if_pos h, h]
  · rw [if_neg h]
theorem SatF.change {a : Addr} {o : HO} {m m' : MO} (h : SatF C c rho mu ts s F H) (hm : (a, m) ∈ mu) (ho : Own c a m → Own c a m') (hk : MOk C F (upd H a o) a m') : SatF C c rho (put mu a m') ts s F (upd H a o) := by
  obtain ⟨fa, oa, _⟩ := h.mu _ hm
  refine ⟨h.ex, fun b u e => ?_, fun b u n e => ?_, h.new, fun b e => ?_, h.slen, h.slot, h.tmp, by rw [put_fst]; exact h.nd, fun q hq => ?_⟩
  · rw [upd_ne (ne_of_none e fa)]
    exact h.sub b u e
  · by_cases q : b = a
    · subst q
      rcases oa.or with z | z
      · exact absurd z n
      · rw [z] at e; cases e
    · rw [upd_ne q]
      exact h.keep b u n e
  · by_cases q : b = a
    · subst q
      rw [upd_same] at e
      cases e
    · rw [upd_ne q] at e
      exact h.dom b e
  · unfold put at hq
    obtain ⟨p, hp, e⟩ := List.mem_map.mp hq
    by_cases z : p.1 = a
    · rw [if_pos z] at e
      subst e
      exact ⟨fa, ho oa, hk⟩
    · rw [if_neg z] at e
      subst e
      obtain ⟨x1, x2, x3⟩ := h.mu p hp
      exact ⟨x1, x2, x3.mono (Same.refl F) fun o e => by rw [upd_ne z]; exact e⟩
/-- an own list is let go: it is known for good -/
theorem SatF.freeze {a : Addr} {ds : List D} (h : SatF C c rho ((a, .lst ds) :: mu) ts s F H) : ∃ xs, DRs C F xs ds ∧ H a = some (.lst xs) ∧ SatF C c rho mu ts s (upd F a (.lst xs)) H := by
  obtain ⟨fa, oa, xs, hx, hd⟩ := h.mu (a, .lst ds) List.mem_cons_self
  have k : Same F (upd F a (.lst xs)) := Same.new fa
  have nd := h.nd
  rw [List.map_cons, List.nodup_cons] at nd
  refine ⟨xs, hd, hx, h.ex.trans k, fun b u e => ?_, h.keep, fun b u e => ?_, h.dom, h.slen, fun i d e => ?_, fun p hp => (h.tmp p hp).mono k, nd.2, fun q hq => ?_⟩
  · by_cases q : b = a
    · subst q
      rw [upd_same] at e
      cases e
      exact hx
    · rw [upd_ne q] at e
      exact h.sub b u e
  · by_cases q : b = a
    · subst q
      rw [upd_same] at e
      cases e
      exact .inr (.inl oa)
    · rw [upd_ne q] at e
      exact h.new b u e
  · obtain ⟨v, x1, x2⟩ := h.slot i d e
    exact ⟨v, x1, x2.mono k⟩
  · obtain ⟨x1, x2, x3⟩ := h.mu q (List.mem_cons_of_mem _ hq)
    have ne : q.1 ≠ a := fun z => nd.1 (List.mem_map.mpr ⟨q, hq, z⟩)
    exact ⟨by rw [upd_ne ne]; exact x1, x2, x3.mono k fun o e => e⟩
/-- a tuple that is tracked may be known -/
theorem Gr.tup {p : Addr} {xs : List V} (k : Same F H) (h : H p = some (.tup xs)) : Gr F H (upd F p (.tup xs)) H := by
  refine ⟨fun a u e => ?_, fun a u e => ?_, Same.refl H, fun a u e => ?_⟩
  · by_cases q : a = p
    · subst q
      rw [k _ _ e] at h
      cases h
      exact upd_same
    · rw [upd_ne q]
      exact e
  · by_cases q : a = p
    · subst q
      rw [upd_same] at e
      cases e
      exact h
    · rw [upd_ne q] at e
      exact k a u e
  · by_cases q : a = p
    · subst q
      rw [upd_same] at e
      cases e
      exact .inr (.inr ⟨xs, rfl⟩)
    · rw [upd_ne q] at e
      exact .inl e
end
end DL
/-! expressions that evaluate to data -/
namespace DL
open PySem L2

def Ev (C : Addr) (te : TE) (rho : List (Option D)) (mu : Mu) (R : D → Mu → Prop) : Prop :=
  ∀ (c : Cn) (ts : List (V × D)) (s : L2.St) (H : Hp) (Q : VK), Sat C c rho mu ts s H → (∀ v d mu' H', R d mu' → Sat C c rho mu' ((v, d) :: ts) s H' → Q v H') → te s H Q
def EvP (C : Addr) (te : TE) (rho : List (Option D)) (mu : Mu) (P : D → Prop) : Prop := Ev C te rho mu fun d mu' => P d ∧ mu' = mu
def EvD (C : Addr) (te : TE) (rho : List (Option D)) (mu : Mu) (d : D) : Prop := EvP C te rho mu fun d' => d' = d
/-- a new list of the def's own -/
def EvN (C : Addr) (te : TE) (rho : List (Option D)) (mu : Mu) (ds : List D) : Prop := Ev C te rho mu fun d mu' => ∃ p, d = .ptr p ∧ mu' = (p, .lst ds) :: mu
def EvR (C : Addr) (ta : TA) (rho : List (Option D)) (mu : Mu) (R : List D → Mu → Prop) : Prop :=
  ∀ (c : Cn) (ts : List (V × D)) (s : L2.St) (H : Hp) (Q : List V → Hp → Prop), Sat C c rho mu ts s H → (∀ vs ds mu' H', R ds mu' → vs.length = ds.length → Sat C c rho mu' (vs.zip ds ++ ts) s H' → Q vs H') → ta s H Q
def EvA (C : Addr) (ta : TA) (rho : List (Option D)) (mu : Mu) (ds : List D) : Prop := EvR C ta rho mu fun ds' mu' => ds' = ds ∧ mu' = mu
def Et (C : Addr) (tt : TT) (rho : List (Option D)) (mu : Mu) (R : Bool → Mu → Prop) : Prop :=
  ∀ (c : Cn) (ts : List (V × D)) (s : L2.St) (H : Hp) (Q : Bool → Hp → Prop), Sat C c rho mu ts s H → (∀ b mu' H', R b mu' → Sat C c rho mu' ts s H' → Q b H') → tt s H Q
def EtD (C : Addr) (tt : TT) (rho : List (Option D)) (mu : Mu) (b : Bool) : Prop := Et C tt rho mu fun b' mu' => b' = b ∧ mu' = mu

section
variable {C : Addr} {c : Cn} {K : PySem.W.Frag} {rho : List (Option D)} {mu : Mu} {ts : List (V × D)} {s : L2.St} {F H F' H' : Hp} {v : V} {d d1 d2 : D} {te ta tb : TE} {tt tu : TT} {ds es : List D} {R R' : D → Mu → Prop} {P : D → Prop}

theorem EvP.run (h : EvP C te rho mu P) (S : Sat C c rho mu ts s H) {Q : VK} (k : ∀ v d H', P d → Sat C c rho mu ((v, d) :: ts) s H' → Q v H') : te s H Q :=
  h c ts s H Q S fun v d mu' H' ⟨a, b⟩ q => by subst b; exact k v d H' a q
theorem EvD.run (h : EvD C te rho mu d) (S : Sat C c rho mu ts s H) {Q : VK} (k : ∀ v H', Sat C c rho mu ((v, d) :: ts) s H' → Q v H') : te s H Q :=
  EvP.run h S fun v d' H' e q => by subst e; exact k v H' q
theorem EtD.run {b : Bool} (h : EtD C tt rho mu b) (S : Sat C c rho mu ts s H) {Q : Bool → Hp → Prop} (k : ∀ H', Sat C c rho mu ts s H' → Q b H') : tt s H Q :=
  h c ts s H Q S fun b' mu' H' ⟨a, e⟩ q => by subst a; subst e; exact k H' q
theorem EvA.run {ta : TA} (h : EvA C ta rho mu ds) (S : Sat C c rho mu ts s H) {Q : List V → Hp → Prop} (k : ∀ vs H', vs.length = ds.length → Sat C c rho mu (vs.zip ds ++ ts) s H' → Q vs H') : ta s H Q :=
  h c ts s H Q S fun vs ds' mu' H' ⟨a, e⟩ l q => by subst a; subst e; exact k vs H' l q
theorem Ev.imp (h : Ev C te rho mu R) (k : ∀ d mu', R d mu' → R' d mu') : Ev C te rho mu R' := fun c ts s H Q S q => h c ts s H Q S fun v d mu' H' r => q v d mu' H' (k d mu' r)
theorem EvD.p (h : EvD C te rho mu d) (k : P d) : EvP C te rho mu P := Ev.imp h fun d' mu' ⟨a, b⟩ => ⟨by rw [a]; exact k, b⟩
theorem EvD.to (h : EvD C te rho mu d1) (e : d1 = d2) : EvD C te rho mu d2 := e ▸ h
theorem EtD.to {a b : Bool} (h : EtD C tt rho mu a) (e : a = b) : EtD C tt rho mu b := e ▸ h
theorem EvD.of (h : ∀ (c : Cn) (ts : List (V × D)) (s : L2.St) (H : Hp) (Q : VK), Sat C c rho mu ts s H → (∀ v H', Sat C c rho mu ((v, d) :: ts) s H' → Q v H') → te s H Q) : EvD C te rho mu d :=
  fun c ts s H Q S q => h c ts s H Q S fun v H' x => q v d mu H' ⟨rfl, rfl⟩ x
theorem EtD.of {b : Bool} (h : ∀ (c : Cn) (ts : List (V × D)) (s : L2.St) (H : Hp) (Q : Bool → Hp → Prop), Sat C c rho mu ts s H → (∀ H', Sat C c rho mu ts s H' → Q b H') → tt s H Q) : EtD C tt rho mu b :=
  fun c ts s H Q S q => h c ts s H Q S fun H' x => q b mu H' ⟨rfl, rfl⟩ x

theorem SatF.top (h : SatF C c rho mu ((v, d) :: ts) s F H) : DR C F v d := h.tmp (v, d) List.mem_cons_self
/-! ### names, constants -/
theorem ev_var {i : Nat} (h : rho[i]? = some (some d)) : EvD C (tVar i) rho mu d := EvD.of fun c ts s H Q ⟨F, S⟩ q => by
  obtain ⟨v, e, r⟩ := S.slot i d h
  exact ⟨v, e, q v H ⟨F, S.push r⟩⟩
theorem ev_int {i : Int} : EvD C (tC (.int i)) rho mu (.int i) := EvD.of fun c ts s H Q ⟨F, S⟩ q => q _ H ⟨F, S.push (.int i)⟩
theorem ev_bl {b : Bool} : EvD C (tC (.bl b)) rho mu (.bl b) := EvD.of fun c ts s H Q ⟨F, S⟩ q => q _ H ⟨F, S.push (.bl b)⟩
theorem ev_non : EvD C (tC .non) rho mu .non := EvD.of fun c ts s H Q ⟨F, S⟩ q => q _ H ⟨F, S.push .non⟩
theorem ev_str {x : Str} : EvD C (tC (.str x)) rho mu (.str x) := EvD.of fun c ts s H Q ⟨F, S⟩ q => q _ H ⟨F, S.push (.str x)⟩

/-! ### operations by values -/
def RD (C : Addr) (r : R2) (d1 d2 : D) (P : D → Prop) : Prop :=
  ∀ (F H : Hp) (x y : V) (Q : VK), Same F H → DR C F x d1 → DR C F y d2 → (∀ z d F' H', P d → Gr F H F' H' → DR C F' z d → Q z H') → r x y H Q
theorem ev_opP {r : R2} (ha : EvD C ta rho mu d1) (hb : EvD C tb rho mu d2) (hr : RD C r d1 d2 P) : EvP C (tOp r ta tb) rho mu P := fun c ts s H Q S q => by
  refine ha.run S fun x H1 S1 => hb.run S1 fun y H2 S2 => ?_
  obtain ⟨F, S2⟩ := S2
  refine hr F H2 x y Q S2.sub (S2.tmp (x, d1) (by simp)) (S2.tmp (y, d2) (by simp)) fun z d F' H' p g z' => ?_
  exact q z d mu H' ⟨p, rfl⟩ ⟨F', ((S2.grow g).fewer fun p hp => by simp [hp]).push z'⟩
theorem ev_op {r : R2} (ha : EvD C ta rho mu d1) (hb : EvD C tb rho mu d2) (hr : RD C r d1 d2 fun e => e = d) : EvD C (tOp r ta tb) rho mu d := ev_opP ha hb hr
theorem RD.scalar {r : R2} {z : V} (hd : ∀ F, DR C F z d) (h : ∀ (H : Hp) x y (Q : VK), DR C H x d1 → DR C H y d2 → Q z H → r x y H Q) : RD C r d1 d2 fun e => e = d := fun F H x y Q k r1 r2 q =>
  h H x y Q (r1.mono k) (r2.mono k) (q z d F H rfl (Gr.refl k) (hd F))
theorem ev_I0 {g : Int → Int → V} {i j : Int} (hz : ∀ F, DR C F (g i j) d) (ha : EvD C ta rho mu (.int i)) (hb : EvD C tb rho mu (.int j)) : EvD C (tOp (rI0 g) ta tb) rho mu d :=
  ev_op ha hb (RD.scalar hz fun H x y Q r1 r2 q => ⟨i, j, r1.int_inv, r2.int_inv, q⟩)
theorem ev_I {Cd : Int → Int → Prop} {g : Int → Int → V} {i j : Int} (hz : ∀ F, DR C F (g i j) d) (hc : Cd i j) (ha : EvD C ta rho mu (.int i)) (hb : EvD C tb rho mu (.int j)) : EvD C (tOp (rI Cd g) ta tb) rho mu d :=
  ev_op ha hb (RD.scalar hz fun H x y Q r1 r2 q => ⟨i, j, r1.int_inv, r2.int_inv, hc, q⟩)
abbrev rAddI : R2 := rI0 fun i j => .int (i + j)
abbrev rSubI : R2 := rI0 fun i j => .int (i - j)
abbrev rMulI : R2 := rI CMul fun i j => .int (i * j)
abbrev rModI : R2 := rI (fun _ j => 0 < j) fun i j => .int (i % j)
abbrev rDivI : R2 := rI CDiv fun i j => .int (i / j)
abbrev rPowI : R2 := rI CPow fun i j => .int (i ^ j.toNat)
abbrev rLtI : R2 := rI0 fun i j => .bl (decide (i < j))
abbrev rLeI : R2 := rI0 fun i j => .bl (decide (i ≤ j))
abbrev rGtI : R2 := rI0 fun i j => .bl (decide (j < i))
abbrev rGeI : R2 := rI0 fun i j => .bl (decide (j ≤ i))
theorem ev_add {i j : Int} (ha : EvD C ta rho mu (.int i)) (hb : EvD C tb rho mu (.int j)) : EvD C (tOp rAddI ta tb) rho mu (.int (i + j)) := ev_I0 (fun _ => .int _) ha hb
theorem ev_sub {i j : Int} (ha : EvD C ta rho mu (.int i)) (hb : EvD C tb rho mu (.int j)) : EvD C (tOp rSubI ta tb) rho mu (.int (i - j)) := ev_I0 (fun _ => .int _) ha hb
theorem ev_mul {i j : Int} (ha : EvD C ta rho mu (.int i)) (hb : EvD C tb rho mu (.int j)) (hc : CMul i j) : EvD C (tOp rMulI ta tb) rho mu (.int (i * j)) := ev_I (fun _ => .int _) hc ha hb
theorem ev_mod {i j : Int} (ha : EvD C ta rho mu (.int i)) (hb : EvD C tb rho mu (.int j)) (hc : 0 < j) : EvD C (tOp rModI ta tb) rho mu (.int (i % j)) := ev_I (fun _ => .int _) hc ha hb
theorem ev_div {i j : Int} (ha : EvD C ta rho mu (.int i)) (hb : EvD C tb rho mu (.int j)) (hc : CDiv i j) : EvD C (tOp rDivI ta tb) rho mu (.int (i / j)) := ev_I (fun _ => .int _) hc ha hb
theorem ev_pow {i j : Int} (ha : EvD C ta rho mu (.int i)) (hb : EvD C tb rho mu (.int j)) (hc : CPow i j) : EvD C (tOp rPowI ta tb) rho mu (.int (i ^ j.toNat)) := ev_I (fun _ => .int _) hc ha hb
theorem ev_lt {i j : Int} (ha : EvD C ta rho mu (.int i)) (hb : EvD C tb rho mu (.int j)) : EvD C (tOp rLtI ta tb) rho mu (.bl (decide (i < j))) := ev_I0 (fun _ => .bl _) ha hb
theorem ev_le {i j : Int} (ha : EvD C ta rho mu (.int i)) (hb : EvD C tb rho mu (.int j)) : EvD C (tOp rLeI ta tb) rho mu (.bl (decide (i ≤ j))) := ev_I0 (fun _ => .bl _) ha hb
theorem ev_gt {i j : Int} (ha : EvD C ta rho mu (.int i)) (hb : EvD C tb rho mu (.int j)) : EvD C (tOp rGtI ta tb) rho mu (.bl (decide (j < i))) := ev_I0 (fun _ => .bl _) ha hb
theorem ev_ge {i j : Int} (ha : EvD C ta rho mu (.int i)) (hb : EvD C tb rho mu (.int j)) : EvD C (tOp rGeI ta tb) rho mu (.bl (decide (j ≤ i))) := ev_I0 (fun _ => .bl _) ha hb
theorem ev_neg {i : Int} (ha : EvD C ta rho mu (.int i)) : EvD C (tUn (rU fun i => .int (-i)) ta) rho mu (.int (-i)) := EvD.of fun c ts s H Q S q => ha.run S fun v H1 S1 => by
  obtain ⟨F, S1⟩ := S1
  exact ⟨i, (S1.tmp (v, .int i) (by simp)).int_inv, q _ H1 ⟨F, (S1.fewer fun p hp => by simp [hp]).push (.int _)⟩⟩
abbrev rIsNn : R2 := fun x y H Q => y = .non ∧ Q (.bl (decide (x = .non))) H
abbrev rNotNn : R2 := fun x y H Q => y = .non ∧ Q (.bl (!decide (x = .non))) H
def isNon : D → Bool
  | .non => true
  | _ => false
theorem DR.isNon (h : DR C F v d) : decide (v = .non) = isNon d := by cases h <;> rfl
theorem ev_notN (ha : EvD C ta rho mu d) (hb : EvD C tb rho mu .non) : EvD C (tOp rNotNn ta tb) rho mu (.bl (!isNon d)) :=
  ev_op ha hb (RD.scalar (z := .bl (!isNon d)) (fun _ => .bl _) fun H x y Q r1 r2 q => ⟨r2.non_inv, by rw [r1.isNon]; exact q⟩)

/-! ### subscripts -/
theorem ix_same {α β : Type} {xs : List α} {ds : List β} (h : xs.length = ds.length) (i : Int) : ixN xs.length i = ixN ds.length i := by rw [h]
theorem DRs.at {xs : List V} {i : Int} (h : DRs C F xs ds) (hd : atI ds i = some d) : ∃ v, atI xs i = some v ∧ DR C F v d := by
  unfold atI at hd ⊢
  rw [h.1]
  cases q : ixN ds.length i with
  | none => rw [q] at hd; cases hd
  | some j =>
    rw [q] at hd
    obtain ⟨v, a, b⟩ := h.get (i := j) (by simpa using hd)
    exact ⟨v, by simpa using a, b⟩
theorem ev_ixT {i : Int} (ha : EvD C ta rho mu (.tup ds)) (hb : EvD C tb rho mu (.int i)) (hd : atI ds i = some d) : EvD C (tOp (rIx K) ta tb) rho mu d :=
  ev_op ha hb fun F H x y Q k r1 r2 q => by
    obtain ⟨a, xs, e, hx, hs⟩ := r1.tup_inv
    obtain ⟨v, e1, r⟩ := hs.at hd
    exact .inr (.inl ⟨a, xs, i, v, e, r2.int_inv, SqT.of (k _ _ hx), e1, q v d F H rfl (Gr.refl k) r⟩)
theorem ev_ixL {i : Int} (ha : EvD C ta rho mu (.lst ds)) (hb : EvD C tb rho mu (.int i)) (hd : atI ds i = some d) : EvD C (tOp (rIx K) ta tb) rho mu d :=
  ev_op ha hb fun F H x y Q k r1 r2 q => by
    obtain ⟨a, xs, e, hx, hs⟩ := r1.lst_inv
    obtain ⟨v, e1, r⟩ := hs.at hd
    exact .inl ⟨a, xs, i, v, e, r2.int_inv, SqL.of (k _ _ hx), e1, q v d F H rfl (Gr.refl k) r⟩
/-- of an own list -/
theorem ev_ixO {i : Int} {a : Addr} (ha : EvD C ta rho mu (.ptr a)) (hb : EvD C tb rho mu (.int i)) (hm : (a, MO.lst ds) ∈ mu) (hd : atI ds i = some d) : EvD C (tOp (rIx K) ta tb) rho mu d := EvD.of fun c ts s H Q S q => by
  refine ha.run S fun x H1 S1 => hb.run S1 fun y H2 S2 => ?_
  obtain ⟨F, S2⟩ := S2
  obtain ⟨_, _, xs, hx, hs⟩ := S2.mu _ hm
  obtain ⟨v, e1, r⟩ := hs.at hd
  exact .inl ⟨a, xs, i, v, (S2.tmp (x, .ptr a) (by simp)).ptr_inv, (S2.tmp (y, .int i) (by simp)).int_inv, SqL.of hx, e1, q v H2 ⟨F, (S2.fewer fun p hp => by simp [hp]).push r⟩⟩
theorem at_nat {α : Type} {xs : List α} {n : Nat} {x : α} (h : xs[n]? = some x) : atI xs (n : Int) = some x := atI_nat h

/-! ### fields of a machine -/
theorem ev_commands {k : Nat} {S : List (List Nat)} (hC : Cls K C) (hn : NoAttr K C "commands") (ha : EvD C ta rho mu (.mach k S)) : EvD C (tFld K ta "commands") rho mu (.int k) := EvD.of fun c ts s H Q S0 q => ha.run S0 fun v H1 S1 => by
  obtain ⟨F, S1⟩ := S1
  have r := S1.tmp (v, .mach k S) (by simp)
  cases r with
  | mach h1 h2 h3 h4 h5 => exact ⟨_, C, _, _, _, rfl, S1.sub _ _ h1, hC, hn, h2, q _ H1 ⟨F, (S1.fewer fun p hp => by simp [hp]).push (.int _)⟩⟩
theorem ev_states {k : Nat} {S : List (List Nat)} (hC : Cls K C) (hn : NoAttr K C "states") (ha : EvD C ta rho mu (.mach k S)) : EvD C (tFld K ta "states") rho mu (.int S.length) := EvD.of fun c ts s H Q S0 q => ha.run S0 fun v H1 S1 => by
  obtain ⟨F, S1⟩ := S1
  have r := S1.tmp (v, .mach k S) (by simp)
  cases r with
  | mach h1 h2 h3 h4 h5 => exact ⟨_, C, _, _, _, rfl, S1.sub _ _ h1, hC, hn, h3, q _ H1 ⟨F, (S1.fewer fun p hp => by simp [hp]).push (.int _)⟩⟩
theorem ev_steps {k : Nat} {S : List (List Nat)} (hC : Cls K C) (hn : NoAttr K C "steps") (ha : EvD C ta rho mu (.mach k S)) : EvD C (tFld K ta "steps") rho mu (matT S) := EvD.of fun c ts s H Q S0 q => ha.run S0 fun v H1 S1 => by
  obtain ⟨F, S1⟩ := S1
  have r := S1.tmp (v, .mach k S) (by simp)
  cases r with
  | mach h1 h2 h3 h4 h5 => exact ⟨_, C, _, _, _, rfl, S1.sub _ _ h1, hC, hn, h4, q _ H1 ⟨F, (S1.fewer fun p hp => by simp [hp]).push h5⟩⟩

/-! ### arguments, displays -/
theorem ea_nil : EvA C tNil rho mu [] := fun c ts s H Q S q => q [] [] mu H ⟨rfl, rfl⟩ rfl S
theorem er_cons {tr : TA} {R1 : D → Mu → Prop} {R2 : D → List D → Mu → Prop} (h : Ev C te rho mu R1) (hr : ∀ d mu1, R1 d mu1 → EvR C tr rho mu1 (R2 d)) : EvR C (tCons te tr) rho mu fun es mu' => ∃ d ds mu1, es = d :: ds ∧ R1 d mu1 ∧ R2 d ds mu' := fun c ts s H Q S q => by
  refine h c ts s H _ S fun v d mu1 H1 r S1 => hr d mu1 r c _ s H1 _ S1 fun vs ds mu2 H2 r2 l S2 => ?_
  refine q (v :: vs) (d :: ds) mu2 H2 ⟨d, ds, mu1, rfl, r, r2⟩ (by simp [l]) (S2.fewer fun p hp => ?_)
  simp only [List.zip_cons_cons, List.cons_append, List.mem_cons, List.mem_append] at hp ⊢
  rcases hp with h | h | h
  · exact .inr (.inl h)
  · exact .inl h
  · exact .inr (.inr h)
theorem ea_cons {tr : TA} (h : EvD C te rho mu d) (hr : EvA C tr rho mu ds) : EvA C (tCons te tr) rho mu (d :: ds) := fun c ts s H Q S q =>
  er_cons (R1 := fun d' mu' => d' = d ∧ mu' = mu) (R2 := fun _ ds' mu' => ds' = ds ∧ mu' = mu) h (fun d' mu1 ⟨_, e⟩ => by subst e; exact hr) c ts s H Q S fun vs es mu' H' ⟨d', ds', mu1, e, ⟨e1, e2⟩, e3, e4⟩ l S' => by
    subst e1; subst e3
    exact q vs es mu' H' ⟨e, e4⟩ l S'
theorem zip_drs {vs : List V} {ts : List (V × D)} (l : vs.length = ds.length) (h : ∀ p ∈ vs.zip ds ++ ts, DR C F p.1 p.2) : DRs C F vs ds := by
  refine ⟨l, fun i v d a b => h (v, d) (List.mem_append_left _ ?_)⟩
  exact List.mem_of_getElem? (i := i) (by rw [List.getElem?_zip_eq_some]; exact ⟨a, b⟩)
theorem er_tup {ta : TA} {Ra : List D → Mu → Prop} (h : EvR C ta rho mu Ra) (hl : ∀ ds mu', Ra ds mu' → ds.length ≤ 100000) : Ev C (tTup ta) rho mu fun d mu' => ∃ ds, d = .tup ds ∧ Ra ds mu' := fun c ts s H Q S q => by
  refine h c ts s H _ S fun vs ds mu' H' r l S' => ⟨?_, fun p hp => ?_⟩
  · rw [l]
    exact Nat.le_trans (hl ds mu' r) (by rw [sizeLine_eq]; decide)
  · obtain ⟨F, S'⟩ := S'
    have z : DRs C F vs ds := zip_drs l S'.tmp
    have g := Gr.alloc (o := .tup vs) S'.sub hp
    exact q _ (.tup ds) mu' _ ⟨ds, rfl, r⟩ ⟨upd F p (.tup vs), ((S'.grow g).fewer fun p hp => by simp [hp]).push (.tup upd_same z.1 fun i v d a b => (z.2 i v d a b).mono g.ex)⟩
theorem ev_tup {ta : TA} (h : EvA C ta rho mu ds) (hl : ds.length ≤ 100000 := by simp) : EvD C (tTup ta) rho mu (.tup ds) := Ev.imp (er_tup h fun ds' mu' ⟨e, _⟩ => by rw [e]; exact hl) fun d mu' ⟨ds', e, e1, e2⟩ => ⟨by rw [e, e1], e2⟩
theorem el_lst {ta : TA} (h : EvA C ta rho mu ds) (hl : ds.length ≤ 100000 := by simp) : EvN C (tLst ta) rho mu ds := fun c ts s H Q S q => by
  refine h.run S fun vs H' l S' => ⟨?_, fun p hp => ?_⟩
  · rw [l]
    exact Nat.le_trans hl (by rw [sizeLine_eq]; decide)
  · obtain ⟨F, S'⟩ := S'
    have z : DRs C F vs ds := zip_drs l S'.tmp
    exact q _ (.ptr p) _ _ ⟨p, rfl, rfl⟩ ⟨F, (S'.own (m := .lst ds) hp ⟨vs, upd_same, z⟩).fewer fun q hq => by
      simp only [List.mem_cons, List.mem_append] at hq ⊢
      rcases hq with h | h
      · exact .inl h
      · exact .inr (.inr h)⟩
theorem SatF.letgo {a : Addr} (h : SatF C c rho ((a, .lst ds) :: mu) ((.ref a, .ptr a) :: ts) s F H) : Sat C c rho mu ((.ref a, .lst ds) :: ts) s H := by
  obtain ⟨xs, hd, hx, S⟩ := h.freeze
  have fa : F a = none := (h.mu (a, .lst ds) List.mem_cons_self).1
  exact ⟨_, (S.fewer fun p hp => by simp [hp]).push (.lst upd_same hd.1 fun i v d x y => (hd.2 i v d x y).mono (Same.new fa))⟩
theorem EvN.ev (h : EvN C te rho mu ds) : EvD C te rho mu (.lst ds) := EvD.of fun c ts s H Q S q => h c ts s H Q S fun v d mu' H' ⟨p, e1, e2⟩ ⟨F, S'⟩ => by
  subst e1; subst e2
  have e := (S'.tmp (v, .ptr p) (by simp)).ptr_inv
  subst e
  exact q _ H' S'.letgo
theorem EvN.to {ds' : List D} (h : EvN C te rho mu ds) (e : ds = ds') : EvN C te rho mu ds' := e ▸ h
theorem ev_lst {ta : TA} (h : EvA C ta rho mu ds) (hl : ds.length ≤ 100000 := by simp) : EvD C (tLst ta) rho mu (.lst ds) := EvN.ev (el_lst h hl)

/-! ### calls -/
/-- a def upon data: from x the arguments, what it asks, what its answer is -/
def spF (C : Addr) {T : Type} (args : T → List D) (pre : T → Prop) (res : T → D → Prop) : Sp := fun vs H Q _ => ∃ F x, Same F H ∧ DRs C F vs (args x) ∧ pre x ∧ ∀ v d F' H', Gr F H F' H' → res x d → DR C F' v d → Q v H'
theorem ev_callP {T : Type} {args : T → List D} {pre : T → Prop} {res : T → D → Prop} {E : XK} {ta : TA} (x : T) (h : EvA C ta rho mu (args x)) (hp : pre x) : EvP C (tCall (spF C args pre res) [] E ta) rho mu (res x) := fun c ts s H Q S q => by
  refine h.run S fun vs H1 l S1 => ?_
  obtain ⟨F, S1⟩ := S1
  rw [List.append_nil]
  exact ⟨F, x, S1.sub, zip_drs l S1.tmp, hp, fun v d F' H' g r z => q v d mu H' ⟨r, rfl⟩ ⟨F', ((S1.grow g).fewer fun p hp => by simp [hp]).push z⟩⟩
theorem ev_call {T : Type} {args : T → List D} {pre : T → Prop} {f : T → D} {E : XK} {ta : TA} (x : T) (h : EvA C ta rho mu (args x)) (hp : pre x) : EvD C (tCall (spF C args pre fun x d => d = f x) [] E ta) rho mu (f x) := ev_callP x h hp

/-! ### built-ins -/
abbrev rLen (K : PySem.W.Frag) : List V → Hp → VK → Prop := fun xs H Q => ∃ p ys, xs = [.ref p] ∧ (SqL K H p ys ∨ SqT K H p ys) ∧ Q (.int ys.length) H
theorem ev_lenT (ha : EvD C ta rho mu (.tup ds)) : EvD C (tCB (rLen K) (tCons ta tNil)) rho mu (nat ds.length) := EvD.of fun c ts s H Q S q => ha.run S fun v H1 S1 => by
  obtain ⟨F, S1⟩ := S1
  obtain ⟨a, xs, e, hx, hs⟩ := S1.top.tup_inv
  exact ⟨a, xs, by rw [e], .inr (SqT.of (S1.sub _ _ hx)), q _ H1 ⟨F, (S1.fewer fun p hp => by simp [hp]).push (by rw [hs.1]; exact .int _)⟩⟩
theorem ev_lenL (ha : EvD C ta rho mu (.lst ds)) : EvD C (tCB (rLen K) (tCons ta tNil)) rho mu (nat ds.length) := EvD.of fun c ts s H Q S q => ha.run S fun v H1 S1 => by
  obtain ⟨F, S1⟩ := S1
  obtain ⟨a, xs, e, hx, hs⟩ := S1.top.lst_inv
  exact ⟨a, xs, by rw [e], .inl (SqL.of (S1.sub _ _ hx)), q _ H1 ⟨F, (S1.fewer fun p hp => by simp [hp]).push (by rw [hs.1]; exact .int _)⟩⟩
theorem ev_lenO {a : Addr} (ha : EvD C ta rho mu (.ptr a)) (hm : (a, MO.lst ds) ∈ mu) : EvD C (tCB (rLen K) (tCons ta tNil)) rho mu (nat ds.length) := EvD.of fun c ts s H Q S q => ha.run S fun v H1 S1 => by
  obtain ⟨F, S1⟩ := S1
  obtain ⟨_, _, xs, hx, hs⟩ := S1.mu _ hm
  exact ⟨a, xs, by rw [S1.top.ptr_inv], .inl (SqL.of hx), q _ H1 ⟨F, (S1.fewer fun p hp => by simp [hp]).push (by rw [hs.1]; exact .int _)⟩⟩
/-- a call whose answer is a scalar of scalars -/
theorem ev_cb {r : List V → Hp → VK → Prop} {ta : TA} {z : V} (ha : EvA C ta rho mu ds) (hd : ∀ F, DR C F z d) (h : ∀ (F H : Hp) (vs : List V) (Q : VK), Same F H → DRs C F vs ds → Q z H → r vs H Q) : EvD C (tCB r ta) rho mu d := EvD.of fun c ts s H Q S q => ha.run S fun vs H1 l S1 => by
  obtain ⟨F, S1⟩ := S1
  exact h F H1 vs Q S1.sub (zip_drs l S1.tmp) (q z H1 ⟨F, (S1.fewer fun p hp => by simp [hp]).push (hd F)⟩)
abbrev rMin2 : List V → Hp → VK → Prop := fun xs H Q => ∃ i j, xs = [.int i, .int j] ∧ Q (.int (if j < i then j else i)) H
theorem ev_min2 {i j : Int} (ha : EvD C ta rho mu (.int i)) (hb : EvD C tb rho mu (.int j)) : EvD C (tCB rMin2 (tCons ta (tCons tb tNil))) rho mu (.int (if j < i then j else i)) :=
  ev_cb (ea_cons ha (ea_cons hb ea_nil)) (fun _ => .int _) fun F H vs Q k r q => ⟨i, j, DRs.ints_inv (ns := [i, j]) r, q⟩
abbrev rInt1 : List V → Hp → VK → Prop := fun xs H Q => (∃ i, xs = [.int i] ∧ Q (.int i) H) ∨ ∃ k, xs = [.bl k] ∧ Q (.int (if k then 1 else 0)) H
theorem ev_int1 {i : Int} (ha : EvD C ta rho mu (.int i)) : EvD C (tCB rInt1 (tCons ta tNil)) rho mu (.int i) :=
  ev_cb (ea_cons ha ea_nil) (fun _ => .int _) fun F H vs Q k r q => .inl ⟨i, DRs.ints_inv (ns := [i]) r, q⟩
abbrev rAbs1 : List V → Hp → VK → Prop := fun xs H Q => ∃ i, xs = [.int i] ∧ Q (.int (if i < 0 then -i else i)) H
theorem ev_abs1 {i : Int} (ha : EvD C ta rho mu (.int i)) : EvD C (tCB rAbs1 (tCons ta tNil)) rho mu (.int (if i < 0 then -i else i)) :=
  ev_cb (ea_cons ha ea_nil) (fun _ => .int _) fun F H vs Q k r q => ⟨i, DRs.ints_inv (ns := [i]) r, q⟩

/-! ### tests -/
theorem et_test {b : Bool} (h : EvD C te rho mu (.bl b)) : EtD C (tTest te) rho mu b := EtD.of fun c ts s H Q S q => h.run S fun v H1 S1 => by
  obtain ⟨F, S2⟩ := id S1
  exact ⟨b, (S2.tmp (v, .bl b) (by simp)).bl_inv, q H1 S1.pop⟩
theorem et_B {b : Bool} (h : EvD C te rho mu (.bl b)) : EtD C (tB te) rho mu b := et_test h
theorem et_not {b : Bool} (h : EtD C tt rho mu b) : EtD C (tNot tt) rho mu (!b) := EtD.of fun c ts s H Q S q => h.run S fun H1 S1 => q H1 S1
theorem et_and {a b : Bool} (h : EtD C tt rho mu a) (k : a = true → EtD C tu rho mu b) : EtD C (tAnd tt tu) rho mu (a && b) := EtD.of fun c ts s H Q S q => h.run S fun H1 S1 => by
  cases a with
  | true =>
    rw [if_pos rfl]
    exact (k rfl).run S1 q
  | false =>
    rw [if_neg Bool.false_ne_true]
    exact q H1 S1
theorem et_or {a b : Bool} (h : EtD C tt rho mu a) (k : a = false → EtD C tu rho mu b) : EtD C (tOr tt tu) rho mu (a || b) := EtD.of fun c ts s H Q S q => h.run S fun H1 S1 => by
  cases a with
  | false =>
    rw [if_neg Bool.false_ne_true]
    exact (k rfl).run S1 q
  | true =>
    rw [if_pos rfl]
    exact q H1 S1
theorem ev_if {b : Bool} (h : EtD C tt rho mu b) (h1 : b = true → Ev C ta rho mu R) (h2 : b = false → Ev C tb rho mu R) : Ev C (tIf tt ta tb) rho mu R := fun c ts s H Q S q => h.run S fun H1 S1 => by
  cases b with
  | true =>
    rw [if_pos rfl]
    exact h1 rfl c ts s H1 Q S1 q
  | false =>
    rw [if_neg Bool.false_ne_true]
    exact h2 rfl c ts s H1 Q S1 q
theorem ev_ifD {b : Bool} (h : EtD C tt rho mu b) (h1 : b = true → EvD C ta rho mu d) (h2 : b = false → EvD C tb rho mu d) : EvD C (tIf tt ta tb) rho mu d := ev_if h h1 h2
theorem ev_andV {a b : Bool} (h : EvD C ta rho mu (.bl a)) (k : a = true → EvD C tb rho mu (.bl b)) : EvD C (tAndV ta tb) rho mu (.bl (a && b)) := EvD.of fun c ts s H Q S q => h.run S fun v H1 S1 => by
  obtain ⟨F, S2⟩ := id S1
  refine ⟨a, (S2.tmp (v, .bl a) (by simp)).bl_inv, ?_⟩
  cases a with
  | true =>
    rw [if_pos rfl]
    exact (k rfl).run S1.pop q
  | false =>
    rw [if_neg Bool.false_ne_true]
    exact q _ H1 ⟨F, (S2.fewer fun p hp => by simp [hp]).push (.bl _)⟩
theorem ev_orV {a b : Bool} (h : EvD C ta rho mu (.bl a)) (k : a = false → EvD C tb rho mu (.bl b)) : EvD C (tOrV ta tb) rho mu (.bl (a || b)) := EvD.of fun c ts s H Q S q => h.run S fun v H1 S1 => by
  obtain ⟨F, S2⟩ := id S1
  refine ⟨a, (S2.tmp (v, .bl a) (by simp)).bl_inv, ?_⟩
  cases a with
  | false =>
    rw [if_neg Bool.false_ne_true]
    exact (k rfl).run S1.pop q
  | true =>
    rw [if_pos rfl]
    exact q _ H1 ⟨F, (S2.fewer fun p hp => by simp [hp]).push (.bl _)⟩
theorem ev_notV {a : Bool} (h : EvD C ta rho mu (.bl a)) : EvD C (tNotV ta) rho mu (.bl (!a)) := EvD.of fun c ts s H Q S q => h.run S fun v H1 S1 => by
  obtain ⟨F, S2⟩ := id S1
  exact ⟨a, (S2.tmp (v, .bl a) (by simp)).bl_inv, q _ H1 ⟨F, (S2.fewer fun p hp => by simp [hp]).push (.bl _)⟩⟩
/-- a < b < c of ints -/
theorem ev_chainI {p q : Int → Int → Bool} {i j k : Int} {tc : TE} (ha : EvD C ta rho mu (.int i)) (hb : EvD C tb rho mu (.int j)) (hc : EvD C tc rho mu (.int k)) :
    EvD C (tChain (rI0 fun i j => .bl (p i j)) (rI0 fun i j => .bl (q i j)) ta tb tc) rho mu (.bl (p i j && q j k)) := EvD.of fun c ts s H Q S z => ha.run S fun x H1 S1 => hb.run S1 fun y H2 S2 => by
  obtain ⟨F, S3⟩ := id S2
  refine ⟨i, j, (S3.tmp (x, .int i) (by simp)).int_inv, (S3.tmp (y, .int j) (by simp)).int_inv, p i j, rfl, ?_⟩
  cases e : p i j with
  | true =>
    rw [if_pos rfl]
    refine hc.run S2 fun w H3 S4 => ?_
    obtain ⟨F4, S5⟩ := id S4
    refine ⟨j, k, (S5.tmp (y, .int j) (by simp)).int_inv, (S5.tmp (w, .int k) (by simp)).int_inv, ?_⟩
    rw [e, Bool.true_and] at z
    exact z _ H3 ⟨F4, (S5.fewer fun p hp => by simp [hp]).push (.bl _)⟩
  | false =>
    rw [if_neg Bool.false_ne_true]
    rw [e, Bool.false_and] at z
    exact z _ H2 ⟨F, (S3.fewer fun p hp => by simp [hp]).push (.bl _)⟩
end
end DL
/-! statements, loops, comprehensions -/
namespace DL
open PySem L2

section
variable {C : Addr} {c : Cn} {K : PySem.W.Frag} {rho rho' : List (Option D)} {mu mu' : Mu} {ts : List (V × D)} {s s' : L2.St} {F H F' H' : Hp} {v : V} {d d1 d2 : D} {te ta tb tv : TE} {tt : TT} {ds es : List D} {R R' : D → Mu → Prop} {E : Ends} {t u w : TS}
theorem Sat.store {i : Nat} (h : Sat C c rho mu ((v, d) :: ts) s H) : Sat C c (rho.set i (some d)) mu ts (s.set i (some v)) H := by
  obtain ⟨F, h⟩ := h
  exact ⟨F, (h.store h.top).fewer fun p hp => by simp [hp]⟩
theorem Sat.left {tx : List (V × D)} (h : Sat C c rho mu (tx ++ ts) s H) : Sat C c rho mu ts s H := h.fewer fun p hp => List.mem_append_right _ hp

/-! ### statements -/
theorem s_asg {i : Nat} (h : Ev C te rho mu R) (S : Sat C c rho mu ts s H) (k : ∀ d mu' s' H', R d mu' → Sat C c (rho.set i (some d)) mu' ts s' H' → E.nx s' H') : tAsg te (gName i) E s H :=
  h c ts s H _ S fun v d mu' H' r S' => k d mu' _ H' r S'.store
theorem q_asg {i : Nat} (h : Ev C te rho mu R) (S : Sat C c rho mu ts s H) (k : ∀ d mu' s' H', R d mu' → Sat C c (rho.set i (some d)) mu' ts s' H' → u E s' H') : tSeq (tAsg te (gName i)) u E s H := s_asg (E := { E with nx := u E }) h S k
theorem s_asgD {i : Nat} (h : EvD C te rho mu d) (S : Sat C c rho mu ts s H) (k : ∀ s' H', Sat C c (rho.set i (some d)) mu ts s' H' → E.nx s' H') : tAsg te (gName i) E s H :=
  s_asg h S fun d' mu' s' H' ⟨a, b⟩ S' => by subst a; subst b; exact k s' H' S'
theorem q_asgD {i : Nat} (h : EvD C te rho mu d) (S : Sat C c rho mu ts s H) (k : ∀ s' H', Sat C c (rho.set i (some d)) mu ts s' H' → u E s' H') : tSeq (tAsg te (gName i)) u E s H := s_asgD (E := { E with nx := u E }) h S k
theorem s_asgP {i : Nat} {P : D → Prop} (h : EvP C te rho mu P) (S : Sat C c rho mu ts s H) (k : ∀ d s' H', P d → Sat C c (rho.set i (some d)) mu ts s' H' → E.nx s' H') : tAsg te (gName i) E s H :=
  s_asg h S fun d' mu' s' H' ⟨a, b⟩ S' => by subst b; exact k d' s' H' a S'
theorem q_asgP {i : Nat} {P : D → Prop} (h : EvP C te rho mu P) (S : Sat C c rho mu ts s H) (k : ∀ d s' H', P d → Sat C c (rho.set i (some d)) mu ts s' H' → u E s' H') : tSeq (tAsg te (gName i)) u E s H := s_asgP (E := { E with nx := u E }) h S k
/-- a new list that the def keeps for itself -/
theorem q_asgN {i : Nat} (h : EvN C te rho mu ds) (S : Sat C c rho mu ts s H) (k : ∀ p s' H', Sat C c (rho.set i (some (.ptr p))) ((p, .lst ds) :: mu) ts s' H' → u E s' H') : tSeq (tAsg te (gName i)) u E s H :=
  q_asg h S fun d mu' s' H' ⟨p, a, b⟩ S' => by subst a; subst b; exact k p s' H' S'
theorem s_drop (h : Ev C te rho mu R) (S : Sat C c rho mu ts s H) (k : ∀ d mu' H', R d mu' → Sat C c rho mu' ts s H' → E.nx s H') : tDrop te E s H := h c ts s H _ S fun v d mu' H' r S' => k d mu' H' r S'.pop
theorem q_drop (h : Ev C te rho mu R) (S : Sat C c rho mu ts s H) (k : ∀ d mu' H', R d mu' → Sat C c rho mu' ts s H' → u E s H') : tSeq (tDrop te) u E s H := s_drop (E := { E with nx := u E }) h S k
theorem s_ret (h : Ev C te rho mu R) (S : Sat C c rho mu ts s H) (k : ∀ v d mu' H', R d mu' → Sat C c rho mu' ((v, d) :: ts) s H' → E.rt v H') : tRet te E s H := h c ts s H _ S k
theorem s_if {Rb : Bool → Mu → Prop} (h : Et C tt rho mu Rb) (S : Sat C c rho mu ts s H) (k1 : ∀ mu' H', Rb true mu' → Sat C c rho mu' ts s H' → t E s H') (k2 : ∀ mu' H', Rb false mu' → Sat C c rho mu' ts s H' → w E s H') : tIfS tt t w E s H :=
  h c ts s H _ S fun b mu' H' r S' => by
    cases b with
    | true => rw [if_pos rfl]; exact k1 mu' H' r S'
    | false => rw [if_neg Bool.false_ne_true]; exact k2 mu' H' r S'
theorem s_ifD {b : Bool} (h : EtD C tt rho mu b) (S : Sat C c rho mu ts s H) (k1 : b = true → ∀ H', Sat C c rho mu ts s H' → t E s H') (k2 : b = false → ∀ H', Sat C c rho mu ts s H' → w E s H') : tIfS tt t w E s H :=
  s_if h S (fun mu' H' ⟨a, e⟩ S' => by subst e; exact k1 a.symm H' S') fun mu' H' ⟨a, e⟩ S' => by subst e; exact k2 a.symm H' S'
theorem q_ifD {b : Bool} (h : EtD C tt rho mu b) (S : Sat C c rho mu ts s H) (k1 : b = true → ∀ H', Sat C c rho mu ts s H' → t { E with nx := u E } s H') (k2 : b = false → ∀ H', Sat C c rho mu ts s H' → w { E with nx := u E } s H') : tSeq (tIfS tt t w) u E s H := s_ifD (E := { E with nx := u E }) h S k1 k2
theorem q_if {Rb : Bool → Mu → Prop} (h : Et C tt rho mu Rb) (S : Sat C c rho mu ts s H) (k1 : ∀ mu' H', Rb true mu' → Sat C c rho mu' ts s H' → t { E with nx := u E } s H') (k2 : ∀ mu' H', Rb false mu' → Sat C c rho mu' ts s H' → w { E with nx := u E } s H') : tSeq (tIfS tt t w) u E s H := s_if (E := { E with nx := u E }) h S k1 k2
/-- an if without else, its suite left for good -/
theorem q_when {b : Bool} (h : EtD C tt rho mu b) (S : Sat C c rho mu ts s H) (k1 : b = true → ∀ H', Sat C c rho mu ts s H' → t { E with nx := u E } s H') (k2 : b = false → ∀ H', Sat C c rho mu ts s H' → u E s H') : tSeq (tIfS tt t tNext) u E s H := q_ifD h S k1 k2
/-- a, b = x, y of the def's own names -/
theorem q_par {i j : Nat} {ta : TA} {Ra : List D → Mu → Prop} (h : EvR C ta rho mu Ra) (S : Sat C c rho mu ts s H) (hl : ∀ ds mu', Ra ds mu' → ∃ d1 d2, ds = [d1, d2]) (k : ∀ d1 d2 mu' s' H', Ra [d1, d2] mu' → Sat C c ((rho.set i (some d1)).set j (some d2)) mu' ts s' H' → u E s' H') : tSeq (tPar i j ta) u E s H :=
  h c ts s H _ S fun vs ds mu' H' r l S' => by
    obtain ⟨d1, d2, e⟩ := hl ds mu' r
    subst e
    match vs, l with
    | [x, y], _ =>
      refine ⟨x, y, rfl, k d1 d2 mu' _ H' r ?_⟩
      exact Sat.store (Sat.fewer (Sat.store S') fun p hp => hp)
theorem q_parD {i j : Nat} {ta : TA} (h : EvA C ta rho mu [d1, d2]) (S : Sat C c rho mu ts s H) (k : ∀ s' H', Sat C c ((rho.set i (some d1)).set j (some d2)) mu ts s' H' → u E s' H') : tSeq (tPar i j ta) u E s H :=
  q_par h S (fun ds mu' ⟨e, _⟩ => ⟨d1, d2, e⟩) fun a b mu' s' H' ⟨e1, e2⟩ S' => by
    subst e2
    have e : a = d1 ∧ b = d2 := by simpa using e1
    rw [e.1, e.2] at S'
    exact k s' H' S'

/-! ### own objects -/
theorem put_at {mu : Mu} : ∀ {k : Nat} {a : Addr} {m m' : MO}, (mu.map (·.1)).Nodup → mu[k]? = some (a, m) → put mu a m' = mu.set k (a, m') := by
  induction mu with
  | nil => intro k a m m' _ h; simp at h
  | cons x xs ih =>
    intro k a m m' nd h
    rw [List.map_cons, List.nodup_cons] at nd
    cases k with
    | zero =>
      have e : x = (a, m) := by simpa using h
      subst e
      show (if a = a then (a, m') else (a, m)) :: put xs a m' = (a, m') :: xs
      rw [if_pos rfl]
      congr 1
      unfold put
      conv => rhs; rw [← List.map_id xs]
      refine List.map_congr_left fun p hp => ?_
      rw [if_neg]
      · rfl
      · intro z
        exact nd.1 (List.mem_map.mpr ⟨p, hp, z⟩)
    | succ k =>
      have h' : xs[k]? = some (a, m) := by simpa using h
      show (if x.1 = a then (a, m') else x) :: put xs a m' = x :: xs.set k (a, m')
      rw [if_neg, ih nd.2 h']
      intro z
      exact nd.1 (List.mem_map.mpr ⟨(a, m), List.mem_of_getElem? h', z.symm⟩)
theorem SatF.changeAt {k : Nat} {a : Addr} {o : HO} {m m' : MO} (h : SatF C c rho mu ts s F H) (hm : mu[k]? = some (a, m)) (ho : Own c a m → Own c a m') (hk : MOk C F (upd H a o) a m') : SatF C c rho (mu.set k (a, m')) ts s F (upd H a o) := by
  rw [← put_at (m' := m') h.nd hm]
  exact h.change (List.mem_of_getElem? hm) ho hk
/-- xs.append(e) upon an own list -/
theorem s_appR (k : Nat) {a : Addr} {ds0 : List D} (ho : EvD C ta rho mu (.ptr a)) (hm : (a, MO.lst ds0) ∈ mu) (h : Ev C te rho mu R) (S : Sat C c rho mu ts s H) (hk : ∀ d mu', R d mu' → ∃ ds, mu'[k]? = some (a, .lst ds) ∧ ds.length < 100000)
    (q : ∀ d mu' ds H', R d mu' → mu'[k]? = some (a, .lst ds) → Sat C c rho (mu'.set k (a, .lst (ds ++ [d]))) ts s H' → E.nx s H') : tDrop (tBM K "list" rAppend ta (tCons te tNil)) E s H := by
  refine ho.run S fun x H1 S1 => ?_
  obtain ⟨F1, T1⟩ := id S1
  have ex := T1.top.ptr_inv
  subst ex
  obtain ⟨_, _, xs0, hx0, _⟩ := T1.mu _ hm
  refine ⟨.inl ⟨rfl, xs0, SqL.of hx0⟩, h c _ s H1 _ S1 fun v d mu' H2 r S2 => ?_⟩
  obtain ⟨ds, e1, e2⟩ := hk d mu' r
  obtain ⟨F2, T2⟩ := S2
  obtain ⟨_, _, xs, hx, hs⟩ := T2.mu _ (List.mem_of_getElem? e1)
  refine ⟨a, xs, v, rfl, rfl, hx, ?_, q d mu' ds _ r e1 ⟨F2, (T2.changeAt (m' := .lst (ds ++ [d])) e1 id ⟨xs ++ [v], upd_same, hs.app (.one T2.top)⟩).fewer fun p hp => by simp [hp]⟩⟩
  rw [hs.1]
  exact Nat.lt_of_lt_of_le e2 (by rw [sizeLine_eq]; decide)
theorem s_app (k : Nat) {a : Addr} {P : D → Prop} (ho : EvD C ta rho mu (.ptr a)) (h : EvP C te rho mu P) (hk : mu[k]? = some (a, .lst ds)) (hl : ds.length < 100000) (S : Sat C c rho mu ts s H)
    (q : ∀ d H', P d → Sat C c rho (mu.set k (a, .lst (ds ++ [d]))) ts s H' → E.nx s H') : tDrop (tBM K "list" rAppend ta (tCons te tNil)) E s H :=
  s_appR k ho (List.mem_of_getElem? hk) h S (fun d mu' ⟨_, e⟩ => by subst e; exact ⟨ds, hk, hl⟩) fun d mu' ds' H' ⟨p, e⟩ e2 S' => by
    subst e
    rw [hk] at e2
    cases e2
    exact q d H' p S'
theorem q_app (k : Nat) {a : Addr} {P : D → Prop} (ho : EvD C ta rho mu (.ptr a)) (h : EvP C te rho mu P) (hk : mu[k]? = some (a, .lst ds)) (hl : ds.length < 100000) (S : Sat C c rho mu ts s H)
    (q : ∀ d H', P d → Sat C c rho (mu.set k (a, .lst (ds ++ [d]))) ts s H' → u E s H') : tSeq (tDrop (tBM K "list" rAppend ta (tCons te tNil))) u E s H := s_app (E := { E with nx := u E }) k ho h hk hl S q
theorem q_appD (k : Nat) {a : Addr} (ho : EvD C ta rho mu (.ptr a)) (h : EvD C te rho mu d) (hk : mu[k]? = some (a, .lst ds)) (hl : ds.length < 100000) (S : Sat C c rho mu ts s H)
    (q : ∀ H', Sat C c rho (mu.set k (a, .lst (ds ++ [d]))) ts s H' → u E s H') : tSeq (tDrop (tBM K "list" rAppend ta (tCons te tNil))) u E s H := q_app k ho h hk hl S fun d' H' e S' => by subst e; exact q H' S'
theorem s_appD (k : Nat) {a : Addr} (ho : EvD C ta rho mu (.ptr a)) (h : EvD C te rho mu d) (hk : mu[k]? = some (a, .lst ds)) (hl : ds.length < 100000) (S : Sat C c rho mu ts s H)
    (q : ∀ H', Sat C c rho (mu.set k (a, .lst (ds ++ [d]))) ts s H' → E.nx s H') : tDrop (tBM K "list" rAppend ta (tCons te tNil)) E s H := s_app k ho h hk hl S fun d' H' e S' => by subst e; exact q H' S'
/-- xs[i] = e upon an own list -/
theorem s_setL (k : Nat) {a : Addr} {i : Int} {j : Nat} {P : D → Prop} (h : EvP C te rho mu P) (ho : EvD C ta rho mu (.ptr a)) (hi : EvD C tb rho mu (.int i)) (hk : mu[k]? = some (a, .lst ds)) (hj : ixN ds.length i = some j) (S : Sat C c rho mu ts s H)
    (q : ∀ d H', P d → Sat C c rho (mu.set k (a, .lst (ds.set j d))) ts s H' → E.nx s H') : tAsg te (gSub ta tb rSetL) E s H := by
  refine h.run S fun v d H1 p S1 => ho.run S1 fun x H2 S2 => hi.run S2 fun y H3 S3 => ?_
  obtain ⟨F, T⟩ := S3
  obtain ⟨_, _, xs, hx, hs⟩ := T.mu _ (List.mem_of_getElem? hk)
  have r := T.tmp (v, d) (by simp)
  refine ⟨a, xs, i, j, (T.tmp (x, .ptr a) (by simp)).ptr_inv, (T.tmp (y, .int i) (by simp)).int_inv, hx, by rw [hs.1]; exact hj, q d _ p ⟨F, (T.changeAt (m' := .lst (ds.set j d)) hk id ⟨xs.set j v, upd_same, hs.set r⟩).fewer fun p hp => by simp [hp]⟩⟩
/-- an own list in slot i is let go -/
theorem Sat.letgo {i : Nat} {a : Addr} (h : Sat C c rho ((a, .lst ds) :: mu) ts s H) (hi : rho[i]? = some (some (.ptr a))) : Sat C c (rho.set i (some (.lst ds))) mu ts s H := by
  obtain ⟨F, h⟩ := h
  obtain ⟨v, e, r⟩ := h.slot i _ hi
  have r' := r.ptr_inv
  subst r'
  obtain ⟨F2, T⟩ := (h.push (.ptr a)).letgo
  refine ⟨F2, (T.slots (s' := s) (rho' := rho.set i (some (.lst ds))) (by simp [T.slen]) fun j e2 q => ?_).fewer fun p hp => by simp [hp]⟩
  by_cases hj : i = j
  · subst hj
    have hl : i < rho.length := (List.getElem?_eq_some_iff.mp hi).1
    rw [List.getElem?_set_self hl] at q
    cases q
    exact ⟨_, e, T.top⟩
  · rw [List.getElem?_set_ne hj] at q
    exact T.slot j e2 q
/-- the value of a slot that holds an own list, let go -/
theorem ev_letgo {a : Addr} (h : EvD C te rho ((a, .lst ds) :: mu) (.ptr a)) : Ev C te rho ((a, .lst ds) :: mu) fun d mu' => d = .lst ds ∧ mu' = mu := fun c ts s H Q S q => h.run S fun v H1 S1 => by
  obtain ⟨F, T⟩ := S1
  have e := T.top.ptr_inv
  subst e
  exact q _ _ mu H1 ⟨rfl, rfl⟩ T.letgo

/-! ### targets -/
def BindG (C : Addr) (g : TG) (d : D) (rho rho' : List (Option D)) (js : List Nat) : Prop :=
  ∀ (c : Cn) (mu : Mu) (ts : List (V × D)) (s : L2.St) (H : Hp) (v : V) (Q : L2.St → Hp → Prop), Sat C c rho mu ((v, d) :: ts) s H →
    (∀ s' H', s'.length = s.length → (∀ k : Nat, k ∉ js → s'[k]? = s[k]?) → Sat C c rho' mu ts s' H' → Q s' H') → g v s H Q
theorem bg_name {i : Nat} : BindG C (gName i) d rho (rho.set i (some d)) [i] := fun c mu ts s H v Q S q =>
  q _ H (by simp) (fun k hk => by rw [List.getElem?_set_ne]; intro z; exact hk (by simp [z])) S.store
theorem bg_tup {g1 g2 : TG} {rho1 rho2 : List (Option D)} {j1 j2 : List Nat} (h1 : BindG C g1 d1 rho rho1 j1) (h2 : BindG C g2 d2 rho1 rho2 j2) : BindG C (gTup K 2 (gCons g1 (gCons g2 gNil))) (.tup [d1, d2]) rho rho2 (j1 ++ j2) := fun c mu ts s H v Q S q => by
  obtain ⟨F, T⟩ := S
  obtain ⟨a, xs, e, hx, hs⟩ := T.top.tup_inv
  subst e
  match xs, hs with
  | [x, y], hs =>
    refine ⟨a, [x, y], rfl, SqT.of (T.sub _ _ hx), rfl, x, [y], rfl, ?_⟩
    have T1 : Sat C c rho mu ((x, d1) :: (y, d2) :: ts) s H := ⟨F, ((T.push hs.tail.head).push hs.head).fewer fun p hp => by
      simp only [List.mem_cons] at hp ⊢
      rcases hp with h | h | h
      · exact .inl h
      · exact .inr (.inl h)
      · exact .inr (.inr (.inr h))⟩
    refine h1 c mu _ s H x _ T1 fun s1 H1 l1 k1 S1 => ⟨y, [], rfl, h2 c mu ts s1 H1 y _ S1 fun s2 H2 l2 k2 S2 => ⟨rfl, ?_⟩⟩
    refine q s2 H2 (l2.trans l1) (fun k hk => ?_) S2
    rw [k2 k fun z => hk (List.mem_append_right _ z), k1 k fun z => hk (List.mem_append_left _ z)]
  | [], hs => exact absurd hs.1 (by simp)
  | [_], hs => exact absurd hs.1 (by simp)
  | _ :: _ :: _ :: _, hs => exact absurd hs.1 (by simp)
theorem bg_tup3 {g1 g2 g3 : TG} {d3 : D} {rho1 rho2 rho3 : List (Option D)} {j1 j2 j3 : List Nat} (h1 : BindG C g1 d1 rho rho1 j1) (h2 : BindG C g2 d2 rho1 rho2 j2) (h3 : BindG C g3 d3 rho2 rho3 j3) :
    BindG C (gTup K 3 (gCons g1 (gCons g2 (gCons g3 gNil)))) (.tup [d1, d2, d3]) rho rho3 (j1 ++ (j2 ++ j3)) := fun c mu ts s H v Q S q => by
  obtain ⟨F, T⟩ := S
  obtain ⟨a, xs, e, hx, hs⟩ := T.top.tup_inv
  subst e
  match xs, hs with
  | [x, y, z], hs =>
    refine ⟨a, [x, y, z], rfl, SqT.of (T.sub _ _ hx), rfl, x, [y, z], rfl, ?_⟩
    have T1 : Sat C c rho mu ((x, d1) :: (y, d2) :: (z, d3) :: ts) s H := ⟨F, (((T.push hs.tail.tail.head).push hs.tail.head).push hs.head).fewer fun p hp => by
      simp only [List.mem_cons] at hp ⊢
      rcases hp with h | h | h | h
      · exact .inl h
      · exact .inr (.inl h)
      · exact .inr (.inr (.inl h))
      · exact .inr (.inr (.inr (.inr h)))⟩
    refine h1 c mu _ s H x _ T1 fun s1 H1 l1 k1 S1 => ⟨y, [z], rfl, h2 c mu _ s1 H1 y _ S1 fun s2 H2 l2 k2 S2 => ⟨z, [], rfl, h3 c mu ts s2 H2 z _ S2 fun s3 H3 l3 k3 S3 => ⟨rfl, ?_⟩⟩⟩
    refine q s3 H3 (l3.trans (l2.trans l1)) (fun k hk => ?_) S3
    rw [k3 k fun z => hk (List.mem_append_right _ (List.mem_append_right _ z)), k2 k fun z => hk (List.mem_append_right _ (List.mem_append_left _ z)), k1 k fun z => hk (List.mem_append_left _ z)]
  | [], hs => exact absurd hs.1 (by simp)
  | [_], hs => exact absurd hs.1 (by simp)
  | [_, _], hs => exact absurd hs.1 (by simp)
  | _ :: _ :: _ :: _ :: _, hs => exact absurd hs.1 (by simp)
/-- target = e, any target -/
theorem s_bind {g : TG} {js : List Nat} (h : EvD C te rho mu d) (hb : BindG C g d rho rho' js) (S : Sat C c rho mu ts s H) (k : ∀ s' H', Sat C c rho' mu ts s' H' → E.nx s' H') : tAsg te g E s H :=
  h.run S fun v H1 S1 => hb c mu ts s H1 v _ S1 fun s' H' _ _ S' => k s' H' S'
theorem q_bind {g : TG} {js : List Nat} (h : EvD C te rho mu d) (hb : BindG C g d rho rho' js) (S : Sat C c rho mu ts s H) (k : ∀ s' H', Sat C c rho' mu ts s' H' → u E s' H') : tSeq (tAsg te g) u E s H := s_bind (E := { E with nx := u E }) h hb S k

/-! ### what is walked -/
def Walks (C : Addr) (c : Cn) (J : It) (ts : List (V × D)) (ds : List D) : Prop :=
  (∀ (i : Nat) rho mu s H, Sat C c rho mu ts s H → i < ds.length → J.go i H) ∧ (∀ rho mu s H, Sat C c rho mu ts s H → J.stop ds.length H) ∧
    ∀ (i : Nat) d rho mu s H x H', ds[i]? = some d → Sat C c rho mu ts s H → J.yld i H x H' → Sat C c rho mu ((x, d) :: ts) s H'
def EvI (C : Addr) (wi : TI) (rho : List (Option D)) (mu : Mu) (ds : List D) : Prop :=
  ∀ (c : Cn) ts s H (R : It → Hp → Prop), Sat C c rho mu ts s H → (∀ J H' tx, Walks C c J (tx ++ ts) ds → Sat C c rho mu (tx ++ ts) s H' → R J H') → wi s H R
theorem evi_tup (h : EvD C te rho mu (.tup ds)) : EvI C (iTup K te) rho mu ds := fun c ts s H R S q => h.run S fun v H1 S1 => by
  obtain ⟨F, T⟩ := id S1
  obtain ⟨a, xs, e, hx, hs⟩ := T.top.tup_inv
  subst e
  refine ⟨a, rfl, ⟨xs, SqT.of (T.sub _ _ hx)⟩, q _ H1 [(.ref a, .tup ds)] ⟨fun i rho mu s H S hi => ?_, fun rho mu s H S => ?_, fun i d rho mu s H x H' hd S y => ?_⟩ S1⟩
  · obtain ⟨F, T⟩ := S
    obtain ⟨a', xs, e, hx, hs⟩ := (T.tmp (.ref a, .tup ds) (by simp)).tup_inv
    cases e
    exact ⟨xs, xs[i]'(by rw [hs.1]; exact hi), SqT.of (T.sub _ _ hx), by simp⟩
  · obtain ⟨F, T⟩ := S
    obtain ⟨a', xs, e, hx, hs⟩ := (T.tmp (.ref a, .tup ds) (by simp)).tup_inv
    cases e
    exact ⟨xs, SqT.of (T.sub _ _ hx), by rw [hs.1]; exact Nat.le_refl _⟩
  · obtain ⟨e, y⟩ := y
    subst e
    obtain ⟨F, T⟩ := S
    obtain ⟨a', xs, e, hx, hs⟩ := (T.tmp (.ref a, .tup ds) (by simp)).tup_inv
    cases e
    exact ⟨F, T.push (hs.2 i x d (y xs (SqT.of (T.sub _ _ hx))) hd)⟩
theorem evi_lst (h : EvD C te rho mu (.lst ds)) : EvI C (iList K te) rho mu ds := fun c ts s H R S q => h.run S fun v H1 S1 => by
  obtain ⟨F, T⟩ := id S1
  obtain ⟨a, xs, e, hx, hs⟩ := T.top.lst_inv
  subst e
  refine ⟨a, rfl, ⟨xs, SqL.of (T.sub _ _ hx)⟩, q _ H1 [(.ref a, .lst ds)] ⟨fun i rho mu s H S hi => ?_, fun rho mu s H S => ?_, fun i d rho mu s H x H' hd S y => ?_⟩ S1⟩
  · obtain ⟨F, T⟩ := S
    obtain ⟨a', xs, e, hx, hs⟩ := (T.tmp (.ref a, .lst ds) (by simp)).lst_inv
    cases e
    exact ⟨xs, xs[i]'(by rw [hs.1]; exact hi), SqL.of (T.sub _ _ hx), by simp⟩
  · obtain ⟨F, T⟩ := S
    obtain ⟨a', xs, e, hx, hs⟩ := (T.tmp (.ref a, .lst ds) (by simp)).lst_inv
    cases e
    exact ⟨xs, SqL.of (T.sub _ _ hx), by rw [hs.1]; exact Nat.le_refl _⟩
  · obtain ⟨e, y⟩ := y
    subst e
    obtain ⟨F, T⟩ := S
    obtain ⟨a', xs, e, hx, hs⟩ := (T.tmp (.ref a, .lst ds) (by simp)).lst_inv
    cases e
    exact ⟨F, T.push (hs.2 i x d (y xs (SqL.of (T.sub _ _ hx))) hd)⟩
theorem evi_rng {n : Nat} (h : EvD C te rho mu (nat n)) (hn : n ≤ 100000) : EvI C (iRng1 (tCons te tNil)) rho mu ((List.range n).map nat) := fun c ts s H R S q => h.run S fun v H1 S1 => by
  obtain ⟨F, T⟩ := id S1
  have e := T.top.int_inv
  subst e
  refine ⟨(n : Int), rfl, by omega, by omega, q _ H1 [] ⟨fun i rho mu s H S hi => ?_, fun rho mu s H S => ?_, fun i d rho mu s H x H' hd S y => ?_⟩ (S1.pop)⟩
  · have : i < n := by simpa using hi
    show i < ((n : Int)).toNat
    omega
  · show ((n : Int)).toNat ≤ ((List.range n).map nat).length
    simp
  · obtain ⟨e, y⟩ := y
    subst e; subst y
    rw [List.getElem?_map] at hd
    have hi : i < n := by
      cases q : (List.range n)[i]? with
      | none => rw [q] at hd; cases hd
      | some j => have := (List.getElem?_eq_some_iff.mp q).1; simpa using this
    rw [List.getElem?_range hi] at hd
    cases hd
    obtain ⟨F, T⟩ := S
    refine ⟨F, T.push ?_⟩
    rw [Int.zero_add]
    exact .int _

/-! ### for -/
/-- at the turn's end: some logical state y is met -/
def Nx (C : Addr) (c : Cn) {Y : Type} (r : Nat → Y → List (Option D)) (m : Nat → Y → Mu) (I : Nat → Y → Prop) (ts : List (V × D)) (i : Nat) (s : L2.St) (H : Hp) : Prop := ∃ y, I i y ∧ Sat C c (r i y) (m i y) ts s H
theorem s_for {Y : Type} {wi : TI} {g : TG} {tb : TS} (hI : EvI C wi rho mu ds) (S : Sat C c rho mu ts s H) (r : Nat → Y → List (Option D)) (m : Nat → Y → Mu) (I : Nat → Y → Prop)
    (h0 : ∃ y, I 0 y ∧ Le (r 0 y) rho ∧ m 0 y = mu)
    (step : ∀ (i : Nat) d y tx, ds[i]? = some d → I i y → ∃ rho2 js, BindG C g d (r i y) rho2 js ∧ ∀ s1 H1, Sat C c rho2 (m i y) (tx ++ ts) s1 H1 →
      tb { E with nx := Nx C c r m I (tx ++ ts) (i + 1), ct := Nx C c r m I (tx ++ ts) (i + 1), bk := E.nx } s1 H1)
    (done : ∀ y s1 H1, I ds.length y → Sat C c (r ds.length y) (m ds.length y) ts s1 H1 → E.nx s1 H1) : tFor wi g tb E s H := by
  refine hI c ts s H _ S fun J H1 tx ⟨w1, w2, w3⟩ S1 => ?_
  refine ⟨fun i n s H => n = ds.length - i ∧ i ≤ ds.length ∧ Nx C c r m I (tx ++ ts) i s H, ⟨ds.length, by simp, Nat.zero_le _, ?_⟩, ?_⟩
  · obtain ⟨y, a, b, e⟩ := h0
    subst e
    exact ⟨y, a, S1.weak b⟩
  · rintro i n s2 H2 ⟨rfl, hi, y, hy, S2⟩
    by_cases hlt : i < ds.length
    · refine .inr ⟨w1 i _ _ s2 H2 S2 hlt, Nx C c r m I (tx ++ ts) (i + 1), fun s' H' p => ⟨ds.length - (i + 1), by omega, rfl, hlt, p⟩, fun x H' yl => ?_⟩
      have hd : ds[i]? = some ds[i] := List.getElem?_eq_getElem hlt
      obtain ⟨rho2, js, b, st⟩ := step i _ y tx hd hy
      exact b c _ _ s2 H' x _ (w3 i _ _ _ s2 H2 x H' hd S2 yl) fun s3 H3 _ _ S3 => st s3 H3 S3
    · have e : i = ds.length := by omega
      subst e
      exact .inl ⟨w2 _ _ s2 H2 S2, done y s2 H2 hy S2.left⟩
theorem q_for {Y : Type} {wi : TI} {g : TG} {tb : TS} (hI : EvI C wi rho mu ds) (S : Sat C c rho mu ts s H) (r : Nat → Y → List (Option D)) (m : Nat → Y → Mu) (I : Nat → Y → Prop)
    (h0 : ∃ y, I 0 y ∧ Le (r 0 y) rho ∧ m 0 y = mu)
    (step : ∀ (i : Nat) d y tx, ds[i]? = some d → I i y → ∃ rho2 js, BindG C g d (r i y) rho2 js ∧ ∀ s1 H1, Sat C c rho2 (m i y) (tx ++ ts) s1 H1 →
      tb { E with nx := Nx C c r m I (tx ++ ts) (i + 1), ct := Nx C c r m I (tx ++ ts) (i + 1), bk := u E } s1 H1)
    (done : ∀ y s1 H1, I ds.length y → Sat C c (r ds.length y) (m ds.length y) ts s1 H1 → u E s1 H1) : tSeq (tFor wi g tb) u E s H :=
  s_for (E := { E with nx := u E }) hI S r m I h0 step done
theorem nx_of {Y : Type} {r : Nat → Y → List (Option D)} {m : Nat → Y → Mu} {I : Nat → Y → Prop} {i : Nat} (y : Y) (h : I i y) (S : Sat C c rho mu ts s H) (hl : Le (r i y) rho) (hm : m i y = mu) : Nx C c r m I ts i s H := by
  subst hm
  exact ⟨y, h, S.weak hl⟩

/-! ### while -/
def Nw (C : Addr) (c : Cn) {Y : Type} (r : Y → List (Option D)) (m : Y → Mu) (I : Nat → Y → Prop) (ts : List (V × D)) (n : Nat) (s : L2.St) (H : Hp) : Prop := ∃ y k, k < n ∧ I k y ∧ Sat C c (r y) (m y) ts s H
theorem s_while {Y : Type} {tb : TS} (S : Sat C c rho mu ts s H) (r : Y → List (Option D)) (m : Y → Mu) (I : Nat → Y → Prop) (h0 : ∃ y n, I n y ∧ Le (r y) rho ∧ m y = mu)
    (step : ∀ n y, I n y → ∃ Rb, Et C tt (r y) (m y) Rb ∧ (∀ mu' s1 H1, Rb true mu' → Sat C c (r y) mu' ts s1 H1 → tb { E with nx := Nw C c r m I ts n, ct := Nw C c r m I ts n, bk := E.nx } s1 H1) ∧
      ∀ mu' s1 H1, Rb false mu' → Sat C c (r y) mu' ts s1 H1 → E.nx s1 H1) : tWhile tt tb E s H := by
  refine ⟨fun n s H => ∃ y, I n y ∧ Sat C c (r y) (m y) ts s H, ?_, ?_⟩
  · obtain ⟨y, n, a, b, e⟩ := h0
    subst e
    exact ⟨n, y, a, S.weak b⟩
  · rintro n s1 H1 ⟨y, hy, S1⟩
    obtain ⟨Rb, h, k1, k2⟩ := step n y hy
    refine h c ts s1 H1 _ S1 fun b mu' H' rb S' => ?_
    cases b with
    | true =>
      rw [if_pos rfl]
      exact ⟨Nw C c r m I ts n, fun s' H' ⟨y', k, l, a, S2⟩ => ⟨k, l, y', a, S2⟩, k1 mu' s1 H' rb S'⟩
    | false =>
      rw [if_neg Bool.false_ne_true]
      exact k2 mu' s1 H' rb S'
theorem q_while {Y : Type} {tb : TS} (S : Sat C c rho mu ts s H) (r : Y → List (Option D)) (m : Y → Mu) (I : Nat → Y → Prop) (h0 : ∃ y n, I n y ∧ Le (r y) rho ∧ m y = mu)
    (step : ∀ n y, I n y → ∃ Rb, Et C tt (r y) (m y) Rb ∧ (∀ mu' s1 H1, Rb true mu' → Sat C c (r y) mu' ts s1 H1 → tb { E with nx := Nw C c r m I ts n, ct := Nw C c r m I ts n, bk := u E } s1 H1) ∧
      ∀ mu' s1 H1, Rb false mu' → Sat C c (r y) mu' ts s1 H1 → u E s1 H1) : tSeq (tWhile tt tb) u E s H := s_while (E := { E with nx := u E }) S r m I h0 step

/-! ### list comprehensions -/
def wipeD (rho : List (Option D)) : List Nat → List (Option D)
  | [] => rho
  | v :: vs => (wipeD rho vs).set v none
theorem wipeD_le (rho : List (Option D)) : ∀ vs, Le (wipeD rho vs) rho := by
  have refl : ∀ r : List (Option D), Le r r := by
    intro r
    induction r with
    | nil => trivial
    | cons x r ih =>
      cases x with
      | none => exact ih
      | some d => exact ⟨rfl, ih⟩
  have st : ∀ (r t : List (Option D)) (i : Nat), Le r t → Le (r.set i none) t := by
    intro r
    induction r with
    | nil => intro t i h; exact h
    | cons x r ih =>
      intro t i h
      cases t with
      | nil => cases x <;> exact h.elim
      | cons z t =>
        cases i with
        | zero =>
          cases x with
          | none => exact h
          | some d => exact h.2
        | succ i =>
          cases x with
          | none => exact ih t i h
          | some d => exact ⟨h.1, ih t i h.2⟩
  intro vs
  induction vs with
  | nil => exact refl rho
  | cons v vs ih => exact st _ _ _ ih
theorem wipeD_len (rho : List (Option D)) (vs : List Nat) : (wipeD rho vs).length = rho.length := (wipeD_le rho vs).len
theorem wipe_in {σ : L2.St} {i : Nat} : ∀ {vs : List Nat}, i ∈ vs → (wipe σ vs)[i]? = if i < σ.length then some none else none
  | v :: vs, h => by
    show ((wipe σ vs).set v none)[i]? = _
    by_cases q : v = i
    · subst q
      by_cases hl : v < σ.length
      · rw [List.getElem?_set_self (by rw [wipe_length]; exact hl), if_pos hl]
      · rw [if_neg hl, List.getElem?_eq_none]
        rw [List.length_set, wipe_length]
        omega
    · rw [List.getElem?_set_ne q]
      exact wipe_in ((List.mem_cons.mp h).resolve_left fun e => q e.symm)
theorem wipeD_some {i : Nat} : ∀ {vs : List Nat}, (wipeD rho vs)[i]? = some (some d) → rho[i]? = some (some d) ∧ i ∉ vs
  | [], h => ⟨h, by simp⟩
  | v :: vs, h => by
    have h' : ((wipeD rho vs).set v none)[i]? = some (some d) := h
    by_cases q : v = i
    · subst q
      by_cases hv : v < (wipeD rho vs).length
      · rw [List.getElem?_set_self hv] at h'; cases h'
      · rw [List.getElem?_eq_none (by simpa using hv)] at h'; cases h'
    · rw [List.getElem?_set_ne q] at h'
      obtain ⟨h1, h2⟩ := wipeD_some h'
      exact ⟨h1, by simp only [List.mem_cons, not_or]; exact ⟨fun e => q e.symm, h2⟩⟩
theorem Sat.wipe (vs : List Nat) (h : Sat C c rho mu ts s H) : Sat C c (wipeD rho vs) mu ts (wipe s vs) H := by
  obtain ⟨F, h⟩ := h
  refine ⟨F, h.slots (by rw [wipe_length, wipeD_len, h.slen]) fun i d e => ?_⟩
  obtain ⟨e1, e2⟩ := wipeD_some e
  obtain ⟨v, a, b⟩ := h.slot i d e1
  exact ⟨v, by rw [wipe_out e2]; exact a, b⟩
theorem wipe_back {σ s' : L2.St} {vs js : List Nat} (hl : s'.length = (wipe σ vs).length) (hk : ∀ k : Nat, k ∉ js → s'[k]? = (wipe σ vs)[k]?) (hj : ∀ j ∈ js, j ∈ vs) : wipe s' vs = wipe σ vs := by
  refine List.ext_getElem? fun k => ?_
  by_cases h : k ∈ vs
  · rw [wipe_in h, wipe_in h, hl, wipe_length]
  · rw [wipe_out h, hk k fun z => h (hj k z)]
/-- the slots, kept as temporaries -/
theorem SatF.pin (h : SatF C c rho mu ts s F H) : ∃ tz, SatF C c rho mu (tz ++ ts) s F H ∧ ∀ rho2 mu2 ts2 s2 H2, Sat C c rho2 mu2 (tz ++ ts2) s2 H2 → Sat C c rho mu2 ts2 s H2 := by
  have go : ∀ (n : Nat), n ≤ rho.length → ∃ tz : List (V × D), (∀ p ∈ tz, DR C F p.1 p.2) ∧ ∀ (i : Nat) d, i < n → rho[i]? = some (some d) → ∃ v, s[i]? = some (some v) ∧ (v, d) ∈ tz := by
    intro n
    induction n with
    | zero => intro _; exact ⟨[], fun _ z => by simp at z, fun i d z _ => absurd z (Nat.not_lt_zero i)⟩
    | succ n ih =>
      intro hn
      obtain ⟨tz, a, b⟩ := ih (by omega)
      cases q : rho[n]? with
      | none =>
        refine ⟨tz, a, fun i d hi e => ?_⟩
        by_cases z : i = n
        · subst z; rw [q] at e; cases e
        · exact b i d (by omega) e
      | some o =>
        cases o with
        | none =>
          refine ⟨tz, a, fun i d hi e => ?_⟩
          by_cases z : i = n
          · subst z; rw [q] at e; cases e
          · exact b i d (by omega) e
        | some d0 =>
          obtain ⟨v0, e1, e2⟩ := h.slot n d0 q
          refine ⟨(v0, d0) :: tz, fun p hp => (List.mem_cons.mp hp).elim (fun e => by subst e; exact e2) (a p), fun i d hi e => ?_⟩
          by_cases z : i = n
          · subst z
            rw [q] at e
            cases e
            exact ⟨v0, e1, List.mem_cons_self⟩
          · obtain ⟨v, f1, f2⟩ := b i d (by omega) e
            exact ⟨v, f1, List.mem_cons_of_mem _ f2⟩
  obtain ⟨tz, a, b⟩ := go rho.length (Nat.le_refl _)
  refine ⟨tz, h.temps fun p hp => (List.mem_append.mp hp).elim (a p) (h.tmp p), fun rho2 mu2 ts2 s2 H2 S => ?_⟩
  obtain ⟨F2, T⟩ := S
  refine ⟨F2, (T.slots (s' := s) (rho' := rho) h.slen fun i d e => ?_).fewer fun p hp => List.mem_append_right _ hp⟩
  obtain ⟨v, f1, f2⟩ := b i d (List.getElem?_eq_some_iff.mp e).1 e
  exact ⟨v, f1, T.tmp _ (List.mem_append_left _ f2)⟩
theorem ev_lcA {wi : TI} {g : TG} {vs : List Nat} (A : Nat → List D → Prop) (hI : EvI C wi rho mu ds) (h0 : A 0 []) (hn : ds.length ≤ 100000)
    (step : ∀ (i : Nat) d acc, ds[i]? = some d → A i acc → acc.length ≤ i → ∃ rho2 js, BindG C g d (wipeD rho vs) rho2 js ∧ (∀ j ∈ js, j ∈ vs) ∧ ∀ p, ∃ b, EtD C tt rho2 ((p, .lst acc) :: mu) b ∧
      (b = true → Ev C te rho2 ((p, .lst acc) :: mu) fun d' mu' => mu' = (p, .lst acc) :: mu ∧ A (i + 1) (acc ++ [d'])) ∧ (b = false → A (i + 1) acc)) :
    Ev C (tLc wi g tt te vs) rho mu fun d mu' => ∃ p acc, d = .ptr p ∧ mu' = (p, .lst acc) :: mu ∧ A ds.length acc := fun c ts s H Q S q => by
  refine hI c ts s H _ S fun J H1 tx ⟨w1, w2, w3⟩ S1 => fun p hp => ?_
  obtain ⟨F1, T1⟩ := S1
  have T2 : Sat C c rho ((p, .lst []) :: mu) ((.ref p, .ptr p) :: (tx ++ ts)) s (upd H1 p (.lst [])) := ⟨F1, T1.own hp ⟨[], upd_same, DRs.nil⟩⟩
  have perm : ∀ {rho mu s H}, Sat C c rho mu ((.ref p, .ptr p) :: (tx ++ ts)) s H → Sat C c rho mu (tx ++ ts) s H := fun S => S.pop
  refine ⟨fun i n H => n = ds.length - i ∧ i ≤ ds.length ∧ ∃ acc, A i acc ∧ acc.length ≤ i ∧ Sat C c rho ((p, .lst acc) :: mu) (tx ++ ts) s H, ⟨ds.length, by simp, Nat.zero_le _, [], h0, Nat.le_refl _, perm T2⟩, ?_⟩
  rintro i n H2 ⟨rfl, hi, acc, hA, hl, S2⟩
  by_cases hlt : i < ds.length
  · refine .inr ⟨w1 i _ _ s H2 S2 hlt, fun H' => i + 1 ≤ ds.length ∧ ∃ acc, A (i + 1) acc ∧ acc.length ≤ i + 1 ∧ Sat C c rho ((p, .lst acc) :: mu) (tx ++ ts) s H', fun H' z => ⟨ds.length - (i + 1), by omega, rfl, z⟩, fun x H3 yl => ?_⟩
    have hd : ds[i]? = some ds[i] := List.getElem?_eq_getElem hlt
    obtain ⟨rho2, js, hb, hj, st⟩ := step i _ acc hd hA hl
    obtain ⟨b, ht, k1, k2⟩ := st p
    obtain ⟨F3, T3⟩ := w3 i _ _ _ s H2 x H3 hd S2 yl
    obtain ⟨tz, T4, back⟩ := T3.pin
    have S4 : Sat C c rho ((p, .lst acc) :: mu) ((x, ds[i]) :: (tz ++ (tx ++ ts))) s H3 := ⟨F3, T4.fewer fun q hq => by
      simp only [List.mem_cons, List.mem_append] at hq ⊢
      rcases hq with h | h | h | h
      · exact .inr (.inl h)
      · exact .inl h
      · exact .inr (.inr (.inl h))
      · exact .inr (.inr (.inr h))⟩
    refine hb c _ _ (wipe s vs) H3 x _ (S4.wipe vs) fun s5 H5 l5 k5 S5 => ⟨wipe_back l5 k5 hj, ht.run S5 fun H6 S6 => ?_⟩
    cases b with
    | false =>
      rw [if_neg Bool.false_ne_true]
      exact ⟨hlt, acc, k2 rfl, by omega, back _ _ _ _ _ S6⟩
    | true =>
      rw [if_pos rfl]
      refine k1 rfl c _ s5 H6 _ S6 fun v d' mu' H7 ⟨e, a⟩ S7 => ?_
      subst e
      obtain ⟨F7, T7⟩ := S7
      obtain ⟨_, _, xs, hx, hs⟩ := T7.mu (p, .lst acc) List.mem_cons_self
      refine ⟨xs, hx, ?_, hlt, acc ++ [d'], a, by simp; omega, ?_⟩
      · rw [hs.1]
        exact Nat.lt_of_lt_of_le (show acc.length < 100001 by omega) (by rw [sizeLine_eq]; decide)
      · have T8 := T7.changeAt (k := 0) (o := .lst (xs ++ [v])) (m' := .lst (acc ++ [d'])) rfl id ⟨xs ++ [v], upd_same, hs.app (.one T7.top)⟩
        exact back _ _ _ _ _ ⟨F7, T8.fewer fun q hq => List.mem_cons_of_mem _ hq⟩
  · have e : i = ds.length := by omega
    subst e
    refine .inl ⟨w2 _ _ s H2 S2, ?_⟩
    obtain ⟨F, T⟩ := S2
    exact q _ (.ptr p) _ H2 ⟨p, acc, rfl, rfl, hA⟩ ⟨F, (T.push (.ptr p)).fewer fun q hq => by
      simp only [List.mem_cons, List.mem_append] at hq ⊢
      rcases hq with h | h
      · exact .inl h
      · exact .inr (.inr h)⟩
/-- a comprehension upon data -/
theorem el_lc {wi : TI} {g : TG} {vs : List Nat} (f : D → Option D) (hI : EvI C wi rho mu ds) (hn : ds.length ≤ 100000 := by simp)
    (step : ∀ (i : Nat) d, ds[i]? = some d → ∃ rho2 js, BindG C g d (wipeD rho vs) rho2 js ∧ (∀ j ∈ js, j ∈ vs) ∧ ∀ mu', ∃ b, EtD C tt rho2 mu' b ∧
      (b = true → ∃ e, f d = some e ∧ EvD C te rho2 mu' e) ∧ (b = false → f d = none)) :
    EvN C (tLc wi g tt te vs) rho mu (ds.filterMap f) :=
  Ev.imp (ev_lcA (fun i acc => acc = (ds.take i).filterMap f) hI rfl hn fun i d acc hd hA hl => by
    obtain ⟨rho2, js, a, b, st⟩ := step i d hd
    refine ⟨rho2, js, a, b, fun p => ?_⟩
    obtain ⟨bb, ht, k1, k2⟩ := st ((p, .lst acc) :: mu)
    have hi := (List.getElem?_eq_some_iff.mp hd).1
    have et : ds.take (i + 1) = ds.take i ++ [d] := by rw [List.take_succ, hd]; rfl
    refine ⟨bb, ht, fun h => ?_, fun h => ?_⟩
    · obtain ⟨e, fe, he⟩ := k1 h
      refine Ev.imp he fun d' mu' ⟨e1, e2⟩ => ⟨e2, ?_⟩
      rw [et, List.filterMap_append, hA, e1, List.filterMap_cons_some fe]
      rfl
    · rw [et, List.filterMap_append, hA, List.filterMap_cons_none (k2 h)]
      simp) fun d mu' ⟨p, acc, e1, e2, e3⟩ => ⟨p, e1, by rw [e2, e3, List.take_length]⟩
/-- .. without a test -/
theorem el_map {wi : TI} {g : TG} {vs : List Nat} (f : D → D) (hI : EvI C wi rho mu ds) (hn : ds.length ≤ 100000 := by simp)
    (step : ∀ (i : Nat) d, ds[i]? = some d → ∃ rho2 js, BindG C g d (wipeD rho vs) rho2 js ∧ (∀ j ∈ js, j ∈ vs) ∧ ∀ mu', EvD C te rho2 mu' (f d)) :
    EvN C (tLc wi g tYes te vs) rho mu (ds.map f) := by
  have h : EvN C (tLc wi g tYes te vs) rho mu (ds.filterMap fun d => some (f d)) := el_lc (fun d => some (f d)) hI hn fun i d hd => by
    obtain ⟨rho2, js, a, b, st⟩ := step i d hd
    exact ⟨rho2, js, a, b, fun mu' => ⟨true, EtD.of fun c ts s H Q S q => q H S, fun _ => ⟨_, rfl, st mu'⟩, fun z => by cases z⟩⟩
  rw [List.filterMap_eq_map'] at h
  exact h
end

/-! ### a def -/
section
variable {P : Program} {w : World} {K : PySem.W.Frag} {mg : Str → Option Value} {base : Heap} {C : Addr}
abbrev no : Addr → Prop := fun _ => False
theorem Sat.start {F H : Hp} {N : List Str} {vs : List V} {ds : List D} (k : Same F H) (h : DRs C F vs ds) : Sat C ⟨F, H, no⟩ (ds.map some ++ List.replicate (N.length - ds.length) none) [] [] (L2.start N vs) H := by
  refine ⟨F, Same.refl F, k, fun a o _ e => e, fun a o e => .inl e, fun a e => e, ?_, fun i d e => ?_, fun _ z => by simp at z, List.nodup_nil, fun _ z => by simp at z⟩
  · unfold L2.start
    simp [h.1]
  · unfold L2.start
    by_cases hi : i < ds.length
    · rw [List.getElem?_append_left (by simpa using hi), List.getElem?_map] at e
      rw [List.getElem?_append_left (by simpa [h.1] using hi), List.getElem?_map]
      cases q : ds[i]? with
      | none => rw [q] at e; cases e
      | some d' =>
        rw [q] at e
        have e' : d' = d := by simpa using e
        subst e'
        obtain ⟨v, a, b⟩ := h.get q
        exact ⟨v, by rw [a]; rfl, b⟩
    · rw [List.getElem?_append_right (by simpa using hi)] at e
      rw [List.getElem?_replicate] at e
      split at e <;> cases e
def Fin (C : Addr) (c : Cn) (res : D → Prop) (Q : VK) : Prop := ∀ v d F' H', Gr c.F0 c.H0 F' H' → res d → DR C F' v d → Q v H'
theorem Fin.go {c : Cn} {res : D → Prop} {Q : VK} {rho : List (Option D)} {mu : Mu} {ts : List (V × D)} {s : L2.St} {H : Hp} {v : V} {d : D} (h : Fin C c res Q) (hM : c.M = no) (S : Sat C c rho mu ((v, d) :: ts) s H) (r : res d) : Q v H := by
  obtain ⟨F, T⟩ := S
  exact h v d F H ⟨T.ex, T.sub, fun a o e => T.keep a o (by rw [hM]; exact id) e, T.new⟩ r T.top
theorem okF {x qual : Str} {st : Stmt} {f : Addr} {fd : FuncData} {N ps : List Str} {k : Nat} {T : Type} {args : T → List D} {pre : T → Prop} {res : T → D → Prop} (Fn : Fun K x qual st f fd) (S : FnScope N ps (defScope st)) (len : ∀ y, (args y).length = ps.length)
    (body : ∀ (y : T) (cdv : Value) (A : Around) (outer : List Env) (s : Shared) (H : Hp) (E : XK), pre y → Room k (A.deeper (PyProof.Rows.envOfC qual (defScope st) s.heap.objs.size f cdv)) →
      ∃ t, PSs (cxOf CX0 P w K mg base N qual (defScope st) f cdv A outer s H E).nox (defBody st) t ∧ ∀ (c : Cn) (Q : VK) (s0 : L2.St) (H0 : Hp), c.M = no → Fin C c (res y) Q → Sat C c ((args y).map some ++ List.replicate (N.length - (args y).length) none) [] [] s0 H0 → t { nx := fun _ H' => Q .non H', rt := Q } s0 H0) :
    FnOk P w K mg base CX0 (k + 1) f fd ps (spF C args pre res) := by
  refine Fn.ok S (fun vs H Q E h => ?_) (fun cdv A outer s H vs Q E hr h => ?_)
  · obtain ⟨F, y, _, hd, _⟩ := h
    rw [hd.1, len]
  · obtain ⟨F, y, k, hd, hp, q⟩ := h
    obtain ⟨t, h1, h2⟩ := body y cdv A outer s H E hp hr
    exact ⟨t, h1, h2 ⟨F, H, no⟩ Q _ H rfl (fun v d F' H' g r z => q v d F' H' g r z) (Sat.start k hd)⟩
end
end DL
/-! short words for terms; built-ins upon data -/
namespace DL
open PySem L2

/-! ### terms -/
section
variable {X : Cx}
theorem pgn (i : Nat) (hN : X.N.Nodup) {x : Str} {pos : Pos} (hi : X.N[i]? = some x := by rfl) (hx : Loc X.env.scope x := by first | exact Or.inl rfl | exact Or.inr rfl)
    (hf : X.fn x = true ∨ X.env.scope.names.lookup x = some .local := by first | exact .inl rfl | exact .inr rfl) : PG X (.Name x pos) (gName i) := pg_name hN hi hx hf
theorem psn (i : Nat) (hN : X.N.Nodup) {x : Str} {e : Expr} {te : TE} {pos pos' : Pos} (he : PE X e te) (hi : X.N[i]? = some x := by rfl) (hx : Loc X.env.scope x := by first | exact Or.inl rfl | exact Or.inr rfl)
    (hs : swapsWith e (some (.Name x pos')) pos.line X.env = pure false := by rfl) (hf : X.fn x = true ∨ X.env.scope.names.lookup x = some .local := by first | exact .inl rfl | exact .inr rfl) : PS X (.Assign [.Name x pos'] e pos) (tAsg te (gName i)) := ps_set hN hi hx he hs hf
theorem bk {N : List Str} {sc scope : Scope} {own : List (Str × Nat)} (h : blkC N sc scope own = true := by decide +kernel) : BlkOk N sc scope own := blkOk_by h
variable {a b : Expr} {ta tb : TE} {pos p : Pos}
theorem x_ix (ha : PE X a ta) (hb : PE X b tb) (hs : PlainIx b := by intro _ _; rfl) : PE X (.Subscript a b pos) (tOp (rIx X.K) ta tb) := pe_ix ix_seq ha hb hs
theorem x1 {x : Str} {id : String} {r : List V → Hp → VK → Prop} (hc : CallR X (.builtin id) r) (hm : X.mg x = none) (hv : bootBuiltins x = some (.builtin id)) (ha : PE X a ta) (hg : Gl X x := by rfl) (hn : x ≠ "__name__" := by decide) (hdb : (x == ("__debug__" : Str)) = false := by decide)
    (he : starEach [a] X.env = (false, eval a X.env) :: starEach [] X.env := by rfl) (hpl : (backTo pos (starEach [] X.env)).any (·.1) = false := by rfl) : PE X (.Call (.Name x p) [a] [] pos) (tCB r (tCons ta tNil)) := pe_callB hc hg hm hv (pa_cons ha pa_nil he) hn hdb he hpl
theorem x1T {x : Str} {T : String} {r : List V → Hp → VK → Prop} (hc : CallR X (.type T) r) (hm : X.mg x = none) (hv : bootBuiltins x = some (.type T)) (ha : PE X a ta) (hg : Gl X x := by rfl) (hn : x ≠ "__name__" := by decide) (hdb : (x == ("__debug__" : Str)) = false := by decide)
    (he : starEach [a] X.env = (false, eval a X.env) :: starEach [] X.env := by rfl) (hpl : (backTo pos (starEach [] X.env)).any (·.1) = false := by rfl) : PE X (.Call (.Name x p) [a] [] pos) (tCB r (tCons ta tNil)) := pe_callTy hc hg hm hv (pa_cons ha pa_nil he) hn hdb he hpl
theorem x_len (hm : X.mg "len" = none) (ha : PE X a ta) (hg : Gl X "len" := by rfl) (he : starEach [a] X.env = (false, eval a X.env) :: starEach [] X.env := by rfl) : PE X (.Call (.Name "len" p) [a] [] pos) (tCB (rLen X.K) (tCons ta tNil)) := x1 call_len_seq hm PySem.boot_len ha hg (he := he)
theorem x_abs (hm : X.mg "abs" = none) (ha : PE X a ta) (hg : Gl X "abs" := by rfl) (he : starEach [a] X.env = (false, eval a X.env) :: starEach [] X.env := by rfl) : PE X (.Call (.Name "abs" p) [a] [] pos) (tCB rAbs1 (tCons ta tNil)) := x1 call_abs hm PyProof.Rows.boot_abs ha hg (he := he)
theorem x_int (hm : X.mg "int" = none) (ha : PE X a ta) (hg : Gl X "int" := by rfl) (he : starEach [a] X.env = (false, eval a X.env) :: starEach [] X.env := by rfl) : PE X (.Call (.Name "int" p) [a] [] pos) (tCB rInt1 (tCons ta tNil)) := x1T call_int1 hm (by decide +kernel) ha hg (he := he)
abbrev rTup (K : PySem.W.Frag) : List V → Hp → VK → Prop := fun xs H Q => ∃ p ys, xs = [.ref p] ∧ ((SqL K H p ys ∧ ∀ l, H l = none → Q (.ref l) (upd H l (.tup ys))) ∨ (SqT K H p ys ∧ Q (.ref p) H))
abbrev rLst (K : PySem.W.Frag) : List V → Hp → VK → Prop := fun xs H Q => ∃ p ys, xs = [.ref p] ∧ (SqL K H p ys ∨ SqT K H p ys) ∧ ∀ l, H l = none → Q (.ref l) (upd H l (.lst ys))
theorem x_tuple (hm : X.mg "tuple" = none) (ha : PE X a ta) (hg : Gl X "tuple" := by rfl) (he : starEach [a] X.env = (false, eval a X.env) :: starEach [] X.env := by rfl) : PE X (.Call (.Name "tuple" p) [a] [] pos) (tCB (rTup X.K) (tCons ta tNil)) := x1T call_tuple_of hm (by decide +kernel) ha hg (he := he)
theorem x_list (hm : X.mg "list" = none) (ha : PE X a ta) (hg : Gl X "list" := by rfl) (he : starEach [a] X.env = (false, eval a X.env) :: starEach [] X.env := by rfl) : PE X (.Call (.Name "list" p) [a] [] pos) (tCB (rLst X.K) (tCons ta tNil)) := x1T call_list_of hm (by decide +kernel) ha hg (he := he)
theorem x_all (hm : X.mg "all" = none) (ha : PE X a ta) (hc : X.calm = true := by rfl) (hg : Gl X "all" := by rfl) (he : starEach [a] X.env = (false, eval a X.env) :: starEach [] X.env := by rfl) : PE X (.Call (.Name "all" p) [a] [] pos) (tCB (rAll X.K) (tCons ta tNil)) := x1 (cr_all hc) hm PyProof.Rows.boot_all ha hg (he := he)
theorem x_min (hm : X.mg "min" = none) (ha : PE X a ta) (hc : X.calm = true := by rfl) (hg : Gl X "min" := by rfl) (he : starEach [a] X.env = (false, eval a X.env) :: starEach [] X.env := by rfl) : PE X (.Call (.Name "min" p) [a] [] pos) (tCB (rMin X.K) (tCons ta tNil)) := x1 (cr_min hc) hm PyProof.Rows.boot_min ha hg (he := he)
theorem x_max (hm : X.mg "max" = none) (ha : PE X a ta) (hc : X.calm = true := by rfl) (hg : Gl X "max" := by rfl) (he : starEach [a] X.env = (false, eval a X.env) :: starEach [] X.env := by rfl) : PE X (.Call (.Name "max" p) [a] [] pos) (tCB (rMax X.K) (tCons ta tNil)) := x1 (cr_max hc) hm (by decide +kernel) ha hg (he := he)
theorem x_min2 (hm : X.mg "min" = none) (ha : PE X a ta) (hb : PE X b tb) (hc : X.calm = true := by rfl) (hg : Gl X "min" := by rfl) (he : starEach [a, b] X.env = (false, eval a X.env) :: starEach [b] X.env := by rfl) (he2 : starEach [b] X.env = (false, eval b X.env) :: starEach [] X.env := by rfl)
    (hpl : (backTo pos (starEach [b] X.env)).any (·.1) = false := by rfl) : PE X (.Call (.Name "min" p) [a, b] [] pos) (tCB rMin2 (tCons ta (tCons tb tNil))) := pe_callB (call_min2 hc) hg hm PyProof.Rows.boot_min (pa_cons ha (pa_cons hb pa_nil he2) he) (he := he) (hpl := hpl)
end

section
variable {C : Addr} {c : Cn} {K : PySem.W.Frag} {rho : List (Option D)} {mu : Mu} {ts : List (V × D)} {s : L2.St} {F H F' H' : Hp} {v : V} {d d1 d2 : D} {te ta tb : TE} {ds es : List D}
/-! ### tuple(..), list(..) -/
theorem ev_tupleL (ha : EvD C ta rho mu (.lst ds)) : EvD C (tCB (rTup K) (tCons ta tNil)) rho mu (.tup ds) := EvD.of fun c ts s H Q S q => ha.run S fun v H1 S1 => by
  obtain ⟨F, S1⟩ := S1
  obtain ⟨a, xs, e, hx, hs⟩ := S1.top.lst_inv
  refine ⟨a, xs, by rw [e], .inl ⟨SqL.of (S1.sub _ _ hx), fun l hl => ?_⟩⟩
  have g := Gr.alloc (o := .tup xs) S1.sub hl
  exact q _ _ ⟨_, ((S1.grow g).fewer fun p hp => by simp [hp]).push (.tup upd_same hs.1 fun i v d a b => (hs.2 i v d a b).mono g.ex)⟩
theorem ev_tupleO {a : Addr} (ha : EvD C ta rho mu (.ptr a)) (hm : (a, MO.lst ds) ∈ mu) : EvD C (tCB (rTup K) (tCons ta tNil)) rho mu (.tup ds) := EvD.of fun c ts s H Q S q => ha.run S fun v H1 S1 => by
  obtain ⟨F, S1⟩ := S1
  obtain ⟨_, _, xs, hx, hs⟩ := S1.mu _ hm
  refine ⟨a, xs, by rw [S1.top.ptr_inv], .inl ⟨SqL.of hx, fun l hl => ?_⟩⟩
  have g := Gr.alloc (o := .tup xs) S1.sub hl
  exact q _ _ ⟨_, ((S1.grow g).fewer fun p hp => by simp [hp]).push (.tup upd_same hs.1 fun i v d a b => (hs.2 i v d a b).mono g.ex)⟩
theorem ev_tupleT (ha : EvD C ta rho mu (.tup ds)) : EvD C (tCB (rTup K) (tCons ta tNil)) rho mu (.tup ds) := EvD.of fun c ts s H Q S q => ha.run S fun v H1 S1 => by
  obtain ⟨F, T⟩ := id S1
  obtain ⟨a, xs, e, hx, hs⟩ := T.top.tup_inv
  exact ⟨a, xs, by rw [e], .inr ⟨SqT.of (T.sub _ _ hx), by rw [← e]; exact q v H1 S1⟩⟩
theorem SatF.newL {p : Addr} {xs : List V} (S : SatF C c rho mu ts s F H) (hp : H p = none) (h : DRs C F xs ds) : Sat C c rho ((p, .lst ds) :: mu) ((.ref p, .ptr p) :: ts) s (upd H p (.lst xs)) := ⟨F, S.own hp ⟨xs, upd_same, h⟩⟩
theorem EvN.of (h : ∀ (c : Cn) (ts : List (V × D)) (s : L2.St) (H : Hp) (Q : VK), Sat C c rho mu ts s H → (∀ p H', Sat C c rho ((p, .lst ds) :: mu) ((.ref p, .ptr p) :: ts) s H' → Q (.ref p) H') → te s H Q) : EvN C te rho mu ds :=
  fun c ts s H Q S q => h c ts s H Q S fun p H' x => q _ (.ptr p) _ H' ⟨p, rfl, rfl⟩ x
theorem el_listT (ha : EvD C ta rho mu (.tup ds)) : EvN C (tCB (rLst K) (tCons ta tNil)) rho mu ds := EvN.of fun c ts s H Q S q => ha.run S fun v H1 S1 => by
  obtain ⟨F, S1⟩ := S1
  obtain ⟨a, xs, e, hx, hs⟩ := S1.top.tup_inv
  refine ⟨a, xs, by rw [e], .inr (SqT.of (S1.sub _ _ hx)), fun l hl => q l _ ((S1.newL hl hs).fewer fun p hp => ?_)⟩
  simp only [List.mem_cons] at hp ⊢
  rcases hp with h | h
  · exact .inl h
  · exact .inr (.inr h)
theorem el_listL (ha : EvD C ta rho mu (.lst ds)) : EvN C (tCB (rLst K) (tCons ta tNil)) rho mu ds := EvN.of fun c ts s H Q S q => ha.run S fun v H1 S1 => by
  obtain ⟨F, S1⟩ := S1
  obtain ⟨a, xs, e, hx, hs⟩ := S1.top.lst_inv
  refine ⟨a, xs, by rw [e], .inl (SqL.of (S1.sub _ _ hx)), fun l hl => q l _ ((S1.newL hl hs).fewer fun p hp => ?_)⟩
  simp only [List.mem_cons] at hp ⊢
  rcases hp with h | h
  · exact .inl h
  · exact .inr (.inr h)
/-- tuple(range(n)), list(range(n)) -/
theorem drs_rg (n : Nat) : DRs C F (rgV 0 (n : Int)) ((List.range n).map nat) := by
  have e : rgV 0 (n : Int) = ((List.range n).map fun (i : Nat) => (i : Int)).map V.int := by
    unfold rgV
    rw [List.map_map]
    have : ((n : Int) - 0).toNat = n := by omega
    rw [this]
    refine List.map_congr_left fun i _ => ?_
    show V.int (0 + (i : Int)) = V.int (i : Int)
    rw [Int.zero_add]
  rw [e]
  have e2 : (List.range n).map nat = ((List.range n).map fun (i : Nat) => (i : Int)).map D.int := by rw [List.map_map]; rfl
  rw [e2]
  exact DRs.ints _
theorem ev_tupRg {n : Nat} (ha : EvD C ta rho mu (nat n)) (hn : n ≤ 100000) : EvD C (tTupRg (tRg1 ta)) rho mu (.tup ((List.range n).map nat)) := EvD.of fun c ts s H Q S q => ha.run S fun v H1 S1 => by
  obtain ⟨F, S1⟩ := S1
  refine ⟨n, S1.top.int_inv, RgOk.of_le (Int.le_refl 0) (by omega) (by decide) (by omega), fun l hl => ?_⟩
  have g := Gr.alloc (o := .tup (rgV 0 (n : Int))) S1.sub hl
  have h : DRs C (upd F l (.tup (rgV 0 (n : Int)))) (rgV 0 (n : Int)) ((List.range n).map nat) := drs_rg n
  exact q _ _ ⟨_, ((S1.grow g).fewer fun p hp => by simp [hp]).push (.tup upd_same h.1 h.2)⟩
theorem el_listRg {n : Nat} (ha : EvD C ta rho mu (nat n)) (hn : n ≤ 100000) : EvN C (tLstRg (tRg1 ta)) rho mu ((List.range n).map nat) := EvN.of fun c ts s H Q S q => ha.run S fun v H1 S1 => by
  obtain ⟨F, S1⟩ := S1
  refine ⟨n, S1.top.int_inv, RgOk.of_le (Int.le_refl 0) (by omega) (by decide) (by omega), fun l hl => q l _ ((S1.newL hl (drs_rg n)).fewer fun p hp => ?_)⟩
  simp only [List.mem_cons] at hp ⊢
  rcases hp with h | h
  · exact .inl h
  · exact .inr (.inr h)

/-! ### all, min, max of a list -/
theorem DRs.bls_inv : ∀ {bs : List Bool} {xs : List V}, DRs C F xs (bs.map D.bl) → xs = bs.map V.bl
  | [], [], _ => rfl
  | [], _ :: _, h => by have := h.1; simp at this
  | _ :: _, [], h => by have := h.1; simp at this
  | n :: ns, x :: xs, h => by
    rw [List.map_cons] at h
    rw [h.head.bl_inv, DRs.bls_inv h.tail, List.map_cons]
theorem ev_all {bs : List Bool} (ha : EvD C ta rho mu (.lst (bs.map D.bl))) : EvD C (tCB (rAll K) (tCons ta tNil)) rho mu (.bl (bs.all id)) :=
  ev_cb (ea_cons ha ea_nil) (fun _ => .bl _) fun F H vs Q k r q => by
    match vs, r with
    | [v], r =>
      obtain ⟨a, xs, e, hx, hs⟩ := r.head.lst_inv
      exact ⟨a, bs, by rw [e], SqL.of (by rw [← hs.bls_inv]; exact k _ _ hx), q⟩
    | [], r => exact absurd r.1 (by simp)
    | _ :: _ :: _, r => exact absurd r.1 (by simp)
theorem evP_min {ns : List Int} (ha : EvD C ta rho mu (.lst (ns.map D.int))) (h0 : 0 < ns.length) : EvP C (tCB (rMin K) (tCons ta tNil)) rho mu fun d => ∃ m, d = .int m ∧ m ∈ ns ∧ ∀ y ∈ ns, m ≤ y := fun c ts s H Q S q => ha.run S fun v H1 S1 => by
  obtain ⟨F, S1⟩ := S1
  obtain ⟨a, xs, e, hx, hs⟩ := S1.top.lst_inv
  refine ⟨a, ns, by rw [e], SqL.of (by rw [← hs.ints_inv]; exact S1.sub _ _ hx), h0, fun m hm hl => ?_⟩
  exact q (.int m) (.int m) mu H1 ⟨⟨m, rfl, hm, hl⟩, rfl⟩ ⟨F, (S1.fewer fun p hp => by simp [hp]).push (.int m)⟩
theorem evP_max {ns : List Int} (ha : EvD C ta rho mu (.lst (ns.map D.int))) (h0 : 0 < ns.length) : EvP C (tCB (rMax K) (tCons ta tNil)) rho mu fun d => ∃ m, d = .int m ∧ m ∈ ns ∧ ∀ y ∈ ns, y ≤ m := fun c ts s H Q S q => ha.run S fun v H1 S1 => by
  obtain ⟨F, S1⟩ := S1
  obtain ⟨a, xs, e, hx, hs⟩ := S1.top.lst_inv
  refine ⟨a, ns, by rw [e], SqL.of (by rw [← hs.ints_inv]; exact S1.sub _ _ hx), h0, fun m hm hl => ?_⟩
  exact q (.int m) (.int m) mu H1 ⟨⟨m, rfl, hm, hl⟩, rfl⟩ ⟨F, (S1.fewer fun p hp => by simp [hp]).push (.int m)⟩

/-! ### +, *, slices -/
theorem el_cat (ha : EvD C ta rho mu (.lst ds)) (hb : EvD C tb rho mu (.lst es)) (hl : ds.length + es.length ≤ 100000) : EvN C (tOp rCat ta tb) rho mu (ds ++ es) := EvN.of fun c ts s H Q S q => ha.run S fun x H1 S1 => hb.run S1 fun y H2 S2 => by
  obtain ⟨F, T⟩ := S2
  obtain ⟨b, ys, e2, hy, hs2⟩ := T.top.lst_inv
  obtain ⟨a, xs, e, hx, hs⟩ := (T.tmp (x, .lst ds) (by simp)).lst_inv
  refine ⟨a, b, xs, ys, e, e2, T.sub _ _ hx, T.sub _ _ hy, ?_, fun l hp => q l _ ((T.newL hp (hs.app hs2)).fewer fun p hp => ?_)⟩
  · rw [hs.1, hs2.1]
    exact Nat.le_trans hl (by rw [sizeLine_eq]; decide)
  · simp only [List.mem_cons] at hp ⊢
    rcases hp with h | h
    · exact .inl h
    · exact .inr (.inr (.inr h))
theorem ev_catT (ha : EvD C ta rho mu (.tup ds)) (hb : EvD C tb rho mu (.tup es)) (hl : ds.length + es.length ≤ 100000) : EvD C (tOp (rCatA K) ta tb) rho mu (.tup (ds ++ es)) :=
  ev_op ha hb fun F H x y Q k r1 r2 q => by
    obtain ⟨a, xs, e, hx, hs⟩ := r1.tup_inv
    obtain ⟨b, ys, e2, hy, hs2⟩ := r2.tup_inv
    have hz : xs.length + ys.length ≤ sizeLine := by
      rw [hs.1, hs2.1]
      exact Nat.le_trans hl (by rw [sizeLine_eq]; decide)
    refine ⟨a, b, xs, ys, e, e2, SqT.of (k _ _ hx), SqT.of (k _ _ hy), hz, fun h => ?_, fun h1 h2 => ?_, fun h1 h2 p hp => ?_⟩
    · have z : ds = [] := by
        have := hs.1
        rw [h] at this
        exact List.length_eq_zero_iff.mp this.symm
      rw [z, List.nil_append] at q
      exact q _ _ F H rfl (Gr.refl k) (by rw [← e2]; exact r2)
    · have z : es = [] := by
        have := hs2.1
        rw [h2] at this
        exact List.length_eq_zero_iff.mp this.symm
      rw [z, List.append_nil] at q
      exact q _ _ F H rfl (Gr.refl k) (by rw [← e]; exact r1)
    · have g := Gr.alloc (o := .tup (xs ++ ys)) k hp
      have z := (hs.app hs2).mono g.ex
      exact q _ _ _ _ rfl g (.tup upd_same z.1 z.2)
theorem drs_rep (h : DRs C F [v] [d]) (n : Nat) : DRs C F (List.replicate n [v]).flatten (List.replicate n d) := by
  have e : (List.replicate n [v]).flatten = List.replicate n v := by
    induction n with
    | zero => rfl
    | succ n ih => rw [List.replicate_succ, List.flatten_cons, ih, List.replicate_succ]; rfl
  rw [e]
  refine ⟨by simp, fun i w e a b => ?_⟩
  rw [List.getElem?_replicate] at a b
  split at a
  · rename_i hi
    rw [if_pos hi] at b
    cases a; cases b
    exact h.head
  · cases a
/-- [x] * n -/
theorem el_rep1 {n : Nat} (ha : EvD C ta rho mu (.lst [d])) (hb : EvD C tb rho mu (nat n)) (hn : n ≤ 100000) : EvN C (tOp rRep ta tb) rho mu (List.replicate n d) := EvN.of fun c ts s H Q S q => ha.run S fun x H1 S1 => hb.run S1 fun y H2 S2 => by
  obtain ⟨F, T⟩ := S2
  obtain ⟨a, xs, e, hx, hs⟩ := (T.tmp (x, .lst [d]) (by simp)).lst_inv
  match xs, hs, hx with
  | [v], hs, hx =>
    refine ⟨a, n, [v], e, T.top.int_inv, T.sub _ _ hx, by omega, by omega, ?_, fun p hp => q p _ ((T.newL hp ?_).fewer fun p hp => ?_)⟩
    · simp
      exact Nat.le_trans hn (by rw [sizeLine_eq]; decide)
    · have e : ((n : Int)).toNat = n := by omega
      rw [e]
      exact drs_rep hs n
    · simp only [List.mem_cons] at hp ⊢
      rcases hp with h | h
      · exact .inl h
      · exact .inr (.inr (.inr h))
  | [], hs, _ => exact absurd hs.1 (by simp)
  | _ :: _ :: _, hs, _ => exact absurd hs.1 (by simp)
/-- what a slice takes -/
def cutD (ds : List D) (lo hi : Option Int) : List D := (ds.drop (HT.sIx ds.length 0 lo)).take (HT.sIx ds.length ds.length hi - HT.sIx ds.length 0 lo)
theorem DRs.cut {xs : List V} {lo hi : Option Int} (h : DRs C F xs ds) : DRs C F (cutV xs lo hi) (cutD ds lo hi) := by
  unfold cutV cutD
  rw [h.1]
  exact h.drop.take
def EvO (C : Addr) (to : TO) (rho : List (Option D)) (mu : Mu) (o : Option Int) : Prop := ∀ (c : Cn) ts s H (Q : Option Int → Hp → Prop), Sat C c rho mu ts s H → (∀ H', Sat C c rho mu ts s H' → Q o H') → to s H Q
theorem eo_none : EvO C tNoPart rho mu none := fun c ts s H Q S q => q H S
theorem eo_some {i : Int} (h : EvD C te rho mu (.int i)) : EvO C (tPart te) rho mu (some i) := fun c ts s H Q S q => h.run S fun v H1 S1 => by
  obtain ⟨F, T⟩ := id S1
  exact ⟨i, T.top.int_inv, q H1 S1.pop⟩
theorem el_cut {lo hi : Option Int} {tl th : TO} (ha : EvD C ta rho mu (.lst ds)) (hl : EvO C tl rho mu lo) (hh : EvO C th rho mu hi) : EvN C (tSl (rSlL K) ta tl th) rho mu (cutD ds lo hi) := EvN.of fun c ts s H Q S q =>
  ha.run S fun x H1 S1 => hl c _ s H1 _ S1 fun H2 S2 => hh c _ s H2 _ S2 fun H3 S3 => by
    obtain ⟨F, T⟩ := S3
    obtain ⟨a, xs, e, hx, hs⟩ := T.top.lst_inv
    refine ⟨a, xs, e, SqL.of (T.sub _ _ hx), fun p hp => q p _ ((T.newL hp hs.cut).fewer fun p hp => ?_)⟩
    simp only [List.mem_cons] at hp ⊢
    rcases hp with h | h
    · exact .inl h
    · exact .inr (.inr h)
theorem ev_cutT {lo hi : Option Int} {tl th : TO} (ha : EvD C ta rho mu (.tup ds)) (hl : EvO C tl rho mu lo) (hh : EvO C th rho mu hi) : EvD C (tSl (rSlA K) ta tl th) rho mu (.tup (cutD ds lo hi)) := EvD.of fun c ts s H Q S q =>
  ha.run S fun x H1 S1 => hl c _ s H1 _ S1 fun H2 S2 => hh c _ s H2 _ S2 fun H3 S3 => by
    obtain ⟨F, T⟩ := id S3
    obtain ⟨a, xs, e, hx, hs⟩ := T.top.tup_inv
    refine ⟨a, xs, e, SqT.of (T.sub _ _ hx), fun h => ?_, fun h p hp => ?_⟩
    · have z : cutD ds lo hi = ds := by
        unfold cutD
        rw [← hs.1, h.1, h.2, List.drop_zero, Nat.sub_zero, hs.1, List.take_length]
      rw [z] at q
      rw [← e]
      exact q x H3 S3
    · have g := Gr.alloc (o := .tup (cutV xs lo hi)) T.sub hp
      have z := hs.cut (lo := lo) (hi := hi) |>.mono g.ex
      exact q _ _ ⟨_, ((T.grow g).fewer fun p hp => by simp [hp]).push (.tup upd_same z.1 z.2)⟩
theorem el_rev (ha : EvD C ta rho mu (.lst ds)) : EvN C (tRevL K ta) rho mu ds.reverse := EvN.of fun c ts s H Q S q => ha.run S fun x H1 S1 => by
  obtain ⟨F, T⟩ := S1
  obtain ⟨a, xs, e, hx, hs⟩ := T.top.lst_inv
  refine ⟨a, xs, e, SqL.of (T.sub _ _ hx), fun p hp => q p _ ((T.newL hp hs.rev).fewer fun p hp => ?_)⟩
  simp only [List.mem_cons] at hp ⊢
  rcases hp with h | h
  · exact .inl h
  · exact .inr (.inr h)
theorem el_revO {a : Addr} (ha : EvD C ta rho mu (.ptr a)) (hm : (a, MO.lst ds) ∈ mu) : EvN C (tRevL K ta) rho mu ds.reverse := EvN.of fun c ts s H Q S q => ha.run S fun x H1 S1 => by
  obtain ⟨F, T⟩ := S1
  obtain ⟨_, _, xs, hx, hs⟩ := T.mu _ hm
  refine ⟨a, xs, T.top.ptr_inv, SqL.of hx, fun p hp => q p _ ((T.newL hp hs.rev).fewer fun p hp => ?_)⟩
  simp only [List.mem_cons] at hp ⊢
  rcases hp with h | h
  · exact .inl h
  · exact .inr (.inr h)

/-! ### == -/
mutual
def toPy : D → PyData
  | .non => .none
  | .bl b => .bool b
  | .int i => .int i
  | .str x => .str x
  | .tup ds => .tuple (toPys ds)
  | .lst ds => .list (toPys ds)
  | .dct _ _ => .none
  | .mach _ _ => .none
  | .ptr _ => .none
  | .obj _ => .none
def toPys : List D → List PyData
  | [] => []
  | d :: ds => toPy d :: toPys ds
end
mutual
/-- plain data of depth at most n -/
def pl : Nat → D → Bool
  | _, .non => true
  | _, .bl _ => true
  | _, .int _ => true
  | n + 1, .tup ds => pls n ds
  | n + 1, .lst ds => pls n ds
  | _, _ => false
def pls : Nat → List D → Bool
  | _, [] => true
  | n, d :: ds => pl n d && pls n ds
end
theorem toPys_map (ds : List D) : toPys ds = ds.map toPy := by
  induction ds with
  | nil => rfl
  | cons d ds ih => show toPy d :: toPys ds = _; rw [ih]; rfl
theorem pls_all (n : Nat) (ds : List D) : pls n ds = ds.all (pl n) := by
  induction ds with
  | nil => rfl
  | cons d ds ih => show (pl n d && pls n ds) = _; rw [ih]; rfl
theorem dpAll_of {K : PySem.W.Frag} {H : Hp} : ∀ {xs : List V} {ds : List D}, xs.length = ds.length → (∀ (i : Nat) v d, xs[i]? = some v → ds[i]? = some d → Dp K H v (toPy d)) → DpAll K H xs (toPys ds)
  | [], [], _, _ => .nil
  | [], _ :: _, h, _ => by simp at h
  | _ :: _, [], h, _ => by simp at h
  | x :: xs, d :: ds, h, k => .cons (k 0 x d rfl rfl) (dpAll_of (by simpa using h) fun i v e a b => k (i + 1) v e (by simpa using a) (by simpa using b))
theorem DR.dp (k : Same F H) : ∀ {n : Nat} {v : V} {d : D}, DR C F v d → pl n d = true → Dp K H v (toPy d) := by
  intro n v d h
  induction h generalizing n with
  | non => intro _; exact .non
  | bl b => intro _; exact .bl b
  | int i => intro _; exact .int i
  | str x => intro z; cases n <;> cases z
  | @tup a xs ds hF hl hi ih =>
    intro z
    cases n with
    | zero => cases z
    | succ n =>
      have z' : pls n ds = true := z
      rw [pls_all, List.all_eq_true] at z'
      exact .tup (SqT.of (k _ _ hF)) (dpAll_of hl fun i v d a b => ih i v d a b (z' d (List.mem_of_getElem? b)))
  | @lst a xs ds hF hl hi ih =>
    intro z
    cases n with
    | zero => cases z
    | succ n =>
      have z' : pls n ds = true := z
      rw [pls_all, List.all_eq_true] at z'
      exact .lst (SqL.of (k _ _ hF)) (dpAll_of hl fun i v d a b => ih i v d a b (z' d (List.mem_of_getElem? b)))
  | dct _ _ _ _ => intro z; cases n <;> cases z
  | mach _ _ _ _ _ => intro z; cases n <;> cases z
  | ptr a => intro z; cases n <;> cases z
  | obj h => intro z; cases n <;> cases z
mutual
theorem lay_of : ∀ (n : Nat) (d : D), pl n d = true → (toPy d).canLay0 = true ∧ (toPy d).depth ≤ n
  | _, .non, _ => ⟨rfl, Nat.zero_le _⟩
  | _, .bl _, _ => ⟨rfl, Nat.zero_le _⟩
  | _, .int _, _ => ⟨rfl, Nat.zero_le _⟩
  | 0, .str _, h => by cases h
  | _ + 1, .str _, h => by cases h
  | 0, .tup _, h => by cases h
  | 0, .lst _, h => by cases h
  | n + 1, .tup ds, h => by
    obtain ⟨a, b⟩ := lays_of n ds h
    exact ⟨by simpa [toPy, PyData.canLay0] using a, by simpa [toPy, PyData.depth] using b⟩
  | n + 1, .lst ds, h => by
    obtain ⟨a, b⟩ := lays_of n ds h
    exact ⟨by simpa [toPy, PyData.canLay0] using a, by simpa [toPy, PyData.depth] using b⟩
  | 0, .dct _ _, h => by cases h
  | _ + 1, .dct _ _, h => by cases h
  | 0, .mach _ _, h => by cases h
  | _ + 1, .mach _ _, h => by cases h
  | 0, .ptr _, h => by cases h
  | _ + 1, .ptr _, h => by cases h
  | 0, .obj _, h => by cases h
  | _ + 1, .obj _, h => by cases h
theorem lays_of : ∀ (n : Nat) (ds : List D), pls n ds = true → PyData.canLayAll0 (toPys ds) = true ∧ PyData.depthAll (toPys ds) ≤ n
  | _, [], _ => ⟨rfl, Nat.zero_le _⟩
  | n, d :: ds, h => by
    have h' : (pl n d && pls n ds) = true := h
    rw [Bool.and_eq_true] at h'
    obtain ⟨a, b⟩ := lay_of n d h'.1
    obtain ⟨a2, b2⟩ := lays_of n ds h'.2
    refine ⟨?_, ?_⟩
    · show ((toPy d).canLay0 && PyData.canLayAll0 (toPys ds)) = true
      rw [a, a2]
      rfl
    · show max (toPy d).depth (PyData.depthAll (toPys ds)) ≤ n
      omega
end
theorem shaped_of {n : Nat} (hn : n ≤ 64) (h : pl n d = true) : SeqAt.shaped (toPy d) = true := by
  obtain ⟨a, b⟩ := lay_of n d h
  unfold SeqAt.shaped
  rw [a, Bool.true_and, decide_eq_true_eq]
  omega
def eqd (d e : D) : Bool := PyData.eqv (toPy d) (toPy e)
theorem ev_eq (n : Nat) (ha : EvD C ta rho mu d1) (hb : EvD C tb rho mu d2) (h1 : pl n d1 = true) (h2 : pl n d2 = true) (hn : n ≤ 64 := by decide) : EvD C (tOp (rEqD K) ta tb) rho mu (.bl (eqd d1 d2)) :=
  ev_op ha hb fun F H x y Q k r1 r2 q => ⟨_, _, r1.dp k h1, r2.dp k h2, shaped_of hn h1, shaped_of hn h2, q _ _ F H rfl (Gr.refl k) (.bl _)⟩
theorem ev_ne (n : Nat) (ha : EvD C ta rho mu d1) (hb : EvD C tb rho mu d2) (h1 : pl n d1 = true) (h2 : pl n d2 = true) (hn : n ≤ 64 := by decide) : EvD C (tOp (rNeD K) ta tb) rho mu (.bl (!eqd d1 d2)) :=
  ev_op ha hb fun F H x y Q k r1 r2 q => ⟨_, _, r1.dp k h1, r2.dp k h2, shaped_of hn h1, shaped_of hn h2, q _ _ F H rfl (Gr.refl k) (.bl _)⟩
theorem eqd_int (i j : Int) : eqd (.int i) (.int j) = decide (i = j) := by
  show (i == j) = decide (i = j)
  rw [Bool.beq_eq_decide_eq]
theorem ev_eqI {i j : Int} (ha : EvD C ta rho mu (.int i)) (hb : EvD C tb rho mu (.int j)) : EvD C (tOp (rEqD K) ta tb) rho mu (.bl (decide (i = j))) := by
  rw [← eqd_int]
  exact ev_eq 1 ha hb rfl rfl
theorem ev_neI {i j : Int} (ha : EvD C ta rho mu (.int i)) (hb : EvD C tb rho mu (.int j)) : EvD C (tOp (rNeD K) ta tb) rho mu (.bl (!decide (i = j))) := by
  rw [← eqd_int]
  exact ev_ne 1 ha hb rfl rfl
theorem eqvAll_nats : ∀ (a b : List Nat), PyData.eqvAll (toPys (nats a)) (toPys (nats b)) = decide (a = b)
  | [], [] => by simp [nats, toPys, PyData.eqvAll]
  | [], _ :: _ => by simp [nats, toPys, PyData.eqvAll]
  | _ :: _, [] => by simp [nats, toPys, PyData.eqvAll]
  | x :: a, y :: b => by
    show (((x : Int) == (y : Int)) && PyData.eqvAll (toPys (nats a)) (toPys (nats b))) = _
    rw [eqvAll_nats a b]
    by_cases h : x = y
    · subst h
      simp
    · have h2 : ((x : Int) == (y : Int)) = false := beq_eq_false_iff_ne.mpr fun z => h (by omega)
      rw [h2]
      simp [h]
theorem eqd_nats (a b : List Nat) : eqd (.tup (nats a)) (.tup (nats b)) = decide (a = b) := eqvAll_nats a b
theorem eqd_natsL (a b : List Nat) : eqd (.lst (nats a)) (.lst (nats b)) = decide (a = b) := eqvAll_nats a b
theorem pls_ints (ns : List Int) : pls 0 (ns.map D.int) = true := by
  rw [pls_all]
  simp [pl]
theorem pls_nats (n : Nat) (l : List Nat) : pls n (nats l) = true := by
  rw [pls_all]
  simp [nats, pl]
end

/-! ### calls of the text's own defs -/
structure Def (K : PySem.W.Frag) (mg : Str → Option Value) (x : Str) (st : Stmt) (ps : List Str) : Prop where
  ex : ∃ f fd, Fun K x x st f fd ∧ mg x = some (.ref f) ∧ Binds K fd ps []
structure Cal (P : Program) (w : World) (K : PySem.W.Frag) (mg : Str → Option Value) (base : Heap) (k : Nat) (x : Str) (ps : List Str) (sp : Sp) : Prop where
  ex : ∃ f fd, FnOk P w K mg base CX0 k f fd ps sp ∧ mg x = some (.ref f) ∧ PySem.W.keepIn K (.ref f) = true ∧ Binds K fd ps [] ∧ ∃ st, Fun K x x st f fd
section
variable {P : Program} {w : World} {K : PySem.W.Frag} {mg : Str → Option Value} {base : Heap} {C : Addr}
theorem Def.cal {x : Str} {st : Stmt} {ps : List Str} {k : Nat} {sp : Sp} (h : Def K mg x st ps) (ok : ∀ f fd, Fun K x x st f fd → FnOk P w K mg base CX0 k f fd ps sp) : Cal P w K mg base k x ps sp := by
  obtain ⟨f, fd, a, b, c⟩ := h.ex
  exact ⟨f, fd, ok f fd a, b, a.kp, c, st, a⟩
theorem pe_cal {X : Cx} {x : Str} {ps : List Str} {k : Nat} {sp : Sp} {e : Expr} {es : List Expr} {t : TA} {p pos : Pos} (G : Cal X.prog X.w X.K X.mg X.base k x ps sp) (hr : Room k X.A) (ha : PA X (e :: es) t) (hg : Gl X x := by rfl)
    (he : starEach (e :: es) X.env = (false, eval e X.env) :: starEach es X.env := by rfl) (hpl : (backTo pos (starEach es X.env)).any (·.1) = false := by rfl) (hdb : (x == ("__debug__" : Str)) = false := by decide) : PE X (.Call (.Name x p) (e :: es) [] pos) (tCall sp [] E0 t) := by
  obtain ⟨f, fd, F, m, kp, b, _⟩ := G.ex
  exact pe_call F hr hg m kp b .nil pass0 ha hdb he hpl
end
end DL
/-! the text by places, what stands behind the top (printed by mkdg.py) -/
namespace DL
open PySem L2
def top (i : Nat) : Stmt := PySem.Challenge.pw_endsandround_k16_whole_corner_papers.main.body.getD i (.Pass ⟨0, 0, 0, 0⟩)
abbrev s_onward : Stmt := top 6
abbrev N_onward : List Str := ["machine", "states", "state", "command"]
theorem sc_onward : FnScope N_onward ["machine", "states"] (defScope s_onward) := ⟨rfl, rfl, rfl, by decide +kernel, rfl, by decide +kernel, by decide +kernel⟩
abbrev s_all_behind : Stmt := top 7
abbrev N_all_behind : List Str := ["machine", "found", "later"]
theorem sc_all_behind : FnScope N_all_behind ["machine"] (defScope s_all_behind) := ⟨rfl, rfl, rfl, by decide +kernel, rfl, by decide +kernel, by decide +kernel⟩
abbrev s_at_count : Stmt := top 8
abbrev N_at_count : List Str := ["rows", "count"]
theorem sc_at_count : FnScope N_at_count ["rows", "count"] (defScope s_at_count) := ⟨rfl, rfl, rfl, by decide +kernel, rfl, by decide +kernel, by decide +kernel⟩
abbrev s_behind : Stmt := top 9
abbrev N_behind : List Str := ["machine", "count"]
theorem sc_behind : FnScope N_behind ["machine", "count"] (defScope s_behind) := ⟨rfl, rfl, rfl, by decide +kernel, rfl, by decide +kernel, by decide +kernel⟩
abbrev s_settled_behind : Stmt := top 10
abbrev N_settled_behind : List Str := ["machine"]
theorem sc_settled_behind : FnScope N_settled_behind ["machine"] (defScope s_settled_behind) := ⟨rfl, rfl, rfl, by decide +kernel, rfl, by decide +kernel, by decide +kernel⟩
abbrev s_coarser : Stmt := top 11
abbrev N_coarser : List Str := ["machine", "classes", "firsts", "found", "state", "key", "later"]
theorem sc_coarser : FnScope N_coarser ["machine", "classes"] (defScope s_coarser) := ⟨rfl, rfl, rfl, by decide +kernel, rfl, by decide +kernel, by decide +kernel⟩
abbrev s_all_joined : Stmt := top 12
abbrev N_all_joined : List Str := ["machine", "found", "later"]
theorem sc_all_joined : FnScope N_all_joined ["machine"] (defScope s_all_joined) := ⟨rfl, rfl, rfl, by decide +kernel, rfl, by decide +kernel, by decide +kernel⟩
abbrev s_joined : Stmt := top 13
abbrev N_joined : List Str := ["machine", "count"]
theorem sc_joined : FnScope N_joined ["machine", "count"] (defScope s_joined) := ⟨rfl, rfl, rfl, by decide +kernel, rfl, by decide +kernel, by decide +kernel⟩
abbrev s_settled_joined : Stmt := top 14
abbrev N_settled_joined : List Str := ["machine"]
theorem sc_settled_joined : FnScope N_settled_joined ["machine"] (defScope s_settled_joined) := ⟨rfl, rfl, rfl, by decide +kernel, rfl, by decide +kernel, by decide +kernel⟩
abbrev s_layers_of : Stmt := top 15
abbrev N_layers_of : List Str := ["machine"]
theorem sc_layers_of : FnScope N_layers_of ["machine"] (defScope s_layers_of) := ⟨rfl, rfl, rfl, by decide +kernel, rfl, by decide +kernel, by decide +kernel⟩
abbrev s_keeping_row : Stmt := top 16
abbrev N_keeping_row : List Str := ["machine", "one", "other", "count", "rows", "found", "left", "classes", "pairs", "command", "at", "left_one", "right_one"]
theorem sc_keeping_row : FnScope N_keeping_row ["machine", "one", "other", "count"] (defScope s_keeping_row) := ⟨rfl, rfl, rfl, by decide +kernel, rfl, by decide +kernel, by decide +kernel⟩
abbrev s_opened : Stmt := top 18
abbrev N_opened : List Str := ["machine", "states", "a", "c", "state"]
theorem sc_opened : FnScope N_opened ["machine", "states", "a", "c"] (defScope s_opened) := ⟨rfl, rfl, rfl, by decide +kernel, rfl, by decide +kernel, by decide +kernel⟩
abbrev s_carried : Stmt := top 19
abbrev N_carried : List Str := ["machine", "pairs", "found", "one", "other", "pair"]
theorem sc_carried : FnScope N_carried ["machine", "pairs"] (defScope s_carried) := ⟨rfl, rfl, rfl, by decide +kernel, rfl, by decide +kernel, by decide +kernel⟩
abbrev s_pairs_after : Stmt := top 20
abbrev N_pairs_after : List Str := ["machine", "states", "a", "c", "gap", "pairs", "rows", "places", "start"]
theorem sc_pairs_after : FnScope N_pairs_after ["machine", "states", "a", "c", "gap"] (defScope s_pairs_after) := ⟨rfl, rfl, rfl, by decide +kernel, rfl, by decide +kernel, by decide +kernel⟩
abbrev s_unlike_commands : Stmt := top 21
abbrev N_unlike_commands : List Str := ["machine", "c", "a"]
theorem sc_unlike_commands : FnScope N_unlike_commands ["machine"] (defScope s_unlike_commands) := ⟨rfl, rfl, rfl, by decide +kernel, rfl, by decide +kernel, by decide +kernel⟩
abbrev s_is_integer : Stmt := top 23
abbrev N_is_integer : List Str := ["value"]
theorem sc_is_integer : FnScope N_is_integer ["value"] (defScope s_is_integer) := ⟨rfl, rfl, rfl, by decide +kernel, rfl, by decide +kernel, by decide +kernel⟩
abbrev s_is_number : Stmt := top 24
abbrev N_is_number : List Str := ["value"]
theorem sc_is_number : FnScope N_is_number ["value"] (defScope s_is_number) := ⟨rfl, rfl, rfl, by decide +kernel, rfl, by decide +kernel, by decide +kernel⟩
abbrev s_is_sequence : Stmt := top 25
abbrev N_is_sequence : List Str := ["value"]
theorem sc_is_sequence : FnScope N_is_sequence ["value"] (defScope s_is_sequence) := ⟨rfl, rfl, rfl, by decide +kernel, rfl, by decide +kernel, by decide +kernel⟩
abbrev s_is_index : Stmt := top 26
abbrev N_is_index : List Str := ["value", "many"]
theorem sc_is_index : FnScope N_is_index ["value", "many"] (defScope s_is_index) := ⟨rfl, rfl, rfl, by decide +kernel, rfl, by decide +kernel, by decide +kernel⟩
abbrev s_checked_row : Stmt := top 29
abbrev N_checked_row : List Str := ["commands", "value", "at", "command"]
theorem sc_checked_row : FnScope N_checked_row ["commands", "value"] (defScope s_checked_row) := ⟨rfl, rfl, rfl, by decide +kernel, rfl, by decide +kernel, by decide +kernel⟩
abbrev s_led : Stmt := top 30
abbrev N_led : List Str := ["machine", "state", "row", "now", "command"]
theorem sc_led : FnScope N_led ["machine", "state", "row"] (defScope s_led) := ⟨rfl, rfl, rfl, by decide +kernel, rfl, by decide +kernel, by decide +kernel⟩
abbrev s_end_state : Stmt := top 31
abbrev N_end_state : List Str := ["machine", "state", "row"]
theorem sc_end_state : FnScope N_end_state ["machine", "state", "row"] (defScope s_end_state) := ⟨rfl, rfl, rfl, by decide +kernel, rfl, by decide +kernel, by decide +kernel⟩
abbrev s_clashing : Stmt := top 33
abbrev N_clashing : List Str := ["machine", "pairs", "a", "c", "classes", "one", "other"]
theorem sc_clashing : FnScope N_clashing ["machine", "pairs", "a", "c", "classes"] (defScope s_clashing) := ⟨rfl, rfl, rfl, by decide +kernel, rfl, by decide +kernel, by decide +kernel⟩
abbrev s_lets : Stmt := top 34
abbrev N_lets : List Str := ["machine", "layers", "before", "step", "after", "states", "classes", "a", "c"]
theorem sc_lets : FnScope N_lets ["machine", "layers", "before", "step", "after"] (defScope s_lets) := ⟨rfl, rfl, rfl, by decide +kernel, rfl, by decide +kernel, by decide +kernel⟩
abbrev s_layered : Stmt := top 35
abbrev N_layered : List Str := ["machine", "states", "a", "c", "gap", "found", "pair", "turn", "later", "command", "more"]
theorem sc_layered : FnScope N_layered ["machine", "states", "a", "c", "gap"] (defScope s_layered) := ⟨rfl, rfl, rfl, by decide +kernel, rfl, by decide +kernel, by decide +kernel⟩
abbrev s_traced : Stmt := top 36
abbrev N_traced : List Str := ["layers", "pair", "row", "layer", "command"]
theorem sc_traced : FnScope N_traced ["layers", "pair"] (defScope s_traced) := ⟨rfl, rfl, rfl, by decide +kernel, rfl, by decide +kernel, by decide +kernel⟩
abbrev s_leading_row : Stmt := top 37
abbrev N_leading_row : List Str := ["machine", "state", "count", "lots", "row", "left", "ways", "one", "command", "later"]
theorem sc_leading_row : FnScope N_leading_row ["machine", "state", "count"] (defScope s_leading_row) := ⟨rfl, rfl, rfl, by decide +kernel, rfl, by decide +kernel, by decide +kernel⟩
abbrev s_built_harm : Stmt := top 38
abbrev N_built_harm : List Str := ["machine", "before", "step", "after", "a", "c", "states", "classes", "layers", "pair", "first", "between", "middle", "state", "ahead", "start", "one", "other"]
theorem sc_built_harm : FnScope N_built_harm ["machine", "before", "step", "after", "a", "c"] (defScope s_built_harm) := ⟨rfl, rfl, rfl, by decide +kernel, rfl, by decide +kernel, by decide +kernel⟩
abbrev s_exchange_harm : Stmt := top 39
abbrev N_exchange_harm : List Str := ["machine", "before", "step", "after", "states", "classes", "a", "c"]
theorem sc_exchange_harm : FnScope N_exchange_harm ["machine", "before", "step", "after"] (defScope s_exchange_harm) := ⟨rfl, rfl, rfl, by decide +kernel, rfl, by decide +kernel, by decide +kernel⟩
abbrev s_is_exchange_harm : Stmt := top 40
abbrev N_is_exchange_harm : List Str := ["machine", "before", "step", "after", "value", "row", "state", "command", "at", "to", "turned"]
theorem sc_is_exchange_harm : FnScope N_is_exchange_harm ["machine", "before", "step", "after", "value"] (defScope s_is_exchange_harm) := ⟨rfl, rfl, rfl, by decide +kernel, rfl, by decide +kernel, by decide +kernel⟩
abbrev s_least_after : Stmt := top 42
abbrev N_least_after : List Str := ["machine", "layers", "before", "distance", "most", "found"]
theorem sc_least_after : FnScope N_least_after ["machine", "layers", "before", "distance", "most"] (defScope s_least_after) := ⟨rfl, rfl, rfl, by decide +kernel, rfl, by decide +kernel, by decide +kernel⟩
abbrev s_corners : Stmt := top 43
abbrev N_corners : List Str := ["machine", "distance", "layers", "found", "most", "before", "after"]
theorem sc_corners : FnScope N_corners ["machine", "distance"] (defScope s_corners) := ⟨rfl, rfl, rfl, by decide +kernel, rfl, by decide +kernel, by decide +kernel⟩
abbrev s_contexts_left : Stmt := top 44
abbrev N_contexts_left : List Str := ["machine", "some", "u", "v", "found", "one", "other"]
theorem sc_contexts_left : FnScope N_contexts_left ["machine", "some"] (defScope s_contexts_left) := ⟨rfl, rfl, rfl, by decide +kernel, rfl, by decide +kernel, by decide +kernel⟩
abbrev s_corner_paper : Stmt := top 45
abbrev N_corner_paper : List Str := ["machine", "distance", "some", "harms", "before", "after"]
theorem sc_corner_paper : FnScope N_corner_paper ["machine", "distance"] (defScope s_corner_paper) := ⟨rfl, rfl, rfl, by decide +kernel, rfl, by decide +kernel, by decide +kernel⟩
abbrev s_are_stairs : Stmt := top 46
abbrev N_are_stairs : List Str := ["machine", "distance", "value", "layers", "one", "other"]
theorem sc_are_stairs : FnScope N_are_stairs ["machine", "distance", "value"] (defScope s_are_stairs) := ⟨rfl, rfl, rfl, by decide +kernel, rfl, by decide +kernel, by decide +kernel⟩
abbrev s_is_corner_paper : Stmt := top 47
abbrev N_is_corner_paper : List Str := ["machine", "distance", "value", "asked", "harms", "harm", "x", "y"]
theorem sc_is_corner_paper : FnScope N_is_corner_paper ["machine", "distance", "value"] (defScope s_is_corner_paper) := ⟨rfl, rfl, rfl, by decide +kernel, rfl, by decide +kernel, by decide +kernel⟩
abbrev s_l_draw : Stmt := top 49
abbrev N_l_draw : List Str := ["_law_script", "_law_salt", "_law_cells", "_law_cell", "_law_blend"]
theorem sc_l_draw : FnScope N_l_draw ["_law_script", "_law_salt"] (defScope s_l_draw) := ⟨rfl, rfl, rfl, by decide +kernel, rfl, by decide +kernel, by decide +kernel⟩
abbrev s_l_any : Stmt := top 50
abbrev N_l_any : List Str := ["_law_deal", "_law_bound", "_law_rest"]
theorem sc_l_any : FnScope N_l_any ["_law_deal", "_law_bound"] (defScope s_l_any) := ⟨rfl, rfl, rfl, by decide +kernel, rfl, by decide +kernel, by decide +kernel⟩
abbrev s_l_of : Stmt := top 51
abbrev N_l_of : List Str := ["_law_deal", "_law_some"]
theorem sc_l_of : FnScope N_l_of ["_law_deal", "_law_some"] (defScope s_l_of) := ⟨rfl, rfl, rfl, by decide +kernel, rfl, by decide +kernel, by decide +kernel⟩
abbrev s_l_mixed : Stmt := top 52
abbrev N_l_mixed : List Str := ["_law_deal", "_law_some", "_law_left_here", "_law_found"]
theorem sc_l_mixed : FnScope N_l_mixed ["_law_deal", "_law_some"] (defScope s_l_mixed) := ⟨rfl, rfl, rfl, by decide +kernel, rfl, by decide +kernel, by decide +kernel⟩
abbrev s_l_view : Stmt := top 53
abbrev N_l_view : List Str := ["_law_deal", "_law_commands", "_law_bits", "_law_command"]
theorem sc_l_view : FnScope N_l_view ["_law_deal", "_law_commands"] (defScope s_l_view) := ⟨rfl, rfl, rfl, by decide +kernel, rfl, by decide +kernel, by decide +kernel⟩
abbrev s_l_first : Stmt := top 54
abbrev N_l_first : List Str := ["_law_bits", "_law_first_here", "_law_base", "_law_rows", "_law_at", "_law_bit"]
theorem sc_l_first : FnScope N_l_first ["_law_bits", "_law_first_here", "_law_base"] (defScope s_l_first) := ⟨rfl, rfl, rfl, by decide +kernel, rfl, by decide +kernel, by decide +kernel⟩
abbrev s_l_last : Stmt := top 55
abbrev N_l_last : List Str := ["_law_bits", "_law_last_here", "_law_base", "_law_whole", "_law_turn", "_law_state", "_law_bit"]
theorem sc_l_last : FnScope N_l_last ["_law_bits", "_law_last_here", "_law_base"] (defScope s_l_last) := ⟨rfl, rfl, rfl, by decide +kernel, rfl, by decide +kernel, by decide +kernel⟩
abbrev s_l_wheel : Stmt := top 56
abbrev N_l_wheel : List Str := ["_law_sums", "_law_step", "_law_modulus", "_law_base", "_law_rows", "_law_place", "_law_state", "_law_add", "_law_one"]
theorem sc_l_wheel : FnScope N_l_wheel ["_law_sums", "_law_step", "_law_modulus", "_law_base"] (defScope s_l_wheel) := ⟨rfl, rfl, rfl, by decide +kernel, rfl, by decide +kernel, by decide +kernel⟩
abbrev s_l_named : Stmt := top 57
abbrev N_l_named : List Str := ["_law_deal", "_law_steps", "_law_names", "_law_found", "_law_row", "_law_state", "_law_to"]
theorem sc_l_named : FnScope N_l_named ["_law_deal", "_law_steps"] (defScope s_l_named) := ⟨rfl, rfl, rfl, by decide +kernel, rfl, by decide +kernel, by decide +kernel⟩
abbrev s_l_built : Stmt := top 58
abbrev N_l_built : List Str := ["_law_deal", "_law_most", "_law_commands", "_law_steps", "_law_first_here", "_law_last_here", "_law_step", "_law_modulus", "_law_order", "_law_part"]
theorem sc_l_built : FnScope N_l_built ["_law_deal", "_law_most"] (defScope s_l_built) := ⟨rfl, rfl, rfl, by decide +kernel, rfl, by decide +kernel, by decide +kernel⟩
abbrev s_l_machine : Stmt := top 59
abbrev N_l_machine : List Str := ["_law_deal", "_law_most", "_law_form", "_law_commands", "_law_steps", "_law_triple", "_law_many", "_law_columns", "_law_command", "_law_column", "_law_shift", "_law_state"]
theorem sc_l_machine : FnScope N_l_machine ["_law_deal", "_law_most"] (defScope s_l_machine) := ⟨rfl, rfl, rfl, by decide +kernel, rfl, by decide +kernel, by decide +kernel⟩
abbrev s_l_spot : Stmt := top 60
abbrev N_l_spot : List Str := ["_law_deal", "_law_form", "_law_commands", "_law_steps", "_law_row", "_law_triple", "_law_base", "_law_many", "_law_shift", "_law_state", "_law_command"]
theorem sc_l_spot : FnScope N_l_spot ["_law_deal"] (defScope s_l_spot) := ⟨rfl, rfl, rfl, by decide +kernel, rfl, by decide +kernel, by decide +kernel⟩
abbrev s_l_lots : Stmt := top 61
abbrev N_l_lots : List Str := ["_law_steps", "_law_found", "_law_turn", "_law_later", "_law_state"]
theorem sc_l_lots : FnScope N_l_lots ["_law_steps"] (defScope s_l_lots) := ⟨rfl, rfl, rfl, by decide +kernel, rfl, by decide +kernel, by decide +kernel⟩
abbrev s_l_classes : Stmt := top 62
abbrev N_l_classes : List Str := ["_law_steps", "_law_found", "_law_turn", "_law_row", "_law_later", "_law_now", "_law_keys", "_law_key"]
theorem sc_l_classes : FnScope N_l_classes ["_law_steps"] (defScope s_l_classes) := ⟨rfl, rfl, rfl, by decide +kernel, rfl, by decide +kernel, by decide +kernel⟩
abbrev s_l_opened : Stmt := top 63
abbrev N_l_opened : List Str := ["_law_steps", "_law_states", "_law_a", "_law_c", "_law_state"]
theorem sc_l_opened : FnScope N_l_opened ["_law_steps", "_law_states", "_law_a", "_law_c"] (defScope s_l_opened) := ⟨rfl, rfl, rfl, by decide +kernel, rfl, by decide +kernel, by decide +kernel⟩
abbrev s_l_carried : Stmt := top 64
abbrev N_l_carried : List Str := ["_law_steps", "_law_pairs", "_law_found", "_law_one", "_law_other_here", "_law_command"]
theorem sc_l_carried : FnScope N_l_carried ["_law_steps", "_law_pairs"] (defScope s_l_carried) := ⟨rfl, rfl, rfl, by decide +kernel, rfl, by decide +kernel, by decide +kernel⟩
abbrev s_l_holds : Stmt := top 65
abbrev N_l_holds : List Str := ["_law_steps", "_law_states", "_law_step", "_law_classes_here", "_law_c", "_law_a", "_law_pairs", "_law_turn", "_law_pair"]
theorem sc_l_holds : FnScope N_l_holds ["_law_steps", "_law_states", "_law_step", "_law_classes_here"] (defScope s_l_holds) := ⟨rfl, rfl, rfl, by decide +kernel, rfl, by decide +kernel, by decide +kernel⟩
abbrev s_l_end : Stmt := top 66
abbrev N_l_end : List Str := ["_law_steps", "_law_state", "_law_row", "_law_command"]
theorem sc_l_end : FnScope N_l_end ["_law_steps", "_law_state", "_law_row"] (defScope s_l_end) := ⟨rfl, rfl, rfl, by decide +kernel, rfl, by decide +kernel, by decide +kernel⟩
abbrev s_l_left : Stmt := top 67
abbrev N_l_left : List Str := ["_law_steps", "_law_some", "_law_u", "_law_v", "_law_found", "_law_at"]
theorem sc_l_left : FnScope N_l_left ["_law_steps", "_law_some"] (defScope s_l_left) := ⟨rfl, rfl, rfl, by decide +kernel, rfl, by decide +kernel, by decide +kernel⟩
abbrev s_l_is_harm : Stmt := top 68
abbrev N_l_is_harm : List Str := ["_law_steps", "_law_before", "_law_step", "_law_after", "_law_value", "_law_row", "_law_state", "_law_one", "_law_many", "_law_command", "_law_turned"]
theorem sc_l_is_harm : FnScope N_l_is_harm ["_law_steps", "_law_before", "_law_step", "_law_after", "_law_value"] (defScope s_l_is_harm) := ⟨rfl, rfl, rfl, by decide +kernel, rfl, by decide +kernel, by decide +kernel⟩
abbrev s_l_is_paper : Stmt := top 69
abbrev N_l_is_paper : List Str := ["_law_steps", "_law_distance", "_law_value", "_law_lots_here", "_law_classes_here", "_law_one", "_law_part", "_law_most", "_law_at", "_law_asked"]
theorem sc_l_is_paper : FnScope N_l_is_paper ["_law_steps", "_law_distance", "_law_value"] (defScope s_l_is_paper) := ⟨rfl, rfl, rfl, by decide +kernel, rfl, by decide +kernel, by decide +kernel⟩
abbrev s_l_other : Stmt := top 70
abbrev N_l_other : List Str := ["_law_deal", "_law_machine_here", "_law_distance", "_law_u", "_law_v", "_law_told", "_law_some", "_law_harms", "_law_form", "_law_x", "_law_y", "_law_new", "_law_at", "_law_spot_here", "_law_row", "_law_state"]
theorem sc_l_other : FnScope N_l_other ["_law_deal", "_law_machine_here", "_law_distance", "_law_u", "_law_v", "_law_told"] (defScope s_l_other) := ⟨rfl, rfl, rfl, by decide +kernel, rfl, by decide +kernel, by decide +kernel⟩
abbrev s_law : Stmt := top 71
abbrev N_law : List Str := ["_law_script", "_law_deal", "_law_commands", "_law_steps", "_law_machine_here", "_law_u", "_law_v", "_law_distance", "_law_told", "_law_turn", "_law_value"]
theorem sc_law : FnScope N_law ["_law_script"] (defScope s_law) := ⟨rfl, rfl, rfl, by decide +kernel, rfl, by decide +kernel, by decide +kernel⟩
abbrev s_Machine_init : Stmt := inClass (top 28) 0
abbrev N_Machine_init : List Str := ["self", "commands", "steps", "many", "at", "row", "state"]
theorem sc_Machine_init : FnScope N_Machine_init ["self", "commands", "steps"] (defScope s_Machine_init) := ⟨rfl, rfl, rfl, by decide +kernel, rfl, by decide +kernel, by decide +kernel⟩
structure Bts (mg : Str → Option Value) : Prop where
  len : mg "len" = none
  tuple : mg "tuple" = none
  range : mg "range" = none
  sorted : mg "sorted" = none
  min : mg "min" = none
  max : mg "max" = none
  zip : mg "zip" = none
  enumerate : mg "enumerate" = none
  isinstance : mg "isinstance" = none
  all : mg "all" = none
  int : mg "int" = none
  bool : mg "bool" = none
  list : mg "list" = none
  set : mg "set" = none
  abs : mg "abs" = none
  repr : mg "repr" = none
structure Ds (K : PySem.W.Frag) (mg : Str → Option Value) : Prop where
  onward : Def K mg "onward" s_onward ["machine", "states"]
  all_behind : Def K mg "all_behind" s_all_behind ["machine"]
  at_count : Def K mg "at_count" s_at_count ["rows", "count"]
  behind : Def K mg "behind" s_behind ["machine", "count"]
  settled_behind : Def K mg "settled_behind" s_settled_behind ["machine"]
  coarser : Def K mg "coarser" s_coarser ["machine", "classes"]
  all_joined : Def K mg "all_joined" s_all_joined ["machine"]
  joined : Def K mg "joined" s_joined ["machine", "count"]
  settled_joined : Def K mg "settled_joined" s_settled_joined ["machine"]
  layers_of : Def K mg "layers_of" s_layers_of ["machine"]
  keeping_row : Def K mg "keeping_row" s_keeping_row ["machine", "one", "other", "count"]
  opened : Def K mg "opened" s_opened ["machine", "states", "a", "c"]
  carried : Def K mg "carried" s_carried ["machine", "pairs"]
  pairs_after : Def K mg "pairs_after" s_pairs_after ["machine", "states", "a", "c", "gap"]
  unlike_commands : Def K mg "unlike_commands" s_unlike_commands ["machine"]
  is_integer : Def K mg "is_integer" s_is_integer ["value"]
  is_number : Def K mg "is_number" s_is_number ["value"]
  is_sequence : Def K mg "is_sequence" s_is_sequence ["value"]
  is_index : Def K mg "is_index" s_is_index ["value", "many"]
  checked_row : Def K mg "checked_row" s_checked_row ["commands", "value"]
  led : Def K mg "led" s_led ["machine", "state", "row"]
  end_state : Def K mg "end_state" s_end_state ["machine", "state", "row"]
  clashing : Def K mg "clashing" s_clashing ["machine", "pairs", "a", "c", "classes"]
  lets : Def K mg "lets" s_lets ["machine", "layers", "before", "step", "after"]
  layered : Def K mg "layered" s_layered ["machine", "states", "a", "c", "gap"]
  traced : Def K mg "traced" s_traced ["layers", "pair"]
  leading_row : Def K mg "leading_row" s_leading_row ["machine", "state", "count"]
  built_harm : Def K mg "built_harm" s_built_harm ["machine", "before", "step", "after", "a", "c"]
  exchange_harm : Def K mg "exchange_harm" s_exchange_harm ["machine", "before", "step", "after"]
  is_exchange_harm : Def K mg "is_exchange_harm" s_is_exchange_harm ["machine", "before", "step", "after", "value"]
  least_after : Def K mg "least_after" s_least_after ["machine", "layers", "before", "distance", "most"]
  corners : Def K mg "corners" s_corners ["machine", "distance"]
  contexts_left : Def K mg "contexts_left" s_contexts_left ["machine", "some"]
  corner_paper : Def K mg "corner_paper" s_corner_paper ["machine", "distance"]
  are_stairs : Def K mg "are_stairs" s_are_stairs ["machine", "distance", "value"]
  is_corner_paper : Def K mg "is_corner_paper" s_is_corner_paper ["machine", "distance", "value"]
  l_draw : Def K mg "_law_draw" s_l_draw ["_law_script", "_law_salt"]
  l_any : Def K mg "_law_any" s_l_any ["_law_deal", "_law_bound"]
  l_of : Def K mg "_law_of" s_l_of ["_law_deal", "_law_some"]
  l_mixed : Def K mg "_law_mixed" s_l_mixed ["_law_deal", "_law_some"]
  l_view : Def K mg "_law_view" s_l_view ["_law_deal", "_law_commands"]
  l_first : Def K mg "_law_first" s_l_first ["_law_bits", "_law_first_here", "_law_base"]
  l_last : Def K mg "_law_last" s_l_last ["_law_bits", "_law_last_here", "_law_base"]
  l_wheel : Def K mg "_law_wheel" s_l_wheel ["_law_sums", "_law_step", "_law_modulus", "_law_base"]
  l_named : Def K mg "_law_named" s_l_named ["_law_deal", "_law_steps"]
  l_built : Def K mg "_law_built" s_l_built ["_law_deal", "_law_most"]
  l_machine : Def K mg "_law_machine" s_l_machine ["_law_deal", "_law_most"]
  l_spot : Def K mg "_law_spot" s_l_spot ["_law_deal"]
  l_lots : Def K mg "_law_lots" s_l_lots ["_law_steps"]
  l_classes : Def K mg "_law_classes" s_l_classes ["_law_steps"]
  l_opened : Def K mg "_law_opened" s_l_opened ["_law_steps", "_law_states", "_law_a", "_law_c"]
  l_carried : Def K mg "_law_carried" s_l_carried ["_law_steps", "_law_pairs"]
  l_holds : Def K mg "_law_holds" s_l_holds ["_law_steps", "_law_states", "_law_step", "_law_classes_here"]
  l_end : Def K mg "_law_end" s_l_end ["_law_steps", "_law_state", "_law_row"]
  l_left : Def K mg "_law_left" s_l_left ["_law_steps", "_law_some"]
  l_is_harm : Def K mg "_law_is_harm" s_l_is_harm ["_law_steps", "_law_before", "_law_step", "_law_after", "_law_value"]
  l_is_paper : Def K mg "_law_is_paper" s_l_is_paper ["_law_steps", "_law_distance", "_law_value"]
  l_other : Def K mg "_law_other" s_l_other ["_law_deal", "_law_machine_here", "_law_distance", "_law_u", "_law_v", "_law_told"]
  law : Def K mg "law" s_law ["_law_script"]
structure Txt (K : PySem.W.Frag) (mg : Str → Option Value) (C : Addr) : Prop where
  b : Bts mg
  d : Ds K mg
  cl : Cls K C
  nC : NoAttr K C "commands"
  nS : NoAttr K C "states"
  nT : NoAttr K C "steps"
  mgC : mg "Machine" = some (.ref C)
  mch : ∃ f fd, Mk K C f ∧ Fun K "__init__" "Machine.__init__" s_Machine_init f fd ∧ Binds K fd ["self", "commands", "steps"] []
end DL
set_option maxHeartbeats 0
/-! what the top leaves behind it, by one run of the kernel (printed by mkhead.py) -/
namespace TopRun
open PySem L2 DL
def fnL0 : List He.DefD := [⟨("onward", none), "onward", "onward", defArgs s_onward, defBody s_onward, defScope s_onward, [], []⟩, ⟨("all_behind", none), "all_behind", "all_behind", defArgs s_all_behind, defBody s_all_behind, defScope s_all_behind, [], []⟩, ⟨("at_count", none), "at_count", "at_count", defArgs s_at_count, defBody s_at_count, defScope s_at_count, [], []⟩, ⟨("behind", none), "behind", "behind", defArgs s_behind, defBody s_behind, defScope s_behind, [], []⟩, ⟨("settled_behind", none), "settled_behind", "settled_behind", defArgs s_settled_behind, defBody s_settled_behind, defScope s_settled_behind, [], []⟩, ⟨("coarser", none), "coarser", "coarser", defArgs s_coarser, defBody s_coarser, defScope s_coarser, [], []⟩, ⟨("all_joined", none), "all_joined", "all_joined", defArgs s_all_joined, defBody s_all_joined, defScope s_all_joined, [], []⟩, ⟨("joined", none), "joined", "joined", defArgs s_joined, defBody s_joined, defScope s_joined, [], []⟩, ⟨("settled_joined", none), "settled_joined", "settled_joined", defArgs s_settled_joined, defBody s_settled_joined, defScope s_settled_joined, [], []⟩, ⟨("layers_of", none), "layers_of", "layers_of", defArgs s_layers_of, defBody s_layers_of, defScope s_layers_of, [], []⟩, ⟨("keeping_row", none), "keeping_row", "keeping_row", defArgs s_keeping_row, defBody s_keeping_row, defScope s_keeping_row, [], []⟩, ⟨("opened", none), "opened", "opened", defArgs s_opened, defBody s_opened, defScope s_opened, [], []⟩, ⟨("carried", none), "carried", "carried", defArgs s_carried, defBody s_carried, defScope s_carried, [], []⟩, ⟨("pairs_after", none), "pairs_after", "pairs_after", defArgs s_pairs_after, defBody s_pairs_after, defScope s_pairs_after, [], []⟩, ⟨("unlike_commands", none), "unlike_commands", "unlike_commands", defArgs s_unlike_commands, defBody s_unlike_commands, defScope s_unlike_commands, [], []⟩, ⟨("is_integer", none), "is_integer", "is_integer", defArgs s_is_integer, defBody s_is_integer, defScope s_is_integer, [], []⟩, ⟨("is_number", none), "is_number", "is_number", defArgs s_is_number, defBody s_is_number, defScope s_is_number, [], []⟩, ⟨("is_sequence", none), "is_sequence", "is_sequence", defArgs s_is_sequence, defBody s_is_sequence, defScope s_is_sequence, [], []⟩, ⟨("is_index", none), "is_index", "is_index", defArgs s_is_index, defBody s_is_index, defScope s_is_index, [], []⟩, ⟨("checked_row", none), "checked_row", "checked_row", defArgs s_checked_row, defBody s_checked_row, defScope s_checked_row, [], []⟩, ⟨("led", none), "led", "led", defArgs s_led, defBody s_led, defScope s_led, [], []⟩, ⟨("end_state", none), "end_state", "end_state", defArgs s_end_state, defBody s_end_state, defScope s_end_state, [], []⟩, ⟨("clashing", none), "clashing", "clashing", defArgs s_clashing, defBody s_clashing, defScope s_clashing, [], []⟩, ⟨("lets", none), "lets", "lets", defArgs s_lets, defBody s_lets, defScope s_lets, [], []⟩, ⟨("layered", none), "layered", "layered", defArgs s_layered, defBody s_layered, defScope s_layered, [], []⟩, ⟨("traced", none), "traced", "traced", defArgs s_traced, defBody s_traced, defScope s_traced, [], []⟩, ⟨("leading_row", none), "leading_row", "leading_row", defArgs s_leading_row, defBody s_leading_row, defScope s_leading_row, [], []⟩, ⟨("built_harm", none), "built_harm", "built_harm", defArgs s_built_harm, defBody s_built_harm, defScope s_built_harm, [], []⟩, ⟨("exchange_harm", none), "exchange_harm", "exchange_harm", defArgs s_exchange_harm, defBody s_exchange_harm, defScope s_exchange_harm, [], []⟩, ⟨("is_exchange_harm", none), "is_exchange_harm", "is_exchange_harm", defArgs s_is_exchange_harm, defBody s_is_exchange_harm, defScope s_is_exchange_harm, [], []⟩]
def fnL1 : List He.DefD := [⟨("least_after", none), "least_after", "least_after", defArgs s_least_after, defBody s_least_after, defScope s_least_after, [], []⟩, ⟨("corners", none), "corners", "corners", defArgs s_corners, defBody s_corners, defScope s_corners, [], []⟩, ⟨("contexts_left", none), "contexts_left", "contexts_left", defArgs s_contexts_left, defBody s_contexts_left, defScope s_contexts_left, [], []⟩, ⟨("corner_paper", none), "corner_paper", "corner_paper", defArgs s_corner_paper, defBody s_corner_paper, defScope s_corner_paper, [], []⟩, ⟨("are_stairs", none), "are_stairs", "are_stairs", defArgs s_are_stairs, defBody s_are_stairs, defScope s_are_stairs, [], []⟩, ⟨("is_corner_paper", none), "is_corner_paper", "is_corner_paper", defArgs s_is_corner_paper, defBody s_is_corner_paper, defScope s_is_corner_paper, [], []⟩, ⟨("_law_draw", none), "_law_draw", "_law_draw", defArgs s_l_draw, defBody s_l_draw, defScope s_l_draw, [], []⟩, ⟨("_law_any", none), "_law_any", "_law_any", defArgs s_l_any, defBody s_l_any, defScope s_l_any, [], []⟩, ⟨("_law_of", none), "_law_of", "_law_of", defArgs s_l_of, defBody s_l_of, defScope s_l_of, [], []⟩, ⟨("_law_mixed", none), "_law_mixed", "_law_mixed", defArgs s_l_mixed, defBody s_l_mixed, defScope s_l_mixed, [], []⟩, ⟨("_law_view", none), "_law_view", "_law_view", defArgs s_l_view, defBody s_l_view, defScope s_l_view, [], []⟩, ⟨("_law_first", none), "_law_first", "_law_first", defArgs s_l_first, defBody s_l_first, defScope s_l_first, [], []⟩, ⟨("_law_last", none), "_law_last", "_law_last", defArgs s_l_last, defBody s_l_last, defScope s_l_last, [], []⟩, ⟨("_law_wheel", none), "_law_wheel", "_law_wheel", defArgs s_l_wheel, defBody s_l_wheel, defScope s_l_wheel, [], []⟩, ⟨("_law_named", none), "_law_named", "_law_named", defArgs s_l_named, defBody s_l_named, defScope s_l_named, [], []⟩, ⟨("_law_built", none), "_law_built", "_law_built", defArgs s_l_built, defBody s_l_built, defScope s_l_built, [], []⟩, ⟨("_law_machine", none), "_law_machine", "_law_machine", defArgs s_l_machine, defBody s_l_machine, defScope s_l_machine, [], []⟩, ⟨("_law_spot", none), "_law_spot", "_law_spot", defArgs s_l_spot, defBody s_l_spot, defScope s_l_spot, [], []⟩, ⟨("_law_lots", none), "_law_lots", "_law_lots", defArgs s_l_lots, defBody s_l_lots, defScope s_l_lots, [], []⟩, ⟨("_law_classes", none), "_law_classes", "_law_classes", defArgs s_l_classes, defBody s_l_classes, defScope s_l_classes, [], []⟩, ⟨("_law_opened", none), "_law_opened", "_law_opened", defArgs s_l_opened, defBody s_l_opened, defScope s_l_opened, [], []⟩, ⟨("_law_carried", none), "_law_carried", "_law_carried", defArgs s_l_carried, defBody s_l_carried, defScope s_l_carried, [], []⟩, ⟨("_law_holds", none), "_law_holds", "_law_holds", defArgs s_l_holds, defBody s_l_holds, defScope s_l_holds, [], []⟩, ⟨("_law_end", none), "_law_end", "_law_end", defArgs s_l_end, defBody s_l_end, defScope s_l_end, [], []⟩, ⟨("_law_left", none), "_law_left", "_law_left", defArgs s_l_left, defBody s_l_left, defScope s_l_left, [], []⟩, ⟨("_law_is_harm", none), "_law_is_harm", "_law_is_harm", defArgs s_l_is_harm, defBody s_l_is_harm, defScope s_l_is_harm, [], []⟩, ⟨("_law_is_paper", none), "_law_is_paper", "_law_is_paper", defArgs s_l_is_paper, defBody s_l_is_paper, defScope s_l_is_paper, [], []⟩, ⟨("_law_other", none), "_law_other", "_law_other", defArgs s_l_other, defBody s_l_other, defScope s_l_other, [], []⟩, ⟨("law", none), "law", "law", defArgs s_law, defBody s_law, defScope s_law, [], []⟩, ⟨("Machine", some "__init__"), "__init__", "Machine.__init__", defArgs s_Machine_init, defBody s_Machine_init, defScope s_Machine_init, [], []⟩]
def fnL : List He.DefD := fnL0 ++ fnL1
def faL0 : List He.Fa := [.glo "onward", .glo "all_behind", .glo "at_count", .glo "behind", .glo "settled_behind", .glo "coarser", .glo "all_joined", .glo "joined", .glo "settled_joined", .glo "layers_of", .glo "keeping_row", .glo "opened", .glo "carried", .glo "pairs_after", .glo "unlike_commands", .glo "is_integer", .glo "is_number", .glo "is_sequence", .glo "is_index", .glo "checked_row", .glo "led", .glo "end_state", .glo "clashing", .glo "lets", .glo "layered", .glo "traced", .glo "leading_row", .glo "built_harm", .glo "exchange_harm", .glo "is_exchange_harm"]
def faL1 : List He.Fa := [.glo "least_after", .glo "corners", .glo "contexts_left", .glo "corner_paper", .glo "are_stairs", .glo "is_corner_paper", .glo "_law_draw", .glo "_law_any", .glo "_law_of", .glo "_law_mixed", .glo "_law_view", .glo "_law_first", .glo "_law_last", .glo "_law_wheel", .glo "_law_named", .glo "_law_built", .glo "_law_machine", .glo "_law_spot", .glo "_law_lots", .glo "_law_classes", .glo "_law_opened", .glo "_law_carried", .glo "_law_holds", .glo "_law_end", .glo "_law_left", .glo "_law_is_harm", .glo "_law_is_paper", .glo "_law_other", .glo "law", .free "len"]
def faL2 : List He.Fa := [.free "tuple", .free "range", .free "sorted", .free "min", .free "max", .free "zip", .free "enumerate", .free "isinstance", .free "all", .free "int", .free "bool", .free "list", .free "set", .free "abs", .free "repr", .glo "Machine", .cls "Machine", .noat "Machine" "commands", .noat "Machine" "states", .noat "Machine" "steps", .mkr "Machine"]
def faL : List He.Fa := faL0 ++ faL1 ++ faL2
def looseL0 : List Str := ["onward", "all_behind", "at_count", "behind", "settled_behind", "coarser", "all_joined", "joined", "settled_joined", "layers_of", "keeping_row", "opened", "carried", "pairs_after", "unlike_commands", "is_integer", "is_number", "is_sequence", "is_index", "checked_row", "led", "end_state", "clashing", "lets", "layered", "traced", "leading_row", "built_harm", "exchange_harm", "is_exchange_harm"]
def looseL1 : List Str := ["least_after", "corners", "contexts_left", "corner_paper", "are_stairs", "is_corner_paper", "_law_draw", "_law_any", "_law_of", "_law_mixed", "_law_view", "_law_first", "_law_last", "_law_wheel", "_law_named", "_law_built", "_law_machine", "_law_spot", "_law_lots", "_law_classes", "_law_opened", "_law_carried", "_law_holds", "_law_end", "_law_left", "_law_is_harm", "_law_is_paper", "_law_other", "EndsError", "InvalidMachine"]
def looseL2 : List Str := ["InvalidRow", "Refused", "Machine"]
def looseL : List Str := looseL0 ++ looseL1 ++ looseL2
abbrev row : PySem.W.OpenRow := PySem.W.OpenLaw.row PySem.Challenge.rw_endsandround_k16_whole_corner_papers
abbrev seen : Program := PySem.W.view row.prog [71]
abbrev lawD : PySem.DefRec := HandSHeadRun.topDef row.prog 71
/-- the objects that the facts look at: what the module's names stand for, their codes, a class's namespace, its methods and their codes -/
def one (g : Addr → Option Obj) (a : Addr) : List Addr := match g a with
  | some ⟨_, _, .func fd, _⟩ => He.refV fd.code
  | some ⟨_, _, .cls cd, _⟩ => cd.ns :: cd.mro.flatMap He.refV
  | some ⟨_, _, .dict es _, _⟩ => es.toList.flatMap fun e => He.refV e.val
  | _ => []
def near (g : Addr → Option Obj) : List Addr :=
  let l1 := one g mainGlobals
  let l2 := l1.flatMap (one g)
  let l3 := l2.flatMap (one g)
  mainGlobals :: (l1 ++ (l2 ++ (l3 ++ l3.flatMap (one g))))
def hook : PySem.W.Hook where
  α := He.AlD
  obs := fun s => He.obsD faL fnL (He.frG s.heap.get? (near s.heap.get?))
  val := fun _ => He.valD fnL
  says := fun _ h => ∃ K : PySem.W.Frag, K.In h ∧ He.SaysD faL fnL K
  of := fun _ _ e => ⟨_, He.frG_in, e⟩
  keeps := fun _ _ _ ⟨K, hK, c⟩ k => ⟨K, PySem.W.Frag.In.keeps hK k, c⟩
def look (s : PySem.W.SharedT) : He.AlD := He.obsD faL fnL (He.frG (HandSHeadRun.getT s) (near (HandSHeadRun.getT s)))
theorem look_is (s : PySem.W.SharedT) : look s = hook.obs s.abs := by
  have e : HandSHeadRun.getT s = s.abs.heap.get? := funext (HandSHeadRun.getT_eq s)
  unfold look
  rw [e]
  rfl
theorem goes (w : World) : HandSHeadRun.RunEq row seen hook look 20000 looseL w := by
  intro os
  kernel_rfl
end TopRun
namespace TopRun
open PySem PySem.W PySem.Calls PyProof.Rows
theorem h1 : opening row.prog = plainProg row.prog.main.scope.names := by kernel_rfl
theorem h2 : ∀ s, fenceModules? row.prog s = some s := fun s => by kernel_rfl
theorem h3 : defOf seen row.name = some (lawD, []) := by kernel_rfl
theorem h4 : row.prog.theDef row.name = some (lawD.params, lawD.body, lawD.scope) := by kernel_rfl
theorem h5 : kwWritten? lawD.params.kwonlyargs lawD.params.kw_defaults = some [] := by kernel_rfl
theorem h6 : (!row.writes || row.records.isEmpty) = true := by rfl
theorem h8 : (chainsOk seen && opensWell row.prog && (frees row.toRowW && row.within.isEmpty)) = true := by decide +kernel
theorem h9 : row.prog.bare := ⟨rfl, rfl, rfl, rfl, rfl, by decide +kernel⟩
theorem h10 : row.toRowW.promised := by w_witness2
theorem h11 : lawD.params.defaults = [] := by kernel_rfl
theorem h12 : lawD.name = ("law" : PySem.Str) := by kernel_rfl
end TopRun
set_option maxHeartbeats 4000000
/-! isinstance; the plain questions -/
namespace DL
open PySem L2

def isI : D → Bool
  | .int _ => true
  | .bl _ => true
  | _ => false
def isB : D → Bool
  | .bl _ => true
  | _ => false
def isT : D → Bool
  | .tup _ => true
  | _ => false
def isL : D → Bool
  | .lst _ => true
  | _ => false
/-- a value whose kind is plain -/
def kd : D → Option String
  | .non => some "NoneType"
  | .bl _ => some "bool"
  | .int _ => some "int"
  | .tup _ => some "tuple"
  | .lst _ => some "list"
  | _ => none
section
variable {C : Addr} {c : Cn} {K : PySem.W.Frag} {rho : List (Option D)} {mu : Mu} {ts : List (V × D)} {s : L2.St} {F H F' H' : Hp} {v : V} {d d1 d2 : D} {te ta tb : TE} {ds es : List D}
theorem DR.tyx {n : String} (k : Same F H) (h : DR C F v d) (hk : kd d = some n) : TyX K H v (.type n) := by
  cases h with
  | non => cases hk; exact .base .non
  | bl b => cases hk; exact .base (.bl b)
  | int i => cases hk; exact .base (.int i)
  | str x => cases hk
  | tup h _ _ => cases hk; exact .base (.tup (k _ _ h))
  | lst h _ _ => cases hk; exact .base (.lst (k _ _ h))
  | dct _ _ _ _ => cases hk
  | mach _ _ _ _ _ => cases hk
  | ptr a => cases hk
  | obj h => cases hk
theorem ev_isi {n T : String} {b : Bool} (ha : EvD C ta rho mu d) (hk : kd d = some n) (hb : kitB n T = some b) : EvD C (tCB (rIsi K) (tCons ta (tCons (tC (.ty T)) tNil))) rho mu (.bl b) := EvD.of fun c ts s H Q S q => ha.run S fun v H1 S1 => by
  obtain ⟨F, T1⟩ := id S1
  exact ⟨v, .ty T, _, _, b, rfl, .ty T, T1.top.tyx T1.sub hk, kit_ty hb, q _ H1 ⟨F, (T1.fewer fun p hp => by simp [hp]).push (.bl b)⟩⟩
theorem ev_isI (ha : EvD C ta rho mu d) (hk : (kd d).isSome = true) : EvD C (tCB (rIsi K) (tCons ta (tCons (tC (.ty "int")) tNil))) rho mu (.bl (isI d)) := by
  cases d <;> first | (exact ev_isi (b := true) ha rfl (by decide +kernel)) | (exact ev_isi (b := false) ha rfl (by decide +kernel)) | cases hk
theorem ev_isB (ha : EvD C ta rho mu d) (hk : (kd d).isSome = true) : EvD C (tCB (rIsi K) (tCons ta (tCons (tC (.ty "bool")) tNil))) rho mu (.bl (isB d)) := by
  cases d <;> first | (exact ev_isi (b := true) ha rfl (by decide +kernel)) | (exact ev_isi (b := false) ha rfl (by decide +kernel)) | cases hk
theorem ev_isT (ha : EvD C ta rho mu d) (hk : (kd d).isSome = true) : EvD C (tCB (rIsi K) (tCons ta (tCons (tC (.ty "tuple")) tNil))) rho mu (.bl (isT d)) := by
  cases d <;> first | (exact ev_isi (b := true) ha rfl (by decide +kernel)) | (exact ev_isi (b := false) ha rfl (by decide +kernel)) | cases hk
/-- isinstance(x, (list, tuple)) -/
theorem ev_isiS {n : String} {b1 b2 : Bool} (ha : EvD C ta rho mu d) (hk : kd d = some n) (h1 : kitB n "list" = some b1) (h2 : kitB n "tuple" = some b2) :
    EvD C (tCB (rIsiT K) (tCons ta (tCons (tTup (tCons (tC (.ty "list")) (tCons (tC (.ty "tuple")) tNil))) tNil))) rho mu (.bl (b1 || b2)) := EvD.of fun c ts s H Q S q => ha.run S fun v H1 S1 => by
  obtain ⟨F, T1⟩ := id S1
  refine ⟨by show 2 ≤ sizeLine; rw [sizeLine_eq]; decide, fun p hp => ?_⟩
  have g := Gr.lay (o := .tup [.ty "list", .ty "tuple"]) T1.sub hp
  refine ⟨v, p, [.ty "list", .ty "tuple"], .type n, [.type "list", .type "tuple"], b1 || b2, rfl, upd_same, .cons (.ty "list") (.cons (.ty "tuple") .nil), ?_, ?_, q _ _ ⟨F, ((T1.grow g).fewer fun p hp => by simp [hp]).push (.bl _)⟩⟩
  · exact T1.top.tyx g.sub hk
  · refine kitAny_cons (kit_ty h1) (fun e => ?_) fun e => by rw [e]; rfl
    rw [e, Bool.false_or]
    refine kitAny_cons (kit_ty h2) (fun e2 => ?_) fun e2 => e2
    rw [e2]
    exact kitAny_nil
theorem ev_isS (ha : EvD C ta rho mu d) (hk : (kd d).isSome = true) : EvD C (tCB (rIsiT K) (tCons ta (tCons (tTup (tCons (tC (.ty "list")) (tCons (tC (.ty "tuple")) tNil))) tNil))) rho mu (.bl (isL d || isT d)) := by
  cases d <;> first | (exact ev_isiS (b1 := false) (b2 := false) ha rfl (by decide +kernel) (by decide +kernel)) | (exact ev_isiS (b1 := true) (b2 := false) ha rfl (by decide +kernel) (by decide +kernel)) | (exact ev_isiS (b1 := false) (b2 := true) ha rfl (by decide +kernel) (by decide +kernel)) | cases hk
end
section
variable {X : Cx} {a b : Expr} {ta tb : TE} {pos p : Pos}
theorem pe_ty {x : Str} {T : String} (hm : X.mg x = none) (hv : bootBuiltins x = some (.type T)) (hg : Gl X x := by rfl) (hn : x ≠ "__name__" := by decide) (hd : (x == ("__debug__" : Str)) = false := by decide) : PE X (.Name x pos) (tC (.ty T)) := pe_bltn hg hm hv rfl hn hd
theorem x_isi {x : Str} {T : String} {p2 : Pos} (B : Bts X.mg) (hm : X.mg x = none) (hv : bootBuiltins x = some (.type T)) (ha : PE X a ta) (hgx : Gl X x := by rfl) (hn : x ≠ "__name__" := by decide) (hdx : (x == ("__debug__" : Str)) = false := by decide) (hg : Gl X "isinstance" := by rfl)
    (he : starEach [a, .Name x p2] X.env = (false, eval a X.env) :: starEach [.Name x p2] X.env := by rfl) (he2 : starEach [.Name x p2] X.env = (false, eval (.Name x p2) X.env) :: starEach [] X.env := by rfl)
    (hpl : (backTo pos (starEach [.Name x p2] X.env)).any (·.1) = false := by rfl) : PE X (.Call (.Name "isinstance" p) [a, .Name x p2] [] pos) (tCB (rIsi X.K) (tCons ta (tCons (tC (.ty T)) tNil))) :=
  pe_callB call_isi hg B.isinstance (by decide +kernel) (pa_cons ha (pa_cons (pe_ty hm hv hgx hn hdx) pa_nil he2) he) (he := he) (hpl := hpl)
theorem x_isiI {p2 : Pos} (B : Bts X.mg) (ha : PE X a ta) (hgx : Gl X "int" := by rfl) (hg : Gl X "isinstance" := by rfl)
    (he : starEach [a, .Name "int" p2] X.env = (false, eval a X.env) :: starEach [.Name "int" p2] X.env := by rfl) (he2 : starEach [.Name "int" p2] X.env = (false, eval (.Name "int" p2) X.env) :: starEach [] X.env := by rfl)
    (hpl : (backTo pos (starEach [.Name "int" p2] X.env)).any (·.1) = false := by rfl) : PE X (.Call (.Name "isinstance" p) [a, .Name "int" p2] [] pos) (tCB (rIsi X.K) (tCons ta (tCons (tC (.ty "int")) tNil))) := x_isi B B.int (by decide +kernel) ha hgx (hg := hg) (he := he) (he2 := he2) (hpl := hpl)
theorem x_isiB {p2 : Pos} (B : Bts X.mg) (ha : PE X a ta) (hgx : Gl X "bool" := by rfl) (hg : Gl X "isinstance" := by rfl)
    (he : starEach [a, .Name "bool" p2] X.env = (false, eval a X.env) :: starEach [.Name "bool" p2] X.env := by rfl) (he2 : starEach [.Name "bool" p2] X.env = (false, eval (.Name "bool" p2) X.env) :: starEach [] X.env := by rfl)
    (hpl : (backTo pos (starEach [.Name "bool" p2] X.env)).any (·.1) = false := by rfl) : PE X (.Call (.Name "isinstance" p) [a, .Name "bool" p2] [] pos) (tCB (rIsi X.K) (tCons ta (tCons (tC (.ty "bool")) tNil))) := x_isi B B.bool (by decide +kernel) ha hgx (hg := hg) (he := he) (he2 := he2) (hpl := hpl)
theorem x_isiT {p2 : Pos} (B : Bts X.mg) (ha : PE X a ta) (hgx : Gl X "tuple" := by rfl) (hg : Gl X "isinstance" := by rfl)
    (he : starEach [a, .Name "tuple" p2] X.env = (false, eval a X.env) :: starEach [.Name "tuple" p2] X.env := by rfl) (he2 : starEach [.Name "tuple" p2] X.env = (false, eval (.Name "tuple" p2) X.env) :: starEach [] X.env := by rfl)
    (hpl : (backTo pos (starEach [.Name "tuple" p2] X.env)).any (·.1) = false := by rfl) : PE X (.Call (.Name "isinstance" p) [a, .Name "tuple" p2] [] pos) (tCB (rIsi X.K) (tCons ta (tCons (tC (.ty "tuple")) tNil))) := x_isi B B.tuple (by decide +kernel) ha hgx (hg := hg) (he := he) (he2 := he2) (hpl := hpl)
theorem x_isiS {k : Nat} {p1 p2 p3 : Pos} (B : Bts X.mg) (ha : PE X a ta) (hg1 : Gl X "list" := by rfl) (hg2 : Gl X "tuple" := by rfl) (hg : Gl X "isinstance" := by rfl)
    (he : starEach [a, .Tuple [.Name "list" p1, .Name "tuple" p2] k p3] X.env = (false, eval a X.env) :: starEach [.Tuple [.Name "list" p1, .Name "tuple" p2] k p3] X.env := by rfl)
    (he2 : starEach [.Tuple [.Name "list" p1, .Name "tuple" p2] k p3] X.env = (false, eval (.Tuple [.Name "list" p1, .Name "tuple" p2] k p3) X.env) :: starEach [] X.env := by rfl)
    (hpl : (backTo pos (starEach [.Tuple [.Name "list" p1, .Name "tuple" p2] k p3] X.env)).any (·.1) = false := by rfl)
    (hs1 : starEach [.Name "list" p1, .Name "tuple" p2] X.env = (false, eval (.Name "list" p1) X.env) :: starEach [.Name "tuple" p2] X.env := by rfl) (hs2 : starEach [.Name "tuple" p2] X.env = (false, eval (.Name "tuple" p2) X.env) :: starEach [] X.env := by rfl) :
    PE X (.Call (.Name "isinstance" p) [a, .Tuple [.Name "list" p1, .Name "tuple" p2] k p3] [] pos) (tCB (rIsiT X.K) (tCons ta (tCons (tTup (tCons (tC (.ty "list")) (tCons (tC (.ty "tuple")) tNil))) tNil))) :=
  pe_callB call_isiT hg B.isinstance (by decide +kernel) (pa_cons ha (pa_cons (pe_tup (pa_cons (pe_ty B.list (by decide +kernel) hg1) (pa_cons (pe_ty B.tuple (by decide +kernel) hg2) pa_nil hs2) hs1)) pa_nil he2) he) (he := he) (hpl := hpl)
end

/-! ### plain.py -/
def isInteger (d : D) : Bool := isI d && !isB d
def isNumber (d : D) : Bool := match d with
  | .int i => decide (0 ≤ i)
  | _ => false
def isIndex (d : D) (n : Int) : Bool := match d with
  | .int i => decide (0 ≤ i) && decide (i < n)
  | _ => false
section
variable {P : Program} {w : World} {K : PySem.W.Frag} {mg : Str → Option Value} {base : Heap} {C : Addr}
abbrev sp_is_integer (C : Addr) : Sp := spF C (fun d : D => [d]) (fun d => (kd d).isSome = true) fun d r => r = .bl (isInteger d)
theorem c_is_integer (T : Txt K mg C) : Cal P w K mg base 1 "is_integer" ["value"] (sp_is_integer C) := T.d.is_integer.cal fun f fd Fn => okF Fn sc_is_integer (fun _ => rfl) fun d cdv A outer s H E hp hr => by
  refine ⟨_, (pss_one (ps_ret (pe_and (x_isiI T.b (pv 0)) (pe_one (pe_not (x_isiB T.b (pv 0))))))), fun c Q s0 H0 hM q S => ?_⟩
  refine s_ret (ev_andV (ev_isI (ev_var rfl) hp) fun _ => ev_notV (ev_isB (ev_var rfl) hp)) S fun v d' mu' H' ⟨e, _⟩ S' => q.go hM S' e
end
end DL
/-! plain mathematics of machines: lots, classes, pairs, corners -/
namespace Mth

abbrev Mat := List (List Nat)
def nx (S : Mat) (s c : Nat) : Nat := (S.getD s []).getD c 0
structure Ok (S : Mat) (k : Nat) : Prop where
  n0 : 0 < S.length
  n10 : S.length ≤ 10
  k0 : 0 < k
  k5 : k ≤ 5
  row : ∀ r ∈ S, r.length = k
  val : ∀ r ∈ S, ∀ t ∈ r, t < S.length

section
variable {S : Mat} {k : Nat}
theorem Ok.get (h : Ok S k) {s : Nat} (hs : s < S.length) : ∃ r, S[s]? = some r ∧ r.length = k ∧ ∀ c, c < k → r[c]? = some (nx S s c) := by
  have e : S[s]? = some S[s] := List.getElem?_eq_getElem hs
  have hl := h.row _ (List.getElem_mem hs)
  refine ⟨S[s], e, hl, fun c hc => ?_⟩
  have hc' : c < S[s].length := by rw [hl]; exact hc
  rw [List.getElem?_eq_getElem hc']
  unfold nx
  rw [List.getD_eq_getElem?_getD, List.getD_eq_getElem?_getD, e]
  show some _ = some ((S[s])[c]?.getD 0)
  rw [List.getElem?_eq_getElem hc']
  rfl
theorem Ok.nx_lt (h : Ok S k) (s c : Nat) : nx S s c < S.length := by
  unfold nx
  rw [List.getD_eq_getElem?_getD, List.getD_eq_getElem?_getD]
  cases e : S[s]? with
  | none =>
    show (([] : List Nat)[c]?.getD 0) < S.length
    simp
    exact h.n0
  | some r =>
    show (r[c]?.getD 0) < S.length
    cases e2 : r[c]? with
    | none => exact h.n0
    | some t => exact h.val r (List.mem_of_getElem? e) t (List.mem_of_getElem? e2)

/-! ### the first place at which a sequence stays -/
def stopF {α : Type} [DecidableEq α] (f : Nat → α) : Nat → Nat → Nat
  | 0, i => i
  | n + 1, i => if f (i + 1) = f i then i else stopF f n (i + 1)
theorem stopF_spec {α : Type} [DecidableEq α] (f : Nat → α) (m : Nat → Nat) (hm : ∀ i, f (i + 1) ≠ f i → m (i + 1) < m i) : ∀ n i, m i ≤ n →
    i ≤ stopF f n i ∧ f (stopF f n i + 1) = f (stopF f n i) ∧ (∀ x, i ≤ x → x < stopF f n i → f (x + 1) ≠ f x) ∧ stopF f n i + m (stopF f n i) ≤ i + m i := by
  intro n
  induction n with
  | zero =>
    intro i hi
    unfold stopF
    refine ⟨Nat.le_refl _, ?_, fun x a b => by omega, Nat.le_refl _⟩
    rcases Decidable.em (f (i + 1) = f i) with e | e
    · exact e
    · have := hm i e
      omega
  | succ n ih =>
    intro i hi
    unfold stopF
    by_cases e : f (i + 1) = f i
    · rw [if_pos e]
      exact ⟨Nat.le_refl _, e, fun x a b => by omega, Nat.le_refl _⟩
    · rw [if_neg e]
      have h1 := hm i e
      obtain ⟨a, b, c, d⟩ := ih (i + 1) (by omega)
      refine ⟨by omega, b, fun x hx hx2 => ?_, by omega⟩
      by_cases z : x = i
      · rw [z]; exact e
      · exact c x (by omega) hx2

/-! ### lots -/
def onw (S : Mat) (k : Nat) (st : List Nat) : List Nat := (List.range S.length).filter fun t => st.any fun s => (List.range k).any fun c => nx S s c == t
def lot (S : Mat) (k : Nat) : Nat → List Nat
  | 0 => List.range S.length
  | i + 1 => onw S k (lot S k i)
def uu (S : Mat) (k : Nat) : Nat := stopF (lot S k) S.length 0
def lots (S : Mat) (k : Nat) : List (List Nat) := (List.range (uu S k + 1)).map (lot S k)

theorem mem_onw {st : List Nat} {t : Nat} : t ∈ onw S k st ↔ t < S.length ∧ ∃ s ∈ st, ∃ c, c < k ∧ nx S s c = t := by
  unfold onw
  simp only [List.mem_filter, List.mem_range, List.any_eq_true, beq_iff_eq]
theorem lot_lt (h : Ok S k) {i t : Nat} (ht : t ∈ lot S k i) : t < S.length := by
  cases i with
  | zero => exact List.mem_range.mp ht
  | succ i => exact (mem_onw.mp ht).1
theorem lot_sub (h : Ok S k) : ∀ i t, t ∈ lot S k (i + 1) → t ∈ lot S k i := by
  intro i
  induction i with
  | zero => intro t ht; exact List.mem_range.mpr (mem_onw.mp ht).1
  | succ i ih =>
    intro t ht
    obtain ⟨a, s, hs, c, hc, e⟩ := mem_onw.mp ht
    exact mem_onw.mpr ⟨a, s, ih s hs, c, hc, e⟩
theorem lot_ne (h : Ok S k) : ∀ i, 0 < (lot S k i).length := by
  intro i
  induction i with
  | zero => show 0 < (List.range S.length).length; rw [List.length_range]; exact h.n0
  | succ i ih =>
    have hs := List.getElem_mem ih
    have : nx S (lot S k i)[0] 0 ∈ lot S k (i + 1) := mem_onw.mpr ⟨h.nx_lt _ _, _, hs, 0, h.k0, rfl⟩
    exact List.length_pos_of_mem this
theorem filt_sub {l : List Nat} {p q : Nat → Bool} (h : ∀ x, p x = true → q x = true) : (l.filter p).Sublist (l.filter q) := by
  induction l with
  | nil => exact List.Sublist.refl _
  | cons x l ih =>
    rw [List.filter_cons, List.filter_cons]
    by_cases hp : p x = true
    · rw [if_pos hp, if_pos (h x hp)]
      exact List.Sublist.cons₂ x ih
    · rw [if_neg hp]
      by_cases hq : q x = true
      · rw [if_pos hq]; exact List.Sublist.cons x ih
      · rw [if_neg hq]; exact ih
theorem lot_is (h : Ok S k) (i : Nat) : lot S k i = (List.range S.length).filter fun t => decide (t ∈ lot S k i) := by
  have go : ∀ p : Nat → Bool, (List.range S.length).filter p = (List.range S.length).filter fun t => decide (t ∈ (List.range S.length).filter p) := by
    intro p
    refine List.filter_congr fun x hx => ?_
    by_cases hp : p x = true
    · rw [hp]
      simp [List.mem_filter, hx, hp]

    · have : p x = false := by simpa using hp
      rw [this]
      simp [List.mem_filter, this]
  cases i with
  | zero =>
    show List.range S.length = _
    rw [List.filter_eq_self.mpr]
    intro a ha
    exact decide_eq_true ha
  | succ i => exact go _
theorem lot_step (h : Ok S k) (i : Nat) (e : lot S k (i + 1) ≠ lot S k i) : (lot S k (i + 1)).length < (lot S k i).length := by
  have sub : (lot S k (i + 1)).Sublist (lot S k i) := by
    rw [lot_is h (i + 1), lot_is h i]
    exact filt_sub fun x hx => decide_eq_true (lot_sub h i x (of_decide_eq_true hx))
  have := sub.length_le
  rcases Nat.lt_or_ge (lot S k (i + 1)).length (lot S k i).length with z | z
  · exact z
  · exact absurd (sub.eq_of_length (by omega)) e
theorem uu_spec (h : Ok S k) : lot S k (uu S k + 1) = lot S k (uu S k) ∧ (∀ x, x < uu S k → lot S k (x + 1) ≠ lot S k x) ∧ uu S k < S.length := by
  obtain ⟨_, b, c, d⟩ := stopF_spec (lot S k) (fun i => (lot S k i).length) (lot_step h) S.length 0 (by show (List.range S.length).length ≤ _; rw [List.length_range]; exact Nat.le_refl _)
  have e : (lot S k 0).length = S.length := List.length_range
  have := lot_ne h (stopF (lot S k) S.length 0)
  refine ⟨b, fun x hx => c x (Nat.zero_le _) hx, ?_⟩
  unfold uu
  omega
theorem sat {α : Type} {f : Nat → α} {g : α → α} (hf : ∀ i, f (i + 1) = g (f i)) {u : Nat} (hu : f (u + 1) = f u) : ∀ i, u ≤ i → f i = f u := by
  intro i hi
  induction i with
  | zero => have : u = 0 := by omega
            rw [this]
  | succ i ih =>
    by_cases z : u = i + 1
    · rw [z]
    · rw [hf, ih (by omega), ← hf, hu]
theorem lot_sat (h : Ok S k) (i : Nat) : lot S k (min i (uu S k)) = lot S k i := by
  rcases Nat.le_total i (uu S k) with z | z
  · rw [Nat.min_eq_left z]
  · rw [Nat.min_eq_right z]
    exact (sat (f := lot S k) (g := onw S k) (fun _ => rfl) (uu_spec h).1 i z).symm
theorem lots_len : (lots S k).length = uu S k + 1 := by unfold lots; simp
theorem lots_get {i : Nat} (hi : i ≤ uu S k) : (lots S k)[i]? = some (lot S k i) := by
  unfold lots
  rw [List.getElem?_map, List.getElem?_range (by omega)]
  rfl

/-! ### classes -/
def keys (S : Mat) (cl : List Nat) : List (List Nat) := S.map fun r => r.map fun t => cl.getD t 0
def coar (S : Mat) (cl : List Nat) : List Nat := (keys S cl).map fun x => (keys S cl).idxOf x
def cls (S : Mat) : Nat → List Nat
  | 0 => List.range S.length
  | i + 1 => coar S (cls S i)
def vv (S : Mat) : Nat := stopF (cls S) S.length 0
def clss (S : Mat) : List (List Nat) := (List.range (vv S + 1)).map (cls S)
def cf (S : Mat) (i s : Nat) : Nat := (cls S i).getD s 0
theorem keys_len (cl : List Nat) : (keys S cl).length = S.length := by unfold keys; simp
theorem cls_len : ∀ i, (cls S i).length = S.length
  | 0 => by show (List.range S.length).length = _; simp
  | i + 1 => by show (coar S (cls S i)).length = _; unfold coar; rw [List.length_map, keys_len]
theorem cf0 {s : Nat} (hs : s < S.length) : cf S 0 s = s := by
  unfold cf
  show (List.range S.length).getD s 0 = s
  rw [List.getD_eq_getElem?_getD, List.getElem?_range hs]
  rfl
theorem key_at (cl : List Nat) {s : Nat} (hs : s < S.length) : (keys S cl)[s]'(by rw [keys_len]; exact hs) = (S[s]).map fun t => cl.getD t 0 := by
  unfold keys
  rw [List.getElem_map]
theorem cf_succ {i s : Nat} (hs : s < S.length) : cf S (i + 1) s = (keys S (cls S i)).idxOf ((keys S (cls S i))[s]'(by rw [keys_len]; exact hs)) := by
  unfold cf
  show (coar S (cls S i)).getD s 0 = _
  unfold coar
  rw [List.getD_eq_getElem?_getD, List.getElem?_map, List.getElem?_eq_getElem (by rw [keys_len]; exact hs)]
  rfl
theorem cls_get {i s : Nat} (hs : s < S.length) : (cls S i)[s]? = some (cf S i s) := by
  unfold cf
  rw [List.getD_eq_getElem?_getD, List.getElem?_eq_getElem (by rw [cls_len]; exact hs)]
  rfl
theorem idx_first {l : List (List Nat)} {j : Nat} (hj : j < l.length) : l.idxOf l[j] ≤ j ∧ ∃ h : l.idxOf l[j] < l.length, l[l.idxOf l[j]] = l[j] := by
  have hm : l[j] ∈ l := List.getElem_mem hj
  have h1 : l.idxOf l[j] < l.length := List.idxOf_lt_length_of_mem hm
  refine ⟨?_, h1, by simp⟩
  rcases Nat.lt_or_ge j (l.idxOf l[j]) with z | z
  · have := List.not_of_lt_findIdx (xs := l) (p := fun x => x == l[j]) (i := j) z
    simp at this
  · exact z
theorem cf_lt {i s : Nat} (hs : s < S.length) : cf S i s < S.length := by
  cases i with
  | zero => rw [cf0 hs]; exact hs
  | succ i =>
    rw [cf_succ hs]
    have := (idx_first (l := keys S (cls S i)) (j := s) (by rw [keys_len]; exact hs)).2.1
    exact Nat.lt_of_lt_of_eq this (keys_len _)
theorem cf_le {i s : Nat} (hs : s < S.length) : cf S i s ≤ s := by
  cases i with
  | zero => rw [cf0 hs]; exact Nat.le_refl _
  | succ i =>
    rw [cf_succ hs]
    exact (idx_first (l := keys S (cls S i)) (j := s) (by rw [keys_len]; exact hs)).1
theorem cf_key {i s t : Nat} (hs : s < S.length) (ht : t < S.length) : cf S (i + 1) s = cf S (i + 1) t ↔ (keys S (cls S i))[s]'(by rw [keys_len]; exact hs) = (keys S (cls S i))[t]'(by rw [keys_len]; exact ht) := by
  rw [cf_succ hs, cf_succ ht]
  constructor
  · intro e
    obtain ⟨_, h1, e1⟩ := idx_first (l := keys S (cls S i)) (j := s) (by rw [keys_len]; exact hs)
    obtain ⟨_, h2, e2⟩ := idx_first (l := keys S (cls S i)) (j := t) (by rw [keys_len]; exact ht)
    rw [← e1, ← e2]
    congr 1
  · intro e
    rw [e]
theorem cf_idem {i s : Nat} (hs : s < S.length) : cf S i (cf S i s) = cf S i s := by
  cases i with
  | zero => rw [cf0 hs, cf0 hs]
  | succ i =>
    have hl := cf_lt (i := i + 1) hs
    refine (cf_key hl hs).mpr ?_
    obtain ⟨_, h1, e1⟩ := idx_first (l := keys S (cls S i)) (j := s) (by rw [keys_len]; exact hs)
    conv => rhs; rw [← e1]
    congr 1
    exact cf_succ hs
theorem nx_at {s c : Nat} (h : Ok S k) (hs : s < S.length) (hc : c < k) : (S[s])[c]'(by rw [h.row _ (List.getElem_mem hs)]; exact hc) = nx S s c := by
  obtain ⟨r, e, hl, g⟩ := h.get hs
  have e' : S[s] = r := by rw [List.getElem?_eq_getElem hs] at e; exact Option.some.inj e
  subst e'
  have := g c hc
  rw [List.getElem?_eq_getElem (by rw [hl]; exact hc)] at this
  exact Option.some.inj this
theorem key_eq (h : Ok S k) {i s t : Nat} (hs : s < S.length) (ht : t < S.length) : cf S (i + 1) s = cf S (i + 1) t ↔ ∀ c, c < k → cf S i (nx S s c) = cf S i (nx S t c) := by
  rw [cf_key hs ht, key_at _ hs, key_at _ ht]
  have l1 := h.row _ (List.getElem_mem hs)
  have l2 := h.row _ (List.getElem_mem ht)
  constructor
  · intro e c hc
    have e1 : ((S[s]).map fun t => (cls S i).getD t 0)[c]? = ((S[t]).map fun t => (cls S i).getD t 0)[c]? := by rw [e]
    rw [List.getElem?_map, List.getElem?_map, List.getElem?_eq_getElem (by rw [l1]; exact hc), List.getElem?_eq_getElem (by rw [l2]; exact hc)] at e1
    have e2 := Option.some.inj e1
    rw [nx_at h hs hc, nx_at h ht hc] at e2
    exact e2
  · intro g
    refine List.ext_getElem (by simp [l1, l2]) fun c h1 h2 => ?_
    have hc : c < k := by simpa [l1] using h1
    rw [List.getElem_map, List.getElem_map, nx_at h hs hc, nx_at h ht hc]
    exact g c hc
theorem cf_mono (h : Ok S k) : ∀ i s t, s < S.length → t < S.length → cf S i s = cf S i t → cf S (i + 1) s = cf S (i + 1) t := by
  intro i
  induction i with
  | zero =>
    intro s t hs ht e
    rw [cf0 hs, cf0 ht] at e
    subst e
    rfl
  | succ i ih =>
    intro s t hs ht e
    refine (key_eq h hs ht).mpr fun c hc => ?_
    exact ih _ _ (h.nx_lt _ _) (h.nx_lt _ _) ((key_eq h hs ht).mp e c hc)
def reps (S : Mat) (i : Nat) : List Nat := (List.range S.length).filter fun s => cf S i s == s
theorem reps_sub (h : Ok S k) {i s : Nat} (hs : s < S.length) (e : cf S (i + 1) s = s) : cf S i s = s := by
  have h1 := cf_lt (i := i) hs
  have h2 := cf_mono h i _ _ h1 hs (cf_idem hs)
  have h3 := cf_le (i := i + 1) h1
  have h4 := cf_le (i := i) hs
  omega
theorem filt_sub_mem {l : List Nat} {p q : Nat → Bool} (h : ∀ x ∈ l, p x = true → q x = true) : (l.filter p).Sublist (l.filter q) := by
  induction l with
  | nil => exact List.Sublist.refl _
  | cons x l ih =>
    have ih' := ih fun y hy => h y (List.mem_cons_of_mem _ hy)
    rw [List.filter_cons, List.filter_cons]
    by_cases hp : p x = true
    · rw [if_pos hp, if_pos (h x List.mem_cons_self hp)]
      exact List.Sublist.cons₂ x ih'
    · rw [if_neg hp]
      by_cases hq : q x = true
      · rw [if_pos hq]; exact List.Sublist.cons x ih'
      · rw [if_neg hq]; exact ih'
theorem cls_step (h : Ok S k) (i : Nat) (e : cls S (i + 1) ≠ cls S i) : (reps S (i + 1)).length < (reps S i).length := by
  have sub : (reps S (i + 1)).Sublist (reps S i) := filt_sub_mem fun x hx hp => by
    have e1 : cf S (i + 1) x = x := by simpa using hp
    have := reps_sub h (List.mem_range.mp hx) e1
    simpa using this
  have hl := sub.length_le
  rcases Nat.lt_or_ge (reps S (i + 1)).length (reps S i).length with z | z
  · exact z
  · refine absurd ?_ e
    have er : reps S (i + 1) = reps S i := sub.eq_of_length (by omega)
    refine List.ext_getElem? fun s => ?_
    by_cases hs : s < S.length
    · rw [cls_get hs, cls_get hs]
      have h1 := cf_lt (i := i) hs
      have m : cf S i s ∈ reps S i := by
        unfold reps
        exact List.mem_filter.mpr ⟨List.mem_range.mpr h1, by simpa using cf_idem (i := i) hs⟩
      rw [← er] at m
      have m2 : cf S (i + 1) (cf S i s) = cf S i s := by
        have := (List.mem_filter.mp m).2
        simpa using this
      have m3 := cf_mono h i _ _ h1 hs (cf_idem hs)
      rw [← m3, m2]
    · rw [List.getElem?_eq_none (by rw [cls_len]; omega), List.getElem?_eq_none (by rw [cls_len]; omega)]
theorem reps_pos (h : Ok S k) (i : Nat) : 0 < (reps S i).length := by
  have : 0 ∈ reps S i := by
    unfold reps
    refine List.mem_filter.mpr ⟨List.mem_range.mpr h.n0, ?_⟩
    have := cf_le (i := i) h.n0
    simp
    omega
  exact List.length_pos_of_mem this
theorem vv_spec (h : Ok S k) : cls S (vv S + 1) = cls S (vv S) ∧ (∀ x, x < vv S → cls S (x + 1) ≠ cls S x) ∧ vv S < S.length := by
  have e : (reps S 0).length ≤ S.length := by
    unfold reps
    have := List.length_filter_le (fun s => cf S 0 s == s) (List.range S.length)
    rw [List.length_range] at this
    exact this
  obtain ⟨_, b, c, d⟩ := stopF_spec (cls S) (fun i => (reps S i).length) (cls_step h) S.length 0 e
  have := reps_pos h (stopF (cls S) S.length 0)
  refine ⟨b, fun x hx => c x (Nat.zero_le _) hx, ?_⟩
  unfold vv
  omega
theorem cls_sat (h : Ok S k) (i : Nat) : cls S (min i (vv S)) = cls S i := by
  rcases Nat.le_total i (vv S) with z | z
  · rw [Nat.min_eq_left z]
  · rw [Nat.min_eq_right z]
    exact (sat (f := cls S) (g := coar S) (fun _ => rfl) (vv_spec h).1 i z).symm
theorem clss_len : (clss S).length = vv S + 1 := by unfold clss; simp
theorem clss_get {i : Nat} (hi : i ≤ vv S) : (clss S)[i]? = some (cls S i) := by
  unfold clss
  rw [List.getElem?_map, List.getElem?_range (by omega)]
  rfl
end
end Mth
/-! pairs, lets, corners -/
namespace Mth

def prs (n : Nat) : List (Nat × Nat) := (List.range n).flatMap fun x => (List.range n).map fun y => (x, y)
theorem mem_prs {n : Nat} {p : Nat × Nat} : p ∈ prs n ↔ p.1 < n ∧ p.2 < n := by
  unfold prs
  rw [List.mem_flatMap]
  constructor
  · rintro ⟨x, hx, h⟩
    obtain ⟨y, hy, e⟩ := List.mem_map.mp h
    subst e
    exact ⟨List.mem_range.mp hx, List.mem_range.mp hy⟩
  · rintro ⟨a, b⟩
    exact ⟨p.1, List.mem_range.mpr a, List.mem_map.mpr ⟨p.2, List.mem_range.mpr b, rfl⟩⟩
def opn (S : Mat) (st : List Nat) (a c : Nat) : List (Nat × Nat) := (prs S.length).filter fun p => st.any fun s => (nx S s a, nx S s c) == p
def carr (S : Mat) (k : Nat) (ps : List (Nat × Nat)) : List (Nat × Nat) := (prs S.length).filter fun p => ps.any fun q => (List.range k).any fun e => (nx S q.1 e, nx S q.2 e) == p
def par (S : Mat) (k : Nat) (st : List Nat) (a c : Nat) : Nat → List (Nat × Nat)
  | 0 => opn S st a c
  | g + 1 => carr S k (par S k st a c g)
def unl (k : Nat) : List (Nat × Nat) := (List.range k).flatMap fun c => (List.range c).map fun a => (a, c)
def clash (S : Mat) (ps : List (Nat × Nat)) (a c : Nat) (cl : List Nat) : Option (Nat × Nat) := ps.find? fun p => !(cl.getD (nx S p.1 c) 0 == cl.getD (nx S p.2 a) 0)
def letsB (S : Mat) (k : Nat) (st cl : List Nat) (d : Nat) : Bool := (unl k).all fun ac => (clash S (par S k st ac.1 ac.2 (d - 1)) ac.1 ac.2 cl).isNone
def L (S : Mat) (k d x y : Nat) : Bool := letsB S k (lot S k x) (cls S y) d

section
variable {S : Mat} {k : Nat}
theorem mem_opn (h : Ok S k) {st : List Nat} {a c : Nat} {p : Nat × Nat} : p ∈ opn S st a c ↔ ∃ s ∈ st, (nx S s a, nx S s c) = p := by
  unfold opn
  rw [List.mem_filter, mem_prs, List.any_eq_true]
  constructor
  · rintro ⟨_, s, hs, e⟩
    exact ⟨s, hs, by simpa using e⟩
  · rintro ⟨s, hs, e⟩
    subst e
    exact ⟨⟨h.nx_lt _ _, h.nx_lt _ _⟩, s, hs, by simp⟩
theorem mem_carr (h : Ok S k) {ps : List (Nat × Nat)} {p : Nat × Nat} : p ∈ carr S k ps ↔ ∃ q ∈ ps, ∃ e, e < k ∧ (nx S q.1 e, nx S q.2 e) = p := by
  unfold carr
  rw [List.mem_filter, mem_prs, List.any_eq_true]
  constructor
  · rintro ⟨_, q, hq, e⟩
    obtain ⟨x, hx, e⟩ := List.any_eq_true.mp e
    exact ⟨q, hq, x, List.mem_range.mp hx, by simpa using e⟩
  · rintro ⟨q, hq, x, hx, e⟩
    subst e
    exact ⟨⟨h.nx_lt _ _, h.nx_lt _ _⟩, q, hq, List.any_eq_true.mpr ⟨x, List.mem_range.mpr hx, by simp⟩⟩
theorem opn_lt {st : List Nat} {a c : Nat} {p : Nat × Nat} (h : p ∈ opn S st a c) : p.1 < S.length ∧ p.2 < S.length := mem_prs.mp (List.mem_filter.mp h).1
theorem carr_lt {ps : List (Nat × Nat)} {p : Nat × Nat} (h : p ∈ carr S k ps) : p.1 < S.length ∧ p.2 < S.length := mem_prs.mp (List.mem_filter.mp h).1
theorem par_lt {st : List Nat} {a c g : Nat} {p : Nat × Nat} (h : p ∈ par S k st a c g) : p.1 < S.length ∧ p.2 < S.length := by
  cases g with
  | zero => exact opn_lt h
  | succ g => exact carr_lt h
theorem mem_unl {ac : Nat × Nat} : ac ∈ unl k ↔ ac.1 < ac.2 ∧ ac.2 < k := by
  unfold unl
  rw [List.mem_flatMap]
  constructor
  · rintro ⟨c, hc, h⟩
    obtain ⟨a, ha, e⟩ := List.mem_map.mp h
    subst e
    exact ⟨List.mem_range.mp ha, List.mem_range.mp hc⟩
  · rintro ⟨a, b⟩
    exact ⟨ac.2, List.mem_range.mpr b, List.mem_map.mpr ⟨ac.1, List.mem_range.mpr a, rfl⟩⟩
/-- a sequence that comes round -/
theorem round {α : Type} {f : Nat → α} {g : α → α} (hf : ∀ i, f (i + 1) = g (f i)) {i j : Nat} (hij : i < j) (e : f j = f i) : ∀ m, i ≤ m → f m = f (i + (m - i) % (j - i)) := by
  have add : ∀ n, f (j + n) = f (i + n) := by
    intro n
    induction n with
    | zero => exact e
    | succ n ih => rw [← Nat.add_assoc, ← Nat.add_assoc, hf, hf, ih]
  intro m
  induction m using Nat.strongRecOn with
  | ind m ih =>
    intro hm
    by_cases h : m < j
    · rw [Nat.mod_eq_of_lt (by omega)]
      congr 1
      omega
    · have h1 : f m = f (m - (j - i)) := by
        have e1 : m = j + (m - j) := by omega
        have e2 : m - (j - i) = i + (m - j) := by omega
        rw [e2]
        conv => lhs; rw [e1]
        exact add _
      rw [h1, ih (m - (j - i)) (by omega) (by omega)]
      congr 2
      have e3 : m - i = (m - (j - i) - i) + (j - i) := by omega
      rw [e3, Nat.add_mod_right]
end

/-! ### corners -/
def down (f : Nat → Bool) : Nat → Nat
  | 0 => 0
  | m + 1 => if f m = true then down f m else m + 1
theorem down_spec (f : Nat → Bool) : ∀ m, f m = true → f (down f m) = true ∧ down f m ≤ m ∧ (0 < down f m → f (down f m - 1) = false)
  | 0, h => ⟨h, Nat.le_refl _, fun z => absurd z (Nat.lt_irrefl _)⟩
  | m + 1, h => by
    unfold down
    by_cases e : f m = true
    · rw [if_pos e]
      obtain ⟨a, b, c⟩ := down_spec f m e
      exact ⟨a, by omega, c⟩
    · rw [if_neg e]
      exact ⟨h, Nat.le_refl _, fun _ => by simpa using e⟩
def leastA (f : Nat → Bool) (most : Nat) : Option Nat := if f most = true then some (down f most) else none
def corn (f : Nat → Nat → Bool) : List Nat → Nat → List (Nat × Nat)
  | [], _ => []
  | x :: xs, most => match leastA (f x) most with
    | none => corn f xs most
    | some a => (x, a) :: (if a = 0 then [] else corn f xs (a - 1))
def mids : List (Nat × Nat) → List (Nat × Nat)
  | a :: b :: r => (b.1 - 1, a.2 - 1) :: mids (b :: r)
  | _ => []
def lastC : List (Nat × Nat) → Nat × Nat
  | [] => (0, 0)
  | [a] => a
  | _ :: b :: r => lastC (b :: r)
def ctxL (u v : Nat) : List (Nat × Nat) → List (Nat × Nat)
  | [] => [(u, v)]
  | a :: r => (if a.1 = 0 then [] else [(a.1 - 1, v)]) ++ mids (a :: r) ++ (if (lastC (a :: r)).2 = 0 then [] else [(u, (lastC (a :: r)).2 - 1)])
def stairs : List (Nat × Nat) → Bool
  | a :: b :: r => (decide (a.1 < b.1) && decide (b.2 < a.2)) && stairs (b :: r)
  | _ => true
theorem corn_ok (f : Nat → Nat → Bool) (u : Nat) : ∀ (n x0 most : Nat), x0 + n = u + 1 →
    (∀ c ∈ corn f (List.range' x0 n) most, x0 ≤ c.1 ∧ c.1 ≤ u ∧ c.2 ≤ most ∧ f c.1 c.2 = true) ∧ stairs (corn f (List.range' x0 n) most) = true ∧
      (corn f (List.range' x0 n) most = [] → 0 < n → f u most = false) ∧ (∀ q ∈ mids (corn f (List.range' x0 n) most), f q.1 q.2 = false) ∧
      (∀ c r, corn f (List.range' x0 n) most = c :: r → (x0 < c.1 → f (c.1 - 1) most = false) ∧ (0 < (lastC (c :: r)).2 → f u ((lastC (c :: r)).2 - 1) = false)) := by
  intro n
  induction n with
  | zero =>
    intro x0 most _
    refine ⟨fun c hc => by simp [corn] at hc, rfl, fun _ z => absurd z (Nat.lt_irrefl _), fun q hq => by simp [corn, mids] at hq, fun c r e => by simp [corn] at e⟩
  | succ n ih =>
    intro x0 most hx
    rw [List.range'_succ]
    unfold corn
    by_cases hf : f x0 most = true
    · have el : leastA (f x0) most = some (down (f x0) most) := by unfold leastA; rw [if_pos hf]
      rw [el]
      dsimp only
      obtain ⟨d1, d2, d3⟩ := down_spec (f x0) most hf
      by_cases hz : down (f x0) most = 0
      · rw [if_pos hz]
        refine ⟨fun c hc => ?_, rfl, fun z => by simp at z, fun q hq => by simp [mids] at hq, fun c r e => ?_⟩
        · rw [List.mem_singleton.mp hc]
          exact ⟨Nat.le_refl _, by omega, d2, d1⟩
        · injection e with e1 e2
          subst e1; subst e2
          refine ⟨fun z => absurd z (Nat.lt_irrefl _), fun z => ?_⟩
          have z' : 0 < down (f x0) most := z
          omega
      · rw [if_neg hz]
        obtain ⟨i1, i2, i3, i4, i5⟩ := ih (x0 + 1) (down (f x0) most - 1) (by omega)
        generalize hcs : corn f (List.range' (x0 + 1) n) (down (f x0) most - 1) = cs at i1 i2 i3 i4 i5
        have hnf := d3 (by omega)
        refine ⟨fun c hc => ?_, ?_, fun z => by simp at z, fun q hq => ?_, fun c r e => ?_⟩
        · rcases List.mem_cons.mp hc with rfl | hc
          · exact ⟨Nat.le_refl _, by omega, d2, d1⟩
          · obtain ⟨a, b, c', d⟩ := i1 c hc
            exact ⟨by omega, b, by omega, d⟩
        · cases cs with
          | nil => rfl
          | cons b r =>
            obtain ⟨a1, a2, a3, a4⟩ := i1 b List.mem_cons_self
            show ((decide (x0 < b.1) && decide (b.2 < down (f x0) most)) && stairs (b :: r)) = true
            rw [i2, decide_eq_true (show x0 < b.1 by omega), decide_eq_true (show b.2 < down (f x0) most by omega)]
            rfl
        · cases cs with
          | nil => simp [mids] at hq
          | cons b r =>
            rcases List.mem_cons.mp (show q ∈ (b.1 - 1, down (f x0) most - 1) :: mids (b :: r) from hq) with rfl | hq
            · obtain ⟨a1, a2, a3, a4⟩ := i1 b List.mem_cons_self
              by_cases z : b.1 = x0 + 1
              · show f (b.1 - 1) (down (f x0) most - 1) = false
                have : b.1 - 1 = x0 := by omega
                rw [this]
                exact hnf
              · exact (i5 b r rfl).1 (by omega)
            · exact i4 q hq
        · injection e with e1 e2
          subst e1; subst e2
          refine ⟨fun z => absurd z (Nat.lt_irrefl _), fun z => ?_⟩
          cases cs with
          | nil =>
            show f u (down (f x0) most - 1) = false
            by_cases hn : n = 0
            · have : u = x0 := by omega
              rw [this]
              exact hnf
            · exact i3 rfl (by omega)
          | cons b r => exact (i5 b r rfl).2 z
    · have el : leastA (f x0) most = none := by unfold leastA; rw [if_neg hf]
      rw [el]
      dsimp only
      have hf' : f x0 most = false := by simpa using hf
      obtain ⟨i1, i2, i3, i4, i5⟩ := ih (x0 + 1) most (by omega)
      refine ⟨fun c hc => ?_, i2, fun z _ => ?_, i4, fun c r e => ?_⟩
      · obtain ⟨a, b, c', d⟩ := i1 c hc
        exact ⟨by omega, b, c', d⟩
      · by_cases hn : n = 0
        · have : u = x0 := by omega
          rw [this]
          exact hf'
        · exact i3 z (by omega)
      · obtain ⟨a1, a2⟩ := i5 c r e
        refine ⟨fun z => ?_, a2⟩
        by_cases y : c.1 = x0 + 1
        · have : c.1 - 1 = x0 := by omega
          rw [this]
          exact hf'
        · have := (i1 c (by rw [e]; exact List.mem_cons_self)).1
          exact a1 (by omega)
theorem last_mem : ∀ (a : Nat × Nat) (r : List (Nat × Nat)), lastC (a :: r) ∈ a :: r
  | a, [] => List.mem_cons_self
  | a, b :: r => List.mem_cons_of_mem _ (last_mem b r)
theorem mids_le {u v : Nat} : ∀ (cs : List (Nat × Nat)), (∀ c ∈ cs, c.1 ≤ u ∧ c.2 ≤ v) → ∀ q ∈ mids cs, q.1 ≤ u ∧ q.2 ≤ v
  | [], _, q, hq => by simp [mids] at hq
  | [_], _, q, hq => by simp [mids] at hq
  | a :: b :: r, h, q, hq => by
    rcases List.mem_cons.mp (show q ∈ (b.1 - 1, a.2 - 1) :: mids (b :: r) from hq) with rfl | hq
    · have h1 := h a List.mem_cons_self
      have h2 := h b (List.mem_cons_of_mem _ List.mem_cons_self)
      exact ⟨by show b.1 - 1 ≤ u; omega, by show a.2 - 1 ≤ v; omega⟩
    · exact mids_le (b :: r) (fun c hc => h c (List.mem_cons_of_mem _ hc)) q hq
theorem ctxL_le {u v : Nat} {cs : List (Nat × Nat)} (h : ∀ c ∈ cs, c.1 ≤ u ∧ c.2 ≤ v) : ∀ q ∈ ctxL u v cs, q.1 ≤ u ∧ q.2 ≤ v := by
  intro q hq
  cases cs with
  | nil =>
    rw [List.mem_singleton.mp hq]
    exact ⟨Nat.le_refl _, Nat.le_refl _⟩
  | cons a r =>
    rcases List.mem_append.mp hq with hq | hq
    · rcases List.mem_append.mp hq with hq | hq
      · split at hq
        · cases hq
        · rw [List.mem_singleton.mp hq]
          have := h a List.mem_cons_self
          exact ⟨by show a.1 - 1 ≤ u; omega, Nat.le_refl _⟩
      · exact mids_le _ h q hq
    · split at hq
      · cases hq
      · rw [List.mem_singleton.mp hq]
        have := h _ (last_mem a r)
        exact ⟨Nat.le_refl _, by show (lastC (a :: r)).2 - 1 ≤ v; omega⟩
def cornersM (S : Mat) (k d : Nat) : List (Nat × Nat) := corn (L S k d) (List.range (uu S k + 1)) (vv S)
theorem corners_ok (S : Mat) (k d : Nat) : (∀ c ∈ cornersM S k d, c.1 ≤ uu S k ∧ c.2 ≤ vv S ∧ L S k d c.1 c.2 = true) ∧ stairs (cornersM S k d) = true ∧ ∀ q ∈ ctxL (uu S k) (vv S) (cornersM S k d), L S k d q.1 q.2 = false := by
  unfold cornersM
  rw [List.range_eq_range']
  obtain ⟨i1, i2, i3, i4, i5⟩ := corn_ok (L S k d) (uu S k) (uu S k + 1) 0 (vv S) (by omega)
  generalize corn (L S k d) (List.range' 0 (uu S k + 1)) (vv S) = cs at i1 i2 i3 i4 i5
  refine ⟨fun c hc => (i1 c hc).2, i2, fun q hq => ?_⟩
  cases cs with
  | nil =>
    rw [List.mem_singleton.mp hq]
    exact i3 rfl (by omega)
  | cons a r =>
    obtain ⟨j1, j2⟩ := i5 a r rfl
    rcases List.mem_append.mp hq with hq | hq
    · rcases List.mem_append.mp hq with hq | hq
      · split at hq
        · cases hq
        · rw [List.mem_singleton.mp hq]
          exact j1 (by omega)
      · exact i4 q hq
    · split at hq
      · cases hq
      · rw [List.mem_singleton.mp hq]
        exact j2 (by omega)

/-! ### rows -/
def ledN (S : Mat) (s : Nat) (row : List Nat) : Nat := row.foldl (fun s c => nx S s c) s
theorem ledN_append (S : Mat) (s : Nat) (r t : List Nat) : ledN S s (r ++ t) = ledN S (ledN S s r) t := List.foldl_append
theorem ledN_lt {S : Mat} {k : Nat} (h : Ok S k) : ∀ (row : List Nat) (s : Nat), s < S.length → ledN S s row < S.length
  | [], s, hs => hs
  | c :: r, s, _ => ledN_lt h r (nx S s c) (h.nx_lt s c)
def turnd (row : List Nat) (x y : Nat) : List Nat := row.take x ++ [row.getD y 0] ++ (row.drop (x + 1)).take (y - (x + 1)) ++ [row.getD x 0] ++ row.drop (y + 1)
theorem turnd_mk (p q r : List Nat) (a c : Nat) : turnd (p ++ [a] ++ q ++ [c] ++ r) p.length (p.length + q.length + 1) = p ++ [c] ++ q ++ [a] ++ r := by
  unfold turnd
  have e1 : (p ++ [a] ++ q ++ [c] ++ r).take p.length = p := by
    rw [List.append_assoc, List.append_assoc, List.append_assoc, List.take_left]
  have e2 : (p ++ [a] ++ q ++ [c] ++ r).getD p.length 0 = a := by
    rw [List.getD_eq_getElem?_getD, List.append_assoc, List.append_assoc, List.append_assoc, List.getElem?_append_right (Nat.le_refl _), Nat.sub_self]
    rfl
  have e3 : (p ++ [a] ++ q ++ [c] ++ r).getD (p.length + q.length + 1) 0 = c := by
    have l : (p ++ [a] ++ q).length = p.length + q.length + 1 := by simp; omega
    rw [List.getD_eq_getElem?_getD, List.append_assoc (p ++ [a] ++ q), List.getElem?_append_right (by omega), l, Nat.sub_self]
    rfl
  have e4 : (p ++ [a] ++ q ++ [c] ++ r).drop (p.length + 1) = q ++ [c] ++ r := by
    have l : (p ++ [a]).length = p.length + 1 := by simp
    rw [← l, List.append_assoc (p ++ [a] ++ q), List.append_assoc (p ++ [a]), List.drop_left, List.append_assoc]
  have e5 : (q ++ [c] ++ r).take (p.length + q.length + 1 - (p.length + 1)) = q := by
    have l : p.length + q.length + 1 - (p.length + 1) = q.length := by omega
    rw [l, List.append_assoc, List.take_left]
  have e6 : (p ++ [a] ++ q ++ [c] ++ r).drop (p.length + q.length + 1 + 1) = r := by
    have l : (p ++ [a] ++ q ++ [c]).length = p.length + q.length + 1 + 1 := by simp; omega
    rw [← l, List.drop_left]
  rw [e1, e2, e3, e4, e5, e6]
theorem turnd_set {row : List Nat} {x y : Nat} (hxy : x < y) (hy : y < row.length) : (row.set x (row.getD y 0)).set y (row.getD x 0) = turnd row x y := by
  have e : row = row.take x ++ [row.getD x 0] ++ (row.drop (x + 1)).take (y - (x + 1)) ++ [row.getD y 0] ++ row.drop (y + 1) := by
    refine List.ext_getElem? fun i => ?_
    have l1 : (row.take x).length = x := by rw [List.length_take]; omega
    have l2 : ((row.drop (x + 1)).take (y - (x + 1))).length = y - (x + 1) := by rw [List.length_take, List.length_drop]; omega
    rcases Nat.lt_trichotomy i x with h | h | h
    · rw [List.append_assoc, List.append_assoc, List.append_assoc, List.getElem?_append_left (by omega), List.getElem?_take, if_pos h]
    · subst h
      rw [List.append_assoc, List.append_assoc, List.append_assoc, List.getElem?_append_right (by omega), l1, Nat.sub_self, List.getD_eq_getElem?_getD, List.getElem?_eq_getElem (by omega)]
      rfl
    · rcases Nat.lt_trichotomy i y with h2 | h2 | h2
      · rw [List.append_assoc (row.take x ++ [row.getD x 0] ++ _), List.append_assoc (row.take x ++ [row.getD x 0]), List.getElem?_append_right (by simp; omega)]
        have : (row.take x ++ [row.getD x 0]).length = x + 1 := by simp; omega
        rw [this, List.getElem?_append_left (by omega), List.getElem?_take, if_pos (by omega), List.getElem?_drop]
        congr 1
        omega
      · subst h2
        have : (row.take x ++ [row.getD x 0] ++ (row.drop (x + 1)).take (i - (x + 1))).length = i := by simp; omega
        rw [List.append_assoc (row.take x ++ [row.getD x 0] ++ _), List.getElem?_append_right (by omega), this, Nat.sub_self, List.getD_eq_getElem?_getD (l := row) (i := i), List.getElem?_eq_getElem (by omega)]
        rfl
      · have : (row.take x ++ [row.getD x 0] ++ (row.drop (x + 1)).take (y - (x + 1)) ++ [row.getD y 0]).length = y + 1 := by simp; omega
        rw [List.getElem?_append_right (by omega), this, List.getElem?_drop]
        congr 1
        omega
  refine List.ext_getElem? fun i => ?_
  have lx : x < row.length := by omega
  rcases Decidable.em (i = y) with h | h
  · subst h
    rw [List.getElem?_set_self (by simpa using hy)]
    unfold turnd
    have : (row.take x ++ [row.getD i 0] ++ (row.drop (x + 1)).take (i - (x + 1))).length = i := by simp; omega
    rw [List.append_assoc (row.take x ++ [row.getD i 0] ++ _), List.getElem?_append_right (by omega), this, Nat.sub_self]
    rfl
  · rw [List.getElem?_set_ne (fun z => h z.symm)]
    rcases Decidable.em (i = x) with h2 | h2
    · subst h2
      rw [List.getElem?_set_self lx]
      unfold turnd
      have : (row.take i).length = i := by rw [List.length_take]; omega
      rw [List.append_assoc, List.append_assoc, List.append_assoc, List.getElem?_append_right (by omega), this, Nat.sub_self]
      rfl
    · rw [List.getElem?_set_ne (fun z => h2 z.symm)]
      conv => lhs; rw [e]
      unfold turnd
      have l1 : (row.take x).length = x := by rw [List.length_take]; omega
      rcases Nat.lt_trichotomy i x with a | a | a
      · rw [List.append_assoc, List.append_assoc, List.append_assoc, List.getElem?_append_left (by omega)]
        rw [List.append_assoc, List.append_assoc, List.append_assoc, List.getElem?_append_left (by omega)]
      · exact absurd a h2
      · rcases Nat.lt_trichotomy i y with b | b | b
        · have z1 : (row.take x ++ [row.getD x 0]).length = x + 1 := by simp; omega
          have z2 : (row.take x ++ [row.getD y 0]).length = x + 1 := by simp; omega
          have z3 : ((row.drop (x + 1)).take (y - (x + 1))).length = y - (x + 1) := by rw [List.length_take, List.length_drop]; omega
          rw [List.append_assoc (row.take x ++ [row.getD x 0] ++ _), List.append_assoc (row.take x ++ [row.getD x 0]), List.getElem?_append_right (by omega), z1, List.getElem?_append_left (by omega)]
          rw [List.append_assoc (row.take x ++ [row.getD y 0] ++ _), List.append_assoc (row.take x ++ [row.getD y 0]), List.getElem?_append_right (by omega), z2, List.getElem?_append_left (by omega)]
        · exact absurd b h
        · have z1 : (row.take x ++ [row.getD x 0] ++ (row.drop (x + 1)).take (y - (x + 1)) ++ [row.getD y 0]).length = y + 1 := by simp; omega
          have z2 : (row.take x ++ [row.getD y 0] ++ (row.drop (x + 1)).take (y - (x + 1)) ++ [row.getD x 0]).length = y + 1 := by simp; omega
          rw [List.getElem?_append_right (by omega), List.getElem?_append_right (by omega), z1, z2]
/-- what a harm is made of -/
theorem harm_works {S : Mat} {s mid a c p1 p2 : Nat} {ahead between keep : List Nat} (h1 : ledN S s ahead = mid) (h2 : ledN S (nx S mid a) between = p1) (h3 : ledN S (nx S mid c) between = p2) (h4 : ledN S (nx S p1 c) keep ≠ ledN S (nx S p2 a) keep) :
    ledN S s (ahead ++ [a] ++ between ++ [c] ++ keep) ≠ ledN S s (turnd (ahead ++ [a] ++ between ++ [c] ++ keep) ahead.length (ahead.length + between.length + 1)) := by
  rw [turnd_mk]
  simp only [ledN_append]
  have e : ∀ x y, ledN S x [y] = nx S x y := fun _ _ => rfl
  rw [e, e, e, e, h1, h2, h3]
  exact h4
end Mth
/-! enumerate(tuple) -/
namespace DL
open PySem PySem.Spec PyProof.Rows L2

theorem enum1_new {v : Value} {o : Obj} {G : Heap → Prop} (B : Begins v o G) :
    Meets (Builtin.«enumerate.__new__» ⟨[.type "enumerate", v], []⟩) (fun _ R s => G s.heap ∧
      R (.ok (.ret (.ref (s.heap.push o).objs.size))) { s with heap := (s.heap.push o).push { cls := .type "enumerate", data := .fields #[.none, .bool false, .ref s.heap.objs.size, rawInt 0, .none, .none] } }) :=
  .of_wp fun prog w A R st ht => by
    obtain ⟨hp, g, d, tk, os⟩ := st
    obtain ⟨g1, fin⟩ := ht
    have sb := sub_enumerate
    have it1 : ∀ {A2 : Around} {E2 : Value → Shared → Prop} {Q2 : Value → Shared → Prop}, Q2 (.ref hp.objs.size) ⟨hp.push o, g, d, tk, os⟩ → wpAny (model prog w) A2 (pyIter v) Q2 E2 ⟨hp, g, d, tk, os⟩ := fun q => B.iter prog w _ _ ⟨hp, g, d, tk, os⟩ _ g1 q
    wp_walk using it1
    refine wpAny_stack_any fun stk => wpAny_pure ?_
    split
    · rename_i c _ _ _ _ _
      cases (c == Value.type "enumerate") <;> (wp_walk using it1; exact ⟨_, rfl, fin⟩)
    · wp_walk using it1
      exact ⟨_, rfl, fin⟩

section
variable {prog : Program} {w : World} {A : Around} {E : Value → Shared → Prop} {s : Shared}
theorem call_enum1 {v : Value} {o : Obj} {G : Heap → Prop} {Q : Value → Shared → Prop} (B : Begins v o G) (g : G s.heap)
    (fin : ∀ h', IsEnum h' (s.heap.objs.size + 1) s.heap.objs.size 0 .none → h'.get? s.heap.objs.size = some o → (∀ b u, s.heap.get? b = some u → h'.get? b = some u) → Q (.ref (s.heap.objs.size + 1)) { s with heap := h' }) :
    wpAny (model prog w) A (call (.type "enumerate") [v]) Q E s := by
  refine callType_new F.called_enumerate (by decide) (F.typeCall_enumerate_1 _) (F.newCall_enumerate_1 _) (fun ob => F.args_object_init_2 ob _) F.entry_enumerate_new (enum1_new B) ⟨g, ?_⟩
  have z1 : (s.heap.push o).objs.size = s.heap.objs.size + 1 := Heap.size_push ..
  show _ ∧ _
  rw [z1]
  have en := Heap.get?_push_size (s.heap.push o) (o := { cls := .type "enumerate", data := .fields #[.none, .bool false, .ref s.heap.objs.size, rawInt 0, .none, .none] }) rfl
  rw [z1] at en
  exact ⟨⟨_, en, rfl⟩, fin _ en (Heap.get?_push_of_some _ (Heap.get?_push_size _ B.free)) fun b u x => Heap.get?_push_of_some _ (Heap.get?_push_of_some _ x)⟩
end

/-- the tuple at a, each item in a new pair with its place -/
def IteT (K : PySem.W.Frag) (a : Addr) : It :=
  ⟨fun i H => ∃ (xs : List V) (x : V), SqT K H a xs ∧ xs[i]? = some x,
    fun i H v H' => ∃ T x, v = .ref T ∧ H T = none ∧ H' = upd H T (.tup [.int (i : Nat), x]) ∧ ∀ xs, SqT K H a xs → xs[i]? = some x,
    fun i H => ∃ xs : List V, SqT K H a xs ∧ xs.length = i⟩
theorem turn_enumT {P : Program} {w : World} {K : PySem.W.Frag} {elts : List Expr} {kk : Nat} {tpos : Pos} (a e it : Addr) (hna : a ≠ it) :
    Turn P w K (.Tuple elts kk tpos) (IteT K a) [e, it] e (fun i h => (∃ old, IsEnum h e it ((i : Nat) : Int) old) ∧ h.IsTupleIter it a i ∧ e ≠ it ∧ e ≠ a) where
  mem := List.mem_cons_self
  obj := fun i h ⟨⟨old, he⟩, ⟨o, ho, _, hd⟩, _⟩ b hb => by
    rcases List.mem_cons.mp hb with z | z
    · subst z; exact ⟨_, he, fun v q => nomatch q⟩
    · rw [List.mem_singleton.mp z]; exact ⟨o, ho, fun v q => by rw [hd] at q; cases q⟩
  keep := fun i h h' ⟨⟨old, he⟩, hi, hne, hea⟩ k => ⟨⟨old, k e List.mem_cons_self _ he⟩, hi.at fun o q => k it (List.mem_cons_of_mem _ List.mem_cons_self) o q, hne, hea⟩
  item := by
    intro X hP hw hK hc i pins s σ H E I hf ⟨⟨old, he⟩, hit, hne, hea⟩ ⟨xs, x, hq, hx⟩
    subst hP hw hK
    obtain ⟨its, rv, ⟨oT, eT, cT, nT, dT⟩, hz⟩ := I.tuple hq
    obtain ⟨u, hu, ru⟩ := rv.get hx
    have tup : s.heap.IsTuple a its.toArray := ⟨oT, eT, cT, nT, dT⟩
    have hlt : i < its.toArray.size := by
      have := (List.getElem?_eq_some_iff.mp hu).1
      simpa using this
    have le : e < s.heap.objs.size := Heap.lt_size he
    have li : it < s.heap.objs.size := by obtain ⟨_, q, _⟩ := hit; exact Heap.lt_size q
    refine wpAny_pyNext_enum_itemC (Draws.tuple (show X.A.in1.handled = none by simp [I.ok.hd hc]) it a hna its.toArray) he ⟨hit, tup⟩ hlt hne (by simp [hne, hea]) fun y h' tk py ho st' hT hsz hk => ?_
    have ey : y = u := by
      have e1 : its.toArray[i]? = some u := by simpa using hu
      rw [e1] at py
      exact (Option.some.inj py).symm
    subst ey
    refine ⟨_, rfl, wpAny_letOwnedTupleGo_enum (s := { s with heap := h', toks := tk + 1 }) ho fun h2 he2 sb => ?_⟩
    have hT2 : h2.get? s.heap.objs.size = some { cls := .type "tuple", data := .seq #[.int i tk, y] } := (sb.2 _ (Nat.ne_of_gt le)).trans hT
    have J : Inv X pins σ (upd H s.heap.objs.size (.tup [.int (i : Nat), x])) { s with heap := h2, toks := tk + 1 } :=
      I.turnedNew (ch := [e, it]) (fun b ob hb q => (sb.2 b fun z => hb (by rw [z]; exact List.mem_cons_self)).trans (hk b ob (fun z => hb (by rw [z]; exact List.mem_cons_self)) (fun z => hb (by rw [z]; exact List.mem_cons_of_mem _ List.mem_cons_self)) q)) hf (Nat.le_refl _)
        ⟨by show 2 ≤ sizeLine; rw [sizeLine_eq]; decide, [.int i tk, y], .cons ⟨_, rfl⟩ (.cons ru .nil), ⟨_, hT2, rfl, _, rfl⟩⟩
    refine ⟨.ref s.heap.objs.size, _, J, rfl, ⟨_, x, rfl, I.hok.fresh (Nat.le_refl _), rfl, fun ys hy => by rw [I.tuple_inj hy hq]; exact hx⟩, ⟨⟨y, ?_⟩, st'.1.at fun o q => (sb.2 it (Ne.symm hne)).trans q, hne, hea⟩, fun b hb => ?_⟩
    · rw [show ((i + 1 : Nat) : Int) = (i : Int) + 1 by omega]
      exact he2
    · have lb : b < s.heap.objs.size := by
        rcases List.mem_cons.mp hb with z | z
        · rw [z]; exact le
        · rw [List.mem_singleton.mp z]; exact li
      rw [upd_ne (Nat.ne_of_lt lb)]
      exact (hf b hb).1
  done := by
    intro X hP hw hK hc i pins s σ H E I hf ⟨⟨old, he⟩, hit, hne, hea⟩ ⟨xs, hq, hx⟩
    subst hP hw hK
    obtain ⟨its, rv, ⟨oT, eT, cT, nT, dT⟩, hz⟩ := I.tuple hq
    obtain ⟨f0, f1, f2, f3, f4, f5⟩ := hf it (List.mem_cons_of_mem _ List.mem_cons_self)
    have hn : its.toArray.size = i := by
      have := rv.length
      simp
      omega
    subst hn
    exact wpAny_pyNext_enum_endD (Draws.tuple (show X.A.in1.handled = none by simp [I.ok.hd hc]) it a hna its.toArray) he ⟨hit, ⟨oT, eT, cT, nT, dT⟩⟩ fun h' eb => ⟨rfl, I.turned (t' := s.toks) (fun b o hb q => eb b o hb q) f0 f1 f3 f4 f5⟩
  self := fun A i s Q E ⟨⟨_, he⟩, _⟩ h => wpAny_pyIter_enum he h
def iEnumT (K : PySem.W.Frag) (ta : TA) : TI := fun σ H R => ta σ H fun vs H1 => ∃ a xs, vs = [.ref a] ∧ SqT K H1 a xs ∧ R (IteT K a) H1
section
variable {X : Cx} {e : Expr} {te : TE} {p pos tpos : Pos} {elts : List Expr} {kk : Nat}
theorem x_enumL (hm : X.mg "enumerate" = none) (ha : PE X e te) (hg : Gl X "enumerate" := by rfl) (hs : starEach [e] X.env = (false, eval e X.env) :: starEach [] X.env := by rfl) :
    PI X (.Tuple elts kk tpos) (.Call (.Name "enumerate" p) [e] [] pos) (iEnum X.K (tCons te tNil)) := pi_enum hg hm (pa_cons ha pa_nil hs) hs
theorem x_enumT (hm : X.mg "enumerate" = none) (ha : PE X e te) (hg : Gl X "enumerate" := by rfl) (hs : starEach [e] X.env = (false, eval e X.env) :: starEach [] X.env := by rfl) :
    PI X (.Tuple elts kk tpos) (.Call (.Name "enumerate" p) [e] [] pos) (iEnumT X.K (tCons te tNil)) := by
  refine ⟨fun pins s σ H R I h => ?_⟩
  have hA : PA X [e] (tCons te tNil) := pa_cons ha pa_nil hs
  refine Call_ (ld_blt I hg hm boot_enumerate (PyProof.Rows.callWith_type1 (thn (hA.run pos pins s σ H _ I h) fun us s1 ⟨vs, H1, I1, r1, q1⟩ => ?_) hs rfl))
  obtain ⟨a, xs, rfl, hq, q⟩ := q1
  obtain ⟨u, rfl, ru⟩ := Vals.one r1
  cases ru
  obtain ⟨its, rv, ⟨oT, eT, cT, nT, dT⟩, hz⟩ := I1.tuple hq
  have la : a < s1.heap.objs.size := Heap.lt_size eT
  refine call_enum1 (begins_tuple a its.toArray) ⟨oT, eT, cT, nT, dT⟩ fun h' he hit hk => wpAny_pyIter_enum he ?_
  refine ⟨s1.heap.objs.size + 1, [s1.heap.objs.size + 1, s1.heap.objs.size], _, _, H1, rfl, I1.kept (t' := s1.toks) hk, turn_enumT a (s1.heap.objs.size + 1) s1.heap.objs.size (Nat.ne_of_lt la), ⟨⟨.none, he⟩, ⟨_, hit, rfl, rfl⟩, Nat.succ_ne_self _, Nat.ne_of_gt (Nat.lt_succ_of_lt la)⟩, fun b hb => ?_, q⟩
  have hle : s1.heap.objs.size ≤ b := by
    rcases List.mem_cons.mp hb with z | z
    · rw [z]; exact Nat.le_succ _
    · rw [List.mem_singleton.mp z]; exact Nat.le_refl _
  exact I1.fpOk hle (I1.hok.fresh hle)
end

section
variable {C : Addr} {K : PySem.W.Frag} {rho : List (Option D)} {mu : Mu} {te ta tb : TE} {ds es : List D}
/-- the items with their places -/
def enumD (ds : List D) : List D := (List.range ds.length).zipWith (fun i d => .tup [nat i, d]) ds
theorem enumD_len (ds : List D) : (enumD ds).length = ds.length := by unfold enumD; simp
theorem enumD_get {i : Nat} {d : D} (h : (enumD ds)[i]? = some d) : ∃ e, ds[i]? = some e ∧ d = .tup [nat i, e] := by
  unfold enumD at h
  rw [List.getElem?_zipWith] at h
  have hi : i < ds.length := by
    cases q : ds[i]? with
    | none =>
      rw [q] at h
      cases z : (List.range ds.length)[i]? <;> rw [z] at h <;> cases h
    | some e => exact (List.getElem?_eq_some_iff.mp q).1
  rw [List.getElem?_range hi, List.getElem?_eq_getElem hi] at h
  exact ⟨ds[i], List.getElem?_eq_getElem hi, (Option.some.inj h).symm⟩
theorem evi_enumT (h : EvD C te rho mu (.tup ds)) : EvI C (iEnumT K (tCons te tNil)) rho mu (enumD ds) := fun c ts s H R S q => h.run S fun v H1 S1 => by
  obtain ⟨F, T⟩ := id S1
  obtain ⟨a, xs, e, hx, hs⟩ := T.top.tup_inv
  subst e
  refine ⟨a, xs, rfl, SqT.of (T.sub _ _ hx), q _ H1 [(.ref a, .tup ds)] ⟨fun i rho mu s H S hi => ?_, fun rho mu s H S => ?_, fun i d rho mu s H x H' hd S y => ?_⟩ S1⟩
  · obtain ⟨F, T⟩ := S
    obtain ⟨a', xs, e, hx, hs⟩ := (T.tmp (.ref a, .tup ds) (by simp)).tup_inv
    cases e
    rw [enumD_len] at hi
    exact ⟨xs, xs[i]'(by rw [hs.1]; exact hi), SqT.of (T.sub _ _ hx), by simp⟩
  · obtain ⟨F, T⟩ := S
    obtain ⟨a', xs, e, hx, hs⟩ := (T.tmp (.ref a, .tup ds) (by simp)).tup_inv
    cases e
    exact ⟨xs, SqT.of (T.sub _ _ hx), by rw [enumD_len, hs.1]⟩
  · obtain ⟨T0, x0, e, hn, eH, y⟩ := y
    subst e; subst eH
    obtain ⟨e, he, ed⟩ := enumD_get hd
    subst ed
    obtain ⟨F, T⟩ := S
    obtain ⟨a', xs, e2, hx, hs⟩ := (T.tmp (.ref a, .tup ds) (by simp)).tup_inv
    cases e2
    have r := hs.2 i x0 e (y xs (SqT.of (T.sub _ _ hx))) he
    have g := Gr.alloc (o := .tup [.int (i : Nat), x0]) T.sub hn
    have z : DRs C (upd F T0 (.tup [.int (i : Nat), x0])) [.int (i : Nat), x0] [nat i, e] := .cons (.int _) (.one (r.mono g.ex))
    exact ⟨_, (T.grow g).push (.tup upd_same z.1 z.2)⟩
theorem evi_enumL (h : EvD C te rho mu (.lst ds)) : EvI C (iEnum K (tCons te tNil)) rho mu (enumD ds) := fun c ts s H R S q => h.run S fun v H1 S1 => by
  obtain ⟨F, T⟩ := id S1
  obtain ⟨a, xs, e, hx, hs⟩ := T.top.lst_inv
  subst e
  refine ⟨a, xs, rfl, SqL.of (T.sub _ _ hx), q _ H1 [(.ref a, .lst ds)] ⟨fun i rho mu s H S hi => ?_, fun rho mu s H S => ?_, fun i d rho mu s H x H' hd S y => ?_⟩ S1⟩
  · obtain ⟨F, T⟩ := S
    obtain ⟨a', xs, e, hx, hs⟩ := (T.tmp (.ref a, .lst ds) (by simp)).lst_inv
    cases e
    rw [enumD_len] at hi
    exact ⟨xs, xs[i]'(by rw [hs.1]; exact hi), SqL.of (T.sub _ _ hx), by simp⟩
  · obtain ⟨F, T⟩ := S
    obtain ⟨a', xs, e, hx, hs⟩ := (T.tmp (.ref a, .lst ds) (by simp)).lst_inv
    cases e
    exact ⟨xs, SqL.of (T.sub _ _ hx), by rw [enumD_len, hs.1]; exact Nat.le_refl _⟩
  · obtain ⟨T0, x0, e, hn, eH, y⟩ := y
    subst e; subst eH
    obtain ⟨e, he, ed⟩ := enumD_get hd
    subst ed
    obtain ⟨F, T⟩ := S
    obtain ⟨a', xs, e2, hx, hs⟩ := (T.tmp (.ref a, .lst ds) (by simp)).lst_inv
    cases e2
    have r := hs.2 i x0 e (y xs (SqL.of (T.sub _ _ hx))) he
    have g := Gr.alloc (o := .tup [.int (i : Nat), x0]) T.sub hn
    have z : DRs C (upd F T0 (.tup [.int (i : Nat), x0])) [.int (i : Nat), x0] [nat i, e] := .cons (.int _) (.one (r.mono g.ex))
    exact ⟨_, (T.grow g).push (.tup upd_same z.1 z.2)⟩
/-- zip of two tuples, of two lists -/
def zipD (ds es : List D) : List D := ds.zipWith (fun d e => .tup [d, e]) es
theorem zipD_len (ds es : List D) : (zipD ds es).length = min ds.length es.length := by unfold zipD; simp
theorem zipD_get {i : Nat} {d : D} (h : (zipD ds es)[i]? = some d) : ∃ a b, ds[i]? = some a ∧ es[i]? = some b ∧ d = .tup [a, b] := by
  unfold zipD at h
  rw [List.getElem?_zipWith] at h
  cases q1 : ds[i]? with
  | none => rw [q1] at h; cases h
  | some a =>
    cases q2 : es[i]? with
    | none => rw [q1, q2] at h; cases h
    | some b =>
      rw [q1, q2] at h
      exact ⟨a, b, rfl, rfl, (Option.some.inj h).symm⟩
theorem evi_zipT (h : EvD C ta rho mu (.tup ds)) (h2 : EvD C tb rho mu (.tup es)) : EvI C (RZ.iZipA K (tCons ta (tCons tb tNil))) rho mu (zipD ds es) := fun c ts s H R S q => h.run S fun v H1 S1 => h2.run S1 fun v2 H2 S2 => by
  obtain ⟨F, T⟩ := id S2
  obtain ⟨b, ys, e2, hy, hs2⟩ := T.top.tup_inv
  obtain ⟨a, xs, e, hx, hs⟩ := (T.tmp (v, .tup ds) (by simp)).tup_inv
  have e' : v = .ref a := e
  subst e'; subst e2
  refine ⟨a, b, xs, ys, rfl, .inr ⟨SqT.of (T.sub _ _ hx), SqT.of (T.sub _ _ hy), q _ H2 [(.ref b, .tup es), (.ref a, .tup ds)] ⟨fun i rho mu s H S hi => ?_, fun rho mu s H S => ?_, fun i d rho mu s H x H' hd S y => ?_⟩ S2⟩⟩
  · obtain ⟨F, T⟩ := S
    obtain ⟨a', xs, e, hx, hs⟩ := (T.tmp (.ref a, .tup ds) (by simp)).tup_inv
    obtain ⟨b', ys, e2, hy, hs2⟩ := (T.tmp (.ref b, .tup es) (by simp)).tup_inv
    cases e; cases e2
    rw [zipD_len] at hi
    exact ⟨xs, ys, xs[i]'(by rw [hs.1]; omega), ys[i]'(by rw [hs2.1]; omega), SqT.of (T.sub _ _ hx), SqT.of (T.sub _ _ hy), by simp, by simp⟩
  · obtain ⟨F, T⟩ := S
    obtain ⟨a', xs, e, hx, hs⟩ := (T.tmp (.ref a, .tup ds) (by simp)).tup_inv
    obtain ⟨b', ys, e2, hy, hs2⟩ := (T.tmp (.ref b, .tup es) (by simp)).tup_inv
    cases e; cases e2
    exact ⟨xs, ys, SqT.of (T.sub _ _ hx), SqT.of (T.sub _ _ hy), by rw [zipD_len, hs.1, hs2.1]; omega⟩
  · obtain ⟨T0, x0, y0, e, hn, eH, y1, y2⟩ := y
    subst e; subst eH
    obtain ⟨d1, d2, g1, g2, ed⟩ := zipD_get hd
    subst ed
    obtain ⟨F, T⟩ := S
    obtain ⟨a', xs, e, hx, hs⟩ := (T.tmp (.ref a, .tup ds) (by simp)).tup_inv
    obtain ⟨b', ys, e2, hy, hs2⟩ := (T.tmp (.ref b, .tup es) (by simp)).tup_inv
    cases e; cases e2
    have r1 := hs.2 i x0 d1 (y1 xs (SqT.of (T.sub _ _ hx))) g1
    have r2 := hs2.2 i y0 d2 (y2 ys (SqT.of (T.sub _ _ hy))) g2
    have g := Gr.alloc (o := .tup [x0, y0]) T.sub hn
    have z : DRs C (upd F T0 (.tup [x0, y0])) [x0, y0] [d1, d2] := .cons (r1.mono g.ex) (.one (r2.mono g.ex))
    exact ⟨_, (T.grow g).push (.tup upd_same z.1 z.2)⟩
end
end DL
/-! comprehensions of sets: one clause, two clauses; what is gathered is any kind of set -/
namespace DL
open PySem PySem.Spec PyProof.Rows L2

/-- the object that a new set is -/
abbrev set0 (w : World) : Obj := { cls := .type "set", dict := none, data := .set #[] 0 (.fresh 0 0 (!w.params.followText "set-order")) }
/-- a kind of set: O the empty one, ad what an item's adding is to reach -/
structure Gath (X : Cx) (O : Addr → HO) (ad : Addr → V → Hp → (Hp → Prop) → Prop) : Prop where
  lay : ∀ (h : Heap) (H : Hp), ObjOk X.prog X.w H (h.push (set0 X.w)) h.objs.size (O h.objs.size)
  add : ∀ (Y : Cx), Y.prog = X.prog → Y.w = X.w → Y.A = X.A → Y.K = X.K → ∀ (pins : List (Addr × Obj)) (σ : L2.St) (H : Hp) (s : Shared) (E : Value → Shared → Prop) (a : Addr) (y : V) (v : Value) (N : Hp → Prop) (Q : Value → Shared → Prop),
    Inv Y pins σ H s → RelV y v → ad a y H N → (∀ s' H', Inv Y pins σ H' s' → N H' → Q .none s') → wpAny (model X.prog X.w) X.A (call (.builtin "set.add") [.ref a, v]) Q E s

section
variable {X : Cx}
/-- what a block may do to its iterator's objects -/
theorem ex_fp {Y : Cx} {σ : L2.St} {H : Hp} {s : Shared} {fp : List Addr} (I : Inv Y [] σ H s) (hx : Y.ex = fp) (hp : Y.pn = []) (hn : ∀ b ∈ fp, H b = none) : ∀ b ∈ fp, FpOk Y [] H b := fun b hb => by
  have hb' : b ∈ Y.ex := by rw [hx]; exact hb
  exact ⟨hn b hb, (I.ok.exf b hb').1, I.ok.exfs b hb', .inl hb', (I.ok.exf b hb').2, fun p z => by rw [hp] at z; cases z⟩
/-- a turn up to its tests -/
theorem turn_tests {Y : Cx} {tg : Expr} {J : It} {fp : List Addr} {it : Addr} {tn : Nat → Heap → Prop} {pins : List (Addr × Obj)} {σ : L2.St} {H : Hp} {s : Shared} {i : Nat} {g : TG} {tt : TT} {ifs : List Expr} {R : L2.St → Bool → Hp → Prop} {N : Value → Shared → Prop} {P : Bool → Shared → Prop}
    (T : Turn Y.prog Y.w Y.K tg J fp it tn) (hc : Y.calm = true) (hxe : Y.xe = fun _ _ => False) (I : Inv Y pins σ H s) (hf : ∀ b ∈ fp, FpOk Y pins H b) (st : tn i s.heap) (go : J.go i H) (pg : PG Y tg g) (pt : PTs Y ifs tt) (step : ∀ x H', J.yld i H x H' → g x σ H' fun σ2 H2 => tt σ2 H2 (R σ2))
    (k : ∀ (pl : List (Addr × Obj)) (σ2 : L2.St) (H3 : Hp) (ok : Bool) (s3 : Shared), Inv Y (pins ++ pl) σ2 H3 s3 → R σ2 ok H3 → (∀ σ' H' s', Inv Y (pins ++ pl) σ' H' s' → tn (i + 1) s'.heap ∧ ∀ b ∈ fp, H' b = none) → P ok s3) :
    wpAny (model Y.prog Y.w) Y.A (pyNext (.ref it)) (fun r s₁ => ∃ v, r = some v ∧ wpAny (model Y.prog Y.w) Y.A (letOwnedTupleGo tg (.ref it) v) (fun _ s₁' => wpAny (model Y.prog Y.w) Y.A (assign tg Y.env v) (fun _ s₂ =>
        wpAny (model Y.prog Y.w) Y.A (forIn ifs true fun c r => if r = true then do let ok ← isTrue c Y.env (eval c Y.env); pure (ForInStep.yield ok) else pure (ForInStep.yield r)) P N s₂) N s₁') N s₁) N s := by
  refine thnF (T.item Y rfl rfl rfl hc i pins s σ H (fun _ _ => False) I hf st go) fun r s1 ⟨u, hr, h1⟩ => ⟨u, hr, ?_⟩
  refine thnF h1 fun _ s2 ⟨x, H2, I2, r2, y2, st2, n2⟩ => ?_
  have hf2 : ∀ b ∈ fp, FpOk Y pins H2 b := fun b hb => ⟨n2 b hb, (hf b hb).2⟩
  have J2 := I2.pinned hf2 (T.obj _ _ st2)
  have z := pg.run _ s2 σ H2 x u _ J2 r2 (step x H2 y2)
  rw [hxe] at z
  refine thnF z fun _ s3 ⟨σ3, H3, I3, q3⟩ => ?_
  have z2 := pt.run _ s3 σ3 H3 _ I3 q3
  rw [hxe] at z2
  refine thnF z2 fun b s4 ⟨H4, I4, q4⟩ => k _ σ3 H4 b s4 I4 q4 fun σ' H' s' I' => ?_
  have at' : ∀ b ∈ fp, ∀ o, s2.heap.get? b = some o → s'.heap.get? b = some o ∧ H' b = none := fun b hb o e =>
    have z := I'.pin (b, o) (List.mem_append_right _ (List.mem_append_right _ (mem_pinsAt hb e)))
    ⟨z.1, z.2.1⟩
  refine ⟨T.keep _ _ _ st2 fun b hb o e => (at' b hb o e).1, fun b hb => ?_⟩
  obtain ⟨o, e, _⟩ := T.obj _ _ st2 b hb
  exact (at' b hb o e).2

/-- what is asked of the loop over the first clause, from the block's start -/
def InB (X : Cx) (σ : L2.St) (vs : List Nat) (B : It → Addr → Hp → Prop) (e : Expr) (ad : Unit) (Q : VK) (tg : Expr) (scope : Scope) : Prop :=
  ∀ (it : Addr) (fp : List Addr) (tn : Nat → Heap → Prop) (J : It) (D : Addr) (s3 s4 : Shared) (H3 : Hp) (C : Addr) (cl : List (PySem.Str × Addr)), Turn X.prog X.w X.K tg J fp it tn → tn 0 s4.heap →
    Inv (X.blk s3 H3 scope (compEnvC scope cl C X.env) fp) [] (wipe σ vs) H3 s4 → (∀ b ∈ fp, H3 b = none) → B J D H3 →
    codeAny (model X.prog X.w) X.A (.compLoop e 0 (.ref it) (.ref D) (compEnvC scope cl C X.env)) (fun r s' => r = .ok .next ∧ ∃ σ' H', Inv (X.blk s3 H3 scope (compEnvC scope cl C X.env) fp) [] σ' H' s' ∧ Q (.ref D) H') s4
theorem set_begin {elt tg iter : Expr} {ifs : List Expr} {rest : List Comprehension} {scope : Scope} {own : List (PySem.Str × Nat)} {pos : Pos} {wi : TI} {O : Addr → HO} {ad : Addr → V → Hp → (Hp → Prop) → Prop} {B : It → Addr → Hp → Prop} {pins : List (Addr × Obj)} {σ : L2.St} {H : Hp} {s : Shared} {Q : VK}
    (G : Gath X O ad) (hc : X.calm = true) (hN : X.N.Nodup) (I : Inv X pins σ H s) (hi : PI X tg iter wi) (ok : BlkOk X.N X.env.scope scope own) (hs : ∀ x, foldedSetIterable iter X.env x = pure x)
    (h : wi σ H fun J H1 => ∀ D, H1 D = none → B J D (upd H1 D (O D))) (hB : InB X σ (own.map (·.2)) B (.SetComp elt (⟨tg, iter, ifs, 0⟩ :: rest) scope pos) () Q tg scope) :
    wpAny (model X.prog X.w) X.A (eval (.SetComp elt (⟨tg, iter, ifs, 0⟩ :: rest) scope pos) X.env) (EP X pins σ Q) X.xe s := by
  rw [PpSet.eval_SetComp]
  have fr : ∀ y ∈ scope.names, y.2 = .free → ∃ c, X.env.cells.lookup y.1 = some c := fun y hy e => (ok.free y hy e).elim (fun k => I.ok.has _ (.inl k)) fun k => I.ok.has _ (.inr k)
  refine wpAny_comprehension_free (use := none) rfl hs (closure_ok fr) ok.kind (fun y hy e => (ok.uniq y hy).trans (congrArg some e)) ?_
  refine thn (hi.run pins s σ H _ I h) fun xv s1 h1 => thn h1 fun itv s2 ⟨it, fp, tn, J, H2, e, I2, T, st2, f2, q⟩ => ?_
  subst e
  refine PpSet.newSet_ok (newEnv_comp ?_)
  have hD : H2 s2.heap.objs.size = none := I2.hok.fresh (Nat.le_refl _)
  have b3 := q _ hD
  have I3 : Inv X pins σ (upd H2 s2.heap.objs.size (O s2.heap.objs.size)) { s2 with heap := s2.heap.push (set0 X.w) } := I2.laid (t' := s2.toks) (fun b o e => Heap.get?_push_of_some _ e) (Nat.le_refl _) (G.lay _ _)
  have low : ∀ b ∈ fp, b < s2.heap.objs.size := fun b hb => Heap.lt_size (T.obj _ _ st2 b hb).choose_spec.1
  have f3 : ∀ b ∈ fp, FpOk X pins (upd H2 s2.heap.objs.size (O s2.heap.objs.size)) b ∧ b < (s2.heap.push (set0 X.w)).objs.size := fun b hb => by
    have l := low b hb
    exact ⟨⟨by rw [upd_ne (Nat.ne_of_lt l)]; exact (f2 b hb).1, (f2 b hb).2⟩, by rw [Heap.size_push]; exact Nat.lt_succ_of_lt l⟩
  have I4 := block_start I3 ok hN f3
  have st4 : tn 0 (pushCells ((s2.heap.push (set0 X.w)).push { cls := .type "dict", data := .dict #[] }) scope.names) := T.keep _ _ _ st2 fun b _ o e => pushCells_keeps _ _ _ _ (Heap.get?_push_of_some _ (Heap.get?_push_of_some _ e))
  have run := hB it fp tn J _ _ _ _ _ _ T st4 I4 (fun b hb => (f3 b hb).1.1) b3
  refine PpSet.codeAny_compStart_set ?_ (T.self X.A 0 _ _ _ st4 ?_) <;>
  · refine codeAny_mono run fun r s' ⟨hr, σ', H', I', qq⟩ => ?_
    subst hr
    have nC : H' (s2.heap.push (set0 X.w)).objs.size = none := I'.free
    have I7 : Inv X pins σ H' s' := I3.call' (ch := fp) I'.os I'.base I'.hok I'.bare fun b hb => ⟨(f3 b hb).1.2.2.2.1, (f3 b hb).1.2.1, (f3 b hb).1.2.2.2.2.1, (f3 b hb).1.2.2.2.2.2⟩
    obtain ⟨m, hm, _⟩ := I'.loc
    obtain ⟨g0, g1, g2, g3, g4, g5⟩ := I3.fpOk (Nat.le_refl _) nC
    exact ⟨m, hm, fun h'' sb => ⟨.ref _, H', I7.turned (t' := s'.toks) (fun b o hb e => (sb.2 b hb).trans e) g0 g1 g3 g4 g5, rfl, qq⟩⟩

/-! ### one clause -/
def B1 (ad : Addr → V → Hp → (Hp → Prop) → Prop) (g : TG) (tt : TT) (te : TE) (vs : List Nat) (σ : L2.St) (Q : VK) (J : It) (D : Addr) (H0 : Hp) : Prop := ∃ W : Nat → Nat → Hp → Prop, (∃ m, W 0 m H0) ∧ ∀ i m H, W i m H →
  (J.stop i H ∧ Q (.ref D) H) ∨ (J.go i H ∧ ∃ N : Hp → Prop, (∀ H', N H' → ∃ m', m' < m ∧ W (i + 1) m' H') ∧ ∀ x H', J.yld i H x H' → g x (wipe σ vs) H' fun σ2 H2 => tt σ2 H2 fun b H3 => wipe σ2 vs = wipe σ vs ∧
    if b = true then te σ2 H3 fun y H4 => ad D y H4 N else N H3)
def tS1 (O : Addr → HO) (ad : Addr → V → Hp → (Hp → Prop) → Prop) (wi : TI) (g : TG) (tt : TT) (te : TE) (vs : List Nat) : TE := fun σ H Q => wi σ H fun J H1 => ∀ D, H1 D = none → B1 ad g tt te vs σ Q J D (upd H1 D (O D))
theorem pe_s1 {O : Addr → HO} {ad : Addr → V → Hp → (Hp → Prop) → Prop} {elt tg iter : Expr} {ifs : List Expr} {scope : Scope} {own : List (PySem.Str × Nat)} {pos : Pos} {wi : TI} {g : TG} {tt : TT} {te : TE} (G : Gath X O ad) (hc : X.calm = true) (hN : X.N.Nodup) (hi : PI X tg iter wi) (ok : BlkOk X.N X.env.scope scope own)
    (hg : ∀ (s : Shared) (H : Hp) (C : Addr) (cl : List (PySem.Str × Addr)) (fp : List Addr), PG (X.blk s H scope (compEnvC scope cl C X.env) fp) tg g) (ht : ∀ (s : Shared) (H : Hp) (C : Addr) (cl : List (PySem.Str × Addr)) (fp : List Addr), PTs (X.blk s H scope (compEnvC scope cl C X.env) fp) ifs tt)
    (he : ∀ (s : Shared) (H : Hp) (C : Addr) (cl : List (PySem.Str × Addr)) (fp : List Addr), PE (X.blk s H scope (compEnvC scope cl C X.env) fp) elt te) (hs : ∀ x, foldedSetIterable iter X.env x = pure x := by intro _; rfl) :
    PE X (.SetComp elt [⟨tg, iter, ifs, 0⟩] scope pos) (tS1 O ad wi g tt te (own.map (·.2))) := by
  refine ⟨fun pins s σ H Q I h => set_begin (B := B1 ad g tt te (own.map Prod.snd) σ Q) G hc hN I hi ok hs h ?_⟩
  intro it fp tn J D s3 s4 H3 C cl T st4 I4 n4 ⟨W, ⟨m0, w0⟩, turn⟩
  have pg := hg s3 H3 C cl fp
  have pt := ht s3 H3 C cl fp
  have pe := he s3 H3 C cl fp
  generalize hY : X.blk s3 H3 scope (compEnvC scope cl C X.env) fp = Y at I4 pg pt pe
  have y1 : Y.prog = X.prog ∧ Y.w = X.w ∧ Y.A = X.A ∧ Y.K = X.K ∧ Y.env = compEnvC scope cl C X.env ∧ Y.ex = fp ∧ Y.pn = [] ∧ Y.calm = X.calm ∧ Y.xe = fun _ _ => False := by
    rw [← hY]
    exact ⟨rfl, rfl, rfl, rfl, rfl, rfl, rfl, rfl, rfl⟩
  obtain ⟨e1, e2, e3, e4, e5, e6, e7, e8, e9⟩ := y1
  rw [← e1, ← e2, ← e3, ← e5]
  rw [← e1, ← e2, ← e4] at T
  refine PpSet.compLoopS_any (fun n s' => ∃ i H', Inv Y [] (wipe σ (own.map (·.2))) H' s' ∧ tn i s'.heap ∧ (∀ b ∈ fp, H' b = none) ∧ W i n H') ?_ m0 ⟨0, H3, I4, st4, n4, w0⟩
  rintro n s5 ⟨i, H5, I5, st5, n5, w5⟩
  have hf := ex_fp I5 e6 e7 n5
  rcases turn i n H5 w5 with ⟨stop, qq⟩ | ⟨go, N, hN, step⟩
  · refine thnF (T.done Y rfl rfl rfl (e8.trans hc) i [] s5 _ H5 (fun _ _ => False) I5 hf st5 stop) fun r s6 ⟨hr, I6⟩ => ?_
    subst hr
    exact ⟨rfl, _, H5, I6, qq⟩
  · refine thn (turn_tests T (e8.trans hc) e9 I5 hf st5 go pg pt step fun pl σ2 H6 b s6 I6 r6 back => ?_) fun r s7 hz => by obtain ⟨v, hv, z⟩ := hz; subst hv; exact z
    obtain ⟨hw, r6⟩ := r6
    have fin : ∀ {s' : Shared} {H' : Hp}, Inv Y ([] ++ pl) σ2 H' s' → N H' → ∃ m, m < n ∧ ∃ i H', Inv Y [] (wipe σ (own.map (·.2))) H' s' ∧ tn i s'.heap ∧ (∀ b ∈ fp, H' b = none) ∧ W i m H' := fun {s' H'} I' nx => by
      obtain ⟨m', hm, w'⟩ := hN H' nx
      obtain ⟨b1, b2⟩ := back _ _ _ I'
      exact ⟨m', hm, i + 1, H', (I'.unpinned (pins := [])).weak (by rw [← hw, wipe_length]) (fun j x e => by rw [← hw] at e; exact (wipe_some e).1), b1, b2, w'⟩
    cases b with
    | false =>
      rw [if_neg Bool.false_ne_true] at r6 ⊢
      exact fin I6 r6
    | true =>
      rw [if_pos rfl] at r6 ⊢
      have z := pe.run _ s6 σ2 H6 _ I6 r6
      rw [e9] at z
      refine thnF z fun u s7 ⟨y, H7, I7, r7, q7⟩ => ?_
      rw [e1, e2, e3]
      exact G.add Y e1 e2 e3 e4 _ _ _ _ _ _ _ _ _ _ I7 r7 q7 fun s8 H8 I8 n8 => fin I8 n8
end

/-! ### two clauses -/
section
variable {P : Program} {w : World} {A : Around} {R : Result → Shared → Prop} {s : Shared} {elt t0 i0 t1 i1 : Expr} {f0 f1 : List Expr} {scope : Scope} {pos : Pos} {it acc : Value} {env : Env}
abbrev S2 (elt t0 i0 : Expr) (f0 : List Expr) (t1 i1 : Expr) (f1 : List Expr) (scope : Scope) (pos : Pos) : Expr := .SetComp elt [⟨t0, i0, f0, 0⟩, ⟨t1, i1, f1, 0⟩] scope pos
theorem set2_outer : compTurn (S2 elt t0 i0 f0 t1 i1 f1 scope pos) 0 it acc env = (do
      standAt i0.pos
      match ← pyNext it with
      | none => pure (.done .next)
      | some v =>
        letOwnedTupleGo t0 it v
        assign t0 env v
        let mut ok := true
        for c in f0 do
          if ok then ok ← isTrue c env (eval c env)
        if ok then
          let x ← eval i1 env
          standAt i1.pos
          let x ← foldedSetIterable i1 env x
          let _ ← runOwn (.compStart (S2 elt t0 i0 f0 t1 i1 f1 scope pos) 1 (← holding [x] (pyIter x)) acc env) env
        again (.compLoop (S2 elt t0 i0 f0 t1 i1 f1 scope pos) 0 it acc env)) := by rfl
theorem set2_inner : compTurn (S2 elt t0 i0 f0 t1 i1 f1 scope pos) 1 it acc env = (do
      standAt i1.pos
      match ← pyNext it with
      | none => pure (.done .next)
      | some v =>
        letOwnedTupleGo t1 it v
        assign t1 env v
        let mut ok := true
        for c in f1 do
          if ok then ok ← isTrue c env (eval c env)
        if ok then
          (do let v ← eval elt env; standAt elt.pos; let _ ← call (.builtin "set.add") [acc, v])
        again (.compLoop (S2 elt t0 i0 f0 t1 i1 f1 scope pos) 1 it acc env)) := by rfl
/-- a turn of the outer loop, of the inner one: what is asked behind the tests -/
theorem set2_out (hs : ∀ x, foldedSetIterable i1 env x = pure x) (I : Nat → Shared → Prop)
    (turn : ∀ n s, I n s → wpAny (model P w) A (pyNext it) (fun r s₁ => (r = none ∧ R (.ok .next) s₁) ∨ ∃ v, r = some v ∧ wpAny (model P w) A (letOwnedTupleGo t0 it v) (fun _ s₁' => wpAny (model P w) A (assign t0 env v) (fun _ s₂ =>
          wpAny (model P w) A (forIn f0 true fun c r => if r = true then do let ok ← isTrue c env (eval c env); pure (ForInStep.yield ok) else pure (ForInStep.yield r)) (fun ok s₃ =>
            if ok = true then wpAny (model P w) A (eval i1 env) (fun x s₄ => wpAny (model P w) A (pyIter x) (fun it1 s₅ =>
              codeAny (model P w) A (.compStart (S2 elt t0 i0 f0 t1 i1 f1 scope pos) 1 it1 acc env) (fun r s' => (∃ f, r = .ok f) ∧ ∃ m, m < n ∧ I m s') s₅) (fun _ _ => False) s₄) (fun _ _ => False) s₃
            else ∃ m, m < n ∧ I m s₃) (fun _ _ => False) s₂) (fun _ _ => False) s₁') (fun _ _ => False) s₁) (fun _ _ => False) s)
    (n : Nat) (h : I n s) : codeAny (model P w) A (.compLoop (S2 elt t0 i0 f0 t1 i1 f1 scope pos) 0 it acc env) R s := by
  refine codeAny_loop rfl I (fun n s hI => ?_) n h
  show wpAny _ A ((compTurn (S2 elt t0 i0 f0 t1 i1 f1 scope pos) 0 it acc env).onRaise (fun x => do noteFrame x env; theTreesLotGoes x)) _ _ s
  refine wpAny_noted ?_
  rw [set2_outer]
  refine wpAny_bind (wpAny_standAt (wpAny_bind (thnF (turn n s hI) fun r s₁ h₁ => ?_)))
  rcases h₁ with ⟨hr, h₁⟩ | ⟨v, hr, h₁⟩
  · subst hr
    exact wpAny_pure h₁
  · subst hr
    refine wpAny_bind (thnF h₁ fun _ s₂ h₂ => wpAny_bind (thnF h₂ fun _ s₃ h₃ => wpAny_bind (thnF h₃ fun ok s₄ h₄ => ?_)))
    cases ok with
    | false => exact wpAny_pure ⟨rfl, h₄⟩
    | true =>
      refine wpAny_bind (thnF h₄ fun x s₅ h₅ => wpAny_bind (wpAny_standAt (wpAny_bind (wpAny_of_eq (hs x) (wpAny_bind (wpAny_holding (thnF h₅ fun it1 s₆ h₆ => wpAny_bind (wpAny_runOwn ?_))))))))
      rw [Around.mark_none]
      refine codeAny_mono h₆ fun r s' ⟨⟨f, hr⟩, hm⟩ => ?_
      subst hr
      first
        | exact wpAny_pure ⟨rfl, hm⟩
        | exact wpAny_bind (wpAny_pure (wpAny_pure ⟨rfl, hm⟩))
theorem set2_in (I : Nat → Shared → Prop)
    (turn : ∀ n s, I n s → wpAny (model P w) A (pyNext it) (fun r s₁ => (r = none ∧ R (.ok .next) s₁) ∨ ∃ v, r = some v ∧ wpAny (model P w) A (letOwnedTupleGo t1 it v) (fun _ s₁' => wpAny (model P w) A (assign t1 env v) (fun _ s₂ =>
          wpAny (model P w) A (forIn f1 true fun c r => if r = true then do let ok ← isTrue c env (eval c env); pure (ForInStep.yield ok) else pure (ForInStep.yield r)) (fun ok s₃ =>
            if ok = true then wpAny (model P w) A (eval elt env) (fun x s₄ => wpAny (model P w) A (call (.builtin "set.add") [acc, x]) (fun _ s₅ => ∃ m, m < n ∧ I m s₅) (fun _ _ => False) s₄) (fun _ _ => False) s₃
            else ∃ m, m < n ∧ I m s₃) (fun _ _ => False) s₂) (fun _ _ => False) s₁') (fun _ _ => False) s₁) (fun _ _ => False) s)
    (n : Nat) (h : I n s) : codeAny (model P w) A (.compLoop (S2 elt t0 i0 f0 t1 i1 f1 scope pos) 1 it acc env) R s := by
  refine codeAny_loop rfl I (fun n s hI => ?_) n h
  show wpAny _ A ((compTurn (S2 elt t0 i0 f0 t1 i1 f1 scope pos) 1 it acc env).onRaise (fun x => do noteFrame x env; theTreesLotGoes x)) _ _ s
  refine wpAny_noted ?_
  rw [set2_inner]
  refine wpAny_bind (wpAny_standAt (wpAny_bind (thnF (turn n s hI) fun r s₁ h₁ => ?_)))
  rcases h₁ with ⟨hr, h₁⟩ | ⟨v, hr, h₁⟩
  · subst hr
    exact wpAny_pure h₁
  · subst hr
    refine wpAny_bind (thnF h₁ fun _ s₂ h₂ => wpAny_bind (thnF h₂ fun _ s₃ h₃ => wpAny_bind (thnF h₃ fun ok s₄ h₄ => ?_)))
    cases ok with
    | false => exact wpAny_pure ⟨rfl, h₄⟩
    | true => exact wpAny_bind (wpAny_bind (thnF h₄ fun x s₅ h₅ => wpAny_bind (wpAny_standAt (wpAny_bind (thnF h₅ fun _ s₆ h₆ => wpAny_pure (wpAny_pure ⟨rfl, h₆⟩))))))
theorem set2_start (h0 : codeAny (model P w) A (.compLoop (S2 elt t0 i0 f0 t1 i1 f1 scope pos) 1 it acc env) R s)
    (h : wpAny (model P w) A (pyIter it) (fun it' s' => codeAny (model P w) A (.compLoop (S2 elt t0 i0 f0 t1 i1 f1 scope pos) 1 it' acc env) R s') (fun _ _ => False) s) :
    codeAny (model P w) A (.compStart (S2 elt t0 i0 f0 t1 i1 f1 scope pos) 1 it acc env) R s := by
  refine codeAny_of_tree ?_
  show wpAny _ _ ((compStart (S2 elt t0 i0 f0 t1 i1 f1 scope pos) 1 it acc env).onRaise (fun x => do noteFrame x env; standAt theWindowsPlace)) _ _ s
  refine wpAny_notedAt ?_
  unfold compStart
  show wpAny _ _ (ask >>= _) _ _ s
  refine wpAny_bind (wpAny_askSetting (wpAny_ite ?_))
  split
  · first
      | exact wpAny_bind (wpAny_pure (wpAny_pure ⟨rfl, h0⟩))
      | exact wpAny_pure ⟨rfl, h0⟩
  · first
      | exact wpAny_bind (wpAny_rule (wpAny_bind (wpAny_standAt (wpAny_bind (thnF h fun it' s' h' => wpAny_pure ⟨rfl, h'⟩)))))
      | (refine wpAny_bind (wpAny_rule ?_); show wpAny _ _ (standAt i1.pos >>= _) _ _ s; exact wpAny_bind (wpAny_standAt (wpAny_bind (thnF h fun it' s' h' => wpAny_pure ⟨rfl, h'⟩))))
end
section
variable {X : Cx}
/-- the inner clause's loop, until N -/
def B2i (ad : Addr → V → Hp → (Hp → Prop) → Prop) (g1 : TG) (tt1 : TT) (te : TE) (v1 : List Nat) (σ : L2.St) (N : Hp → Prop) (D : Addr) (J : It) (H0 : Hp) : Prop := ∃ W : Nat → Nat → Hp → Prop, (∃ m, W 0 m H0) ∧ ∀ i m H, W i m H →
  (J.stop i H ∧ N H) ∨ (J.go i H ∧ ∃ N1 : Hp → Prop, (∀ H', N1 H' → ∃ m', m' < m ∧ W (i + 1) m' H') ∧ ∀ x H', J.yld i H x H' → g1 x (wipe σ v1) H' fun σ2 H2 => tt1 σ2 H2 fun b H3 => wipe σ2 v1 = wipe σ v1 ∧
    if b = true then te σ2 H3 fun y H4 => ad D y H4 N1 else N1 H3)
def B2 (ad : Addr → V → Hp → (Hp → Prop) → Prop) (g : TG) (tt : TT) (wi1 : TI) (g1 : TG) (tt1 : TT) (te : TE) (vs v1 : List Nat) (σ : L2.St) (Q : VK) (J : It) (D : Addr) (H0 : Hp) : Prop := ∃ W : Nat → Nat → Hp → Prop, (∃ m, W 0 m H0) ∧ ∀ i m H, W i m H →
  (J.stop i H ∧ Q (.ref D) H) ∨ (J.go i H ∧ ∃ N : Hp → Prop, (∀ H', N H' → ∃ m', m' < m ∧ W (i + 1) m' H') ∧ ∀ x H', J.yld i H x H' → g x (wipe σ vs) H' fun σ2 H2 => tt σ2 H2 fun b H3 => wipe σ2 vs = wipe σ vs ∧
    if b = true then wi1 σ2 H3 (B2i ad g1 tt1 te v1 σ2 N D) else N H3)
def tS2 (O : Addr → HO) (ad : Addr → V → Hp → (Hp → Prop) → Prop) (wi : TI) (g : TG) (tt : TT) (wi1 : TI) (g1 : TG) (tt1 : TT) (te : TE) (vs v1 : List Nat) : TE := fun σ H Q => wi σ H fun J H1 => ∀ D, H1 D = none → B2 ad g tt wi1 g1 tt1 te vs v1 σ Q J D (upd H1 D (O D))
theorem pe_s2 {O : Addr → HO} {ad : Addr → V → Hp → (Hp → Prop) → Prop} {elt tg iter tg1 iter1 : Expr} {ifs ifs1 : List Expr} {scope : Scope} {own : List (PySem.Str × Nat)} {v1 : List Nat} {pos : Pos} {wi wi1 : TI} {g g1 : TG} {tt tt1 : TT} {te : TE} (G : Gath X O ad) (hc : X.calm = true) (hN : X.N.Nodup) (hi : PI X tg iter wi) (ok : BlkOk X.N X.env.scope scope own) (hv : ∀ i ∈ v1, i ∈ own.map (·.2))
    (hg : ∀ (s : Shared) (H : Hp) (C : Addr) (cl : List (PySem.Str × Addr)) (fp : List Addr), PG (X.blk s H scope (compEnvC scope cl C X.env) fp) tg g) (ht : ∀ (s : Shared) (H : Hp) (C : Addr) (cl : List (PySem.Str × Addr)) (fp : List Addr), PTs (X.blk s H scope (compEnvC scope cl C X.env) fp) ifs tt)
    (hi1 : ∀ (s : Shared) (H : Hp) (C : Addr) (cl : List (PySem.Str × Addr)) (fp : List Addr), PI (X.blk s H scope (compEnvC scope cl C X.env) fp) tg1 iter1 wi1)
    (hg1 : ∀ (s : Shared) (H : Hp) (C : Addr) (cl : List (PySem.Str × Addr)) (fp : List Addr), PG (X.blk s H scope (compEnvC scope cl C X.env) fp) tg1 g1) (ht1 : ∀ (s : Shared) (H : Hp) (C : Addr) (cl : List (PySem.Str × Addr)) (fp : List Addr), PTs (X.blk s H scope (compEnvC scope cl C X.env) fp) ifs1 tt1)
    (he : ∀ (s : Shared) (H : Hp) (C : Addr) (cl : List (PySem.Str × Addr)) (fp : List Addr), PE (X.blk s H scope (compEnvC scope cl C X.env) fp) elt te) (hs : ∀ x, foldedSetIterable iter X.env x = pure x := by intro _; rfl) (hs1 : ∀ env x, foldedSetIterable iter1 env x = pure x := by intro _ _; rfl) :
    PE X (.SetComp elt [⟨tg, iter, ifs, 0⟩, ⟨tg1, iter1, ifs1, 0⟩] scope pos) (tS2 O ad wi g tt wi1 g1 tt1 te (own.map (·.2)) v1) := by
  refine ⟨fun pins s σ H Q I h => set_begin (B := B2 ad g tt wi1 g1 tt1 te (own.map Prod.snd) v1 σ Q) G hc hN I hi ok hs h ?_⟩
  intro it fp tn J D s3 s4 H3 C cl T st4 I4 n4 ⟨W, ⟨m0, w0⟩, turn⟩
  have pg := hg s3 H3 C cl fp
  have pt := ht s3 H3 C cl fp
  have pe := he s3 H3 C cl fp
  have pi1 := hi1 s3 H3 C cl fp
  have pg1 := hg1 s3 H3 C cl fp
  have pt1 := ht1 s3 H3 C cl fp
  generalize hY : X.blk s3 H3 scope (compEnvC scope cl C X.env) fp = Y at I4 pg pt pe pi1 pg1 pt1
  have y1 : Y.prog = X.prog ∧ Y.w = X.w ∧ Y.A = X.A ∧ Y.K = X.K ∧ Y.env = compEnvC scope cl C X.env ∧ Y.ex = fp ∧ Y.pn = [] ∧ Y.calm = X.calm ∧ Y.xe = fun _ _ => False := by
    rw [← hY]
    exact ⟨rfl, rfl, rfl, rfl, rfl, rfl, rfl, rfl, rfl⟩
  obtain ⟨e1, e2, e3, e4, e5, e6, e7, e8, e9⟩ := y1
  rw [← e1, ← e2, ← e3, ← e5]
  rw [← e1, ← e2, ← e4] at T
  generalize hvs : own.map (·.2) = vs at hv turn I4
  have hc' : Y.calm = true := e8.trans hc
  refine set2_out (hs1 _) (fun n s' => ∃ i H', Inv Y [] (wipe σ vs) H' s' ∧ tn i s'.heap ∧ (∀ b ∈ fp, H' b = none) ∧ W i n H') ?_ m0 ⟨0, H3, I4, st4, n4, w0⟩
  rintro n s5 ⟨i, H5, I5, st5, n5, w5⟩
  have hf := ex_fp I5 e6 e7 n5
  rcases turn i n H5 w5 with ⟨stop, qq⟩ | ⟨go, N, hN, step⟩
  · exact thnF (T.done Y rfl rfl rfl hc' i [] s5 _ H5 (fun _ _ => False) I5 hf st5 stop) fun r s6 ⟨hr, I6⟩ => .inl ⟨hr, rfl, _, H5, I6, qq⟩
  · refine thnF (turn_tests (N := fun _ _ => False) T hc' e9 I5 hf st5 go pg pt step fun pl σ2 H6 b s6 I6 r6 back => ?_) fun r s7 hz => .inr (by exact hz)
    obtain ⟨hw, r6⟩ := r6
    have fin : ∀ {σ9 : L2.St} {s' : Shared} {H' : Hp}, Inv Y ([] ++ pl) σ9 H' s' → σ9.length = (wipe σ vs).length → (∀ (j : Nat) x, (wipe σ vs)[j]? = some (some x) → σ9[j]? = some (some x)) → N H' → ∃ m, m < n ∧ ∃ i H', Inv Y [] (wipe σ vs) H' s' ∧ tn i s'.heap ∧ (∀ b ∈ fp, H' b = none) ∧ W i m H' := fun {σ9 s' H'} I' hl hk nx => by
      obtain ⟨m', hm, w'⟩ := hN H' nx
      obtain ⟨b1, b2⟩ := back _ _ _ I'
      exact ⟨m', hm, i + 1, H', (I'.unpinned (pins := [])).weak hl.symm hk, b1, b2, w'⟩
    have l2 : σ2.length = (wipe σ vs).length := by rw [← hw, wipe_length]
    have k2 : ∀ (j : Nat) x, (wipe σ vs)[j]? = some (some x) → σ2[j]? = some (some x) := fun j x e => by rw [← hw] at e; exact (wipe_some e).1
    have k3 : ∀ (j : Nat) x, (wipe σ vs)[j]? = some (some x) → (wipe σ2 v1)[j]? = some (some x) := fun j x e => by
      rw [← hw] at e
      obtain ⟨a1, a2⟩ := wipe_some e
      rw [L2.wipe_out fun z => a2 (hv j z)]
      exact a1
    cases b with
    | false =>
      rw [if_neg Bool.false_ne_true] at r6 ⊢
      exact fin I6 l2 k2 r6
    | true =>
      rw [if_pos rfl] at r6 ⊢
      have z := pi1.run _ s6 σ2 H6 _ I6 r6
      rw [e9] at z
      refine thnF z fun xv s7 h7 => thnF h7 fun itv s8 ⟨it1, fp1, tn1, J1, H8, ei, I8, T1, st8, f8, W1, ⟨m1, w1⟩, turn1⟩ => ?_
      subst ei
      have loop : codeAny (model Y.prog Y.w) Y.A (.compLoop (S2 elt tg iter ifs tg1 iter1 ifs1 scope pos) 1 (.ref it1) (.ref D) Y.env) (fun r s' => (∃ f, r = .ok f) ∧ ∃ m, m < n ∧ ∃ i H', Inv Y [] (wipe σ vs) H' s' ∧ tn i s'.heap ∧ (∀ b ∈ fp, H' b = none) ∧ W i m H') s8 := by
        refine set2_in (fun q s' => ∃ j H', Inv Y ([] ++ pl) (wipe σ2 v1) H' s' ∧ tn1 j s'.heap ∧ (∀ b ∈ fp1, H' b = none) ∧ W1 j q H') ?_ m1 ⟨0, H8, I8.weak (wipe_length _ _) (fun j x e => (wipe_some e).1), st8, fun b hb => (f8 b hb).1, w1⟩
        rintro q s9 ⟨j, H9, I9, st9, n9, w9⟩
        have hf1 : ∀ b ∈ fp1, FpOk Y ([] ++ pl) H9 b := fun b hb => ⟨n9 b hb, (f8 b hb).2⟩
        rcases turn1 j q H9 w9 with ⟨stop1, nx⟩ | ⟨go1, N1, hN1, step1⟩
        · exact thnF (T1.done Y rfl rfl rfl hc' j _ s9 _ H9 (fun _ _ => False) I9 hf1 st9 stop1) fun r s10 ⟨hr, I10⟩ => .inl ⟨hr, ⟨_, rfl⟩, fin I10 ((wipe_length _ _).trans l2) k3 nx⟩
        · refine thnF (turn_tests (N := fun _ _ => False) T1 hc' e9 I9 hf1 st9 go1 pg1 pt1 step1 fun pl1 σ3 H10 b1 s10 I10 r10 back1 => ?_) fun r s7 hz => .inr (by exact hz)
          obtain ⟨hw1, r10⟩ := r10
          have fin1 : ∀ {s' : Shared} {H' : Hp}, Inv Y (([] ++ pl) ++ pl1) σ3 H' s' → N1 H' → ∃ m, m < q ∧ ∃ j H', Inv Y ([] ++ pl) (wipe σ2 v1) H' s' ∧ tn1 j s'.heap ∧ (∀ b ∈ fp1, H' b = none) ∧ W1 j m H' := fun {s' H'} I' nx => by
            obtain ⟨m', hm, w'⟩ := hN1 H' nx
            obtain ⟨b1, b2⟩ := back1 _ _ _ I'
            exact ⟨m', hm, j + 1, H', I'.unpinned.weak (by rw [← hw1, wipe_length]) (fun j x e => by rw [← hw1] at e; exact (wipe_some e).1), b1, b2, w'⟩
          cases b1 with
          | false =>
            rw [if_neg Bool.false_ne_true] at r10 ⊢
            exact fin1 I10 r10
          | true =>
            rw [if_pos rfl] at r10 ⊢
            have z := pe.run _ s10 σ3 H10 _ I10 r10
            rw [e9] at z
            refine thnF z fun u s11 ⟨y, H11, I11, r11, q11⟩ => ?_
            rw [e1, e2, e3]
            exact G.add Y e1 e2 e3 e4 _ _ _ _ _ _ _ _ _ _ I11 r11 q11 fun s12 H12 I12 n12 => fin1 I12 n12
      exact set2_start loop (T1.self Y.A 0 _ _ _ st8 loop)
end
end DL
/-! sets of ints, of tuples of ints, as gathered; sorted of them; upon data -/
namespace DL
open PySem PySem.Spec PyProof.Rows L2

def adI (w : World) : Addr → V → Hp → (Hp → Prop) → Prop := fun a y H N => ∃ (k : Int) (S : Int → Bool) (n : Nat), y = .int k ∧ H a = some (SetO w a S n) ∧ n + 1 < scanBound ∧ N (upd H a (SetO w a (fun j => S j || decide (j = k)) (if S k = true then n else n + 1)))
theorem gathI {X : Cx} : Gath X (fun a => SetO X.w a (fun _ => false) 0) (adI X.w) where
  lay := fun h H => setO_new (setR_fresh X.w)
  add := by
    intro Y e1 e2 e3 e4 pins σ H s E a y v N Q I r h hQ
    obtain ⟨k, S, n, rfl, ha, room, nx⟩ := h
    obtain ⟨tk, rfl⟩ := r
    rw [← e2] at ha nx
    have R := setO_get I ha
    rw [e2] at R
    refine setR_add R room fun h' sb new => hQ _ _ ?_ nx
    rw [← e2] at new
    obtain ⟨o, _, _, _, ho, _⟩ := id new
    exact I.write (e := a) (t' := s.toks + 1) (by rw [ha]; trivial) (.inl rfl) (fun b u hb hu => (sb.2 b hb).trans hu) ⟨o, ho⟩ (setO_new new)

def adT (P : Program) (w : World) (K : PySem.W.Frag) : Addr → V → Hp → (Hp → Prop) → Prop := fun a y H N => ∃ (x : Addr) (k : List Int) (L : List (Addr × List Int)), y = .ref x ∧ SqT K H x (k.map V.int) ∧ H a = some (SetTO P w a L) ∧ (∀ p ∈ L, SqT K H p.1 (p.2.map V.int)) ∧ L.length + 1 < 64 ∧
  ∀ L', (k ∈ L.map (·.2) → L' = L) → (k ∉ L.map (·.2) → L'.Perm ((x, k) :: L)) → N (upd H a (SetTO P w a L'))
theorem set_add_tup {P : Program} {w : World} {A : Around} {E : Value → Shared → Prop} {s : Shared} {a x : Addr} {k : List Int} {L : List (Addr × List Int)} {es : Array (Int × Value)} {ep : Nat} {t : SetTable} {Q : Value → Shared → Prop} (R : SetTR P w s.heap a L es ep t) (hx : IsT P w s.heap k x) (hu : A.units + 1 < cLine) (hfew : L.length + 1 < 64)
    (hQ : ∀ h' L' tk, Heap.SameBut a s.heap h' → SetT0 P w h' a L' → (k ∈ L.map (·.2) → L' = L) → (k ∉ L.map (·.2) → L'.Perm ((x, k) :: L)) → Q .none { s with heap := h', toks := tk }) :
    wpAny (model P w) A (call (.builtin "set.add") [.ref a, .ref x]) Q E s := by
  obtain ⟨o, ho, hex, hd⟩ := R.ob
  refine wpAny_call_entry F.slot_set_add ⟨o, ho, hex.1⟩ F.entry_set_add ?_ (F.args_set_add_2 _ _)
  unfold Builtin.«set.add» Builtin.Frozenset.oneOther Builtin.Frozenset.addrOf setAdd
  simp only [List.isEmpty_nil, bind_assoc, pure_bind]
  refine wpAny_bind ?_
  refine wpAny_holding (wpAny_bind (wpAny_pyHash_tuple hu hx ?_))
  refine add_at (s := { s with toks := s.toks + (k.length + 1) }) R hx hu hfew fun b h' L' es' ep' t' sb R' c1 c2 => ?_
  exact wpAny_pure ⟨_, rfl, hQ h' L' _ sb R'.t0 c1 c2⟩
theorem gathT {X : Cx} (hu : X.A.units + 1 < cLine) : Gath X (fun a => SetTO X.prog X.w a []) (adT X.prog X.w X.K) where
  lay := fun h H => setTO_new (setTR_fresh (Heap.get?_push_size _ rfl)).t0
  add := by
    intro Y e1 e2 e3 e4 pins σ H s E a y v N Q I r h hQ
    obtain ⟨x, k, L, rfl, hx, ha, hL, few, nx⟩ := h
    cases r
    rw [← e1, ← e2] at ha nx
    rw [← e4] at hL hx
    have R0 : SetT0 Y.prog Y.w s.heap a L := (I.hok a _ ha).1
    obtain ⟨es, ep, t, R⟩ := R0.full fun p hp => I.isT (hL p hp)
    have hx' := I.isT hx
    rw [e1, e2] at R hx'
    refine set_add_tup R hx' hu few fun h' L' tk sb R' c1 c2 => hQ _ _ ?_ (nx L' c1 c2)
    rw [← e1, ← e2] at R'
    obtain ⟨es', ep', t', ⟨o, ho, _⟩, _⟩ := R'.ex
    exact I.write (e := a) (t' := tk) (by rw [ha]; trivial) (.inl rfl) (fun b u hb hu => (sb.2 b hb).trans hu) ⟨o, ho⟩ (setTO_new R')

/-! ### upon data -/
def setI (w : World) (a : Addr) (acc : List Int) : Hp → HO → Prop := fun _ o => ∃ S n, o = SetO w a S n ∧ (∀ j, S j = true ↔ j ∈ acc) ∧ n ≤ acc.length
section
variable {C : Addr} {c : Cn} {K : PySem.W.Frag} {w : World} {rho : List (Option D)} {mu : Mu} {ts : List (V × D)} {s : L2.St} {F H F' H' : Hp} {v : V} {d d1 d2 : D} {te ta tb : TE} {ds es : List D}
/-- a new tracked object of one's own that is not known -/
theorem SatF.ownAny {p : Addr} {o : HO} {q : Hp → HO → Prop} (S : SatF C c rho mu ts s F H) (hp : H p = none) (h : q F o) (hn : ∀ xs, o ≠ .tup xs := by intro _ z; cases z) : SatF C c rho ((p, .any q) :: mu) ((.ref p, .ptr p) :: ts) s F (upd H p o) := S.own hp ⟨o, upd_same, hn, F, Same.refl F, h⟩
theorem ev_s2I {wi wi1 : TI} {g g1 : TG} {vs v1 : List Nat} (f : D → D → Int) (es : D → List D) (hI : EvI C wi rho mu ds) (hn : (ds.flatMap es).length + 1 < 64)
    (step : ∀ (i : Nat) d, ds[i]? = some d → ∃ rho2 js, BindG C g d (wipeD rho vs) rho2 js ∧ (∀ j ∈ js, j ∈ vs) ∧ ∀ mu', EvI C wi1 rho2 mu' (es d) ∧ ∀ (j : Nat) e, (es d)[j]? = some e → ∃ rho3 js1, BindG C g1 e (wipeD rho2 v1) rho3 js1 ∧ (∀ j ∈ js1, j ∈ v1) ∧ ∀ mu', EvD C te rho3 mu' (.int (f d e))) :
    Ev C (tS2 (fun a => SetO w a (fun _ => false) 0) (adI w) wi g tYes wi1 g1 tYes te vs v1) rho mu fun d mu' => ∃ p, d = .ptr p ∧ mu' = (p, .any (setI w p (ds.flatMap fun d => (es d).map (f d)))) :: mu := fun c ts s H Q S q => by
  refine hI c ts s H _ S fun J H1 tx ⟨w1, w2, w3⟩ S1 => fun p hp => ?_
  obtain ⟨F1, T1⟩ := S1
  have T2 : Sat C c rho ((p, .any (setI w p [])) :: mu) (tx ++ ts) s (upd H1 p (SetO w p (fun _ => false) 0)) := Sat.pop ⟨F1, T1.ownAny hp ⟨_, 0, rfl, fun j => by simp, Nat.le_refl _⟩⟩
  have len : ∀ i, i ≤ ds.length → ((ds.take i).flatMap fun d => (es d).map (f d)).length = ((ds.take i).flatMap es).length := fun i _ => by simp [List.length_flatMap]
  refine ⟨fun i n H => n = ds.length - i ∧ i ≤ ds.length ∧ Sat C c rho ((p, .any (setI w p ((ds.take i).flatMap fun d => (es d).map (f d)))) :: mu) (tx ++ ts) s H, ⟨ds.length, by simp, Nat.zero_le _, T2⟩, ?_⟩
  rintro i n H2 ⟨rfl, hi, S2⟩
  by_cases hlt : i < ds.length
  · refine .inr ⟨w1 i _ _ s H2 S2 hlt, fun H' => i + 1 ≤ ds.length ∧ Sat C c rho ((p, .any (setI w p ((ds.take (i + 1)).flatMap fun d => (es d).map (f d)))) :: mu) (tx ++ ts) s H', fun H' z => ⟨ds.length - (i + 1), by omega, rfl, z⟩, fun x H3 yl => ?_⟩
    have hd : ds[i]? = some ds[i] := List.getElem?_eq_getElem hlt
    obtain ⟨rho2, js, hb, hj, st⟩ := step i _ hd
    obtain ⟨F3, T3⟩ := w3 i _ _ _ s H2 x H3 hd S2 yl
    obtain ⟨tz, T4, back⟩ := T3.pin
    have S4 : Sat C c rho ((p, .any (setI w p ((ds.take i).flatMap fun d => (es d).map (f d)))) :: mu) ((x, ds[i]) :: (tz ++ (tx ++ ts))) s H3 := ⟨F3, T4.fewer fun q hq => by
      simp only [List.mem_cons, List.mem_append] at hq ⊢
      rcases hq with h | h | h | h
      · exact .inr (.inl h)
      · exact .inl h
      · exact .inr (.inr (.inl h))
      · exact .inr (.inr (.inr h))⟩
    refine hb c _ _ (wipe s vs) H3 x _ (S4.wipe vs) fun s5 H5 l5 k5 S5 => ?_
    refine ⟨wipe_back l5 k5 hj, ?_⟩
    rw [if_pos rfl]
    obtain ⟨hI1, st1⟩ := st ((p, .any (setI w p ((ds.take i).flatMap fun d => (es d).map (f d)))) :: mu)
    refine hI1 c _ s5 H5 _ S5 fun J1 H6 tx1 ⟨u1, u2, u3⟩ S6 => ?_
    have et : ds.take (i + 1) = ds.take i ++ [ds[i]] := by rw [List.take_succ, hd]; rfl
    have lim : ((ds.take i).flatMap es).length + (es ds[i]).length + 1 < 64 := by
      have e1 : ds.flatMap es = (ds.take (i + 1)).flatMap es ++ (ds.drop (i + 1)).flatMap es := by rw [← List.flatMap_append, List.take_append_drop]
      have e2 : ((ds.take (i + 1)).flatMap es).length = ((ds.take i).flatMap es).length + (es ds[i]).length := by rw [et, List.flatMap_append]; simp
      rw [e1, List.length_append, e2] at hn
      omega
    generalize hA : ((ds.take i).flatMap fun d => (es d).map (f d)) = A at S6
    have lA : A.length = ((ds.take i).flatMap es).length := by rw [← hA]; exact len i hi
    refine ⟨fun j k H => k = (es ds[i]).length - j ∧ j ≤ (es ds[i]).length ∧ Sat C c rho2 ((p, .any (setI w p (A ++ ((es ds[i]).take j).map (f ds[i])))) :: mu) (tx1 ++ (tz ++ (tx ++ ts))) s5 H, ⟨(es ds[i]).length, by simp, Nat.zero_le _, by simpa using S6⟩, ?_⟩
    rintro j k H7 ⟨rfl, hjl, S7⟩
    by_cases hjt : j < (es ds[i]).length
    · refine .inr ⟨u1 j _ _ s5 H7 S7 hjt, fun H' => j + 1 ≤ (es ds[i]).length ∧ Sat C c rho2 ((p, .any (setI w p (A ++ ((es ds[i]).take (j + 1)).map (f ds[i])))) :: mu) (tx1 ++ (tz ++ (tx ++ ts))) s5 H', fun H' z => ⟨(es ds[i]).length - (j + 1), by omega, rfl, z⟩, fun x1 H8 yl1 => ?_⟩
      have he : (es ds[i])[j]? = some (es ds[i])[j] := List.getElem?_eq_getElem hjt
      obtain ⟨rho3, js1, hb1, hj1, ev⟩ := st1 j _ he
      obtain ⟨F9, T9⟩ := u3 j _ _ _ s5 H7 x1 H8 he S7 yl1
      obtain ⟨tz1, T10, back1⟩ := T9.pin
      have S10 : Sat C c rho2 ((p, .any (setI w p (A ++ ((es ds[i]).take j).map (f ds[i])))) :: mu) ((x1, (es ds[i])[j]) :: (tz1 ++ (tx1 ++ (tz ++ (tx ++ ts))))) s5 H8 := ⟨F9, T10.fewer fun q hq => by
        simp only [List.mem_cons, List.mem_append] at hq ⊢
        rcases hq with h | h | h
        · exact .inr (.inl h)
        · exact .inl h
        · exact .inr (.inr h)⟩
      refine hb1 c _ _ (wipe s5 v1) H8 x1 _ (S10.wipe v1) fun s11 H11 l11 k11 S11 => ?_
      refine ⟨wipe_back l11 k11 hj1, ?_⟩
      rw [if_pos rfl]
      refine (ev _).run S11 fun y H12 S12 => ?_
      obtain ⟨F12, T12⟩ := S12
      obtain ⟨_, _, o, ho, _, F0, _, S, n, eo, hS, hl⟩ := T12.mu _ List.mem_cons_self
      refine ⟨f ds[i] (es ds[i])[j], S, n, T12.top.int_inv, by rw [ho, eo], ?_, hjt, ?_⟩
      · have : n < 63 := by
          rw [List.length_append, List.length_map, List.length_take] at hl
          omega
        exact Nat.lt_of_lt_of_le (show n + 1 < 64 by omega) (by decide)
      · have T13 := T12.changeAt (k := 0) (m' := .any (setI w p (A ++ ((es ds[i]).take (j + 1)).map (f ds[i])))) rfl id ⟨_, upd_same, (by intro _ z; cases z), F12, Same.refl _, fun j' => S j' || decide (j' = f ds[i] (es ds[i])[j]), if S (f ds[i] (es ds[i])[j]) = true then n else n + 1, rfl, fun j' => ?_, ?_⟩
        · exact back1 _ _ _ _ _ ⟨F12, T13.fewer fun q hq => List.mem_cons_of_mem _ hq⟩
        · have e3 : (es ds[i]).take (j + 1) = (es ds[i]).take j ++ [(es ds[i])[j]] := by rw [List.take_succ, he]; rfl
          rw [e3, List.map_append, ← List.append_assoc, Bool.or_eq_true, decide_eq_true_eq, hS, List.mem_append (s := A ++ _)]
          simp
        · rw [List.length_append, List.length_map, List.length_take] at hl ⊢
          split <;> omega
    · have e : j = (es ds[i]).length := by omega
      subst e
      refine .inl ⟨u2 _ _ s5 H7 S7, hlt, ?_⟩
      have e4 : ((ds.take (i + 1)).flatMap fun d => (es d).map (f d)) = A ++ ((es ds[i]).take (es ds[i]).length).map (f ds[i]) := by
        rw [et, List.flatMap_append, hA, List.take_length]
        simp
      rw [e4]
      exact back _ _ _ _ _ (S7.fewer fun q hq => List.mem_append_right _ hq)
  · have e : i = ds.length := by omega
    subst e
    refine .inl ⟨w2 _ _ s H2 S2, ?_⟩
    rw [List.take_length] at S2
    obtain ⟨F, T⟩ := S2
    exact q _ (.ptr p) _ H2 ⟨p, rfl, rfl⟩ ⟨F, (T.temps (fun q hq => by
      rcases List.mem_cons.mp hq with e | hq
      · subst e; exact .ptr p
      · exact T.tmp q (List.mem_append_right _ hq)))⟩
/-- sorted(set of ints), the set a temporary -/
theorem el_sortedI {acc : List Int} (h : Ev C te rho mu fun d mu' => ∃ p, d = .ptr p ∧ mu' = (p, .any (setI w p acc)) :: mu) (hn : acc.length < 64) (out : List Int) (hs : out.Pairwise (· < ·)) (hm : ∀ j, j ∈ out ↔ j ∈ acc) : EvN C (tCB (rSortedSet w) (tCons te tNil)) rho mu (out.map D.int) := EvN.of fun c ts s H Q S q => by
  refine h c ts s H _ S fun v d mu' H1 ⟨p, e1, e2⟩ S1 => ?_
  subst e1; subst e2
  obtain ⟨F, T⟩ := S1
  obtain ⟨_, _, o, ho, _, F0, _, S, n, eo, hS, hl⟩ := T.mu _ List.mem_cons_self
  refine ⟨p, S, n, by rw [T.top.ptr_inv], by rw [ho, eo], by omega, fun ns l hs2 hm2 hl2 hn2 => ?_⟩
  have e : ns = out := by
    refine List.Perm.eq_of_pairwise (le := (· < ·)) (fun a b _ _ h1 h2 => by omega) hs2 hs ?_
    refine (List.perm_ext_iff_of_nodup (hs2.imp fun h => by omega) (hs.imp fun h => by omega)).mpr fun j => ?_
    rw [hm2, hS, hm]
  subst e
  have T2 : SatF C c rho mu ts s F H1 := ⟨T.ex, T.sub, T.keep, T.new, T.dom, T.slen, T.slot, fun q hq => T.tmp q (List.mem_cons_of_mem _ hq), (List.nodup_cons.mp T.nd).2, fun q hq => T.mu q (List.mem_cons_of_mem _ hq)⟩
  exact q l _ (T2.newL hn2 (DRs.ints ns))
end
end DL
/-! sets of pairs upon data -/
namespace DL
open PySem PySem.Spec PyProof.Rows L2 Mth

def tn (l : List Nat) : D := .tup (nats l)
def tp (p : Nat × Nat) : D := .tup [nat p.1, nat p.2]
def tps (ps : List (Nat × Nat)) : D := .tup (ps.map tp)
def kp (p : Nat × Nat) : List Int := [(p.1 : Int), (p.2 : Int)]
theorem kp_inj {p q : Nat × Nat} (h : kp p = kp q) : p = q := by
  unfold kp at h
  have h1 : (p.1 : Int) = q.1 := by injection h
  have h2 : (p.2 : Int) = q.2 := by
    injection h with _ h
    injection h
  exact Prod.ext (by omega) (by omega)
def cd (p : Nat × Nat) : Nat := p.1 * 64 + p.2
theorem prs_asc (n : Nat) (hn : n ≤ 64) : (prs n).Pairwise fun p q => cd p < cd q := by
  unfold prs
  rw [List.pairwise_flatMap]
  refine ⟨fun x hx => ?_, ?_⟩
  · rw [List.pairwise_map]
    exact (List.pairwise_lt_range (n := n)).imp fun h => by unfold cd; dsimp only; omega
  · refine (List.pairwise_lt_range (n := n)).imp_of_mem fun {x y} hx hy h p hp q hq => ?_
    obtain ⟨a, ha, e⟩ := List.mem_map.mp hp
    obtain ⟨b, hb, e2⟩ := List.mem_map.mp hq
    subst e; subst e2
    have := List.mem_range.mp ha
    unfold cd
    dsimp only
    omega
/-- pairs that stand ascending are told by what is among them -/
theorem asc_uniq {l m : List (Nat × Nat)} (h1 : l.Pairwise fun p q => cd p < cd q) (h2 : m.Pairwise fun p q => cd p < cd q) (h : ∀ p, p ∈ l ↔ p ∈ m) : l = m := by
  have nd : ∀ {l : List (Nat × Nat)}, (l.Pairwise fun p q => cd p < cd q) → l.Nodup := fun hl => hl.imp fun {p q} hpq e => by rw [e] at hpq; omega
  exact List.Perm.eq_of_pairwise (fun a b _ _ h1 h2 => by omega) h1 h2 ((List.perm_ext_iff_of_nodup (nd h1) (nd h2)).mpr h)
/-- a list of keys that stand ascending by their codes -/
theorem keys_asc {L : List (Addr × List Int)} {acc : List (Nat × Nat)} (hb : ∀ p ∈ acc, p.1 < 64 ∧ p.2 < 64) (hm : ∀ k, k ∈ L.map (·.2) ↔ k ∈ acc.map kp) (nd : (L.map (·.2)).Nodup) (pw : L.Pairwise fun q r => TS.code 64 q.2 ≤ TS.code 64 r.2) {out : List (Nat × Nat)} (ho : out.Pairwise fun p q => cd p < cd q) (hmo : ∀ p, p ∈ out ↔ p ∈ acc) :
    L.map (·.2) = out.map kp := by
  have back : ∀ (ks : List (List Int)), (∀ k ∈ ks, k ∈ acc.map kp) → ∃ ps : List (Nat × Nat), ks = ps.map kp ∧ ∀ p ∈ ps, p ∈ acc := by
    intro ks
    induction ks with
    | nil => intro _; exact ⟨[], rfl, fun p z => by cases z⟩
    | cons k ks ih =>
      intro h
      obtain ⟨ps, e, hp⟩ := ih fun x hx => h x (List.mem_cons_of_mem _ hx)
      obtain ⟨p, hp1, hp2⟩ := List.mem_map.mp (h k List.mem_cons_self)
      exact ⟨p :: ps, by rw [e, ← hp2]; rfl, fun x hx => (List.mem_cons.mp hx).elim (fun e => by rw [e]; exact hp1) (hp x)⟩
  obtain ⟨ps, e, hps⟩ := back (L.map (·.2)) fun k hk => (hm k).mp hk
  rw [e] at nd ⊢
  have pw2 : (ps.map kp).Pairwise fun a b => TS.code 64 a ≤ TS.code 64 b := by
    rw [← e]
    exact List.pairwise_map.mpr pw
  have hc : ∀ p : Nat × Nat, TS.code 64 (kp p) = (cd p : Int) := fun p => by
    unfold kp cd
    rw [code_pair]
    omega
  have asc : ps.Pairwise fun p q => cd p < cd q := by
    have a := List.pairwise_map.mp pw2
    have b := List.pairwise_map.mp nd
    refine List.Pairwise.imp_of_mem (fun {p q} hp hq ⟨h1, h2⟩ => ?_) (a.and b)
    rw [hc, hc] at h1
    have b1 := hb p (hps p hp)
    have b2 := hb q (hps q hq)
    have ne : p ≠ q := fun z => h2 (by rw [z])
    have h3 : cd p ≠ cd q := fun z => ne (by unfold cd at z; exact Prod.ext (by omega) (by omega))
    omega
  have : ps = out := asc_uniq asc ho fun p => by
    rw [hmo]
    have q := hm (kp p)
    rw [e] at q
    constructor
    · intro h; exact hps p h
    · intro h
      have z := q.mpr (List.mem_map.mpr ⟨p, h, rfl⟩)
      obtain ⟨p', h1, h2⟩ := List.mem_map.mp z
      rw [← kp_inj h2]
      exact h1
  rw [this]

def setP (P : Program) (w : World) (a : Addr) (acc : List (Nat × Nat)) : Hp → HO → Prop := fun F o => ∃ L, o = SetTO P w a L ∧ (∀ q ∈ L, F q.1 = some (.tup (q.2.map V.int))) ∧ (∀ k, k ∈ L.map (·.2) ↔ k ∈ acc.map kp) ∧ L.length ≤ acc.length
section
variable {C : Addr} {c : Cn} {P : Program} {K : PySem.W.Frag} {w : World} {rho : List (Option D)} {mu : Mu} {ts : List (V × D)} {s : L2.St} {F H F' H' : Hp} {v : V} {d d1 d2 : D} {te ta tb : TE} {ds es : List D}
theorem SatF.letgoAny {a : Addr} {q : Hp → HO → Prop} {tx : List (V × D)} (T : SatF C c rho ((a, .any q) :: mu) ts s F H) (h : ∀ p ∈ tx, p ∈ ts) : SatF C c rho mu tx s F H := ⟨T.ex, T.sub, T.keep, T.new, T.dom, T.slen, T.slot, fun p hp => T.tmp p (h p hp), (List.nodup_cons.mp T.nd).2, fun q hq => T.mu q (List.mem_cons_of_mem _ hq)⟩
theorem DR.kp_inv {x : Nat × Nat} (h : DR C F v (tp x)) : ∃ a, v = .ref a ∧ F a = some (.tup ((kp x).map V.int)) := by
  obtain ⟨a, xs, e, ha, hs⟩ := h.tup_inv
  have := DRs.ints_inv (ns := kp x) hs
  rw [this] at ha
  exact ⟨a, e, ha⟩
theorem DR.kp {x : Nat × Nat} {a : Addr} (h : F a = some (.tup ((DL.kp x).map V.int))) : DR C F (.ref a) (tp x) := .tup h rfl (DRs.ints (DL.kp x)).2
theorem ev_s1P {wi : TI} {g : TG} {vs : List Nat} (f : D → Nat × Nat) (hI : EvI C wi rho mu ds) (hn : ds.length + 1 < 64)
    (step : ∀ (i : Nat) d, ds[i]? = some d → ∃ rho2 js, BindG C g d (wipeD rho vs) rho2 js ∧ (∀ j ∈ js, j ∈ vs) ∧ ∀ mu', EvD C te rho2 mu' (tp (f d))) :
    Ev C (tS1 (fun a => SetTO P w a []) (adT P w K) wi g tYes te vs) rho mu fun d mu' => ∃ p, d = .ptr p ∧ mu' = (p, .any (setP P w p (ds.map f))) :: mu := fun c ts s H Q S q => by
  refine hI c ts s H _ S fun J H1 tx ⟨w1, w2, w3⟩ S1 => fun p hp => ?_
  obtain ⟨F1, T1⟩ := S1
  have T2 : Sat C c rho ((p, .any (setP P w p [])) :: mu) (tx ++ ts) s (upd H1 p (SetTO P w p [])) := Sat.pop ⟨F1, T1.ownAny hp ⟨_, rfl, (fun q z => by cases z), (fun j => by simp), Nat.le_refl _⟩⟩
  refine ⟨fun i n H => n = ds.length - i ∧ i ≤ ds.length ∧ Sat C c rho ((p, .any (setP P w p ((ds.take i).map f))) :: mu) (tx ++ ts) s H, ⟨ds.length, by simp, Nat.zero_le _, T2⟩, ?_⟩
  rintro i n H2 ⟨rfl, hi, S2⟩
  by_cases hlt : i < ds.length
  · refine .inr ⟨w1 i _ _ s H2 S2 hlt, fun H' => i + 1 ≤ ds.length ∧ Sat C c rho ((p, .any (setP P w p ((ds.take (i + 1)).map f))) :: mu) (tx ++ ts) s H', fun H' z => ⟨ds.length - (i + 1), by omega, rfl, z⟩, fun x H3 yl => ?_⟩
    have hd : ds[i]? = some ds[i] := List.getElem?_eq_getElem hlt
    obtain ⟨rho2, js, hb, hj, ev⟩ := step i _ hd
    obtain ⟨F3, T3⟩ := w3 i _ _ _ s H2 x H3 hd S2 yl
    obtain ⟨tz, T4, back⟩ := T3.pin
    have S4 : Sat C c rho ((p, .any (setP P w p ((ds.take i).map f))) :: mu) ((x, ds[i]) :: (tz ++ (tx ++ ts))) s H3 := ⟨F3, T4.fewer fun q hq => by
      simp only [List.mem_cons, List.mem_append] at hq ⊢
      rcases hq with h | h | h | h
      · exact .inr (.inl h)
      · exact .inl h
      · exact .inr (.inr (.inl h))
      · exact .inr (.inr (.inr h))⟩
    refine hb c _ _ (wipe s vs) H3 x _ (S4.wipe vs) fun s5 H5 l5 k5 S5 => ?_
    refine ⟨wipe_back l5 k5 hj, ?_⟩
    rw [if_pos rfl]
    refine (ev _).run S5 fun y H12 S12 => ?_
    obtain ⟨F12, T12⟩ := S12
    obtain ⟨_, _, o, ho, _, F0, k0, L, eo, hL, hS, hl⟩ := T12.mu _ List.mem_cons_self
    obtain ⟨a, ea, ha⟩ := T12.top.kp_inv
    refine ⟨a, kp (f ds[i]), L, ea, SqT.of (T12.sub _ _ ha), by rw [ho, eo], fun q hq => SqT.of (T12.sub _ _ (k0 _ _ (hL q hq))), ?_, fun L' c1 c2 => ⟨hlt, ?_⟩⟩
    · rw [List.length_map, List.length_take] at hl
      omega
    · have et : ds.take (i + 1) = ds.take i ++ [ds[i]] := by rw [List.take_succ, hd]; rfl
      refine back _ _ _ _ _ ⟨F12, (T12.changeAt (k := 0) (m' := .any (setP P w p ((ds.take (i + 1)).map f))) rfl id ⟨_, upd_same, (by intro _ z; cases z), F12, Same.refl _, L', rfl, fun q hq => ?_, fun k => ?_, ?_⟩).fewer fun q hq => List.mem_cons_of_mem _ hq⟩
      · by_cases z : kp (f ds[i]) ∈ L.map (·.2)
        · rw [c1 z] at hq
          exact k0 _ _ (hL q hq)
        · rcases List.mem_cons.mp ((c2 z).mem_iff.mp hq) with e | hq
          · rw [e]; exact ha
          · exact k0 _ _ (hL q hq)
      · rw [et, List.map_append, List.map_append, List.mem_append]
        by_cases z : kp (f ds[i]) ∈ L.map (·.2)
        · rw [c1 z, hS]
          constructor
          · exact .inl
          · rintro (h | h)
            · exact h
            · have e : k = kp (f ds[i]) := by simpa using h
              rw [e]
              exact (hS _).mp z
        · rw [((c2 z).map (·.2)).mem_iff, List.map_cons, List.mem_cons, hS]
          constructor
          · rintro (h | h)
            · exact .inr (by simp [h])
            · exact .inl h
          · rintro (h | h)
            · exact .inr h
            · exact .inl (by simpa using h)
      · rw [et]
        by_cases z : kp (f ds[i]) ∈ L.map (·.2)
        · rw [c1 z]
          simp only [List.length_map, List.length_append] at hl ⊢
          omega
        · rw [(c2 z).length_eq]
          simp only [List.length_map, List.length_append, List.length_cons, List.length_nil] at hl ⊢
          omega
  · have e : i = ds.length := by omega
    subst e
    refine .inl ⟨w2 _ _ s H2 S2, ?_⟩
    rw [List.take_length] at S2
    obtain ⟨F, T⟩ := S2
    exact q _ (.ptr p) _ H2 ⟨p, rfl, rfl⟩ ⟨F, (T.temps (fun q hq => by
      rcases List.mem_cons.mp hq with e | hq
      · subst e; exact .ptr p
      · exact T.tmp q (List.mem_append_right _ hq)))⟩
theorem kps_drs {L : List (Addr × List Int)} (h : ∀ q ∈ L, F q.1 = some (.tup (q.2.map V.int))) : ∀ {out : List (Nat × Nat)}, L.map (·.2) = out.map kp → DRs C F (L.map fun q => V.ref q.1) (out.map tp) := by
  induction L with
  | nil =>
    intro out e
    cases out with
    | nil => exact .nil
    | cons x xs => simp at e
  | cons q L ih =>
    intro out e
    cases out with
    | nil => simp at e
    | cons x xs =>
      rw [List.map_cons, List.map_cons] at e
      injection e with e1 e2
      refine .cons (DR.kp ?_) (ih (fun r hr => h r (List.mem_cons_of_mem _ hr)) e2)
      rw [← e1]
      exact h q List.mem_cons_self
/-- sorted(set of pairs), the set a temporary -/
theorem el_sortedP {acc : List (Nat × Nat)} (h : Ev C te rho mu fun d mu' => ∃ p, d = .ptr p ∧ mu' = (p, .any (setP P w p acc)) :: mu) (hb : ∀ p ∈ acc, p.1 < 64 ∧ p.2 < 64) (out : List (Nat × Nat)) (hs : out.Pairwise fun p q => cd p < cd q) (hm : ∀ p, p ∈ out ↔ p ∈ acc) : EvN C (tCB (rSortedT K P w) (tCons te tNil)) rho mu (out.map tp) := EvN.of fun c ts s H Q S q => by
  refine h c ts s H _ S fun v d mu' H1 ⟨p, e1, e2⟩ S1 => ?_
  subst e1; subst e2
  obtain ⟨F, T⟩ := S1
  obtain ⟨_, _, o, ho, _, F0, k0, L, eo, hL, hS, hl⟩ := T.mu _ List.mem_cons_self
  refine ⟨p, L, 2, 64, by rw [T.top.ptr_inv], by rw [ho, eo], fun q hq => SqT.of (T.sub _ _ (k0 _ _ (hL q hq))), by decide, fun q hq => ?_, fun L' l pm nd few pw hn2 => ?_⟩
  · obtain ⟨x, hx, e⟩ := List.mem_map.mp ((hS q.2).mp (List.mem_map.mpr ⟨q, hq, rfl⟩))
    obtain ⟨b1, b2⟩ := hb x hx
    rw [← e]
    refine ⟨rfl, ?_⟩
    unfold TS.Bd kp
    intro n hn
    simp only [List.mem_cons, List.not_mem_nil, or_false] at hn
    rcases hn with e | e <;> rw [e] <;> omega
  · have e := keys_asc hb (fun k => by rw [(pm.map (·.2)).mem_iff]; exact hS k) nd pw hs hm
    exact q l _ ((T.letgoAny (tx := ts) fun p hp => List.mem_cons_of_mem _ hp).newL hn2 (kps_drs (fun q hq => k0 _ _ (hL q (pm.mem_iff.mp hq))) e))
end
end DL
/-! dicts whose keys are tuples of ints -/
namespace DL
open PySem PySem.Spec PyProof.Rows L2 Mth

/-! ### what a dict holds -/
def getM (m : List (List Int × D)) (k : List Int) : Option D := (m.find? fun p => decide (p.1 = k)).map (·.2)
def putM (m : List (List Int × D)) (k : List Int) (d : D) : List (List Int × D) := if (getM m k).isSome then m.map fun p => if p.1 = k then (p.1, d) else p else m ++ [(k, d)]
theorem inl_inj : ∀ {a b : List Int}, a.map (Sum.inl (β := Str)) = b.map Sum.inl → a = b
  | [], [], _ => rfl
  | [], _ :: _, h => by simp at h
  | _ :: _, [], h => by simp at h
  | x :: a, y :: b, h => by
    rw [List.map_cons, List.map_cons] at h
    injection h with h1 h2
    injection h1 with h1
    rw [h1, inl_inj h2]
section
variable {C : Addr} {F : Hp}
abbrev DM (C : Addr) (F : Hp) (kvs : List (List Key × V)) (m : List (List Int × D)) : Prop := kvs.map (·.1) = m.map (fun p => p.1.map Sum.inl) ∧ DRs C F (kvs.map (·.2)) (m.map (·.2))
theorem DM.cons_inv {p : List Key × V} {q : List Int × D} {kvs : List (List Key × V)} {m : List (List Int × D)} (h : DM C F (p :: kvs) (q :: m)) : p.1 = q.1.map Sum.inl ∧ DR C F p.2 q.2 ∧ DM C F kvs m := by
  obtain ⟨h1, h2⟩ := h
  rw [List.map_cons, List.map_cons] at h1
  rw [List.map_cons, List.map_cons] at h2
  injection h1 with h1 h3
  exact ⟨h1, h2.head, h3, h2.tail⟩
theorem DM.cons {p : List Key × V} {q : List Int × D} {kvs : List (List Key × V)} {m : List (List Int × D)} (h1 : p.1 = q.1.map Sum.inl) (h2 : DR C F p.2 q.2) (h : DM C F kvs m) : DM C F (p :: kvs) (q :: m) := ⟨by rw [List.map_cons, List.map_cons, h1, h.1], by rw [List.map_cons, List.map_cons]; exact .cons h2 h.2⟩
theorem DM.len {kvs : List (List Key × V)} {m : List (List Int × D)} (h : DM C F kvs m) : kvs.length = m.length := by
  have := congrArg List.length h.1
  simpa using this
theorem DM.get {k : List Int} : ∀ {kvs : List (List Key × V)} {m : List (List Int × D)}, DM C F kvs m → (getM m k = none ∧ valV kvs (k.map Sum.inl) = none) ∨ ∃ d v, getM m k = some d ∧ valV kvs (k.map Sum.inl) = some v ∧ DR C F v d
  | [], [], _ => .inl ⟨rfl, rfl⟩
  | [], _ :: _, h => by have := h.len; simp at this
  | _ :: _, [], h => by have := h.len; simp at this
  | p :: kvs, q :: m, h => by
    obtain ⟨h1, h2, h3⟩ := h.cons_inv
    by_cases e : q.1 = k
    · refine .inr ⟨q.2, p.2, ?_, valV_pos (by rw [h1, e]), h2⟩
      unfold getM
      rw [List.find?_cons, decide_eq_true e]
      rfl
    · have n1 : ¬ p.1 = k.map Sum.inl := fun z => e (inl_inj (h1.symm.trans z))
      have n2 : getM (q :: m) k = getM m k := by
        unfold getM
        rw [List.find?_cons, decide_eq_false e]
      rw [valV_neg n1, n2]
      exact DM.get h3
theorem DM.repl {k : List Int} {v : V} {d : D} (r : DR C F v d) : ∀ {kvs : List (List Key × V)} {m : List (List Int × D)}, DM C F kvs m → DM C F (kvs.map fun kv => if kv.1 = k.map Sum.inl then (kv.1, v) else kv) (m.map fun p => if p.1 = k then (p.1, d) else p)
  | [], [], h => h
  | [], _ :: _, h => by have := h.len; simp at this
  | _ :: _, [], h => by have := h.len; simp at this
  | p :: kvs, q :: m, h => by
    obtain ⟨h1, h2, h3⟩ := h.cons_inv
    rw [List.map_cons, List.map_cons]
    by_cases e : q.1 = k
    · rw [if_pos (by rw [h1, e]), if_pos e]
      exact .cons h1 r (DM.repl r h3)
    · rw [if_neg (fun z => e (inl_inj (h1.symm.trans z))), if_neg e]
      exact .cons h1 h2 (DM.repl r h3)
theorem DM.put {k : List Int} {v : V} {d : D} {kvs : List (List Key × V)} {m : List (List Int × D)} (h : DM C F kvs m) (r : DR C F v d) : DM C F (putK kvs (k.map Sum.inl) v) (putM m k d) := by
  unfold putK putM
  rw [valV_any]
  rcases h.get (k := k) with ⟨a, b⟩ | ⟨d', v', a, b, _⟩
  · rw [a, b, if_neg (by simp), if_neg (by simp)]
    refine ⟨?_, ?_⟩
    · rw [List.map_append, List.map_append, h.1]
      rfl
    · rw [List.map_append, List.map_append]
      exact h.2.app (.one r)
  · rw [a, b, if_pos (show (some v').isSome = true from rfl), if_pos (show (some d').isSome = true from rfl)]
    exact h.repl r
end
theorem putM_len (m : List (List Int × D)) (k : List Int) (d : D) : (putM m k d).length ≤ m.length + 1 := by
  unfold putM
  split
  · rw [List.length_map]; omega
  · simp
theorem putM_new {m : List (List Int × D)} {k : List Int} (d : D) (h : getM m k = none) : putM m k d = m ++ [(k, d)] := by
  unfold putM
  rw [h]
  rfl
theorem getM_none {m : List (List Int × D)} {k : List Int} : getM m k = none ↔ k ∉ m.map (·.1) := by
  unfold getM
  rw [Option.map_eq_none_iff, List.find?_eq_none]
  constructor
  · rintro h z
    obtain ⟨p, hp, e⟩ := List.mem_map.mp z
    exact h p hp (decide_eq_true e)
  · intro h p hp e
    exact h (List.mem_map.mpr ⟨p, hp, of_decide_eq_true e⟩)
/-- a tuple of ints as a key -/
theorem DR.key {C : Addr} {F : Hp} {v : V} {k : List Int} (h : DR C F v (.tup (k.map D.int))) : ∃ b, v = .ref b ∧ F b = some (.tup ((k.map Sum.inl).map kV)) := by
  obtain ⟨a, xs, e, ha, hs⟩ := h.tup_inv
  have e2 := DRs.ints_inv hs
  rw [e2] at ha
  refine ⟨a, e, ?_⟩
  rw [ha, List.map_map]
  rfl

/-! ### rules -/
section
variable {X : Cx}
/-- the value is an object of one's own: locked for good -/
def tFrzE (t : TE) : TE := fun σ H Q => t σ H fun x H1 => ∃ d u, x = .ref d ∧ H1 d = some u ∧ Mut (some u) ∧ ∀ od, Q x (upd H1 d (.frz od u))
theorem pe_frz {e : Expr} {t : TE} (h : PE X e t) : PE X e (tFrzE t) := ⟨fun pins s σ H Q I hw => thn (h.run pins s σ H _ I hw) fun v s1 ⟨x, H1, I1, r, d, u, ex, hd, mu, q⟩ => by
  obtain ⟨od, I2⟩ := I1.lock hd mu
  exact ⟨x, _, I2, r, q od⟩⟩
/-- d.setdefault(k, x), the keys tuples of ints -/
def tSetdT (td ty tx : TE) : TE := fun σ H Q => td σ H fun x H1 => ∃ a, x = .ref a ∧ IsD H1 a ∧ ty σ H1 fun y H2 => tx σ H2 fun z H3 => ∃ (kvs : List (List Key × V)) (k : List Key) (b : Addr), H3 a = some (.dT kvs) ∧ y = .ref b ∧ H3 b = some (.tup (k.map kV)) ∧ kvs.length < sizeLine ∧
  (∀ v, valV kvs k = some v → Q v H3) ∧ (valV kvs k = none → Q z (upd H3 a (.dT (putK kvs k z))))
theorem d_setdT {pins : List (Addr × Obj)} {σ : L2.St} {H : Hp} {s : Shared} {A : Around} {E : Value → Shared → Prop} {a b : Addr} {kvs : List (List Key × V)} {k : List Key} {d : V} {r : Value} {Q : Value → Shared → Prop} (hu : A.units + 1 < cLine) (I : Inv X pins σ H s) (e : H a = some (.dT kvs)) (eb : H b = some (.tup (k.map kV))) (rd : RelV d r) (hl : kvs.length < sizeLine)
    (h1 : ∀ v, valV kvs k = some v → ∀ w' s', Inv X pins σ H s' → RelV v w' → Q w' s') (h2 : valV kvs k = none → ∀ w' s', Inv X pins σ (upd H a (.dT (putK kvs k d))) s' → RelV d w' → Q w' s') :
    wpAny (model X.prog X.w) A (call (.builtin "dict.setdefault") [.ref a, .ref b, r]) Q E s := by
  obtain ⟨z, hd, xs, rel, dd⟩ := dt_of I.hok e
  have hz : xs.length ≤ sizeLine := by rw [← Paired.length rel]; exact z
  have hv := rel.val k
  refine call_setdefault_heap (hsz := hz) (tupleKind_room_in1 hu) (key_of I.hok eb) hd dd (fun p hp => ?_) fun hn h' dd' hs => ?_
  · rw [hp] at hv
    cases q : valV kvs k with
    | none => rw [q] at hv; exact (show False from hv).elim
    | some v0 =>
      rw [q] at hv
      exact h1 v0 q _ _ (I.tok _) hv
  · rw [hn] at hv
    cases q : valV kvs k with
    | some v0 => rw [q] at hv; exact (show False from hv).elim
    | none =>
      obtain ⟨ob, es, ep, hq, a2, a3, a4, _, a5⟩ := dd'
      refine h2 q _ _ (d_write I (by rw [e]; exact True.intro) hs ⟨ob, hq⟩ ⟨?_, hd, _, (rel.put k eb rd).keeps fun c ys ec => ?_, ob, es, ep, hq, a2, a3, a4, a5⟩) rd
      · have := length_putK kvs k d
        omega
      · rw [upd_ne (ne_of ec e (fun z => nomatch z))]
        exact ec
theorem pe_setdT {o e f : Expr} {td ty tx : TE} {apos cpos : Pos} (hu : X.A.units + 1 < cLine) (ho : PE X o td) (he : PE X e ty) (hf : PE X f tx) (m : M2 X o "setdefault" apos e f cpos) : PE X (.Call (.Attribute o "setdefault" apos) [e, f] [] cpos) (tSetdT td ty tx) := by
  refine ⟨fun pins s σ H Q I h => ?_⟩
  refine wpAny_Call_method m.base m.few m.line PySem.F.plainAttrs_dict PySem.F.slot_dict_setdefault PySem.F.type_dict_setdefault ?_
  refine thn (ho.run pins s σ H _ I h) fun u s1 ⟨x, H1, I1, rx, a, ex, d, q1⟩ => ?_
  subst ex
  cases (show u = Value.ref a from rx)
  obtain ⟨t1, t2, _⟩ := isD_at I1 d
  refine ⟨t1, t2, ?_⟩
  rw [m.trees]
  refine Calls.callWith_builtin rfl (Calls.evalArgs_plain (Calls.spliced_cons (thn (he.run pins s1 σ H1 _ I1 q1) fun iv s2 ⟨y, H2, I2, ry, q2⟩ => ?_)))
  refine Calls.spliced_cons (thn (hf.run pins s2 σ H2 _ I2 q2) fun fv s3 ⟨z, H3, I3, rz, kvs, k, b, ea, ey, eb, hl, q3, q4⟩ => Calls.spliced_nil ?_)
  subst ey
  cases (show iv = Value.ref b from ry)
  exact d_setdT hu I3 ea eb rz hl (fun v hv w' s4 I4 rw' => ⟨v, _, I4, rw', q3 v hv⟩) fun hn w' s4 I4 rw' => ⟨z, _, I4, rw', q4 hn⟩
end

/-! ### sorted(d), the keys pairs of ints -/
def keyAt (H : Hp) : Value → Int × Int
  | .ref b => match H b with
    | some (.tup [.int i, .int j]) => (i, j)
    | _ => (0, 0)
  | _ => (0, 0)
theorem keyAt_of {H : Hp} {b : Addr} {i j : Int} (h : H b = some (.tup [.int i, .int j])) : keyAt H (.ref b) = (i, j) := by
  unfold keyAt
  simp only [h]
def rSortDT : List V → Hp → VK → Prop := fun vs H Q => ∃ (a : Addr) (kvs : List (List Key × V)) (ps : List (Int × Int)), vs = [.ref a] ∧ Rd H a (.dT kvs) ∧ kvs.map (·.1) = ps.map (fun p => [Sum.inl p.1, Sum.inl p.2]) ∧
  ∀ (L : List Addr) (p : Addr), (∀ b ∈ L, ∃ q, H b = some (.tup [.int q.1, .int q.2]) ∧ keyAt H (.ref b) = q) → (L.map fun b => keyAt H (.ref b)).Perm ps → (L.Pairwise fun b c => SrtO.lexB (keyAt H (.ref c)) (keyAt H (.ref b)) = false) → H p = none → Q (.ref p) (upd H p (.lst (L.map V.ref)))
section
variable {X : Cx}
theorem pair_raw {pins : List (Addr × Obj)} {σ : L2.St} {H : Hp} {s : Shared} {t : Addr} {i j : Int} (I : Inv X pins σ H s) (ht : H t = some (.tup [.int i, .int j])) : Srt.IsPair s.heap (.ref t) i j := by
  obtain ⟨_, its, r, o, ho, hc, n, hd⟩ := I.hok _ _ ht
  obtain ⟨u1, u2, rfl, ⟨t1, e1⟩, t2, e2⟩ := vals2 r
  subst e1; subst e2
  exact ⟨t, o, t1, t2, n, rfl, ho, hc, hd⟩
theorem refs_list : ∀ {us : List Value}, (∀ u ∈ us, ∃ b, u = Value.ref b) → ∃ L : List Addr, us = L.map Value.ref
  | [], _ => ⟨[], rfl⟩
  | u :: us, h => by
    obtain ⟨b, e⟩ := h u List.mem_cons_self
    obtain ⟨L, e2⟩ := refs_list fun x hx => h x (List.mem_cons_of_mem _ hx)
    exact ⟨b :: L, by rw [e, e2]; rfl⟩
theorem cr_sortDT (hc : X.calm = true) : CallR X (.builtin "sorted") rSortDT := by
  intro pins s σ H vs us Q I r h
  obtain ⟨a, kvs, ps, rfl, hd, hps, q⟩ := h
  obtain ⟨u, rfl, rx⟩ := r.one
  cases rx
  obtain ⟨z, hs, ks, pr, o, es, ep, ho, hx, hdt, he, hn⟩ := (show ObjOk X.prog X.w H s.heap a (.dT kvs) from hd.ok I.hok)
  have l1 : es.size = ks.length := size_of_entries he
  have l2 : kvs.length = ks.length := Paired.length pr
  -- the keys' tuples
  have kt : ∀ {m : List (List Key × V)} {xs : List (List Key × Addr × Value)} {ps : List (Int × Int)}, KT H m xs → m.map (·.1) = ps.map (fun p => [Sum.inl p.1, Sum.inl p.2]) → (∀ x ∈ xs, ∃ q : Int × Int, H x.2.1 = some (.tup [.int q.1, .int q.2])) ∧ (xs.map fun x => keyAt H (.ref x.2.1)) = ps := by
    intro m xs ps r
    induction r generalizing ps with
    | nil =>
      intro e
      cases ps with
      | nil => exact ⟨(fun x hx => by cases hx), rfl⟩
      | cons _ _ => simp at e
    | @cons p x m xs hp t ih =>
      intro e
      cases ps with
      | nil => simp at e
      | cons y ys =>
        rw [List.map_cons, List.map_cons] at e
        injection e with e1 e2
        obtain ⟨i1, i2⟩ := ih e2
        have hb : H x.2.1 = some (.tup [.int y.1, .int y.2]) := by
          have := hp.2.1
          rw [e1] at this
          exact this
        refine ⟨fun x' hx' => ?_, ?_⟩
        · rcases List.mem_cons.mp hx' with e | hx'
          · rw [e]; exact ⟨y, hb⟩
          · exact i1 x' hx'
        · rw [List.map_cons, i2]
          have : keyAt H (.ref x.2.1) = y := keyAt_of hb
          rw [this]
  obtain ⟨kt1, kt2⟩ := kt pr hps
  refine Calls.call_function_entry kind_sorted plain_sorted entry_sorted (args_sorted1 _) ?_
  unfold Builtin.«sorted»
  refine wpAny_bind (m := checkCount "sorted" 1 1 _) (wpAny_pure ?_)
  refine wpAny_bind (PySem.W.kdu_collect (A := X.A.in1) (kdl_raw hs hx hdt) (I.ok.hd hc) ho (by omega) fun h' tk acc kp it => ?_)
  have ea : acc.toList = (ks.map fun x => x.2.1).map Value.ref := by
    have hl : acc.toList.length = ks.length := by rw [Array.length_toList, it.1]; exact l1
    refine List.ext_getElem? fun j => ?_
    rw [List.getElem?_map, List.getElem?_map]
    cases hj : acc.toList[j]? with
    | none => rw [List.getElem?_eq_none (l := ks) (by have := List.getElem?_eq_none_iff.mp hj; omega)]; rfl
    | some v =>
      obtain ⟨en, hen, hv⟩ := it.2 j v (by rw [← Array.getElem?_toList]; exact hj)
      have qe := entry_at he j
      rw [hen] at qe
      cases hb : ks[j]? with
      | none => rw [hb] at qe; exact nomatch (show some en = none from qe)
      | some b =>
        rw [hb] at qe
        have e2 : en = entryOfKey (tupleKind (mixKind X.prog X.w)) b := Option.some.inj qe
        rw [hv, e2]
        rfl
  have I1 : Inv X pins σ H { s with heap := h', toks := tk } := I.kept kp
  have hz : acc.toList.length ≤ sizeLine := by rw [ea, List.length_map, List.length_map]; omega
  refine wpAny_bind (wpAny_newList ?_ hz)
  have hoL : (h'.push (seqObj "list" acc.toList.toArray 0)).get? h'.objs.size = some (seqObj "list" acc.toList.toArray 0) := Heap.get?_push_size _ rfl
  have hpair : ∀ v ∈ acc.toList, Srt.IsPair (h'.push (seqObj "list" acc.toList.toArray 0)) v (keyAt H v).1 (keyAt H v).2 := fun v hv => by
    rw [ea] at hv
    obtain ⟨b, hb, e⟩ := List.mem_map.mp hv
    obtain ⟨x, hx', e2⟩ := List.mem_map.mp hb
    subst e; subst e2
    obtain ⟨y, hy⟩ := kt1 x hx'
    have e3 : keyAt H (.ref x.2.1) = y := keyAt_of hy
    rw [e3]
    exact (pair_raw I1 hy).keeps fun b o e _ => Heap.get?_push_of_some _ e
  refine wpAny_bind (wpAny_holding (wpAny_call_entry slot_list_sort ⟨_, hoL, rfl⟩ entry_list_sort (SrtO.list_sort_ord (s := { s with heap := h'.push (seqObj "list" acc.toList.toArray 0), toks := tk }) (SrtO.swo_lex (keyAt H)) hoL hz
    (fun h2 => SrtO.pairs_sortableO (by omega) hpair fun o e => ?_) fun out g1 g2 => ⟨_, rfl, ?_⟩) (args_list_sort _)))
  · have e' : some o = some (seqObj "list" acc.toList.toArray 0) := e.symm.trans hoL
    cases e'
    intro c
    exact absurd (Value.type.inj c) (by decide)
  · obtain ⟨e', he'⟩ := sortedHeap_at (vs := acc.toList) (out := out.toArray) hoL
    have sub : ∀ v ∈ out, ∃ x ∈ ks, v = Value.ref x.2.1 := fun v hv => by
      have hv' := g2.perm.mem_iff.mp hv
      rw [ea, List.map_map] at hv'
      obtain ⟨x, hx', e⟩ := List.mem_map.mp hv'
      exact ⟨x, hx', e.symm⟩
    obtain ⟨L, eL⟩ := refs_list fun v hv => let ⟨x, _, e⟩ := sub v hv; ⟨_, e⟩
    have hlen : (L.map V.ref).length ≤ sizeLine := by
      have := g2.perm.length_eq
      rw [eL, List.length_map] at this
      rw [List.length_map, this]
      exact hz
    have kp2 : ∀ b ob, h'.get? b = some ob → (sortedHeap (h'.push (seqObj "list" acc.toList.toArray 0)) h'.objs.size acc.toList out.toArray).get? b = some ob := fun b ob hb => by
      have lb := Heap.lt_size hb
      rw [sortedHeap_old (Nat.ne_of_lt lb) (by rw [size_push']; exact Nat.lt_succ_of_lt lb)]
      exact Heap.get?_push_of_some _ hb
    refine wpAny_pure ⟨_, rfl, .ref h'.objs.size, upd H h'.objs.size (.lst (L.map V.ref)), ?_, rfl, q L _ (fun b hb => ?_) ?_ ?_ (I1.hok.fresh (Nat.le_refl _))⟩
    · exact I1.laid (t' := tk) kp2 (Nat.le_refl _) ⟨hlen, out, e', by rw [eL]; exact vals_refs L, he'⟩
    · obtain ⟨x, hx', e⟩ := sub (.ref b) (by rw [eL]; exact List.mem_map.mpr ⟨b, hb, rfl⟩)
      cases e
      obtain ⟨y, hy⟩ := kt1 x hx'
      exact ⟨y, hy, keyAt_of hy⟩
    · have g3 := g2.perm.map (keyAt H)
      rw [eL, ea, List.map_map, List.map_map, List.map_map] at g3
      rw [← kt2]
      exact g3
    · have g3 := g1
      rw [eL] at g3
      exact List.pairwise_map.mp g3
end
end DL
/-! dict comprehensions whose keys are tuples of ints; dicts upon data -/
namespace DL
open PySem PySem.Spec PyProof.Rows L2 Mth

section
variable {X : Cx}
def BD (g : TG) (tt : TT) (tk tv : TE) (vs : List Nat) (σ : L2.St) (Q : VK) (J : It) (D : Addr) (H0 : Hp) : Prop := ∃ W : Nat → Nat → Hp → Prop, (∃ m, W 0 m H0) ∧ ∀ i m H, W i m H →
  (J.stop i H ∧ Q (.ref D) H) ∨ (J.go i H ∧ ∃ N : Hp → Prop, (∀ H', N H' → ∃ m', m' < m ∧ W (i + 1) m' H') ∧ ∀ x H', J.yld i H x H' → g x (wipe σ vs) H' fun σ2 H2 => tt σ2 H2 fun b H3 => wipe σ2 vs = wipe σ vs ∧
    if b = true then tk σ2 H3 fun y H4 => tv σ2 H4 fun z H5 => ∃ (kvs : List (List Key × V)) (k : List Key) (b : Addr), y = .ref b ∧ H5 b = some (.tup (k.map kV)) ∧ H5 D = some (.dT kvs) ∧ kvs.length < sizeLine ∧ N (upd H5 D (.dT (putK kvs k z))) else N H3)
def tDcT (wi : TI) (g : TG) (tt : TT) (tk tv : TE) (vs : List Nat) : TE := fun σ H Q => wi σ H fun J H1 => ∀ D, H1 D = none → BD g tt tk tv vs σ Q J D (upd H1 D (.dT []))
theorem d_setT {Y : Cx} {pins : List (Addr × Obj)} {σ : L2.St} {H : Hp} {s : Shared} {E : Value → Shared → Prop} {D b : Addr} {kvs : List (List Key × V)} {k : List Key} {v : V} {r : Value} {Q : Unit → Shared → Prop} (hu : Y.A.units + 1 < cLine) (I : Inv Y pins σ H s) (e : H D = some (.dT kvs)) (eb : H b = some (.tup (k.map kV))) (l : kvs.length < sizeLine)
    (rv : RelV v r) (h : ∀ s', Inv Y pins σ (upd H D (.dT (putK kvs k v))) s' → Q () s') : wpAny (model Y.prog Y.w) Y.A (dictSet D (.ref b) r) Q E s := by
  obtain ⟨z, hd, xs, rel, dd⟩ := dt_of I.hok e
  have hz : xs.length ≤ sizeLine := by rw [← Paired.length rel]; exact z
  refine wpAny_dictSet_heap (hsz := hz) (show Y.A.units < cLine by omega) (key_of I.hok eb) dd fun h' dd' hs => h _ ?_
  obtain ⟨q, es, ep, hq, a2, a3, a4, _, a5⟩ := dd'
  refine d_write I (by rw [e]; exact True.intro) hs ⟨q, hq⟩ ⟨?_, hd, _, (rel.put k eb rv).keeps fun c ys ec => ?_, q, es, ep, hq, a2, a3, a4, a5⟩
  · have := length_putK kvs k v
    omega
  · rw [upd_ne (ne_of ec e (fun z => nomatch z))]
    exact ec
theorem pe_dcT {kx vx tg iter : Expr} {ifs : List Expr} {scope : Scope} {own : List (PySem.Str × Nat)} {pos : Pos} {wi : TI} {g : TG} {tt : TT} {tk tv : TE} (hu : X.A.units + 1 < cLine) (hc : X.calm = true) (hN : X.N.Nodup) (hi : PI X tg iter wi) (ok : BlkOk X.N X.env.scope scope own)
    (hg : ∀ (s : Shared) (H : Hp) (C : Addr) (cl : List (PySem.Str × Addr)) (fp : List Addr), PG (X.blk s H scope (compEnvC scope cl C X.env) fp) tg g) (ht : ∀ (s : Shared) (H : Hp) (C : Addr) (cl : List (PySem.Str × Addr)) (fp : List Addr), PTs (X.blk s H scope (compEnvC scope cl C X.env) fp) ifs tt)
    (hk : ∀ (s : Shared) (H : Hp) (C : Addr) (cl : List (PySem.Str × Addr)) (fp : List Addr), PE (X.blk s H scope (compEnvC scope cl C X.env) fp) kx tk) (hv : ∀ (s : Shared) (H : Hp) (C : Addr) (cl : List (PySem.Str × Addr)) (fp : List Addr), PE (X.blk s H scope (compEnvC scope cl C X.env) fp) vx tv)
    (hs : ∀ x, foldedSetIterable iter X.env x = pure x := by intro _; rfl) : PE X (.DictComp kx vx [⟨tg, iter, ifs, 0⟩] scope pos) (tDcT wi g tt tk tv (own.map (·.2))) := by
  refine ⟨fun pins s σ H Q I h => ?_⟩
  rw [arm_eval_DictComp]
  have fr : ∀ y ∈ scope.names, y.2 = .free → ∃ c, X.env.cells.lookup y.1 = some c := fun y hy e => (ok.free y hy e).elim (fun k => I.ok.has _ (.inl k)) fun k => I.ok.has _ (.inr k)
  refine wpAny_comprehension_free (use := none) rfl hs (closure_ok fr) ok.kind (fun y hy e => (ok.uniq y hy).trans (congrArg some e)) ?_
  refine thn (hi.run pins s σ H _ I h) fun xv s1 h1 => thn h1 fun itv s2 ⟨it, fp, tn, J, H2, e, I2, T, st2, f2, q⟩ => ?_
  subst e
  refine wpAny_newObj_type (newEnv_comp ?_)
  have hD : H2 s2.heap.objs.size = none := I2.hok.fresh (Nat.le_refl _)
  obtain ⟨W, ⟨m0, w0⟩, turn⟩ := q _ hD
  generalize hs3 : ({ s2 with heap := s2.heap.push { cls := .type "dict", data := .dict #[] } } : Shared) = s3
  have h3 : s3.heap = s2.heap.push { cls := .type "dict", data := .dict #[] } := by rw [← hs3]
  have I3 : Inv X pins σ (upd H2 s2.heap.objs.size (.dT [])) s3 := by
    rw [← hs3]
    exact I2.laid (t' := s2.toks) (fun b o e => Heap.get?_push_of_some _ e) (Nat.le_refl _) (dt_empty s2.heap I2.big)
  have low : ∀ b ∈ fp, b < s2.heap.objs.size := fun b hb => Heap.lt_size (T.obj _ _ st2 b hb).choose_spec.1
  have f3 : ∀ b ∈ fp, FpOk X pins (upd H2 s2.heap.objs.size (.dT [])) b ∧ b < s3.heap.objs.size := fun b hb => by
    have l := low b hb
    exact ⟨⟨by rw [upd_ne (Nat.ne_of_lt l)]; exact (f2 b hb).1, (f2 b hb).2⟩, by rw [h3, Heap.size_push]; exact Nat.lt_succ_of_lt l⟩
  have I4 := block_start I3 ok hN f3
  have st4 : tn 0 (pushCells (s3.heap.push { cls := .type "dict", data := .dict #[] }) scope.names) := T.keep _ _ _ st2 fun b _ o e => by
    rw [h3]
    exact pushCells_keeps _ _ _ _ (Heap.get?_push_of_some _ (Heap.get?_push_of_some _ e))
  generalize hCl : cellsFrom (s3.heap.objs.size + 1) scope.names (cloFrom X.env.cells scope.names []) = cl at I4 ⊢
  generalize hH3 : upd H2 s2.heap.objs.size (.dT []) = H3 at I3 I4 w0 f3
  have pg := hg s3 H3 s3.heap.objs.size cl fp
  have pt := ht s3 H3 s3.heap.objs.size cl fp
  have pk := hk s3 H3 s3.heap.objs.size cl fp
  have pv := hv s3 H3 s3.heap.objs.size cl fp
  have back : ∀ (σ' : L2.St) (H' : Hp) (s' : Shared), Inv (X.blk s3 H3 scope (compEnvC scope cl s3.heap.objs.size X.env) fp) [] σ' H' s' → Q (.ref s2.heap.objs.size) H' → compPost (model X.prog X.w) X.A X.xe none (EP X pins σ Q) (.ref s2.heap.objs.size) s3.heap.objs.size (.ok .next) s' := fun σ' H' s' I' qq => by
    have nC : H' s3.heap.objs.size = none := I'.free
    have I7 : Inv X pins σ H' s' := I3.call' (ch := fp) I'.os I'.base I'.hok I'.bare fun b hb => ⟨(f3 b hb).1.2.2.2.1, (f3 b hb).1.2.1, (f3 b hb).1.2.2.2.2.1, (f3 b hb).1.2.2.2.2.2⟩
    obtain ⟨m, hm, _⟩ := I'.loc
    obtain ⟨g0, g1, g2, g3, g4, g5⟩ := I3.fpOk (Nat.le_refl _) nC
    exact ⟨m, hm, fun h'' sb => ⟨.ref _, H', I7.turned (t' := s'.toks) (fun b o hb e => (sb.2 b hb).trans e) g0 g1 g3 g4 g5, rfl, qq⟩⟩
  show codeAny _ _ (.compStart (.DictComp kx vx [⟨tg, iter, ifs, 0⟩] scope pos) 0 (.ref it) (.ref s2.heap.objs.size) (compEnvC scope cl s3.heap.objs.size X.env)) (compPost (model X.prog X.w) X.A X.xe none (EP X pins σ Q) (.ref s2.heap.objs.size) s3.heap.objs.size) { s3 with heap := pushCells (s3.heap.push { cls := .type "dict", data := .dict #[] }) scope.names }
  generalize hs4 : ({ s3 with heap := pushCells (s3.heap.push { cls := .type "dict", data := .dict #[] }) scope.names } : Shared) = s4 at I4 ⊢
  have st4' : tn 0 s4.heap := by rw [← hs4]; exact st4
  have n4 : ∀ b ∈ fp, H3 b = none := fun b hb => (f3 b hb).1.1
  generalize hY : X.blk s3 H3 scope (compEnvC scope cl s3.heap.objs.size X.env) fp = Y at I4 pg pt pk pv back
  have y1 : Y.prog = X.prog ∧ Y.w = X.w ∧ Y.A = X.A ∧ Y.K = X.K ∧ Y.env = compEnvC scope cl s3.heap.objs.size X.env ∧ Y.ex = fp ∧ Y.pn = [] ∧ Y.calm = X.calm ∧ Y.xe = fun _ _ => False := by
    rw [← hY]
    exact ⟨rfl, rfl, rfl, rfl, rfl, rfl, rfl, rfl, rfl⟩
  obtain ⟨e1, e2, e3, e4, e5, e6, e7, e8, e9⟩ := y1
  rw [← e1, ← e2, ← e3, ← e5]
  rw [← e1, ← e2, ← e3] at back
  rw [← e1, ← e2, ← e4] at T
  have hc' : Y.calm = true := e8.trans hc
  generalize hvs : own.map (·.2) = vs at turn I4
  generalize s2.heap.objs.size = D at *
  have loop : codeAny (model Y.prog Y.w) Y.A (.compLoop (.DictComp kx vx [⟨tg, iter, ifs, 0⟩] scope pos) 0 (.ref it) (.ref D) Y.env) (compPost (model Y.prog Y.w) Y.A X.xe none (EP X pins σ Q) (.ref D) s3.heap.objs.size) s4 := by
    refine compLoop_anyD (fun n s' => ∃ i H', Inv Y [] (wipe σ vs) H' s' ∧ tn i s'.heap ∧ (∀ b ∈ fp, H' b = none) ∧ W i n H') ?_ m0 ⟨0, H3, I4, st4', n4, w0⟩
    rintro n s5 ⟨i, H5, I5, st5, n5, w5⟩
    have hf := ex_fp I5 e6 e7 n5
    rcases turn i n H5 w5 with ⟨stop, qq⟩ | ⟨go, N, hN', step⟩
    · refine thnF (T.done Y rfl rfl rfl hc' i [] s5 _ H5 (fun _ _ => False) I5 hf st5 stop) fun r s6 ⟨hr, I6⟩ => ?_
      subst hr
      exact back _ _ _ I6 qq
    · refine thn (turn_tests T hc' e9 I5 hf st5 go pg pt step fun pl σ2 H6 b s6 I6 r6 turned => ?_) fun r s7 hz => by obtain ⟨v, hv, z⟩ := hz; subst hv; exact z
      obtain ⟨hw, r6⟩ := r6
      have fin : ∀ {s' : Shared} {H' : Hp}, Inv Y ([] ++ pl) σ2 H' s' → N H' → ∃ m, m < n ∧ ∃ i H', Inv Y [] (wipe σ vs) H' s' ∧ tn i s'.heap ∧ (∀ b ∈ fp, H' b = none) ∧ W i m H' := fun {s' H'} I' nx => by
        obtain ⟨m', hm, w'⟩ := hN' H' nx
        obtain ⟨b1, b2⟩ := turned _ _ _ I'
        exact ⟨m', hm, i + 1, H', (I'.unpinned (pins := [])).weak (by rw [← hw, wipe_length]) (fun j x e => by rw [← hw] at e; exact (wipe_some e).1), b1, b2, w'⟩
      cases b with
      | false =>
        rw [if_neg Bool.false_ne_true] at r6 ⊢
        exact fin I6 r6
      | true =>
        rw [if_pos rfl] at r6 ⊢
        have z := pk.run _ s6 σ2 H6 _ I6 r6
        rw [e9] at z
        refine thnF z fun u s7 ⟨y, H7, I7, r7, q7⟩ => ?_
        have z2 := pv.run _ s7 σ2 H7 _ I7 q7
        rw [e9] at z2
        refine thnF z2 fun u2 s8 ⟨y2, H8, I8, r8, kvs, k, b, ey, eb, eD, lk, nx⟩ => ?_
        subst ey
        cases (show u = Value.ref b from r7)
        exact d_setT (by rw [e3]; exact hu) I8 eD eb lk r8 fun s9 I9 => fin I9 nx
  exact codeAny_compStart_dict loop (T.self Y.A 0 _ _ _ st4' loop)
end
end DL
/-! dicts upon data -/
namespace DL
open PySem PySem.Spec PyProof.Rows L2 Mth

def ky (k : List Int) : D := .tup (k.map D.int)
section
variable {C : Addr} {c : Cn} {K : PySem.W.Frag} {rho : List (Option D)} {mu : Mu} {ts : List (V × D)} {s : L2.St} {F H F' H' : Hp} {v : V} {d d0 d1 d2 : D} {te ta tb td ty tv tx : TE} {ds es : List D} {E : Ends} {u : TS} {m : List (List Int × D)} {kk : List Int} {a : Addr} {k : Nat}
theorem small {n : Nat} (h : n < 100000) : n < sizeLine := Nat.lt_of_lt_of_le h (by rw [sizeLine_eq]; decide)
theorem el_dnew : Ev C tDNewT rho mu fun d mu' => ∃ p, d = .ptr p ∧ mu' = (p, .dct []) :: mu := fun c ts s H Q ⟨F, T⟩ q p hp => q _ (.ptr p) _ _ ⟨p, rfl, rfl⟩ ⟨F, T.own (m := .dct []) hp ⟨[], upd_same, rfl, .nil⟩⟩
theorem s_dput (k : Nat) (hv : EvD C tv rho mu d) (ho : EvD C td rho mu (.ptr a)) (hi : EvD C ty rho mu (ky kk)) (hk : mu[k]? = some (a, .dct m)) (hl : m.length < 100000) (S : Sat C c rho mu ts s H)
    (q : ∀ H', Sat C c rho (mu.set k (a, .dct (putM m kk d))) ts s H' → E.nx s H') : sDPut td ty tv E s H := by
  refine hv.run S fun v H1 S1 => ho.run S1 fun x H2 S2 => hi.run S2 fun y H3 S3 => ?_
  obtain ⟨F, T⟩ := S3
  obtain ⟨_, _, kvs, hx, h1, h2⟩ := T.mu _ (List.mem_of_getElem? hk)
  obtain ⟨b, e, hb⟩ := T.top.key
  have DMh : DM C F kvs m := ⟨h1, h2⟩
  have r := T.tmp (v, d) (by simp)
  refine ⟨a, _, (T.tmp (x, .ptr a) (by simp)).ptr_inv, ?_, q _ ⟨F, (T.changeAt (m' := .dct (putM m kk d)) hk id ⟨_, upd_same, (DMh.put r).1, (DMh.put r).2⟩).fewer fun p hp => by simp [hp]⟩⟩
  rw [e]
  exact DPut.t hx (T.sub _ _ hb) (small (by rw [DMh.len]; exact hl))
theorem q_dput (k : Nat) (hv : EvD C tv rho mu d) (ho : EvD C td rho mu (.ptr a)) (hi : EvD C ty rho mu (ky kk)) (hk : mu[k]? = some (a, .dct m)) (hl : m.length < 100000) (S : Sat C c rho mu ts s H)
    (q : ∀ H', Sat C c rho (mu.set k (a, .dct (putM m kk d))) ts s H' → u E s H') : tSeq (sDPut td ty tv) u E s H := s_dput (E := { E with nx := u E }) k hv ho hi hk hl S q
theorem ev_setd (k : Nat) (ho : EvD C td rho mu (.ptr a)) (hi : EvD C ty rho mu (ky kk)) (hv : EvD C tx rho mu d0) (hk : mu[k]? = some (a, .dct m)) (hl : m.length < 100000) :
    Ev C (tSetdT td ty tx) rho mu fun d mu' => (getM m kk = some d ∧ mu' = mu) ∨ (getM m kk = none ∧ d = d0 ∧ mu' = mu.set k (a, .dct (putM m kk d0))) := fun c ts s H Q S q => by
  refine ho.run S fun x H1 S1 => ?_
  obtain ⟨F1, T1⟩ := id S1
  obtain ⟨_, _, kvs1, hx1, _⟩ := T1.mu _ (List.mem_of_getElem? hk)
  refine ⟨a, T1.top.ptr_inv, .inr ⟨kvs1, .inl hx1⟩, ?_⟩
  refine hi.run S1 fun y H2 S2 => hv.run S2 fun z H3 S3 => ?_
  obtain ⟨F, T⟩ := S3
  obtain ⟨_, _, kvs, hx, h1, h2⟩ := T.mu _ (List.mem_of_getElem? hk)
  obtain ⟨b, e, hb⟩ := (T.tmp (y, ky kk) (by simp)).key
  have DMh : DM C F kvs m := ⟨h1, h2⟩
  have r := T.tmp (z, d0) (by simp)
  refine ⟨kvs, _, b, hx, e, T.sub _ _ hb, small (by rw [DMh.len]; exact hl), fun v hv => ?_, fun hn => ?_⟩
  · rcases DMh.get (k := kk) with ⟨_, b2⟩ | ⟨d', v', g1, g2, g3⟩
    · rw [b2] at hv; cases hv
    · rw [g2] at hv
      cases hv
      exact q _ d' _ H3 (.inl ⟨g1, rfl⟩) ⟨F, (T.fewer fun p hp => by simp [hp]).push g3⟩
  · rcases DMh.get (k := kk) with ⟨b1, b2⟩ | ⟨d', v', g1, g2, g3⟩
    · exact q _ d0 _ _ (.inr ⟨b1, rfl, rfl⟩) ⟨F, ((T.changeAt (m' := .dct (putM m kk d0)) hk id ⟨_, upd_same, (DMh.put r).1, (DMh.put r).2⟩).fewer fun p hp => by simp [hp]).push r⟩
    · rw [g2] at hn; cases hn
/-- a dict that is known for good -/
theorem DR.dct_inv {ks : List (List Int)} (h : DR C F v (.dct ks ds)) : ∃ a ob kvs, v = .ref a ∧ F a = some (.frz ob (.dT kvs)) ∧ ks.length = ds.length ∧ DM C F kvs (ks.zip ds) := by
  cases h with
  | @dct a ob kvs _ _ hF hk hl hi =>
    have l : ks.length = ds.length := by
      have := congrArg List.length hk
      rw [List.length_map, List.length_map] at this
      omega
    have e2 : (ks.zip ds).map (·.2) = ds := List.map_snd_zip (by omega)
    refine ⟨a, ob, kvs, rfl, hF, l, ?_, ?_⟩
    · rw [hk]
      have e1 : (ks.zip ds).map (·.1) = ks := List.map_fst_zip (by omega)
      conv => lhs; rw [← e1]
      rw [List.map_map]
      rfl
    · rw [e2]
      refine ⟨by simpa using hl, fun i v d a b => ?_⟩
      rw [List.getElem?_map] at a
      cases q : kvs[i]? with
      | none => rw [q] at a; cases a
      | some p =>
        rw [q] at a
        cases a
        exact hi i p d q b
theorem ev_dgetF {ks : List (List Int)} (ho : EvD C td rho mu (.dct ks ds)) (hi : EvD C ty rho mu (ky kk)) (hg : getM (ks.zip ds) kk = some d) : EvD C (tDGet td ty) rho mu d := EvD.of fun c ts s H Q S q => ho.run S fun x H1 S1 => hi.run S1 fun y H2 S2 => by
  obtain ⟨F, T⟩ := S2
  obtain ⟨b, e, hb⟩ := T.top.key
  obtain ⟨a, ob, kvs, e2, ha, _, dm⟩ := (T.tmp (x, .dct ks ds) (by simp)).dct_inv
  rcases dm.get (k := kk) with ⟨b1, _⟩ | ⟨d', v', g1, g2, g3⟩
  · rw [b1] at hg; cases hg
  · rw [hg] at g1
    cases g1
    exact ⟨a, v', e2, .inr ⟨kvs, _, b, .inr ⟨ob, T.sub _ _ ha⟩, e, T.sub _ _ hb, g2.symm⟩, q _ H2 ⟨F, (T.fewer fun p hp => by simp [hp]).push g3⟩⟩
/-- the keys' own tuples are known -/
theorem keys_drs {H : Hp} : ∀ {kvs : List (List Key × V)} {bs : List Addr} {ks : List (List Int)}, IsKeys H kvs bs → kvs.map (·.1) = ks.map (fun k => k.map Sum.inl) → ∀ (i : Nat) k, ks[i]? = some k → ∃ b, bs[i]? = some b ∧ H b = some (.tup (k.map V.int))
  | _, _, [], _, _, i, k, h => by simp at h
  | _, _, q :: ks, .nil, e, _, _, _ => by simp at e
  | _, _, q :: ks, .cons hp t, e, 0, k, h => by
    rw [List.map_cons, List.map_cons] at e
    injection e with e1 e2
    have hq : q = k := by simpa using h
    refine ⟨_, rfl, ?_⟩
    rw [hp, e1, hq, List.map_map]
    rfl
  | _, _, q :: ks, .cons hp t, e, i + 1, k, h => by
    rw [List.map_cons, List.map_cons] at e
    injection e with e1 e2
    exact keys_drs t e2 i k (by simpa using h)
/-- what stands in a tuple may be known -/
theorem SatF.know {b : Addr} {k : List Int} (T : SatF C c rho mu ts s F H) (hb : H b = some (.tup (k.map V.int))) : SatF C c rho mu ((.ref b, ky k) :: ts) s (upd F b (.tup (k.map V.int))) H :=
  (T.grow (Gr.tup T.sub hb)).push (.tup upd_same (by simp) (DRs.ints k).2)
theorem know_all : ∀ {bs : List Addr} {ks : List (List Int)} {F : Hp} {ts : List (V × D)}, SatF C c rho mu ts s F H → bs.length = ks.length → (∀ (i : Nat) k, ks[i]? = some k → ∃ b, bs[i]? = some b ∧ H b = some (.tup (k.map V.int))) → ∃ F', SatF C c rho mu ts s F' H ∧ DRs C F' (bs.map V.ref) (ks.map ky)
  | [], [], F, ts, T, _, _ => ⟨F, T, .nil⟩
  | [], _ :: _, _, _, _, h, _ => by simp at h
  | _ :: _, [], _, _, _, h, _ => by simp at h
  | b :: bs, k :: ks, F, ts, T, h, g => by
    obtain ⟨b', e, hb⟩ := g 0 k rfl
    have e' : b = b' := by simpa using e
    subst e'
    obtain ⟨F', T', r⟩ := know_all (T.know hb) (by simpa using h) fun i k hk => by
      obtain ⟨b', e, hb⟩ := g (i + 1) k (by simpa using hk)
      exact ⟨b', by simpa using e, hb⟩
    exact ⟨F', T'.fewer fun p hp => List.mem_cons_of_mem _ hp, .cons (T'.tmp _ List.mem_cons_self) r⟩
theorem isKeys_len {H : Hp} {kvs : List (List Key × V)} {bs : List Addr} (h : IsKeys H kvs bs) : kvs.length = bs.length := Paired.length h
theorem DR.dct_keys {ks : List (List Int)} (h : DR C F v (.dct ks ds)) : ∃ a ob kvs, v = .ref a ∧ F a = some (.frz ob (.dT kvs)) ∧ kvs.map (·.1) = ks.map (fun k => k.map Sum.inl) := by
  cases h with
  | dct hF hk hl hi => exact ⟨_, _, _, rfl, hF, hk⟩
/-- list(d) -/
theorem el_listF {ks : List (List Int)} (ho : EvD C td rho mu (.dct ks ds)) : EvN C (tCB (fun xs H Q => ∃ d kvs, xs = [V.ref d] ∧ Rd H d (.dT kvs) ∧ ∀ p bs, H p = none → IsKeys H kvs bs → Q (.ref p) (upd H p (.lst (bs.map V.ref)))) (tCons td tNil)) rho mu (ks.map ky) := EvN.of fun c ts s H Q S q => ho.run S fun x H1 S1 => by
  obtain ⟨F, T⟩ := S1
  obtain ⟨a, ob, kvs, e, ha, hk⟩ := T.top.dct_keys
  refine ⟨a, kvs, by rw [e], .inr ⟨ob, T.sub _ _ ha⟩, fun p bs hp hb => ?_⟩
  have l : bs.length = ks.length := by
    have := congrArg List.length hk
    rw [List.length_map, List.length_map] at this
    have := isKeys_len hb
    omega
  obtain ⟨F', T', r⟩ := know_all T l (keys_drs hb hk)
  exact q p _ ((T'.newL hp r).fewer fun p hp => by
    simp only [List.mem_cons] at hp ⊢
    rcases hp with h | h
    · exact .inl h
    · exact .inr (.inr h))
/-- for k in d -/
theorem evi_keysF {ks : List (List Int)} (h : EvD C td rho mu (.dct ks ds)) : EvI C (iKeys td) rho mu (ks.map ky) := fun c ts s H R S q => h.run S fun v H1 S1 => by
  obtain ⟨F, T⟩ := id S1
  obtain ⟨a, ob, kvs, e, ha, hk⟩ := T.top.dct_keys
  subst e
  have l : kvs.length = ks.length := by
    have := congrArg List.length hk
    rwa [List.length_map, List.length_map] at this
  have fr : ∀ {rho : List (Option D)} {mu : Mu} {s : L2.St} {H : Hp}, Sat C c rho mu ([(V.ref a, D.obj (.frz ob (.dT kvs)))] ++ ts) s H → H a = some (.frz ob (.dT kvs)) := fun ⟨F, T⟩ => by
    obtain ⟨a', e, h⟩ := (T.tmp (.ref a, .obj (.frz ob (.dT kvs))) (by simp)).obj_inv
    cases e
    exact T.sub _ _ h
  have S2 : Sat C c rho mu ([(V.ref a, D.obj (.frz ob (.dT kvs)))] ++ ts) s H1 := ⟨F, (T.push (.obj ha)).fewer fun p hp => by
    simp only [List.cons_append, List.nil_append, List.mem_cons] at hp ⊢
    rcases hp with h | h
    · exact .inl h
    · exact .inr (.inr h)⟩
  refine ⟨a, ob, rfl, .inr ⟨kvs, T.sub _ _ ha, q _ H1 [(.ref a, .obj (.frz ob (.dT kvs)))] ⟨fun i rho mu s H S hi => ⟨fr S, ?_⟩, fun rho mu s H S => ⟨fr S, ?_⟩, fun i d rho mu s H x H' hd S y => ?_⟩ S2⟩⟩
  · rw [List.length_map] at hi
    omega
  · rw [List.length_map]
    omega
  · obtain ⟨e, k, v, b, hkv, ex, hb⟩ := y
    subst e; subst ex
    rw [List.getElem?_map] at hd
    have e1 : (kvs.map (·.1))[i]? = some k := by rw [List.getElem?_map, hkv]; rfl
    rw [hk, List.getElem?_map] at e1
    cases q2 : ks[i]? with
    | none => rw [q2] at hd; cases hd
    | some k0 =>
      rw [q2] at hd e1
      cases hd
      cases e1
      rw [List.map_map] at hb
      obtain ⟨F, T⟩ := S
      exact ⟨_, T.know hb⟩
/-- a dict of one's own, let go: locked for good -/
theorem ev_frz (h : EvD C te rho ((a, .dct m) :: mu) (.ptr a)) : Ev C (tFrzE te) rho ((a, .dct m) :: mu) fun d mu' => d = .dct (m.map (·.1)) (m.map (·.2)) ∧ mu' = mu := fun c ts s H Q S q => h.run S fun v H1 S1 => by
  obtain ⟨F, T⟩ := S1
  have e := T.top.ptr_inv
  subst e
  obtain ⟨fa, oa, kvs, hx, h1, h2⟩ := T.mu _ List.mem_cons_self
  refine ⟨a, .dT kvs, rfl, hx, trivial, fun od => ?_⟩
  have k1 : Same F (upd F a (.frz od (.dT kvs))) := Same.new fa
  have nd := List.nodup_cons.mp T.nd
  have ne : ∀ q ∈ mu, q.1 ≠ a := fun q hq z => nd.1 (List.mem_map.mpr ⟨q, hq, z⟩)
  have hd : DR C (upd F a (.frz od (.dT kvs))) (.ref a) (.dct (m.map (·.1)) (m.map (·.2))) := by
    refine .dct upd_same (by rw [h1, List.map_map]; rfl) (by have := h2.1; simpa using this) fun i p d x y => (h2.2 i p.2 d (by rw [List.getElem?_map, x]; rfl) y).mono k1
  refine q _ _ mu _ ⟨rfl, rfl⟩ ⟨upd F a (.frz od (.dT kvs)), T.ex.trans k1, fun b u e => ?_, fun b u n e => ?_, fun b u e => ?_, fun b e => ?_, T.slen, fun i d e => ?_, fun p hp => ?_, nd.2, fun q hq => ?_⟩
  · by_cases z : b = a
    · subst z; rw [upd_same] at e ⊢; exact e
    · rw [upd_ne z] at e ⊢; exact T.sub b u e
  · by_cases z : b = a
    · subst z
      rw [show c.H0 b = none from oa] at e
      cases e
    · rw [upd_ne z]; exact T.keep b u n e
  · by_cases z : b = a
    · subst z; exact .inr (.inl oa)
    · rw [upd_ne z] at e; exact T.new b u e
  · by_cases z : b = a
    · subst z; rw [upd_same] at e; cases e
    · rw [upd_ne z] at e; exact T.dom b e
  · obtain ⟨v, x1, x2⟩ := T.slot i d e
    exact ⟨v, x1, x2.mono k1⟩
  · rcases List.mem_cons.mp hp with e | hp
    · subst e; exact hd
    · exact (T.tmp p (List.mem_cons_of_mem _ hp)).mono k1
  · obtain ⟨x1, x2, x3⟩ := T.mu q (List.mem_cons_of_mem _ hq)
    exact ⟨by rw [upd_ne (ne q hq)]; exact x1, x2, x3.mono k1 fun o e => by rw [upd_ne (ne q hq)]; exact e⟩
/-- sorted(d), d of one's own, the keys pairs -/
theorem el_sortD {ps : List (Nat × Nat)} (ho : EvD C td rho mu (.ptr a)) (hk : (a, MO.dct m) ∈ mu) (hm : m.map (·.1) = ps.map kp) (hb : ∀ p ∈ ps, p.1 < 64 ∧ p.2 < 64) (hn : ps.Nodup) (out : List (Nat × Nat)) (hs : out.Pairwise fun p q => cd p < cd q) (hmo : ∀ p, p ∈ out ↔ p ∈ ps) : EvN C (tCB rSortDT (tCons td tNil)) rho mu (out.map tp) := EvN.of fun c ts s H Q S q => ho.run S fun x H1 S1 => by
  obtain ⟨F, T⟩ := S1
  obtain ⟨_, _, kvs, hx, h1, h2⟩ := T.mu _ hk
  have e0 : m.map (fun p => p.1.map (Sum.inl (β := Str))) = (m.map (·.1)).map (fun k => k.map Sum.inl) := by rw [List.map_map]; rfl
  refine ⟨a, kvs, ps.map (fun p => ((p.1 : Int), (p.2 : Int))), by rw [T.top.ptr_inv], .inl hx, by rw [h1, e0, hm, List.map_map, List.map_map]; rfl, fun L p hL pm pw hp => ?_⟩
  have pwc : ∀ p q : Nat × Nat, p.1 < 64 ∧ p.2 < 64 → q.1 < 64 ∧ q.2 < 64 → SrtO.lexB ((q.1 : Int), (q.2 : Int)) ((p.1 : Int), (p.2 : Int)) = false → cd p ≤ cd q := fun p q hp hq h => by
    have := SrtO.lexB_no.mp h
    unfold cd
    dsimp only at this
    omega
  have hex : ∀ (L : List Addr), (∀ b ∈ L, keyAt H1 (.ref b) ∈ ps.map (fun p => ((p.1 : Int), (p.2 : Int)))) → ∃ zs : List (Nat × Nat), L.map (fun b => keyAt H1 (.ref b)) = zs.map (fun p => ((p.1 : Int), (p.2 : Int))) ∧ ∀ z ∈ zs, z ∈ ps := by
    intro L
    induction L with
    | nil => intro _; exact ⟨[], rfl, fun z h => by cases h⟩
    | cons b L ih =>
      intro h
      obtain ⟨zs, e, hz⟩ := ih fun x hx => h x (List.mem_cons_of_mem _ hx)
      obtain ⟨y, hy, e2⟩ := List.mem_map.mp (h b List.mem_cons_self)
      exact ⟨y :: zs, by rw [List.map_cons, List.map_cons, e, e2], fun z hz' => (List.mem_cons.mp hz').elim (fun e => by rw [e]; exact hy) (hz z)⟩
  obtain ⟨zs, ez, hz⟩ := hex L fun b hb' => pm.mem_iff.mp (List.mem_map.mpr ⟨b, hb', rfl⟩)
  have inj : ∀ {p q : Nat × Nat}, ((p.1 : Int), (p.2 : Int)) = ((q.1 : Int), (q.2 : Int)) → p = q := fun {p q} h => by
    injection h with h1 h2
    exact Prod.ext (by omega) (by omega)
  rw [ez] at pm
  have ndz : zs.Nodup := by
    have n1 : (ps.map (fun p => ((p.1 : Int), (p.2 : Int)))).Nodup := List.pairwise_map.mpr (hn.imp fun h e => h (inj e))
    have n2 := pm.nodup_iff.mpr n1
    exact (List.pairwise_map.mp n2).imp fun h e => h (by rw [e])
  have mz : ∀ z, z ∈ zs ↔ z ∈ ps := fun z => by
    constructor
    · exact hz z
    · intro h
      obtain ⟨y, hy, e⟩ := List.mem_map.mp (pm.mem_iff.mpr (List.mem_map.mpr ⟨z, h, rfl⟩))
      rw [← inj e]
      exact hy
  have pwz : zs.Pairwise fun p q => cd p < cd q := by
    have p1 : (L.map fun b => keyAt H1 (.ref b)).Pairwise fun x y => SrtO.lexB y x = false := List.pairwise_map.mpr pw
    rw [ez] at p1
    refine List.Pairwise.imp_of_mem (fun {p q} hp hq ⟨h1, h2⟩ => ?_) ((List.pairwise_map.mp p1).and ndz)
    have b1 := hb p (hz p hp)
    have b2 := hb q (hz q hq)
    have := pwc p q b1 b2 h1
    have h3 : cd p ≠ cd q := fun z => h2 (by unfold cd at z; exact Prod.ext (by omega) (by omega))
    omega
  have ezo : zs = out := asc_uniq pwz hs fun p => by rw [hmo, mz]
  subst ezo
  have lz : L.length = (zs.map kp).length := by
    have := congrArg List.length ez
    rw [List.length_map, List.length_map] at this
    rw [List.length_map, this]
  obtain ⟨F', T', r⟩ := know_all (bs := L) (ks := zs.map kp) T lz fun i k hk => by
    rw [List.getElem?_map] at hk
    cases qz : zs[i]? with
    | none => rw [qz] at hk; cases hk
    | some z =>
      rw [qz] at hk
      cases hk
      have e3 : (L.map fun b => keyAt H1 (.ref b))[i]? = some ((z.1 : Int), (z.2 : Int)) := by rw [ez, List.getElem?_map, qz]; rfl
      rw [List.getElem?_map] at e3
      cases qb : L[i]? with
      | none => rw [qb] at e3; cases e3
      | some b =>
        rw [qb] at e3
        obtain ⟨y, hy, ey⟩ := hL b (List.mem_of_getElem? qb)
        have e4 : keyAt H1 (.ref b) = ((z.1 : Int), (z.2 : Int)) := Option.some.inj e3
        rw [e4] at ey
        subst ey
        exact ⟨b, rfl, hy⟩
  have er : (zs.map kp).map ky = zs.map tp := by rw [List.map_map]; rfl
  rw [er] at r
  exact q p _ ((T'.newL hp r).fewer fun p hp => by
    simp only [List.mem_cons] at hp ⊢
    rcases hp with h | h
    · exact .inl h
    · exact .inr (.inr h))
/-- {k: v for x in ..}, no key twice -/
theorem ev_dc {wi : TI} {g : TG} {vs : List Nat} (f : D → List Int) (gv : D → D) (hI : EvI C wi rho mu ds) (hn : ds.length < 100000) (hnd : (ds.map f).Nodup)
    (step : ∀ (i : Nat) d, ds[i]? = some d → ∃ rho2 js, BindG C g d (wipeD rho vs) rho2 js ∧ (∀ j ∈ js, j ∈ vs) ∧ ∀ mu', EvD C td rho2 mu' (ky (f d)) ∧ EvD C tv rho2 mu' (gv d)) :
    Ev C (tDcT wi g tYes td tv vs) rho mu fun d mu' => ∃ p, d = .ptr p ∧ mu' = (p, .dct (ds.map fun d => (f d, gv d))) :: mu := fun c ts s H Q S q => by
  refine hI c ts s H _ S fun J H1 tx ⟨w1, w2, w3⟩ S1 => fun p hp => ?_
  obtain ⟨F1, T1⟩ := S1
  have T2 : Sat C c rho ((p, .dct []) :: mu) (tx ++ ts) s (upd H1 p (.dT [])) := Sat.pop ⟨F1, T1.own (m := .dct []) hp ⟨[], upd_same, rfl, .nil⟩⟩
  refine ⟨fun i n H => n = ds.length - i ∧ i ≤ ds.length ∧ Sat C c rho ((p, .dct ((ds.take i).map fun d => (f d, gv d))) :: mu) (tx ++ ts) s H, ⟨ds.length, by simp, Nat.zero_le _, T2⟩, ?_⟩
  rintro i n H2 ⟨rfl, hi, S2⟩
  by_cases hlt : i < ds.length
  · refine .inr ⟨w1 i _ _ s H2 S2 hlt, fun H' => i + 1 ≤ ds.length ∧ Sat C c rho ((p, .dct ((ds.take (i + 1)).map fun d => (f d, gv d))) :: mu) (tx ++ ts) s H', fun H' z => ⟨ds.length - (i + 1), by omega, rfl, z⟩, fun x H3 yl => ?_⟩
    have hd : ds[i]? = some ds[i] := List.getElem?_eq_getElem hlt
    obtain ⟨rho2, js, hb, hj, st⟩ := step i _ hd
    obtain ⟨F3, T3⟩ := w3 i _ _ _ s H2 x H3 hd S2 yl
    obtain ⟨tz, T4, back⟩ := T3.pin
    have S4 : Sat C c rho ((p, .dct ((ds.take i).map fun d => (f d, gv d))) :: mu) ((x, ds[i]) :: (tz ++ (tx ++ ts))) s H3 := ⟨F3, T4.fewer fun q hq => by
      simp only [List.mem_cons, List.mem_append] at hq ⊢
      rcases hq with h | h | h | h
      · exact .inr (.inl h)
      · exact .inl h
      · exact .inr (.inr (.inl h))
      · exact .inr (.inr (.inr h))⟩
    refine hb c _ _ (wipe s vs) H3 x _ (S4.wipe vs) fun s5 H5 l5 k5 S5 => ?_
    refine ⟨wipe_back l5 k5 hj, ?_⟩
    rw [if_pos rfl]
    obtain ⟨ev1, ev2⟩ := st ((p, .dct ((ds.take i).map fun d => (f d, gv d))) :: mu)
    refine ev1.run S5 fun y H6 S6 => ev2.run S6 fun z H7 S7 => ?_
    obtain ⟨F7, T7⟩ := S7
    obtain ⟨_, _, kvs, hx, h1, h2⟩ := T7.mu _ List.mem_cons_self
    have dm : DM C F7 kvs ((ds.take i).map fun d => (f d, gv d)) := ⟨h1, h2⟩
    obtain ⟨b, e, hb'⟩ := (T7.tmp (y, ky (f ds[i])) (by simp)).key
    refine ⟨kvs, _, b, e, T7.sub _ _ hb', hx, small (by rw [dm.len, List.length_map, List.length_take]; omega), hlt, ?_⟩
    have et : ds.take (i + 1) = ds.take i ++ [ds[i]] := by rw [List.take_succ, hd]; rfl
    have ng : getM ((ds.take i).map fun d => (f d, gv d)) (f ds[i]) = none := getM_none.mpr fun hm => by
      rw [List.map_map] at hm
      have hm' : f ds[i] ∈ (ds.take i).map f := hm
      have nd2 := hnd
      have e2 : ds = ds.take i ++ ds[i] :: ds.drop (i + 1) := by rw [List.getElem_cons_drop, List.take_append_drop]
      rw [e2, List.map_append, List.map_cons] at nd2
      exact (List.nodup_append.mp nd2).2.2 _ hm' _ List.mem_cons_self rfl
    have ep : (ds.take (i + 1)).map (fun d => (f d, gv d)) = putM ((ds.take i).map fun d => (f d, gv d)) (f ds[i]) (gv ds[i]) := by
      rw [putM_new _ ng, et, List.map_append]
      rfl
    rw [ep]
    exact back _ _ _ _ _ ⟨F7, (T7.changeAt (k := 0) (m' := .dct (putM _ (f ds[i]) (gv ds[i]))) rfl id ⟨_, upd_same, (dm.put T7.top).1, (dm.put T7.top).2⟩).fewer fun q hq => List.mem_cons_of_mem _ (List.mem_cons_of_mem _ hq)⟩
  · have e : i = ds.length := by omega
    subst e
    refine .inl ⟨w2 _ _ s H2 S2, ?_⟩
    rw [List.take_length] at S2
    obtain ⟨F, T⟩ := S2
    exact q _ (.ptr p) _ H2 ⟨p, rfl, rfl⟩ ⟨F, (T.temps (fun q hq => by
      rcases List.mem_cons.mp hq with e | hq
      · subst e; exact .ptr p
      · exact T.tmp q (List.mem_append_right _ hq)))⟩
end
end DL
/-! a dict whose keys are tuples of pairs, the values whole numbers -/
namespace DL
open PySem PySem.Spec PyProof.Rows L2 Mth

def nk1 (p : Nat × Nat) : NestedKey := .tup [.num (p.1 : Int), .num (p.2 : Int)]
def nk (r : List (Nat × Nat)) : NestedKey := .tup (r.map nk1)
theorem nk1_inj {p q : Nat × Nat} (h : nk1 p = nk1 q) : p = q := by
  unfold nk1 at h
  injection h with h
  injection h with h1 h
  injection h1 with h1
  injection h with h2 _
  injection h2 with h2
  exact Prod.ext (by omega) (by omega)
theorem nk_inj : ∀ {r q : List (Nat × Nat)}, nk r = nk q → r = q := by
  have go : ∀ {r q : List (Nat × Nat)}, r.map nk1 = q.map nk1 → r = q := by
    intro r
    induction r with
    | nil =>
      intro q h
      cases q with
      | nil => rfl
      | cons _ _ => simp at h
    | cons x r ih =>
      intro q h
      cases q with
      | nil => simp at h
      | cons y q =>
        rw [List.map_cons, List.map_cons] at h
        injection h with h1 h2
        rw [nk1_inj h1, ih h2]
  intro r q h
  unfold nk at h
  injection h with h
  exact go h
theorem nk_depth (r : List (Nat × Nat)) : (nk r).depth ≤ 8 := by
  have go : ∀ r : List (Nat × Nat), NestedKey.depthAll (r.map nk1) ≤ 1 := by
    intro r
    induction r with
    | nil => exact Nat.zero_le _
    | cons x r ih =>
      show max (nk1 x).depth (NestedKey.depthAll (r.map nk1)) ≤ 1
      exact Nat.max_le.mpr ⟨Nat.le_refl 1, ih⟩
  show NestedKey.depthAll (r.map nk1) + 1 ≤ 8
  have := go r
  omega
/-- the tuple of pairs at b -/
def PairsAt (H : Hp) (b : Addr) (r : List (Nat × Nat)) : Prop := ∃ cs : List Addr, H b = some (.tup (cs.map V.ref)) ∧ cs.length = r.length ∧ ∀ (i : Nat) c p, cs[i]? = some c → r[i]? = some p → H c = some (.tup [.int (p.1 : Int), .int (p.2 : Int)])
section
variable {X : Cx} {pins : List (Addr × Obj)} {σ : L2.St} {H : Hp} {s : Shared} {a b : Addr} {r : List (Nat × Nat)}
theorem nested_all (I : Inv X pins σ H s) : ∀ (cs : List Addr) (r : List (Nat × Nat)), cs.length = r.length → (∀ (i : Nat) c p, cs[i]? = some c → r[i]? = some p → H c = some (.tup [.int (p.1 : Int), .int (p.2 : Int)])) → NestedAll s.heap (r.map nk1) (cs.map Value.ref)
  | [], [], _, _ => .nil
  | [], _ :: _, h, _ => by simp at h
  | _ :: _, [], h, _ => by simp at h
  | c :: cs, p :: r, h, g => by
    refine .cons ?_ (nested_all I cs r (by simpa using h) fun i c p h1 h2 => g (i + 1) c p (by simpa using h1) (by simpa using h2))
    obtain ⟨_, its, rv, o, ho, hc, n, hd⟩ := I.hok _ _ (g 0 c p rfl rfl)
    obtain ⟨u1, u2, rfl, ⟨t1, e1⟩, t2, e2⟩ := vals2 rv
    subst e1; subst e2
    exact .tup ho hc hd (.cons (.int _ _) (.cons (.int _ _) .nil))
theorem nested_of (I : Inv X pins σ H s) (h : PairsAt H b r) : NestedIs s.heap (nk r) (.ref b) := by
  obtain ⟨cs, hb, hl, hc⟩ := h
  obtain ⟨_, its, rv, o, ho, hcl, n, hd⟩ := I.hok _ _ hb
  have e3 : its = cs.map Value.ref := refs_at rv
  subst e3
  exact .tup ho hcl hd (by simpa using nested_all I cs r hl hc)
/-- the dict at a, its entries as they stand -/
def NKO (P : Program) (w : World) (a : Addr) (xs : List (NestedKey × Addr × Value)) : HO := .ext fun h => (a == sysModules) = false ∧ ∃ o es ep, h.get? a = some o ∧ o.ExactDict ∧ o.data = .dict es ep ∧ es.toList = xs.map (entryOfKey (nestedKind P w)) ∧ (xs.map (·.1)).Nodup
abbrev KeysAt (H : Hp) (xs : List (NestedKey × Addr × Value)) : Prop := ∀ z ∈ xs, ∃ q, z.1 = nk q ∧ PairsAt H z.2.1 q
theorem nko_ok {P : Program} {w : World} {H : Hp} {h : Heap} {a : Addr} {xs : List (NestedKey × Addr × Value)} (hs : (a == sysModules) = false) (d : h.DictOfH (nestedKind P w) a xs) : ObjOk P w H h a (NKO P w a xs) := by
  obtain ⟨o, es, ep, ho, h1, h2, h3, _, h5⟩ := d
  refine ⟨⟨hs, o, es, ep, ho, h1, h2, h3, h5⟩, ⟨o, ho⟩, fun h1 h2 p k => ?_⟩
  obtain ⟨hs, o, es, ep, ho, q⟩ := p
  exact ⟨hs, o, es, ep, k o ho, q⟩
theorem nko_at (I : Inv X pins σ H s) {xs : List (NestedKey × Addr × Value)} (ha : H a = some (NKO X.prog X.w a xs)) (hk : KeysAt H xs) : (a == sysModules) = false ∧ s.heap.DictOfH (nestedKind X.prog X.w) a xs := by
  obtain ⟨⟨hs, o, es, ep, ho, h1, h2, h3, h5⟩, _⟩ := I.hok a _ ha
  refine ⟨hs, o, es, ep, ho, h1, h2, h3, fun z hz => ?_, h5⟩
  obtain ⟨q, e, hq⟩ := hk z hz
  rw [e]
  exact ⟨nested_of I hq, nk_depth q⟩
def tNNew (P : Program) (w : World) : TE := fun _ H Q => ∀ p, H p = none → Q (.ref p) (upd H p (NKO P w p []))
theorem pe_nnew {pos : Pos} : PE X (.Dict [] [] pos) (tNNew X.prog X.w) := ⟨fun pins s σ H Q I h => by
  have hb := I.big
  have sm : (s.heap.objs.size == sysModules) = false := beq_eq_false_iff_ne.mpr (Nat.ne_of_gt hb)
  refine wpAny_Dict_empty ?_
  exact ⟨.ref s.heap.objs.size, _, I.laid (t' := s.toks) (fun b o e => Heap.get?_push_of_some _ e) (Nat.le_refl _) (nko_ok sm (Heap.DictOfH.new s.heap)), rfl, h _ (I.hok.fresh (Nat.le_refl _))⟩⟩
def rNotInN (P : Program) (w : World) : R2 := fun x y H Q => ∃ a b xs r, x = .ref b ∧ y = .ref a ∧ H a = some (NKO P w a xs) ∧ KeysAt H xs ∧ PairsAt H b r ∧ Q (.bl (!(atKey xs (nk r)).isSome)) H
theorem op_notInN {k : Nat} (hr : Room k X.A) : OpR X (compareOp .NotIn) (rNotInN X.prog X.w) := by
  intro pins s σ H x y v u Q I rx ry h
  obtain ⟨a, b, xs, r, rfl, rfl, ha, hk, hb, q⟩ := h
  cases rx; cases ry
  obtain ⟨hs, d⟩ := nko_at I ha hk
  show wpAny _ _ (do return Value.bool (!(← contains (.ref a) (.ref b))) : Sem Value) _ _ s
  exact wpAny_bind (wpAny_contains_heap (knd := nestedKind X.prog X.w) (show X.A.in1.units + 8 < cLine from by have := hr.units; show X.A.units + 1 + 8 < cLine; omega) ⟨nested_of I hb, nk_depth r⟩ hs d (wpAny_pure ⟨.bl _, H, I.tok _, rfl, q⟩))
def tNGet (P : Program) (w : World) (td ty : TE) : TE := fun σ H Q => td σ H fun x H1 => ty σ H1 fun y H2 => ∃ a b xs r p j t, x = .ref a ∧ y = .ref b ∧ H2 a = some (NKO P w a xs) ∧ KeysAt H2 xs ∧ PairsAt H2 b r ∧ atKey xs (nk r) = some p ∧ p.2 = .int j t ∧ Q (.int j) H2
theorem x_nget {k : Nat} {o i : Expr} {td ty : TE} {pos : Pos} (hr : Room k X.A) (ho : PE X o td) (hi : PE X i ty) (hs : NoSl i := by intro _ _; rfl) : PE X (.Subscript o i pos) (tNGet X.prog X.w td ty) := by
  refine ⟨fun pins s σ H Q I h => ?_⟩
  refine subD_of PySem.F.slot_dict_getitem.lookup hs (thn (ho.run pins s σ H _ I h) fun u s1 ⟨x, H1, I1, rx, q1⟩ => thn (hi.run pins s1 σ H1 _ I1 q1) fun iv s2 ⟨y, H2, I2, ry, a, b, xs, r, p, j, t, ex, ey, ha, hk, hb, hp, ej, q⟩ => ?_)
  subst ex; subst ey
  cases (show u = Value.ref a from rx)
  cases (show iv = Value.ref b from ry)
  obtain ⟨hs, d⟩ := nko_at I2 ha hk
  refine ⟨d.typeIs, wpAny_getItem_heap (knd := nestedKind X.prog X.w) (show X.A.in1.units + 8 < cLine from by have := hr.units; show X.A.units + 1 + 8 < cLine; omega) ⟨nested_of I2 hb, nk_depth r⟩ d hp ?_⟩
  exact ⟨.int j, H2, I2.tok _, ⟨t, ej⟩, q⟩
def sNPut (P : Program) (w : World) (td ty tv : TE) : TS := fun D σ H => tv σ H fun v H1 => td σ H1 fun x H2 => ty σ H2 fun y H3 => ∃ a b xs r j, v = .int j ∧ x = .ref a ∧ y = .ref b ∧ H3 a = some (NKO P w a xs) ∧ KeysAt H3 xs ∧ PairsAt H3 b r ∧ xs.length < 1000 ∧ ∀ t, D.nx σ (upd H3 a (NKO P w a (storedH xs (nk r) b (.int j t))))
theorem x_nput {k : Nat} {o i value : Expr} {td ty tv : TE} {pos pos' : Pos} (hr : Room k X.A) (ho : PE X o td) (hi : PE X i ty) (hv : PE X value tv) (hs : swapsWith value (some (.Subscript o i pos')) pos.line X.env = pure false := by rfl) : PS X (.Assign [.Subscript o i pos'] value pos) (sNPut X.prog X.w td ty tv) := by
  refine ⟨fun pins s σ H D I h => ?_⟩
  refine wpAny_Assign_Subscript (thn (hv.run pins s σ H _ I h) fun r s1 ⟨v, H1, I1, rv, q1⟩ => thn (ho.run pins s1 σ H1 _ I1 q1) fun u s2 ⟨x, H2, I2, rx, q2⟩ => thn (hi.run pins s2 σ H2 _ I2 q2) fun iv s3 ⟨y, H3, I3, ry, a, b, xs, r, j, ev, ex, ey, ha, hk, hb, hl, q⟩ => ?_) hs
  subst ev; subst ex; subst ey
  cases (show u = Value.ref a from rx)
  cases (show iv = Value.ref b from ry)
  obtain ⟨t, rfl⟩ := rv
  obtain ⟨hs, d⟩ := nko_at I3 ha hk
  refine wpAny_setItem_heap (hsz := by rw [sizeLine_eq]; omega) (knd := nestedKind X.prog X.w) (show X.A.in1.units + 8 < cLine from by have := hr.units; show X.A.units + 1 + 8 < cLine; omega) ⟨nested_of I3 hb, nk_depth r⟩ d fun h' d' hsb => ?_
  obtain ⟨o, _, _, ho', _⟩ := id d'
  exact ⟨σ, _, d_write I3 (by rw [ha]; trivial) hsb ⟨o, ho'⟩ (nko_ok hs d'), q t⟩
end

/-! ### upon data -/
theorem PairsAt.mono {F F' : Hp} {b : Addr} {r : List (Nat × Nat)} (k : Same F F') (h : PairsAt F b r) : PairsAt F' b r := by
  obtain ⟨cs, h1, h2, h3⟩ := h
  exact ⟨cs, k _ _ h1, h2, fun i c p a b => k _ _ (h3 i c p a b)⟩
def plcs (P : Program) (w : World) (a : Addr) (rows : List (List (Nat × Nat))) : Hp → HO → Prop := fun F o => ∃ xs : List (NestedKey × Addr × Value), o = NKO P w a xs ∧ xs.length = rows.length ∧ ∀ (i : Nat) z, xs[i]? = some z → ∃ q, rows[i]? = some q ∧ z.1 = nk q ∧ PairsAt F z.2.1 q ∧ ∃ t, z.2.2 = .int (i : Int) t
section
variable {rows : List (List (Nat × Nat))} {xs : List (NestedKey × Addr × Value)} {r : List (Nat × Nat)}
theorem at_none (h : ∀ (i : Nat) z, xs[i]? = some z → ∃ q, rows[i]? = some q ∧ z.1 = nk q) (hr : r ∉ rows) : atKey xs (nk r) = none := by
  unfold atKey
  rw [Option.map_eq_none_iff, List.find?_eq_none]
  intro z hz e
  obtain ⟨i, hi⟩ := List.getElem?_of_mem hz
  obtain ⟨q, h1, h2⟩ := h i z hi
  have e' : z.1 = nk r := of_decide_eq_true e
  have : q = r := nk_inj (h2.symm.trans e')
  exact hr (by rw [← this]; exact List.mem_of_getElem? h1)
theorem at_some (hl : xs.length = rows.length) (h : ∀ (i : Nat) z, xs[i]? = some z → ∃ q, rows[i]? = some q ∧ z.1 = nk q) (nd : rows.Nodup) {i : Nat} (hr : rows[i]? = some r) : ∃ z, xs[i]? = some z ∧ atKey xs (nk r) = some z.2 := by
  have hi : i < xs.length := by rw [hl]; exact (List.getElem?_eq_some_iff.mp hr).1
  have hz : xs[i]? = some xs[i] := List.getElem?_eq_getElem hi
  obtain ⟨q, h1, h2⟩ := h i _ hz
  have eq : q = r := by rw [h1] at hr; exact Option.some.inj hr
  refine ⟨xs[i], hz, ?_⟩
  unfold atKey
  have e : xs = xs.take i ++ xs[i] :: xs.drop (i + 1) := by rw [List.getElem_cons_drop, List.take_append_drop]
  have n : (xs.take i).find? (fun x => decide (x.1 = nk r)) = none := by
    rw [List.find?_eq_none]
    intro z hz e
    obtain ⟨j, hj⟩ := List.getElem?_of_mem hz
    rw [List.getElem?_take] at hj
    split at hj
    · rename_i hji
      obtain ⟨q', a, b⟩ := h j z hj
      have e' : z.1 = nk r := of_decide_eq_true e
      have : q' = r := nk_inj (b.symm.trans e')
      subst this
      have l1 := (List.getElem?_eq_some_iff.mp a)
      have l2 := (List.getElem?_eq_some_iff.mp hr)
      have := (List.getElem_inj nd).mp (l1.2.trans l2.2.symm)
      omega
    · cases hj
  conv => lhs; arg 2; rw [e]
  rw [List.find?_append, n, List.find?_cons, decide_eq_true (h2.trans (by rw [eq]))]
  rfl
end
section
variable {C : Addr} {c : Cn} {P : Program} {w : World} {K : PySem.W.Frag} {rho : List (Option D)} {mu : Mu} {ts : List (V × D)} {s : L2.St} {F H F' H' : Hp} {v : V} {d d0 d1 d2 : D} {te ta tb td ty tv tx : TE} {E : Ends} {u : TS} {a : Addr} {rows : List (List (Nat × Nat))} {r : List (Nat × Nat)}
theorem DR.pairs : ∀ {r : List (Nat × Nat)} {v : V}, DR C F v (tps r) → ∃ b, v = .ref b ∧ PairsAt F b r := by
  intro r v h
  obtain ⟨b, xs, e, hb, hs⟩ := h.tup_inv
  have go : ∀ (r : List (Nat × Nat)) (xs : List V), DRs C F xs (r.map tp) → ∃ cs : List Addr, xs = cs.map V.ref ∧ cs.length = r.length ∧ ∀ (i : Nat) c p, cs[i]? = some c → r[i]? = some p → F c = some (.tup [.int (p.1 : Int), .int (p.2 : Int)]) := by
    intro r
    induction r with
    | nil =>
      intro xs h
      cases xs with
      | nil => exact ⟨[], rfl, rfl, fun i c p h => by simp at h⟩
      | cons _ _ => have := h.1; simp at this
    | cons p r ih =>
      intro xs h
      cases xs with
      | nil => have := h.1; simp at this
      | cons x xs =>
        rw [List.map_cons] at h
        obtain ⟨cs, e, l, g⟩ := ih xs h.tail
        obtain ⟨a, ea, ha⟩ := h.head.kp_inv
        refine ⟨a :: cs, by rw [ea, e]; rfl, by simp [l], fun i c q h1 h2 => ?_⟩
        cases i with
        | zero =>
          have e1 : a = c := by simpa using h1
          have e2 : p = q := by simpa using h2
          subst e1; subst e2
          exact ha
        | succ i => exact g i c q (by simpa using h1) (by simpa using h2)
  obtain ⟨cs, e2, l, g⟩ := go r xs hs
  rw [e2] at hb
  exact ⟨b, e, cs, hb, l, g⟩
theorem ev_nnew : Ev C (tNNew P w) rho mu fun d mu' => ∃ p, d = .ptr p ∧ mu' = (p, .any (plcs P w p [])) :: mu := fun c ts s H Q ⟨F, T⟩ q p hp => q _ (.ptr p) _ _ ⟨p, rfl, rfl⟩ ⟨F, T.ownAny hp ⟨[], rfl, rfl, fun i z h => by simp at h⟩⟩
theorem plcs_keys {xs : List (NestedKey × Addr × Value)} (k : Same F H) (h : ∀ (i : Nat) z, xs[i]? = some z → ∃ q, rows[i]? = some q ∧ z.1 = nk q ∧ PairsAt F z.2.1 q ∧ ∃ t, z.2.2 = .int (i : Int) t) : KeysAt H xs := fun z hz => by
  obtain ⟨i, hi⟩ := List.getElem?_of_mem hz
  obtain ⟨q, _, e, p, _⟩ := h i z hi
  exact ⟨q, e, p.mono k⟩
theorem ev_notinN (hi : EvD C ty rho mu (tps r)) (ho : EvD C td rho mu (.ptr a)) (hk : (a, MO.any (plcs P w a rows)) ∈ mu) (hnd : rows.Nodup) : EvD C (tOp (rNotInN P w) ty td) rho mu (.bl (!decide (r ∈ rows))) := EvD.of fun c ts s H Q S q => hi.run S fun x H1 S1 => ho.run S1 fun y H2 S2 => by
  obtain ⟨F, T⟩ := S2
  obtain ⟨_, _, o, hx, _, F0, k0, xs, eo, hl, hxs⟩ := T.mu _ hk
  obtain ⟨b, e, hb⟩ := (T.tmp (x, tps r) (by simp)).pairs
  subst eo
  refine ⟨a, b, xs, r, e, T.top.ptr_inv, hx, plcs_keys (k0.trans T.sub) hxs, hb.mono T.sub, ?_⟩
  have ea : (atKey xs (nk r)).isSome = decide (r ∈ rows) := by
    by_cases hr : r ∈ rows
    · obtain ⟨i, hi⟩ := List.getElem?_of_mem hr
      obtain ⟨z, _, e⟩ := at_some hl (fun i z h => let ⟨q, a, b, _⟩ := hxs i z h; ⟨q, a, b⟩) hnd hi
      rw [e, decide_eq_true hr]
      rfl
    · rw [at_none (fun i z h => let ⟨q, a, b, _⟩ := hxs i z h; ⟨q, a, b⟩) hr, decide_eq_false hr]
      rfl
  rw [ea]
  exact q _ H2 ⟨F, (T.fewer fun p hp => by simp [hp]).push (.bl _)⟩
theorem q_nput (k : Nat) (hv : EvD C tv rho mu (nat rows.length)) (ho : EvD C td rho mu (.ptr a)) (hi : EvD C ty rho mu (tps r)) (hk : mu[k]? = some (a, .any (plcs P w a rows))) (hr : r ∉ rows) (hl : rows.length < 1000) (S : Sat C c rho mu ts s H)
    (q : ∀ H', Sat C c rho (mu.set k (a, .any (plcs P w a (rows ++ [r])))) ts s H' → u E s H') : tSeq (sNPut P w td ty tv) u E s H := by
  refine hv.run S fun v H1 S1 => ho.run S1 fun x H2 S2 => hi.run S2 fun y H3 S3 => ?_
  obtain ⟨F, T⟩ := S3
  obtain ⟨_, _, o, hx, _, F0, k0, xs, eo, hl2, hxs⟩ := T.mu _ (List.mem_of_getElem? hk)
  obtain ⟨b, e, hb⟩ := T.top.pairs
  subst eo
  have hn : atKey xs (nk r) = none := at_none (fun i z h => let ⟨q, a, b, _⟩ := hxs i z h; ⟨q, a, b⟩) hr
  refine ⟨a, b, xs, r, (rows.length : Int), (T.tmp (v, nat rows.length) (by simp)).int_inv, (T.tmp (x, .ptr a) (by simp)).ptr_inv, e, hx, plcs_keys (k0.trans T.sub) hxs, hb.mono T.sub, by omega, fun t => q _ ⟨F, ?_⟩⟩
  rw [storedH_new hn]
  refine (T.changeAt (m' := .any (plcs P w a (rows ++ [r]))) hk id ⟨_, upd_same, (by intro _ z; cases z), F, Same.refl F, _, rfl, by simp [hl2], fun i z h => ?_⟩).fewer fun p hp => by simp [hp]
  by_cases h2 : i < xs.length
  · rw [List.getElem?_append_left h2] at h
    obtain ⟨q, a1, a2, a3, a4⟩ := hxs i z h
    exact ⟨q, by rw [List.getElem?_append_left (by omega)]; exact a1, a2, a3.mono k0, a4⟩
  · rw [List.getElem?_append_right (by omega)] at h
    have hi0 : i = xs.length := by
      have := (List.getElem?_eq_some_iff.mp h).1
      simp at this
      omega
    subst hi0
    have ez : (nk r, b, Value.int (rows.length : Int) t) = z := by simpa using h
    subst ez
    exact ⟨r, by rw [hl2, List.getElem?_append_right (Nat.le_refl _), Nat.sub_self]; rfl, rfl, hb, t, by rw [hl2]⟩
theorem ev_nget {i : Nat} (ho : EvD C td rho mu (.ptr a)) (hi : EvD C ty rho mu (tps r)) (hk : (a, MO.any (plcs P w a rows)) ∈ mu) (hnd : rows.Nodup) (hr : rows[i]? = some r) : EvD C (tNGet P w td ty) rho mu (nat i) := EvD.of fun c ts s H Q S q => ho.run S fun x H1 S1 => hi.run S1 fun y H2 S2 => by
  obtain ⟨F, T⟩ := S2
  obtain ⟨_, _, o, hx, _, F0, k0, xs, eo, hl, hxs⟩ := T.mu _ hk
  obtain ⟨b, e, hb⟩ := T.top.pairs
  subst eo
  obtain ⟨z, hz, ea⟩ := at_some hl (fun i z h => let ⟨q, a, b, _⟩ := hxs i z h; ⟨q, a, b⟩) hnd hr
  obtain ⟨_, _, _, _, t, et⟩ := hxs i z hz
  exact ⟨a, b, xs, r, z.2, i, t, (T.tmp (x, .ptr a) (by simp)).ptr_inv, e, hx, plcs_keys (k0.trans T.sub) hxs, hb.mono T.sub, ea, et, q _ H2 ⟨F, (T.fewer fun p hp => by simp [hp]).push (.int _)⟩⟩
end
end DL
/-! zip of two tuples while the pair that it gave out is still there; enumerate over it -/
namespace DL
open PySem PySem.Spec PyProof.Rows L2

section
variable {prog : Program} {w : World} {A : Around} {E : Value → Shared → Prop} {s : Shared}
theorem zh_item {z TI TO T i1 i2 l1 l2 : Addr} {f : Bool} {oT : Obj} {k : Nat} {xs ys : Array Value} {x y : Value} {Q : Value → Shared → Prop} (D : ZipApart z TI TO i1 i2 l1 l2) (hz : IsZipHeld s.heap z TI TO T f) (hT : s.heap.get? T = some oT) (hTI : IsPair s.heap TI (.ref i1) (.ref i2))
    (h1 : s.heap.IsTupleIter i1 l1 k) (h2 : s.heap.IsTupleIter i2 l2 k) (hl1 : s.heap.IsTuple l1 xs) (hl2 : s.heap.IsTuple l2 ys) (hx : xs[k]? = some x) (hy : ys[k]? = some y)
    (hQ : ∀ h', IsZipHeld h' z TI TO T true → h'.IsTupleIter i1 l1 (k + 1) → h'.IsTupleIter i2 l2 (k + 1) → IsPair h' s.heap.objs.size x y → h'.objs.size = s.heap.objs.size + 1 → (∀ c o, c ≠ z → c ≠ i1 → c ≠ i2 → s.heap.get? c = some o → h'.get? c = some o) → Q (.ref s.heap.objs.size) { s with heap := h' }) :
    wpAny (model prog w) A (Builtin.«zip.__next__» ⟨[.ref z], []⟩) (fun fin s' => ∃ v, fin = .done (.ret v) ∧ Q v s') E s := by
  show wpAny _ _ (field (.ref z) 2 >>= _) _ _ _
  refine wpAny_bind (wpAny_field hz rfl (x := .bool false) rfl ?_)
  show wpAny _ _ (field (.ref z) 3 >>= _) _ _ _
  refine wpAny_bind (wpAny_field hz rfl (x := .ref TI) rfl (wpAny_bind (wpAny_seqItems hTI rfl ?_)))
  show wpAny _ _ (Builtin.SmallTypes.ownedTupleIsFree (.ref z) >>= _) _ _ _
  refine wpAny_bind (wpAny_tupleHeld_zip hz hT fun g1 gz s1 => ?_)
  rw [if_neg Bool.false_ne_true]
  refine wpAny_bind ?_
  rw [← Array.forIn_toList]
  simp only [List.forIn_cons, List.forIn_nil]
  refine wpAny_bind (wpAny_bind (wpAny_holding ?_))
  show wpAny _ _ (Builtin.SmallTypes.nextOf (.ref i1) >>= _) _ _ _
  refine wpAny_bind (RZ.nextOf_tuple_item (s := { s with heap := g1 }) (h1.extBut s1.extBut D.i1z) (hl1.extBut s1.extBut D.l1z) hx fun g2 n1 s2 => wpAny_pure (wpAny_pure ?_))
  refine wpAny_bind (wpAny_bind (wpAny_holding ?_))
  show wpAny _ _ (Builtin.SmallTypes.nextOf (.ref i2) >>= _) _ _ _
  refine wpAny_bind (RZ.nextOf_tuple_item (s := { s with heap := g2 }) ((h2.extBut s1.extBut D.i2z).extBut s2.extBut D.i12.symm) ((hl2.extBut s1.extBut D.l2z).extBut s2.extBut D.l2i1) hy fun g3 n2 s3 => wpAny_pure (wpAny_pure (wpAny_pure ?_)))
  show wpAny _ _ (newTuple [x, y] >>= _) _ _ _
  have size3 : g3.objs.size = s.heap.objs.size := by rw [s3.1, s2.1, s1.1]
  refine wpAny_bind (wpAny_newTuple (wpAny_pure ⟨_, rfl, ?_⟩))
  show Q (.ref g3.objs.size) _
  have new : IsPair (g3.push { cls := .type "tuple", data := .seq #[x, y] }) g3.objs.size x y := Heap.get?_push_size _ rfl
  have size4 : (g3.push { cls := .type "tuple", data := .seq #[x, y] }).objs.size = g3.objs.size + 1 := Heap.size_push ..
  rw [size3] at new size4 ⊢
  have up : ∀ c o, g3.get? c = some o → (g3.push { cls := .type "tuple", data := .seq #[x, y] }).get? c = some o := fun c o e => Heap.get?_push_of_some _ e
  exact hQ _ (up _ _ (s3.extBut _ _ D.i2z.symm (s2.extBut _ _ D.i1z.symm gz))) ((n1.extBut s3.extBut D.i12).at fun o e => up _ _ e) (n2.at fun o e => up _ _ e) new size4 fun c o c1 c2 c3 e => up _ _ (s3.extBut _ _ c3 (s2.extBut _ _ c2 (s1.extBut _ _ c1 e)))
theorem zh_end {z TI TO T i1 i2 l1 l2 : Addr} {f : Bool} {oT : Obj} {k : Nat} {xs ys : Array Value} {Q : PySem.Fin → Shared → Prop} (hh : A.handled = none) (D : ZipApart z TI TO i1 i2 l1 l2) (hz : IsZipHeld s.heap z TI TO T f) (hT : s.heap.get? T = some oT) (hTI : IsPair s.heap TI (.ref i1) (.ref i2))
    (h1 : s.heap.IsTupleIter i1 l1 k) (h2 : s.heap.IsTupleIter i2 l2 k) (hl1 : s.heap.IsTuple l1 xs) (hl2 : s.heap.IsTuple l2 ys) (hend : xs[k]? = none ∨ ys[k]? = none)
    (hE : ∀ h' e, (∀ c o, c ≠ z → c ≠ i1 → c ≠ i2 → s.heap.get? c = some o → h'.get? c = some o) → (∃ o, h'.get? e = some o ∧ o.cls = .type "StopIteration") → E (.ref e) { s with heap := h' }) :
    wpAny (model prog w) A (Builtin.«zip.__next__» ⟨[.ref z], []⟩) Q E s := by
  show wpAny _ _ (field (.ref z) 2 >>= _) _ _ _
  refine wpAny_bind (wpAny_field hz rfl (x := .bool false) rfl ?_)
  show wpAny _ _ (field (.ref z) 3 >>= _) _ _ _
  refine wpAny_bind (wpAny_field hz rfl (x := .ref TI) rfl (wpAny_bind (wpAny_seqItems hTI rfl ?_)))
  show wpAny _ _ (Builtin.SmallTypes.ownedTupleIsFree (.ref z) >>= _) _ _ _
  refine wpAny_bind (wpAny_tupleHeld_zip hz hT fun g1 gz s1 => ?_)
  rw [if_neg Bool.false_ne_true]
  refine wpAny_bind ?_
  rw [← Array.forIn_toList]
  simp only [List.forIn_cons, List.forIn_nil]
  refine wpAny_bind (wpAny_bind (wpAny_holding ?_))
  show wpAny _ _ (Builtin.SmallTypes.nextOf (.ref i1) >>= _) _ _ _
  cases hx : xs[k]? with
  | none => exact wpAny_bind (RZ.nextOf_tuple_end (s := { s with heap := g1 }) hh (h1.extBut s1.extBut D.i1z) (hl1.extBut s1.extBut D.l1z) hx fun g2 e s2 he => hE g2 e (fun c o c1 c2 _ q => s2 _ _ c2 (s1.extBut _ _ c1 q)) he)
  | some x =>
    have hy : ys[k]? = none := hend.resolve_left fun z => by rw [hx] at z; cases z
    refine wpAny_bind (RZ.nextOf_tuple_item (s := { s with heap := g1 }) (h1.extBut s1.extBut D.i1z) (hl1.extBut s1.extBut D.l1z) hx fun g2 n1 s2 => wpAny_pure (wpAny_pure ?_))
    refine wpAny_bind (wpAny_bind (wpAny_holding ?_))
    show wpAny _ _ (Builtin.SmallTypes.nextOf (.ref i2) >>= _) _ _ _
    exact wpAny_bind (RZ.nextOf_tuple_end (s := { s with heap := g2 }) hh ((h2.extBut s1.extBut D.i2z).extBut s2.extBut D.i12.symm) ((hl2.extBut s1.extBut D.l2z).extBut s2.extBut D.l2i1) hy fun g3 e s3 he => hE g3 e (fun c o c1 c2 c3 q => s3 _ _ c3 (s2.extBut _ _ c2 (s1.extBut _ _ c1 q))) he)

/-- the state of a zip over two tuples at turn k; o the pair that is out -/
def ZipSt (z TI TO i1 i2 l1 l2 : Addr) (k : Nat) (o : Option Addr) (h : Heap) : Prop :=
  IsPair h TI (.ref i1) (.ref i2) ∧ (∃ x y, IsPair h TO x y) ∧ h.IsTupleIter i1 l1 k ∧ h.IsTupleIter i2 l2 k ∧ (match o with
    | none => IsZip h z TI TO .none
    | some T => ∃ f, IsZipHeld h z TI TO T f)
theorem zs_item {z TI TO i1 i2 l1 l2 : Addr} {o : Option Addr} {k : Nat} {xs ys : Array Value} {x y : Value} {Q : Value → Shared → Prop} (D : ZipApart z TI TO i1 i2 l1 l2) (st : ZipSt z TI TO i1 i2 l1 l2 k o s.heap) (hT : ∀ T, o = some T → ∃ oT, s.heap.get? T = some oT)
    (hl1 : s.heap.IsTuple l1 xs) (hl2 : s.heap.IsTuple l2 ys) (hx : xs[k]? = some x) (hy : ys[k]? = some y)
    (hQ : ∀ h', ZipSt z TI TO i1 i2 l1 l2 (k + 1) (some (o.getD s.heap.objs.size)) h' → IsPair h' s.heap.objs.size x y → h'.objs.size = s.heap.objs.size + 1 → (∀ c ob, c ∉ [z, TI, TO, i1, i2] → s.heap.get? c = some ob → h'.get? c = some ob) → Q (.ref s.heap.objs.size) { s with heap := h' }) :
    wpAny (model prog w) A (Builtin.«zip.__next__» ⟨[.ref z], []⟩) (fun fin s' => ∃ v, fin = .done (.ret v) ∧ Q v s') E s := by
  obtain ⟨hTI, ⟨a, b, hTO⟩, h1, h2, hz⟩ := st
  cases o with
  | none => exact RZ.zipT_next_item D hz hTI hTO h1 h2 hl1 hl2 hx hy fun h' a1 a2 a3 a4 a5 a6 a7 => hQ h' ⟨a7 _ _ D.TIz D.TITO D.TIi1 D.TIi2 hTI, ⟨_, _, a2⟩, a3, a4, false, a1⟩ a5 a6 fun c ob hc e => a7 c ob (fun q => hc (by simp [q])) (fun q => hc (by simp [q])) (fun q => hc (by simp [q])) (fun q => hc (by simp [q])) e
  | some T =>
    obtain ⟨f, hz⟩ := hz
    obtain ⟨oT, eT⟩ := hT T rfl
    exact zh_item D hz eT hTI h1 h2 hl1 hl2 hx hy fun h' a1 a3 a4 a5 a6 a7 => hQ h' ⟨a7 _ _ D.TIz D.TIi1 D.TIi2 hTI, ⟨_, _, a7 _ _ D.TOz D.TOi1 D.TOi2 hTO⟩, a3, a4, true, a1⟩ a5 a6 fun c ob hc e => a7 c ob (fun q => hc (by simp [q])) (fun q => hc (by simp [q])) (fun q => hc (by simp [q])) e
theorem zs_end {z TI TO i1 i2 l1 l2 : Addr} {o : Option Addr} {k : Nat} {xs ys : Array Value} {Q : PySem.Fin → Shared → Prop} (hh : A.handled = none) (D : ZipApart z TI TO i1 i2 l1 l2) (st : ZipSt z TI TO i1 i2 l1 l2 k o s.heap) (hT : ∀ T, o = some T → ∃ oT, s.heap.get? T = some oT)
    (hl1 : s.heap.IsTuple l1 xs) (hl2 : s.heap.IsTuple l2 ys) (hend : xs[k]? = none ∨ ys[k]? = none) (hE : ∀ h' e, (∀ c ob, c ∉ [z, TI, TO, i1, i2] → s.heap.get? c = some ob → h'.get? c = some ob) → (∃ ob, h'.get? e = some ob ∧ ob.cls = .type "StopIteration") → E (.ref e) { s with heap := h' }) :
    wpAny (model prog w) A (Builtin.«zip.__next__» ⟨[.ref z], []⟩) Q E s := by
  obtain ⟨hTI, ⟨a, b, hTO⟩, h1, h2, hz⟩ := st
  cases o with
  | none => exact RZ.zipT_next_end hh D hz hTI hTO h1 h2 hl1 hl2 hend fun h' e a7 he => hE h' e (fun c ob hc e => a7 c ob (fun q => hc (by simp [q])) (fun q => hc (by simp [q])) (fun q => hc (by simp [q])) (fun q => hc (by simp [q])) e) he
  | some T =>
    obtain ⟨f, hz⟩ := hz
    obtain ⟨oT, eT⟩ := hT T rfl
    exact zh_end hh D hz eT hTI h1 h2 hl1 hl2 hend fun h' e a7 he => hE h' e (fun c ob hc e => a7 c ob (fun q => hc (by simp [q])) (fun q => hc (by simp [q])) (fun q => hc (by simp [q])) e) he
end

section
variable {prog : Program} {w : World} {A : Around} {E : Value → Shared → Prop} {s : Shared} {z TI TO i1 i2 l1 l2 : Addr} {o : Option Addr} {k : Nat} {xs ys : Array Value} {x y : Value}
theorem ZipSt.ty (st : ZipSt z TI TO i1 i2 l1 l2 k o s.heap) : s.TypeIs (.ref z) "zip" := by
  obtain ⟨_, _, _, _, hz⟩ := st
  cases o with
  | none => exact ⟨_, hz, rfl⟩
  | some T => obtain ⟨f, hz⟩ := hz; exact ⟨_, hz, rfl⟩
theorem zs_next {Q : Option Value → Shared → Prop} (D : ZipApart z TI TO i1 i2 l1 l2) (st : ZipSt z TI TO i1 i2 l1 l2 k o s.heap) (hT : ∀ T, o = some T → ∃ oT, s.heap.get? T = some oT) (hl1 : s.heap.IsTuple l1 xs) (hl2 : s.heap.IsTuple l2 ys) (hx : xs[k]? = some x) (hy : ys[k]? = some y)
    (hQ : ∀ h', ZipSt z TI TO i1 i2 l1 l2 (k + 1) (some (o.getD s.heap.objs.size)) h' → IsPair h' s.heap.objs.size x y → h'.objs.size = s.heap.objs.size + 1 → (∀ c ob, c ∉ [z, TI, TO, i1, i2] → s.heap.get? c = some ob → h'.get? c = some ob) → Q (some (.ref s.heap.objs.size)) { s with heap := h' }) :
    wpAny (model prog w) A (pyNext (.ref z)) Q E s := by
  unfold pyNext
  exact wpAny_bind (wpAny_attempt (wpAny_callSpecial?_slot (name := Str.ofString "__next__") st.ty F.slot_zip_next (wpAny_call_entry F.slot_zip_next st.ty F.entry_zip_next (zs_item D st hT hl1 hl2 hx hy fun h' a b c d => wpAny_pure (hQ h' a b c d)) (F.args_zip_next_1 _))))
theorem zs_stop {Q : Option Value → Shared → Prop} (hh : A.handled = none) (D : ZipApart z TI TO i1 i2 l1 l2) (st : ZipSt z TI TO i1 i2 l1 l2 k o s.heap) (hT : ∀ T, o = some T → ∃ oT, s.heap.get? T = some oT) (hl1 : s.heap.IsTuple l1 xs) (hl2 : s.heap.IsTuple l2 ys) (hend : xs[k]? = none ∨ ys[k]? = none)
    (hQ : ∀ h', (∀ c ob, c ∉ [z, TI, TO, i1, i2] → s.heap.get? c = some ob → h'.get? c = some ob) → Q none { s with heap := h' }) : wpAny (model prog w) A (pyNext (.ref z)) Q E s := by
  unfold pyNext
  refine wpAny_bind (wpAny_attempt (wpAny_callSpecial?_slot (name := Str.ofString "__next__") st.ty F.slot_zip_next (wpAny_call_entry F.slot_zip_next st.ty F.entry_zip_next (zs_end hh D st hT hl1 hl2 hend fun h' e hk ⟨ob, ho, hc⟩ => ?_) (F.args_zip_next_1 _))))
  exact wpAny_bind (wpAny_isInstance (T := "StopIteration") (b := true) ⟨ob, ho, hc⟩ isSubtype_stop (wpAny_pure (hQ _ hk)))
theorem zs_nextOf {Q : Value → Shared → Prop} (D : ZipApart z TI TO i1 i2 l1 l2) (st : ZipSt z TI TO i1 i2 l1 l2 k o s.heap) (hT : ∀ T, o = some T → ∃ oT, s.heap.get? T = some oT) (hl1 : s.heap.IsTuple l1 xs) (hl2 : s.heap.IsTuple l2 ys) (hx : xs[k]? = some x) (hy : ys[k]? = some y)
    (hQ : ∀ h', ZipSt z TI TO i1 i2 l1 l2 (k + 1) (some (o.getD s.heap.objs.size)) h' → IsPair h' s.heap.objs.size x y → h'.objs.size = s.heap.objs.size + 1 → (∀ c ob, c ∉ [z, TI, TO, i1, i2] → s.heap.get? c = some ob → h'.get? c = some ob) → Q (.ref s.heap.objs.size) { s with heap := h' }) :
    wpAny (model prog w) A (Builtin.SmallTypes.nextOf (.ref z)) Q E s := by
  unfold Builtin.SmallTypes.nextOf
  exact wpAny_bind (wpAny_callSpecial?_slot (name := Str.ofString "__next__") st.ty F.slot_zip_next (wpAny_call_entry F.slot_zip_next st.ty F.entry_zip_next (zs_item D st hT hl1 hl2 hx hy fun h' a b c d => wpAny_pure (hQ h' a b c d)) (F.args_zip_next_1 _)))
theorem zs_nextEnd {Q : Value → Shared → Prop} (hh : A.handled = none) (D : ZipApart z TI TO i1 i2 l1 l2) (st : ZipSt z TI TO i1 i2 l1 l2 k o s.heap) (hT : ∀ T, o = some T → ∃ oT, s.heap.get? T = some oT) (hl1 : s.heap.IsTuple l1 xs) (hl2 : s.heap.IsTuple l2 ys) (hend : xs[k]? = none ∨ ys[k]? = none)
    (hE : ∀ h' e, (∀ c ob, c ∉ [z, TI, TO, i1, i2] → s.heap.get? c = some ob → h'.get? c = some ob) → (∃ ob, h'.get? e = some ob ∧ ob.cls = .type "StopIteration") → E (.ref e) { s with heap := h' }) : wpAny (model prog w) A (Builtin.SmallTypes.nextOf (.ref z)) Q E s := by
  unfold Builtin.SmallTypes.nextOf
  exact wpAny_bind (wpAny_callSpecial?_slot (name := Str.ofString "__next__") st.ty F.slot_zip_next (wpAny_call_entry F.slot_zip_next st.ty F.entry_zip_next (zs_end hh D st hT hl1 hl2 hend fun h' e hk he => hE h' e hk he) (F.args_zip_next_1 _)))
/-! enumerate over it -/
theorem ez_item {e : Addr} {c : Int} {old : Value} {Q : Option Value → Shared → Prop} (D : ZipApart z TI TO i1 i2 l1 l2) (he : IsEnum s.heap e z c old) (hez : e ∉ [z, TI, TO, i1, i2]) (st : ZipSt z TI TO i1 i2 l1 l2 k o s.heap) (hT : ∀ T, o = some T → ∃ oT, s.heap.get? T = some oT)
    (hl1 : s.heap.IsTuple l1 xs) (hl2 : s.heap.IsTuple l2 ys) (hx : xs[k]? = some x) (hy : ys[k]? = some y)
    (hQ : ∀ h' tk, IsEnumOut h' e z (c + 1) (.ref s.heap.objs.size) (s.heap.objs.size + 1) → ZipSt z TI TO i1 i2 l1 l2 (k + 1) (some (o.getD s.heap.objs.size)) h' → IsPair h' s.heap.objs.size x y → IsPair h' (s.heap.objs.size + 1) (.int c tk) (.ref s.heap.objs.size) → h'.objs.size = s.heap.objs.size + 2 →
      (∀ b ob, b ∉ [e, z, TI, TO, i1, i2] → s.heap.get? b = some ob → h'.get? b = some ob) → Q (some (.ref (s.heap.objs.size + 1))) { s with heap := h', toks := tk + 1 }) :
    wpAny (model prog w) A (pyNext (.ref e)) Q E s := by
  have ty : s.TypeIs (.ref e) "enumerate" := ⟨_, he, rfl⟩
  unfold pyNext
  refine wpAny_bind (wpAny_attempt (wpAny_callSpecial?_slot (name := Str.ofString "__next__") ty F.slot_enumerate_next (wpAny_call_entry F.slot_enumerate_next ty F.entry_enumerate_next ?_ (F.args_enumerate_next_1 _))))
  obtain ⟨hp, g, d, tk, os⟩ := s
  show wpAny _ _ (field (.ref e) 2 >>= _) _ _ _
  refine wpAny_bind (wpAny_field he rfl (x := .ref z) rfl ?_)
  refine wpAny_bind (zs_nextOf D st hT hl1 hl2 hx hy fun h1 st1 p1 n1 k1 => ?_)
  replace k1 : ∀ c ob, c ∉ [z, TI, TO, i1, i2] → hp.get? c = some ob → h1.get? c = some ob := k1
  replace n1 : h1.objs.size = hp.objs.size + 1 := n1
  have he1 : IsEnum h1 e z c old := k1 _ _ hez he
  show wpAny _ _ (field (.ref e) 3 >>= _) _ _ ⟨h1, g, d, tk, os⟩
  refine wpAny_bind (wpAny_field he1 rfl (x := rawInt c) rfl ?_)
  show wpAny _ _ (field (.ref e) 4 >>= _) _ _ ⟨h1, g, d, tk, os⟩
  refine wpAny_bind (wpAny_field he1 rfl (x := .none) rfl ?_)
  show wpAny _ _ (mkInt c >>= _) _ _ ⟨h1, g, d, tk, os⟩
  refine wpAny_bind (wpAny_mkInt ?_)
  show wpAny _ _ (setField (.ref e) 3 (rawInt (c + 1)) >>= _) _ _ ⟨h1, g, d, tk + 1, os⟩
  refine wpAny_bind (wpAny_setField_rec he1 (by simp) fun h2 he2 s2 => ?_)
  replace s2 : Heap.SameBut e h1 h2 := s2
  replace he2 : IsEnum h2 e z (c + 1) old := he2
  show wpAny _ _ (setField (.ref e) 4 .none >>= _) _ _ ⟨h2, g, d, tk + 1, os⟩
  refine wpAny_bind (wpAny_setField_rec he2 (by simp) fun h3 he3 s3 => ?_)
  replace s3 : Heap.SameBut e h2 h3 := s3
  replace he3 : IsEnum h3 e z (c + 1) old := he3
  show wpAny _ _ (newTuple [.int c tk, .ref hp.objs.size] >>= _) _ _ ⟨h3, g, d, tk + 1, os⟩
  refine wpAny_bind (wpAny_newTuple ?_)
  have size3 : h3.objs.size = hp.objs.size + 1 := by rw [s3.1, s2.1, n1]
  have el : e < hp.objs.size := Heap.lt_size he
  have new : IsPair (h3.push { cls := .type "tuple", data := .seq #[.int c tk, .ref hp.objs.size] }) h3.objs.size (.int c tk) (.ref hp.objs.size) := Heap.get?_push_size _ rfl
  have size4 : (h3.push { cls := .type "tuple", data := .seq #[.int c tk, .ref hp.objs.size] }).objs.size = h3.objs.size + 1 := Heap.size_push ..
  have he4 : IsEnum (h3.push { cls := .type "tuple", data := .seq #[.int c tk, .ref hp.objs.size] }) e z (c + 1) old := Heap.get?_push_of_some _ he3
  have up4 : ∀ b ob, b ≠ e → h1.get? b = some ob → (h3.push { cls := .type "tuple", data := .seq #[.int c tk, .ref hp.objs.size] }).get? b = some ob := fun b ob hb q => Heap.get?_push_of_some _ (s3.extBut _ _ hb (s2.extBut _ _ hb q))
  rw [size3] at new size4
  generalize hh4 : h3.push { cls := .type "tuple", data := .seq #[.int c tk, .ref hp.objs.size] } = h4 at new size4 he4 up4
  show wpAny _ _ (Builtin.SmallTypes.ownedTupleIsFree (.ref e) >>= _) _ _ ⟨h4, g, d, tk + 1, os⟩
  rw [size3]
  refine wpAny_bind ?_
  unfold Builtin.SmallTypes.ownedTupleIsFree
  refine wpAny_bind (wpAny_field he4 rfl (x := .none) rfl (wpAny_pure ?_))
  simp only [if_true]
  refine wpAny_bind (wpAny_rule (wpAny_bind (wpAny_field he4 rfl (x := old) rfl (wpAny_bind (wpAny_setField_rec he4 (by simp) fun h5 he5 s5 => ?_)))))
  replace s5 : Heap.SameBut e h4 h5 := s5
  replace he5 : IsEnum h5 e z (c + 1) (.ref hp.objs.size) := he5
  show wpAny _ _ (Builtin.SmallTypes.ownedTupleHandOut (.ref e) (.ref (hp.objs.size + 1)) >>= _) _ _ ⟨h5, g, d, tk + 1, os⟩
  refine wpAny_bind ?_
  unfold Builtin.SmallTypes.ownedTupleHandOut
  refine wpAny_bind (wpAny_setField_rec he5 (by simp) fun h6 he6 s6 => ?_)
  replace s6 : Heap.SameBut e h5 h6 := s6
  replace he6 : IsEnumOut h6 e z (c + 1) (.ref hp.objs.size) (hp.objs.size + 1) := he6
  refine wpAny_setField_rec he6 (by simp) fun h7 he7 s7 => ?_
  replace s7 : Heap.SameBut e h6 h7 := s7
  replace he7 : IsEnumOut h7 e z (c + 1) (.ref hp.objs.size) (hp.objs.size + 1) := he7
  have up : ∀ b ob, b ≠ e → h1.get? b = some ob → h7.get? b = some ob := fun b ob hb q => s7.extBut _ _ hb (s6.extBut _ _ hb (s5.extBut _ _ hb (up4 b ob hb q)))
  have ne : ∀ {b : Addr}, b ∈ [z, TI, TO, i1, i2] → b ≠ e := fun hb q => hez (by rw [← q]; exact hb)
  refine wpAny_bind (wpAny_letGo (wpAny_pure ⟨_, rfl, wpAny_pure (hQ h7 tk he7 ?_ ?_ ?_ ?_ ?_)⟩))
  · obtain ⟨b1, ⟨u, v, b2⟩, b3, b4, b5⟩ := st1
    obtain ⟨f, b5⟩ := b5
    exact ⟨up _ _ (ne (by simp)) b1, ⟨u, v, up _ _ (ne (by simp)) b2⟩, b3.at fun ob q => up _ _ (ne (by simp)) q, b4.at fun ob q => up _ _ (ne (by simp)) q, f, up _ _ (ne (by simp)) b5⟩
  · exact up _ _ (Nat.ne_of_gt el) p1
  · exact s7.extBut _ _ (Nat.ne_of_gt (Nat.lt_succ_of_lt el)) (s6.extBut _ _ (Nat.ne_of_gt (Nat.lt_succ_of_lt el)) (s5.extBut _ _ (Nat.ne_of_gt (Nat.lt_succ_of_lt el)) new))
  · show h7.objs.size = hp.objs.size + 2
    rw [s7.1, s6.1, s5.1, size4]
  · intro b ob hb q
    simp only [List.mem_cons, not_or] at hb
    exact up b ob hb.1 (k1 b ob (by simp only [List.mem_cons, not_or]; exact hb.2) q)
theorem ez_stop {e : Addr} {c : Int} {old : Value} {Q : Option Value → Shared → Prop} (hh : A.handled = none) (D : ZipApart z TI TO i1 i2 l1 l2) (he : IsEnum s.heap e z c old) (st : ZipSt z TI TO i1 i2 l1 l2 k o s.heap) (hT : ∀ T, o = some T → ∃ oT, s.heap.get? T = some oT) (hl1 : s.heap.IsTuple l1 xs) (hl2 : s.heap.IsTuple l2 ys)
    (hend : xs[k]? = none ∨ ys[k]? = none) (hQ : ∀ h', (∀ b ob, b ∉ [z, TI, TO, i1, i2] → s.heap.get? b = some ob → h'.get? b = some ob) → Q none { s with heap := h' }) : wpAny (model prog w) A (pyNext (.ref e)) Q E s := by
  have ty : s.TypeIs (.ref e) "enumerate" := ⟨_, he, rfl⟩
  unfold pyNext
  refine wpAny_bind (wpAny_attempt (wpAny_callSpecial?_slot (name := Str.ofString "__next__") ty F.slot_enumerate_next (wpAny_call_entry F.slot_enumerate_next ty F.entry_enumerate_next ?_ (F.args_enumerate_next_1 _))))
  show wpAny _ _ (field (.ref e) 2 >>= _) _ _ _
  refine wpAny_bind (wpAny_field he rfl (x := .ref z) rfl (wpAny_bind (zs_nextEnd hh D st hT hl1 hl2 hend fun h' x hk ⟨ob, ho, hc⟩ => ?_)))
  exact wpAny_bind (wpAny_isInstance (T := "StopIteration") (b := true) ⟨ob, ho, hc⟩ isSubtype_stop (wpAny_pure (hQ _ hk)))
end
end DL
/-! loops whose iterator keeps the pair that it gave out -/
namespace DL
open PySem PySem.Spec PyProof.Rows L2

structure ItZ where
  go : Nat → Hp → Prop
  yld : Nat → Option Addr → Hp → V → Addr → List V → Hp → Prop
  stop : Nat → Hp → Prop
structure TurnZ (P : Program) (w : World) (K : PySem.W.Frag) (tg : Expr) (J : ItZ) (fp : List Addr) (it : Addr) (tn : Nat → Option Addr → Heap → Prop) : Prop where
  obj : ∀ i o h, tn i o h → ∀ b ∈ fp, ∃ ob, h.get? b = some ob ∧ ∀ v, ob.data ≠ .cell v
  keep : ∀ i o h h', tn i o h → (∀ b ∈ fp, ∀ ob, h.get? b = some ob → h'.get? b = some ob) → tn i o h'
  item : ∀ (X : Cx), X.prog = P → X.w = w → X.K = K → X.calm = true → ∀ (i : Nat) (o : Option Addr) (pins : List (Addr × Obj)) (s : Shared) (σ : L2.St) (H : Hp) (E : Value → Shared → Prop), Inv X pins σ H s → (∀ b ∈ fp, FpOk X pins H b) → tn i o s.heap → (∀ T, o = some T → ∃ xs, H T = some (.tup xs)) → J.go i H →
    wpAny (model P w) X.A (pyNext (.ref it)) (fun r s1 => ∃ u, r = some u ∧ wpAny (model P w) X.A (letOwnedTupleGo tg (.ref it) u) (fun _ s2 => ∃ x T xs H', Inv X pins σ H' s2 ∧ RelV x u ∧ J.yld i o H x T xs H' ∧ tn (i + 1) (some T) s2.heap ∧ ∀ b ∈ fp, H' b = none) E s1) E s
  done : ∀ (X : Cx), X.prog = P → X.w = w → X.K = K → X.calm = true → ∀ (i : Nat) (o : Option Addr) (pins : List (Addr × Obj)) (s : Shared) (σ : L2.St) (H : Hp) (E : Value → Shared → Prop), Inv X pins σ H s → (∀ b ∈ fp, FpOk X pins H b) → tn i o s.heap → (∀ T, o = some T → ∃ xs, H T = some (.tup xs)) → J.stop i H →
    wpAny (model P w) X.A (pyNext (.ref it)) (fun r s1 => r = none ∧ Inv X pins σ H s1) E s
abbrev TIz := L2.St → Hp → (ItZ → Hp → Prop) → Prop
structure PIZ (X : Cx) (tg iter : Expr) (wi : TIz) : Prop where
  run : ∀ (pins : List (Addr × Obj)) (s : Shared) (σ : L2.St) (H : Hp) (R : ItZ → Hp → Prop), Inv X pins σ H s → wi σ H R → wpAny (model X.prog X.w) X.A (eval iter X.env) (fun v s1 => wpAny (model X.prog X.w) X.A (pyIter v) (fun itv s2 =>
    ∃ (it : Addr) (fp : List Addr) (tn : Nat → Option Addr → Heap → Prop) (J : ItZ) (H' : Hp), itv = .ref it ∧ Inv X pins σ H' s2 ∧ TurnZ X.prog X.w X.K tg J fp it tn ∧ tn 0 none s2.heap ∧ (∀ b ∈ fp, FpOk X pins H' b) ∧ R J H') X.xe s1) X.xe s
def tForZ (wi : TIz) (g : TG) (tb : TS) : TS := fun D σ H => wi σ H fun J H1 => ∃ W : Nat → Nat → Option Addr → L2.St → Hp → Prop, (∃ m, W 0 m none σ H1) ∧ ∀ i m o σ H, W i m o σ H → (∀ T, o = some T → ∃ xs, H T = some (.tup xs)) ∧
  ((J.stop i H ∧ D.nx σ H) ∨ (J.go i H ∧ ∀ x T xs H', J.yld i o H x T xs H' → ∃ N : L2.St → Hp → Prop, (∀ σ' H', N σ' H' → ∃ m', m' < m ∧ W (i + 1) m' (some T) σ' H') ∧ g x σ H' fun σ2 H2 => tb { D with nx := N, ct := N, bk := D.nx } σ2 H2))
section
variable {X : Cx}
theorem ps_forZ {tg iter : Expr} {body : List Stmt} {wi : TIz} {g : TG} {tb : TS} {pos : Pos} (hp : PassesOwn (model X.prog X.w) X.A X.env X.xe) (hc : X.calm = true) (hi : PIZ X tg iter wi) (hg : PG X tg g) (hb : PSs X body tb) (hs : ∀ x, foldedSetIterable iter X.env x = pure x := by intro _; rfl) : PS X (.For tg iter body [] pos) (tForZ wi g tb) := by
  refine ⟨fun pins s σ H D I h => ?_⟩
  refine wpAny_For (thn (hi.run pins s σ H _ I h) fun v s1 h1 => thn h1 fun itv s2 ⟨it, fp, tn, J, H2, e, I2, T, st2, f2, W, ⟨m0, w0⟩, turn⟩ => ?_) hs
  subst e
  refine codeAny_forLoop_any (fun n s' => ∃ i o σ' H', Inv X pins σ' H' s' ∧ tn i o s'.heap ∧ (∀ b ∈ fp, H' b = none) ∧ W i n o σ' H') ?_ m0 ⟨0, none, σ, H2, I2, st2, fun b hb => (f2 b hb).1, w0⟩
  rintro n s3 ⟨i, o, σ3, H3, I3, st3, fr3, w3⟩
  have hf : ∀ b ∈ fp, FpOk X pins H3 b := fun b hb => ⟨fr3 b hb, (f2 b hb).2⟩
  obtain ⟨alive, tu⟩ := turn i n o σ3 H3 w3
  rcases tu with ⟨stop, qn⟩ | ⟨go, step⟩
  · refine wpAny_passesOwn hp (thn (T.done X rfl rfl rfl hc i o pins s3 σ3 H3 X.xe I3 hf st3 alive stop) fun r s4 ⟨hr, I4⟩ => ?_)
    subst hr
    exact wpAny_execs_nil ⟨σ3, H3, I4, qn⟩
  · refine wpAny_passesOwn hp (thn (T.item X rfl rfl rfl hc i o pins s3 σ3 H3 X.xe I3 hf st3 alive go) fun r s4 ⟨u, hr, h4⟩ => ?_)
    subst hr
    refine wpAny_passesOwn hp (thn h4 fun _ s5 ⟨x, T', xs, H5, I5, r5, y5, st5, fr5⟩ => ?_)
    obtain ⟨N, hN, q5⟩ := step x T' xs H5 y5
    have J5 := I5.pinned (fun b hb => ⟨fr5 b hb, (f2 b hb).2⟩) (T.obj _ _ _ st5)
    refine wpAny_passesOwn hp (thn (hg.run _ s5 σ3 H5 x u _ J5 r5 q5) fun _ s6 ⟨σ6, H6, I6, q6⟩ => ?_)
    have fin : ∀ {σ' H' s'}, Inv X (pins ++ pinsAt fp s5.heap) σ' H' s' → N σ' H' → ∃ m, m < n ∧ ∃ i o σ' H', Inv X pins σ' H' s' ∧ tn i o s'.heap ∧ (∀ b ∈ fp, H' b = none) ∧ W i m o σ' H' := fun {σ' H' s'} I' nx => by
      obtain ⟨m', hm, w'⟩ := hN _ _ nx
      have at' : ∀ b ∈ fp, ∀ ob, s5.heap.get? b = some ob → s'.heap.get? b = some ob ∧ H' b = none := fun b hb ob e =>
        have z := I'.pin (b, ob) (List.mem_append_right _ (List.mem_append_right _ (mem_pinsAt hb e)))
        ⟨z.1, z.2.1⟩
      refine ⟨m', hm, i + 1, some T', σ', H', I'.unpinned, T.keep _ _ _ _ st5 fun b hb ob e => (at' b hb ob e).1, fun b hb => ?_, w'⟩
      obtain ⟨ob, e, _⟩ := T.obj _ _ _ st5 b hb
      exact (at' b hb ob e).2
    refine wpAny_passesOwn hp (thn (hb.run _ s6 σ6 H6 _ I6 q6) fun f s7 hq => ?_)
    cases f with
    | next => obtain ⟨σ', H', I7, nx⟩ := hq; exact fin I7 nx
    | cont => obtain ⟨σ', H', I7, nx⟩ := hq; exact fin I7 nx
    | brk => obtain ⟨σ', H', I7, nx⟩ := hq; exact ⟨σ', H', I7.unpinned, nx⟩
    | ret v => obtain ⟨y, σ', H', I7, r7, nx⟩ := hq; exact ⟨y, σ', H', I7.unpinned, r7, nx⟩
end

section
variable {X : Cx} {pins : List (Addr × Obj)} {σ : L2.St} {H : Hp} {s : Shared} {h' : Heap}
/-- records of ours have turned, two new objects are laid -/
theorem turned2 {t' : Nat} {ch : List Addr} {p q : Addr} {o1 o2 : HO} (I : Inv X pins σ H s) (k : ∀ b o, b ∉ ch → s.heap.get? b = some o → h'.get? b = some o) (hf : ∀ b ∈ ch, FpOk X pins H b) (hp : s.heap.objs.size ≤ p) (hq : s.heap.objs.size ≤ q) (hpq : p ≠ q)
    (n1 : ObjOk X.prog X.w (upd (upd H p o1) q o2) h' p o1) (n2 : ObjOk X.prog X.w (upd (upd H p o1) q o2) h' q o2) : Inv X pins σ (upd (upd H p o1) q o2) { s with heap := h', toks := t' } := by
  have fp : H p = none := I.hok.fresh hp
  have fq : H q = none := I.hok.fresh hq
  have up : ∀ b u, H b = some u → (upd (upd H p o1) q o2) b = some u := fun b u e => by
    rw [upd_ne (ne_of_none e fq), upd_ne (ne_of_none e fp)]
    exact e
  have nc : ∀ b u, H b = some u → b ∉ ch := fun b u e z => by rw [(hf b z).1] at e; cases e
  refine I.step (g' := s.gens) (d' := s.drawn) (ch := ch) (fun b hb => ⟨(hf b hb).2.2.2.1, (hf b hb).2.1, (hf b hb).2.2.2.2.1, (hf b hb).2.2.2.2.2⟩) (fun b o _ _ hc e _ => k b o hc e) (fun b o _ _ hc e _ => ⟨o.slots, k b o hc e⟩) (fun b o _ e n => ?_) (fun b o hc e => ⟨o, k b o hc e⟩)
    (fun b xs e => up b _ e) (fun b o u e => up b _ e) (fun b ps e => ⟨#[], by rw [up b _ e]; simp⟩) (fun m hm => ?_) (fun b u e => ?_) I.bare
  · have l := Heap.lt_size e
    rw [upd_ne (Nat.ne_of_lt (Nat.lt_of_lt_of_le l hq)), upd_ne (Nat.ne_of_lt (Nat.lt_of_lt_of_le l hp))]
    exact n
  · obtain ⟨o, es, ep, ho, r⟩ := hm
    exact ⟨o, es, ep, k _ o (fun z => (hf _ z).2.1 rfl) ho, r⟩
  · by_cases b1 : b = q
    · subst b1
      rw [upd_same] at e
      cases e
      exact n2
    · rw [upd_ne b1] at e
      by_cases b2 : b = p
      · subst b2
        rw [upd_same] at e
        cases e
        exact n1
      · rw [upd_ne b2] at e
        refine (I.hok b u e).stay (fun c v hc z => k c v ?_ z) (fun c z => up c _ z) fun c xs z => up c _ z
        rcases hc with z | z
        · rw [z]; exact nc b u e
        · exact nc c _ z
end

/-- pairs of the tuples at a and b -/
def ItZp (K : PySem.W.Frag) (a b : Addr) : ItZ :=
  ⟨fun i H => ∃ (xs ys : List V) (x y : V), SqT K H a xs ∧ SqT K H b ys ∧ xs[i]? = some x ∧ ys[i]? = some y,
    fun i o H v T zs H' => ∃ x y p, v = .ref p ∧ H p = none ∧ H' = upd H p (.tup [x, y]) ∧ (∀ xs, SqT K H a xs → xs[i]? = some x) ∧ (∀ ys, SqT K H b ys → ys[i]? = some y) ∧ zs = [x, y] ∧ T = o.getD p,
    fun i H => ∃ xs ys : List V, SqT K H a xs ∧ SqT K H b ys ∧ (xs.length ≤ i ∨ ys.length ≤ i)⟩
/-- .. each with its place -/
def ItZe (K : PySem.W.Frag) (a b : Addr) : ItZ :=
  ⟨(ItZp K a b).go,
    fun i o H v T zs H' => ∃ x y p q, v = .ref q ∧ p ≠ q ∧ H p = none ∧ H q = none ∧ H' = upd (upd H p (.tup [x, y])) q (.tup [.int (i : Nat), .ref p]) ∧ (∀ xs, SqT K H a xs → xs[i]? = some x) ∧ (∀ ys, SqT K H b ys → ys[i]? = some y) ∧ zs = [x, y] ∧ T = o.getD p,
    (ItZp K a b).stop⟩
theorem ZipSt.obj {z TI TO i1 i2 l1 l2 : Addr} {k : Nat} {o : Option Addr} {h : Heap} (st : ZipSt z TI TO i1 i2 l1 l2 k o h) : ∀ b ∈ [z, TI, TO, i1, i2], ∃ ob, h.get? b = some ob ∧ ∀ v, ob.data ≠ .cell v := fun b hb => by
  obtain ⟨a1, ⟨x, y, a2⟩, ⟨o1, e1, _, d1⟩, ⟨o2, e2, _, d2⟩, a5⟩ := st
  simp only [List.mem_cons, List.not_mem_nil, or_false] at hb
  rcases hb with q | q | q | q | q
  · rw [q]
    cases o with
    | none => exact ⟨_, a5, fun v q => nomatch q⟩
    | some T => obtain ⟨f, a5⟩ := a5; exact ⟨_, a5, fun v q => nomatch q⟩
  · rw [q]; exact ⟨_, a1, fun v q => nomatch q⟩
  · rw [q]; exact ⟨_, a2, fun v q => nomatch q⟩
  · rw [q]; exact ⟨o1, e1, fun v q => by rw [d1] at q; cases q⟩
  · rw [q]; exact ⟨o2, e2, fun v q => by rw [d2] at q; cases q⟩
theorem ZipSt.at {z TI TO i1 i2 l1 l2 : Addr} {k : Nat} {o : Option Addr} {h h' : Heap} (st : ZipSt z TI TO i1 i2 l1 l2 k o h) (kp : ∀ b ∈ [z, TI, TO, i1, i2], ∀ ob, h.get? b = some ob → h'.get? b = some ob) : ZipSt z TI TO i1 i2 l1 l2 k o h' := by
  obtain ⟨a1, ⟨x, y, a2⟩, a3, a4, a5⟩ := st
  refine ⟨kp _ (by simp) _ a1, ⟨x, y, kp _ (by simp) _ a2⟩, a3.at fun ob q => kp _ (by simp) _ q, a4.at fun ob q => kp _ (by simp) _ q, ?_⟩
  cases o with
  | none => exact kp _ (by simp) _ a5
  | some T => obtain ⟨f, a5⟩ := a5; exact ⟨f, kp _ (by simp) _ a5⟩
theorem ZipSt.low {z TI TO i1 i2 l1 l2 : Addr} {k : Nat} {o : Option Addr} {h : Heap} (st : ZipSt z TI TO i1 i2 l1 l2 k o h) : ∀ b ∈ [z, TI, TO, i1, i2], b < h.objs.size := fun b hb => let ⟨_, e, _⟩ := st.obj b hb; Heap.lt_size e
theorem alive_raw {X : Cx} {pins : List (Addr × Obj)} {σ : L2.St} {H : Hp} {s : Shared} {o : Option Addr} (I : Inv X pins σ H s) (h : ∀ T, o = some T → ∃ xs, H T = some (.tup xs)) : ∀ T, o = some T → ∃ oT, s.heap.get? T = some oT := fun T e => by
  obtain ⟨xs, hT⟩ := h T e
  obtain ⟨_, its, _, ob, ho, _⟩ := I.hok T _ hT
  exact ⟨ob, ho⟩
theorem turn_zip1 {P : Program} {w : World} {K : PySem.W.Frag} {nm : PySem.Str} {tpos : Pos} {a b z TI TO i1 i2 : Addr} (D : ZipApart z TI TO i1 i2 a b) : TurnZ P w K (.Name nm tpos) (ItZp K a b) [z, TI, TO, i1, i2] z (ZipSt z TI TO i1 i2 a b) where
  obj := fun i o h st => st.obj
  keep := fun i o h h' st k => st.at k
  item := by
    intro X hP hw hK hc i o pins s σ H E I hf st al ⟨xs, ys, x, y, hqx, hqy, hx, hy⟩
    subst hP hw hK
    obtain ⟨its, rv, p1, _⟩ := I.tuple hqx
    obtain ⟨its2, rv2, p2, _⟩ := I.tuple hqy
    obtain ⟨u, hu, ru⟩ := rv.get hx
    obtain ⟨u2, hu2, ru2⟩ := rv2.get hy
    refine zs_next D st (alive_raw I al) p1 p2 (x := u) (y := u2) (by simpa using hu) (by simpa using hu2) fun h' st' new sz kp => ⟨_, rfl, ?_⟩
    show wpAny _ _ (pure ()) _ _ _
    have J := I.turnedNew (t' := s.toks) (ob := .tup [x, y]) kp hf (Nat.le_refl _) ⟨by show 2 ≤ sizeLine; rw [sizeLine_eq]; decide, [u, u2], .cons ru (.cons ru2 .nil), ⟨_, new, rfl, _, rfl⟩⟩
    refine wpAny_pure ⟨.ref s.heap.objs.size, o.getD s.heap.objs.size, [x, y], _, J, rfl, ⟨x, y, s.heap.objs.size, rfl, I.hok.fresh (Nat.le_refl _), rfl, fun l hl => by rw [I.tuple_inj hl hqx]; exact hx, fun l hl => by rw [I.tuple_inj hl hqy]; exact hy, rfl, rfl⟩, st', fun c hcm => ?_⟩
    rw [upd_ne (Nat.ne_of_lt (st.low c hcm))]
    exact (hf c hcm).1
  done := by
    intro X hP hw hK hc i o pins s σ H E I hf st al ⟨xs, ys, hqx, hqy, hend⟩
    subst hP hw hK
    obtain ⟨its, rv, p1, _⟩ := I.tuple hqx
    obtain ⟨its2, rv2, p2, _⟩ := I.tuple hqy
    have l1 := rv.length
    have l2 := rv2.length
    have he : its.toArray[i]? = none ∨ its2.toArray[i]? = none := hend.imp (fun q => by simp; omega) fun q => by simp; omega
    exact zs_stop (I.ok.hd hc) D st (alive_raw I al) p1 p2 he fun h' kp => ⟨rfl, I.turnedL (t' := s.toks) kp hf⟩
theorem turn_enumz {P : Program} {w : World} {K : PySem.W.Frag} {elts : List Expr} {kk : Nat} {tpos : Pos} {a b z TI TO i1 i2 e : Addr} (D : ZipApart z TI TO i1 i2 a b) (hez : e ∉ [z, TI, TO, i1, i2]) : TurnZ P w K (.Tuple elts kk tpos) (ItZe K a b) [e, z, TI, TO, i1, i2] e (fun i o h => (∃ old, IsEnum h e z ((i : Nat) : Int) old) ∧ ZipSt z TI TO i1 i2 a b i o h) where
  obj := fun i o h ⟨⟨old, he⟩, st⟩ c hc => by
    rcases List.mem_cons.mp hc with q | hc
    · rw [q]; exact ⟨_, he, fun v q => nomatch q⟩
    · exact st.obj c hc
  keep := fun i o h h' ⟨⟨old, he⟩, st⟩ k => ⟨⟨old, k e (by simp) _ he⟩, st.at fun c hc ob q => k c (List.mem_cons_of_mem _ hc) ob q⟩
  item := by
    intro X hP hw hK hc i o pins s σ H E I hf ⟨⟨old, he⟩, st⟩ al ⟨xs, ys, x, y, hqx, hqy, hx, hy⟩
    subst hP hw hK
    obtain ⟨its, rv, p1, _⟩ := I.tuple hqx
    obtain ⟨its2, rv2, p2, _⟩ := I.tuple hqy
    obtain ⟨u, hu, ru⟩ := rv.get hx
    obtain ⟨u2, hu2, ru2⟩ := rv2.get hy
    have el : e < s.heap.objs.size := Heap.lt_size he
    refine ez_item D he hez st (alive_raw I al) p1 p2 (x := u) (y := u2) (by simpa using hu) (by simpa using hu2) fun h' tk ho st' new1 new2 sz kp => ⟨_, rfl, wpAny_letOwnedTupleGo_enum (s := { s with heap := h', toks := tk + 1 }) ho fun h2 he2 sb => ?_⟩
    have f1 : h2.get? s.heap.objs.size = _ := (sb.2 _ (Nat.ne_of_gt el)).trans new1
    have f2 : h2.get? (s.heap.objs.size + 1) = _ := (sb.2 _ (Nat.ne_of_gt (Nat.lt_succ_of_lt el))).trans new2
    have J := turned2 (h' := h2) (t' := tk + 1) (p := s.heap.objs.size) (q := s.heap.objs.size + 1) (o1 := .tup [x, y]) (o2 := .tup [.int (i : Nat), .ref s.heap.objs.size]) I (fun c ob hc q => (sb.2 c fun z => hc (by simp [z])).trans (kp c ob hc q)) hf (Nat.le_refl _) (Nat.le_succ _) (Nat.ne_of_lt (Nat.lt_succ_self _))
      ⟨by show 2 ≤ sizeLine; rw [sizeLine_eq]; decide, [u, u2], .cons ru (.cons ru2 .nil), ⟨_, f1, rfl, _, rfl⟩⟩ ⟨by show 2 ≤ sizeLine; rw [sizeLine_eq]; decide, [.int i tk, .ref s.heap.objs.size], .cons ⟨_, rfl⟩ (.cons rfl .nil), ⟨_, f2, rfl, _, rfl⟩⟩
    refine ⟨.ref (s.heap.objs.size + 1), o.getD s.heap.objs.size, [x, y], _, J, rfl, ⟨x, y, s.heap.objs.size, s.heap.objs.size + 1, rfl, Nat.ne_of_lt (Nat.lt_succ_self _), I.hok.fresh (Nat.le_refl _), I.hok.fresh (Nat.le_succ _), rfl, fun l hl => by rw [I.tuple_inj hl hqx]; exact hx, fun l hl => by rw [I.tuple_inj hl hqy]; exact hy, rfl, rfl⟩, ⟨⟨.ref s.heap.objs.size, ?_⟩, st'.at fun c hc ob q => (sb.2 c fun z => hez (by rw [← z]; exact hc)).trans q⟩, fun c hcm => ?_⟩
    · rw [show ((i + 1 : Nat) : Int) = (i : Int) + 1 by omega]
      exact he2
    · have l : c < s.heap.objs.size := (List.mem_cons.mp hcm).elim (fun q => by rw [q]; exact el) (st.low c)
      rw [upd_ne (Nat.ne_of_lt (Nat.lt_succ_of_lt l)), upd_ne (Nat.ne_of_lt l)]
      exact (hf c hcm).1
  done := by
    intro X hP hw hK hc i o pins s σ H E I hf ⟨⟨old, he⟩, st⟩ al ⟨xs, ys, hqx, hqy, hend⟩
    subst hP hw hK
    obtain ⟨its, rv, p1, _⟩ := I.tuple hqx
    obtain ⟨its2, rv2, p2, _⟩ := I.tuple hqy
    have l1 := rv.length
    have l2 := rv2.length
    have hn : its.toArray[i]? = none ∨ its2.toArray[i]? = none := hend.imp (fun q => by simp; omega) fun q => by simp; omega
    exact ez_stop (I.ok.hd hc) D he st (alive_raw I al) p1 p2 hn fun h' kp => ⟨rfl, I.turnedL (t' := s.toks) (ch := [e, z, TI, TO, i1, i2]) (fun c ob hc q => kp c ob (fun z => hc (List.mem_cons_of_mem _ z)) q) hf⟩
def iZip1 (K : PySem.W.Frag) (ta : TA) : TIz := fun σ H R => ta σ H fun vs H1 => ∃ a b xs ys, vs = [.ref a, .ref b] ∧ SqT K H1 a xs ∧ SqT K H1 b ys ∧ R (ItZp K a b) H1
def iEnumZ (K : PySem.W.Frag) (ta : TA) : TIz := fun σ H R => ta σ H fun vs H1 => ∃ a b xs ys, vs = [.ref a, .ref b] ∧ SqT K H1 a xs ∧ SqT K H1 b ys ∧ R (ItZe K a b) H1
section
variable {X : Cx} {e e2 : Expr} {ta : TA} {p pos tpos p2 pos2 : Pos}
theorem x_zip1 {nm : PySem.Str} (B : X.mg "zip" = none) (ha : PA X [e, e2] ta) (hg : Gl X "zip" := by rfl) (hs : starEach [e, e2] X.env = (false, eval e X.env) :: starEach [e2] X.env := by rfl) (hpl : (backTo pos (starEach [e2] X.env)).any (·.1) = false := by rfl) :
    PIZ X (.Name nm tpos) (.Call (.Name "zip" p) [e, e2] [] pos) (iZip1 X.K ta) := by
  refine ⟨fun pins s σ H R I h => ?_⟩
  refine Call_ (ld_blt I hg B PyProof.Rows.boot_zip (PyProof.Rows.callWith_type1 (thn (ha.run pos pins s σ H _ I h) fun us s1 ⟨vs, H1, I1, r1, a, b, xs, ys, ex, hqx, hqy, q⟩ => ?_) hs hpl))
  subst ex
  obtain ⟨u1, u2, rfl, r, r'⟩ := vals2 r1
  cases r; cases r'
  obtain ⟨its, rv, p1, _⟩ := I1.tuple hqx
  obtain ⟨its2, rv2, p2, _⟩ := I1.tuple hqy
  obtain ⟨o1, ho1, _⟩ := id p1
  obtain ⟨o2, ho2, _⟩ := id p2
  refine RZ.call_zipT (show s1.heap.IsTuple a its.toArray from p1) (show s1.heap.IsTuple b its2.toArray from p2) fun h' hz hTI hTO h1 h2 hsz hk => wpAny_pyIter_zip hz ?_
  refine ⟨s1.heap.objs.size + 4, [s1.heap.objs.size + 4, s1.heap.objs.size + 2, s1.heap.objs.size + 3, s1.heap.objs.size, s1.heap.objs.size + 1], _, _, H1, rfl, I1.kept (t' := s1.toks) hk, turn_zip1 (PySem.W.ktu_apart s1.heap.objs.size a b (Heap.lt_size ho1) (Heap.lt_size ho2)), ⟨hTI, ⟨_, _, hTO⟩, h1, h2, hz⟩, fun c hcm => ?_, q⟩
  have hle : s1.heap.objs.size ≤ c := by
    simp only [List.mem_cons, List.not_mem_nil, or_false] at hcm
    rcases hcm with z | z | z | z | z <;> rw [z] <;> first | exact Nat.le_add_right _ _ | exact Nat.le_refl _
  exact I1.fpOk hle (I1.hok.fresh hle)
end

theorem enumS_new (z TI TO : Addr) :
    Meets (Builtin.«enumerate.__new__» ⟨[.type "enumerate", .ref z], []⟩) (fun _ R s => IsZip s.heap z TI TO .none ∧
      R (.ok (.ret (.ref s.heap.objs.size))) { s with heap := s.heap.push { cls := .type "enumerate", data := .fields #[.none, .bool false, .ref z, rawInt 0, .none, .none] } }) :=
  .of_wp fun prog w A R st ht => by
    obtain ⟨hp, g, d, tk, os⟩ := st
    obtain ⟨hz, fin⟩ := ht
    have sb := sub_enumerate
    have it1 : ∀ {A2 : Around} {E2 : Value → Shared → Prop} {Q2 : Value → Shared → Prop}, Q2 (.ref z) ⟨hp, g, d, tk, os⟩ → wpAny (model prog w) A2 (pyIter (.ref z)) Q2 E2 ⟨hp, g, d, tk, os⟩ := fun q => wpAny_pyIter_zip hz q
    wp_walk using it1
    refine wpAny_stack_any fun stk => wpAny_pure ?_
    split
    · rename_i c _ _ _ _ _
      cases (c == Value.type "enumerate") <;> (wp_walk using it1; exact ⟨_, rfl, fin⟩)
    · wp_walk using it1
      exact ⟨_, rfl, fin⟩
theorem call_enumS {prog : Program} {w : World} {A : Around} {E : Value → Shared → Prop} {s : Shared} {z TI TO : Addr} {Q : Value → Shared → Prop} (hz : IsZip s.heap z TI TO .none)
    (fin : ∀ h', IsEnum h' s.heap.objs.size z 0 .none → (∀ b u, s.heap.get? b = some u → h'.get? b = some u) → Q (.ref s.heap.objs.size) { s with heap := h' }) :
    wpAny (model prog w) A (call (.type "enumerate") [.ref z]) Q E s := by
  refine callType_new F.called_enumerate (by decide) (F.typeCall_enumerate_1 _) (F.newCall_enumerate_1 _) (fun ob => F.args_object_init_2 ob _) F.entry_enumerate_new (enumS_new z TI TO) ⟨hz, ?_⟩
  have en := Heap.get?_push_size s.heap (o := { cls := .type "enumerate", data := .fields #[.none, .bool false, .ref z, rawInt 0, .none, .none] }) rfl
  exact ⟨⟨_, en, rfl⟩, fin _ en fun b u x => Heap.get?_push_of_some _ x⟩
section
variable {X : Cx} {e e2 : Expr} {ta : TA} {p pos tpos p2 pos2 : Pos} {elts : List Expr} {kk : Nat}
theorem x_enumz (B1 : X.mg "enumerate" = none) (B : X.mg "zip" = none) (ha : PA X [e, e2] ta) (hg1 : Gl X "enumerate" := by rfl) (hg : Gl X "zip" := by rfl) (hs : starEach [e, e2] X.env = (false, eval e X.env) :: starEach [e2] X.env := by rfl) (hpl : (backTo pos2 (starEach [e2] X.env)).any (·.1) = false := by rfl)
    (hs1 : starEach [.Call (.Name "zip" p2) [e, e2] [] pos2] X.env = (false, eval (.Call (.Name "zip" p2) [e, e2] [] pos2) X.env) :: starEach [] X.env := by rfl) :
    PIZ X (.Tuple elts kk tpos) (.Call (.Name "enumerate" p) [.Call (.Name "zip" p2) [e, e2] [] pos2] [] pos) (iEnumZ X.K ta) := by
  refine ⟨fun pins s σ H R I h => ?_⟩
  refine Call_ (ld_blt I hg1 B1 boot_enumerate (PyProof.Rows.callWith_type1 (PyProof.Rows.args_cons ?_ hs1) hs1 rfl))
  refine Call_ (ld_blt I hg B PyProof.Rows.boot_zip (PyProof.Rows.callWith_type1 (thn (ha.run pos2 pins s σ H _ I h) fun us s1 ⟨vs, H1, I1, r1, a, b, xs, ys, ex, hqx, hqy, q⟩ => ?_) hs hpl))
  subst ex
  obtain ⟨u1, u2, rfl, r, r'⟩ := vals2 r1
  cases r; cases r'
  obtain ⟨its, rv, p1, _⟩ := I1.tuple hqx
  obtain ⟨its2, rv2, p2, _⟩ := I1.tuple hqy
  obtain ⟨o1, ho1, _⟩ := id p1
  obtain ⟨o2, ho2, _⟩ := id p2
  refine RZ.call_zipT (show s1.heap.IsTuple a its.toArray from p1) (show s1.heap.IsTuple b its2.toArray from p2) fun h' hz hTI hTO h1 h2 hsz hk => PyProof.Rows.args_nil ?_
  refine call_enumS (s := { s1 with heap := h' }) hz fun h2' he kp => wpAny_pyIter_enum he ?_
  have st0 : ZipSt (s1.heap.objs.size + 4) (s1.heap.objs.size + 2) (s1.heap.objs.size + 3) s1.heap.objs.size (s1.heap.objs.size + 1) a b 0 none h' := ⟨hTI, ⟨_, _, hTO⟩, h1, h2, hz⟩
  have esz : h'.objs.size = s1.heap.objs.size + 5 := hsz
  refine ⟨h'.objs.size, h'.objs.size :: [s1.heap.objs.size + 4, s1.heap.objs.size + 2, s1.heap.objs.size + 3, s1.heap.objs.size, s1.heap.objs.size + 1], _, _, H1, rfl, I1.kept (t' := s1.toks) fun c ob z => kp c ob (hk c ob z), turn_enumz (e := h'.objs.size) (PySem.W.ktu_apart s1.heap.objs.size a b (Heap.lt_size ho1) (Heap.lt_size ho2)) (fun hm => ?_), ⟨⟨.none, he⟩, st0.at fun c _ ob z => kp c ob z⟩, fun c hcm => ?_, q⟩
  · have := st0.low _ hm
    exact absurd this (Nat.lt_irrefl _)
  · have hle : s1.heap.objs.size ≤ c := by
      simp only [List.mem_cons, List.not_mem_nil, or_false] at hcm
      rcases hcm with z | z | z | z | z | z <;> rw [z] <;> first | exact Nat.le_add_right _ _ | exact Nat.le_refl _ | (rw [esz]; exact Nat.le_add_right _ _)
    exact I1.fpOk hle (I1.hok.fresh hle)
end
end DL
/-! .. upon data -/
namespace DL
open PySem PySem.Spec PyProof.Rows L2

section
variable {C : Addr} {c : Cn} {K : PySem.W.Frag} {rho : List (Option D)} {mu : Mu} {ts : List (V × D)} {s : L2.St} {F H F' H' : Hp} {v : V} {d : D} {ta tb : TE} {ds es : List D} {E : Ends} {u : TS}
def tO : Option (Addr × List V) → List (V × D)
  | none => []
  | some p => [(.ref p.1, .obj (.tup p.2))]
theorem held {o : Option (Addr × List V)} (S : Sat C c rho mu (tO o ++ ts) s H) : ∀ T, o.map (·.1) = some T → ∃ xs, H T = some (.tup xs) := fun T e => by
  obtain ⟨F, S⟩ := S
  cases o with
  | none => cases e
  | some p =>
    have e' : p.1 = T := Option.some.inj e
    subst e'
    obtain ⟨a, ea, h⟩ := (S.tmp (.ref p.1, .obj (.tup p.2)) (by simp [tO])).obj_inv
    cases ea
    exact ⟨_, S.sub _ _ h⟩
def WalksZ (C : Addr) (c : Cn) (J : ItZ) (ts : List (V × D)) (ds : List D) : Prop :=
  (∀ (i : Nat) rho mu s H, Sat C c rho mu ts s H → i < ds.length → J.go i H) ∧ (∀ rho mu s H, Sat C c rho mu ts s H → J.stop ds.length H) ∧
    ∀ (i : Nat) d o rho mu s H x T zs H', ds[i]? = some d → Sat C c rho mu (tO o ++ ts) s H → J.yld i (o.map (·.1)) H x T zs H' → ∃ o', o'.map (·.1) = some T ∧ Sat C c rho mu ((x, d) :: (tO o' ++ ts)) s H'
def EvIZ (C : Addr) (wi : TIz) (rho : List (Option D)) (mu : Mu) (ds : List D) : Prop :=
  ∀ (c : Cn) ts s H (R : ItZ → Hp → Prop), Sat C c rho mu ts s H → (∀ J H' tx, WalksZ C c J (tx ++ ts) ds → Sat C c rho mu (tx ++ ts) s H' → R J H') → wi s H R
theorem s_forZ {Y : Type} {wi : TIz} {g : TG} {tb : TS} (hI : EvIZ C wi rho mu ds) (S : Sat C c rho mu ts s H) (r : Nat → Y → List (Option D)) (m : Nat → Y → Mu) (I : Nat → Y → Prop)
    (h0 : ∃ y, I 0 y ∧ Le (r 0 y) rho ∧ m 0 y = mu)
    (step : ∀ (i : Nat) d y tx, ds[i]? = some d → I i y → ∃ rho2 js, BindG C g d (r i y) rho2 js ∧ ∀ s1 H1, Sat C c rho2 (m i y) (tx ++ ts) s1 H1 →
      tb { E with nx := Nx C c r m I (tx ++ ts) (i + 1), ct := Nx C c r m I (tx ++ ts) (i + 1), bk := E.nx } s1 H1)
    (done : ∀ y s1 H1, I ds.length y → Sat C c (r ds.length y) (m ds.length y) ts s1 H1 → E.nx s1 H1) : tForZ wi g tb E s H := by
  refine hI c ts s H _ S fun J H1 tx ⟨w1, w2, w3⟩ S1 => ?_
  refine ⟨fun i n o s H => n = ds.length - i ∧ i ≤ ds.length ∧ ∃ p, p.map (·.1) = o ∧ Nx C c r m I (tO p ++ (tx ++ ts)) i s H, ⟨ds.length, by simp, Nat.zero_le _, none, rfl, ?_⟩, ?_⟩
  · obtain ⟨y, a, b, e⟩ := h0
    subst e
    exact ⟨y, a, S1.weak b⟩
  · rintro i n o s2 H2 ⟨rfl, hi, p, rfl, y, hy, S2⟩
    refine ⟨held S2, ?_⟩
    by_cases hlt : i < ds.length
    · refine .inr ⟨w1 i _ _ s2 H2 S2.left hlt, fun x T zs H' yl => ?_⟩
      have hd : ds[i]? = some ds[i] := List.getElem?_eq_getElem hlt
      obtain ⟨p', ep, S3⟩ := w3 i _ p _ _ s2 H2 x T zs H' hd S2 yl
      refine ⟨Nx C c r m I ((tO p' ++ tx) ++ ts) (i + 1), fun s' H' q => ⟨ds.length - (i + 1), by omega, rfl, hlt, p', ep, by rw [← List.append_assoc]; exact q⟩, ?_⟩
      obtain ⟨rho2, js, b, st⟩ := step i _ y (tO p' ++ tx) hd hy
      rw [← List.append_assoc] at S3
      exact b c _ _ s2 H' x _ S3 fun s3 H3 _ _ S4 => st s3 H3 S4
    · have e : i = ds.length := by omega
      subst e
      exact .inl ⟨w2 _ _ s2 H2 S2.left, done y s2 H2 hy S2.left.left⟩
theorem q_forZ {Y : Type} {wi : TIz} {g : TG} {tb : TS} (hI : EvIZ C wi rho mu ds) (S : Sat C c rho mu ts s H) (r : Nat → Y → List (Option D)) (m : Nat → Y → Mu) (I : Nat → Y → Prop)
    (h0 : ∃ y, I 0 y ∧ Le (r 0 y) rho ∧ m 0 y = mu)
    (step : ∀ (i : Nat) d y tx, ds[i]? = some d → I i y → ∃ rho2 js, BindG C g d (r i y) rho2 js ∧ ∀ s1 H1, Sat C c rho2 (m i y) (tx ++ ts) s1 H1 →
      tb { E with nx := Nx C c r m I (tx ++ ts) (i + 1), ct := Nx C c r m I (tx ++ ts) (i + 1), bk := u E } s1 H1)
    (done : ∀ y s1 H1, I ds.length y → Sat C c (r ds.length y) (m ds.length y) ts s1 H1 → u E s1 H1) : tSeq (tForZ wi g tb) u E s H := s_forZ (E := { E with nx := u E }) hI S r m I h0 step done
theorem tups2 {a b : Addr} {rho : List (Option D)} {mu : Mu} {s : L2.St} {H : Hp} (S : Sat C c rho mu ([(.ref b, .tup es), (.ref a, .tup ds)] ++ ts) s H) : ∃ xs ys, H a = some (.tup xs) ∧ H b = some (.tup ys) ∧ xs.length = ds.length ∧ ys.length = es.length := by
  obtain ⟨F, T⟩ := S
  obtain ⟨a', xs, e, hx, hs⟩ := (T.tmp (.ref a, .tup ds) (by simp)).tup_inv
  obtain ⟨b', ys, e2, hy, hs2⟩ := (T.tmp (.ref b, .tup es) (by simp)).tup_inv
  cases e; cases e2
  exact ⟨xs, ys, T.sub _ _ hx, T.sub _ _ hy, hs.1, hs2.1⟩
/-- the pair that has come is known, what is held stays held -/
theorem pair_known {a b p : Addr} {i : Nat} {o : Option (Addr × List V)} {x y : V} {d1 d2 : D} {rho : List (Option D)} {mu : Mu} {s : L2.St} {H : Hp} (S : Sat C c rho mu (tO o ++ ([(.ref b, .tup es), (.ref a, .tup ds)] ++ ts)) s H) (hp : H p = none) (y1 : ∀ xs, SqT K H a xs → xs[i]? = some x) (y2 : ∀ ys, SqT K H b ys → ys[i]? = some y) (g1 : ds[i]? = some d1) (g2 : es[i]? = some d2) :
    ∃ o', o'.map (·.1) = some ((o.map (·.1)).getD p) ∧ Sat C c rho mu ((.ref p, .tup [d1, d2]) :: (tO o' ++ ([(.ref b, .tup es), (.ref a, .tup ds)] ++ ts))) s (upd H p (.tup [x, y])) := by
  obtain ⟨F, T⟩ := S
  obtain ⟨a', xs, e, hx, hs⟩ := (T.tmp (.ref a, .tup ds) (by simp)).tup_inv
  obtain ⟨b', ys, e2, hy, hs2⟩ := (T.tmp (.ref b, .tup es) (by simp)).tup_inv
  cases e; cases e2
  have r1 := hs.2 i x d1 (y1 xs (SqT.of (T.sub _ _ hx))) g1
  have r2 := hs2.2 i y d2 (y2 ys (SqT.of (T.sub _ _ hy))) g2
  have g := Gr.alloc (o := .tup [x, y]) T.sub hp
  have z : DRs C (upd F p (.tup [x, y])) [x, y] [d1, d2] := .cons (r1.mono g.ex) (.one (r2.mono g.ex))
  have T2 := (T.grow g).push (.tup upd_same z.1 z.2)
  cases o with
  | none => exact ⟨some (p, [x, y]), rfl, _, (T2.push (.obj upd_same)).fewer fun q hq => by
      simp only [tO, List.cons_append, List.nil_append, List.mem_cons] at hq ⊢
      rcases hq with h | h | h
      · exact .inr (.inl h)
      · exact .inl h
      · exact .inr (.inr h)⟩
  | some q => exact ⟨some q, rfl, _, T2⟩
theorem evi_zip1 (h : EvD C ta rho mu (.tup ds)) (h2 : EvD C tb rho mu (.tup es)) : EvIZ C (iZip1 K (tCons ta (tCons tb tNil))) rho mu (zipD ds es) := fun c ts s H R S q => h.run S fun v H1 S1 => h2.run S1 fun v2 H2 S2 => by
  obtain ⟨F, T⟩ := id S2
  obtain ⟨b, ys, e2, hy, hs2⟩ := T.top.tup_inv
  obtain ⟨a, xs, e, hx, hs⟩ := (T.tmp (v, .tup ds) (by simp)).tup_inv
  have e' : v = .ref a := e
  subst e'; subst e2
  refine ⟨a, b, xs, ys, rfl, SqT.of (T.sub _ _ hx), SqT.of (T.sub _ _ hy), q _ H2 [(.ref b, .tup es), (.ref a, .tup ds)] ⟨fun i rho mu s H S hi => ?_, fun rho mu s H S => ?_, fun i d o rho mu s H x T0 zs H' hd S y => ?_⟩ S2⟩
  · obtain ⟨xs, ys, hx, hy, l1, l2⟩ := tups2 S
    rw [zipD_len] at hi
    exact ⟨xs, ys, xs[i]'(by omega), ys[i]'(by omega), SqT.of hx, SqT.of hy, by simp, by simp⟩
  · obtain ⟨xs, ys, hx, hy, l1, l2⟩ := tups2 S
    exact ⟨xs, ys, SqT.of hx, SqT.of hy, by rw [zipD_len]; omega⟩
  · obtain ⟨x0, y0, p, e, hn, eH, y1, y2, _, eT⟩ := y
    subst e; subst eH; subst eT
    obtain ⟨d1, d2, g1, g2, ed⟩ := zipD_get hd
    subst ed
    exact pair_known S hn y1 y2 g1 g2
theorem evi_enumz (h : EvD C ta rho mu (.tup ds)) (h2 : EvD C tb rho mu (.tup es)) : EvIZ C (iEnumZ K (tCons ta (tCons tb tNil))) rho mu (enumD (zipD ds es)) := fun c ts s H R S q => h.run S fun v H1 S1 => h2.run S1 fun v2 H2 S2 => by
  obtain ⟨F, T⟩ := id S2
  obtain ⟨b, ys, e2, hy, hs2⟩ := T.top.tup_inv
  obtain ⟨a, xs, e, hx, hs⟩ := (T.tmp (v, .tup ds) (by simp)).tup_inv
  have e' : v = .ref a := e
  subst e'; subst e2
  refine ⟨a, b, xs, ys, rfl, SqT.of (T.sub _ _ hx), SqT.of (T.sub _ _ hy), q _ H2 [(.ref b, .tup es), (.ref a, .tup ds)] ⟨fun i rho mu s H S hi => ?_, fun rho mu s H S => ?_, fun i d o rho mu s H x T0 zs H' hd S y => ?_⟩ S2⟩
  · obtain ⟨xs, ys, hx, hy, l1, l2⟩ := tups2 S
    rw [enumD_len, zipD_len] at hi
    exact ⟨xs, ys, xs[i]'(by omega), ys[i]'(by omega), SqT.of hx, SqT.of hy, by simp, by simp⟩
  · obtain ⟨xs, ys, hx, hy, l1, l2⟩ := tups2 S
    exact ⟨xs, ys, SqT.of hx, SqT.of hy, by rw [enumD_len, zipD_len]; omega⟩
  · obtain ⟨x0, y0, p, q', e, hpq, hn, hn2, eH, y1, y2, _, eT⟩ := y
    subst e; subst eH; subst eT
    obtain ⟨d0, g0, ed⟩ := enumD_get hd
    subst ed
    obtain ⟨d1, d2, g1, g2, ed⟩ := zipD_get g0
    subst ed
    obtain ⟨o', eo, F3, T3⟩ := pair_known S hn y1 y2 g1 g2
    refine ⟨o', eo, ?_⟩
    have hq : (upd H p (.tup [x0, y0])) q' = none := by rw [upd_ne (Ne.symm hpq)]; exact hn2
    have g := Gr.alloc (o := .tup [.int (i : Nat), .ref p]) T3.sub hq
    have z : DRs C (upd F3 q' (.tup [.int (i : Nat), .ref p])) [.int (i : Nat), .ref p] [nat i, .tup [d1, d2]] := .cons (.int _) (.one (T3.top.mono g.ex))
    exact ⟨_, ((T3.grow g).push (.tup upd_same z.1 z.2)).fewer fun p hp => by
      simp only [List.mem_cons] at hp ⊢
      rcases hp with h | h
      · exact .inl h
      · exact .inr (.inr h)⟩
end
end DL
/-! more words; comprehensions of two clauses, stores to three names -/
namespace DL
open PySem PySem.Spec PyProof.Rows L2 Mth

section
variable {X : Cx} {a b : Expr} {ta tb : TE} {pos p : Pos}
theorem x_sortI (hm : X.mg "sorted" = none) (ha : PE X a ta) (hc : X.calm = true := by rfl) (hg : Gl X "sorted" := by rfl) (he : starEach [a] X.env = (false, eval a X.env) :: starEach [] X.env := by rfl) : PE X (.Call (.Name "sorted" p) [a] [] pos) (tCB (rSortedSet X.w) (tCons ta tNil)) := x1 (cr_sortedSet hc) hm (by decide +kernel) ha hg (he := he)
theorem x_sortP (hm : X.mg "sorted" = none) (ha : PE X a ta) (hc : X.calm = true := by rfl) (hg : Gl X "sorted" := by rfl) (he : starEach [a] X.env = (false, eval a X.env) :: starEach [] X.env := by rfl) : PE X (.Call (.Name "sorted" p) [a] [] pos) (tCB (rSortedT X.K X.prog X.w) (tCons ta tNil)) := x1 (cr_sortedT hc) hm (by decide +kernel) ha hg (he := he)
theorem x_sortD (hm : X.mg "sorted" = none) (ha : PE X a ta) (hc : X.calm = true := by rfl) (hg : Gl X "sorted" := by rfl) (he : starEach [a] X.env = (false, eval a X.env) :: starEach [] X.env := by rfl) : PE X (.Call (.Name "sorted" p) [a] [] pos) (tCB rSortDT (tCons ta tNil)) := x1 (cr_sortDT hc) hm (by decide +kernel) ha hg (he := he)
theorem x_listD (hm : X.mg "list" = none) (ha : PE X a ta) (hc : X.calm = true := by rfl) (hg : Gl X "list" := by rfl) (he : starEach [a] X.env = (false, eval a X.env) :: starEach [] X.env := by rfl) :
    PE X (.Call (.Name "list" p) [a] [] pos) (tCB (fun xs H Q => ∃ d kvs, xs = [V.ref d] ∧ Rd H d (.dT kvs) ∧ ∀ p bs, H p = none → IsKeys H kvs bs → Q (.ref p) (upd H p (.lst (bs.map V.ref)))) (tCons ta tNil)) := x1T (call_list_dT hc) hm (by decide +kernel) ha hg (he := he)
end
section
variable {C : Addr} {c : Cn} {K : PySem.W.Frag} {w : World} {rho : List (Option D)} {mu : Mu} {ts : List (V × D)} {s : L2.St} {F H F' H' : Hp} {v : V} {d d1 d2 d3 : D} {te ta tb : TE} {ds es : List D} {E : Ends} {u : TS}
/-- a, b, c = x, y, z of the def's own names -/
theorem q_par3 {i j l : Nat} {ta : TA} {Ra : List D → Mu → Prop} (h : EvR C ta rho mu Ra) (S : Sat C c rho mu ts s H) (hl : ∀ ds mu', Ra ds mu' → ∃ d1 d2 d3, ds = [d1, d2, d3])
    (k : ∀ d1 d2 d3 mu' s' H', Ra [d1, d2, d3] mu' → Sat C c (((rho.set i (some d1)).set j (some d2)).set l (some d3)) mu' ts s' H' → u E s' H') : tSeq (tPar3 i j l ta) u E s H :=
  h c ts s H _ S fun vs ds mu' H' r l S' => by
    obtain ⟨d1, d2, d3, e⟩ := hl ds mu' r
    subst e
    match vs, l with
    | [x, y, z], _ =>
      refine ⟨x, y, z, rfl, k d1 d2 d3 mu' _ H' r ?_⟩
      exact Sat.store (Sat.fewer (Sat.store (Sat.fewer (Sat.store S') fun p hp => hp)) fun p hp => hp)
/-- [e for x in .. for y in ..] -/
theorem el_lc2 {wi wi1 : TI} {g g1 : TG} {vs v1 : List Nat} (f : D → D → D) (es : D → List D) (hI : EvI C wi rho mu ds) (hn : (ds.flatMap es).length ≤ 1000)
    (step : ∀ (i : Nat) d, ds[i]? = some d → ∃ rho2 js, BindG C g d (wipeD rho vs) rho2 js ∧ (∀ j ∈ js, j ∈ vs) ∧ ∀ mu', EvI C wi1 rho2 mu' (es d) ∧ ∀ (j : Nat) e, (es d)[j]? = some e → ∃ rho3 js1, BindG C g1 e (wipeD rho2 v1) rho3 js1 ∧ (∀ j ∈ js1, j ∈ v1) ∧ ∀ mu', EvD C te rho3 mu' (f d e)) :
    EvN C (tLc2 wi g tYes wi1 g1 tYes te vs v1) rho mu (ds.flatMap fun d => (es d).map (f d)) := fun c ts s H Q S q => by
  refine hI c ts s H _ S fun J H1 tx ⟨w1, w2, w3⟩ S1 => fun p hp => ?_
  obtain ⟨F1, T1⟩ := S1
  have T2 : Sat C c rho ((p, .lst []) :: mu) (tx ++ ts) s (upd H1 p (.lst [])) := Sat.pop ⟨F1, T1.own (m := .lst []) hp ⟨[], upd_same, DRs.nil⟩⟩
  have len : ∀ i, ((ds.take i).flatMap fun d => (es d).map (f d)).length = ((ds.take i).flatMap es).length := fun i => by simp [List.length_flatMap]
  refine ⟨fun i n H => n = ds.length - i ∧ i ≤ ds.length ∧ Sat C c rho ((p, .lst ((ds.take i).flatMap fun d => (es d).map (f d))) :: mu) (tx ++ ts) s H, ⟨ds.length, by simp, Nat.zero_le _, T2⟩, ?_⟩
  rintro i n H2 ⟨rfl, hi, S2⟩
  by_cases hlt : i < ds.length
  · refine .inr ⟨w1 i _ _ s H2 S2 hlt, fun H' => i + 1 ≤ ds.length ∧ Sat C c rho ((p, .lst ((ds.take (i + 1)).flatMap fun d => (es d).map (f d))) :: mu) (tx ++ ts) s H', fun H' z => ⟨ds.length - (i + 1), by omega, rfl, z⟩, fun x H3 yl => ?_⟩
    have hd : ds[i]? = some ds[i] := List.getElem?_eq_getElem hlt
    obtain ⟨rho2, js, hb, hj, st⟩ := step i _ hd
    obtain ⟨F3, T3⟩ := w3 i _ _ _ s H2 x H3 hd S2 yl
    obtain ⟨tz, T4, back⟩ := T3.pin
    have S4 : Sat C c rho ((p, .lst ((ds.take i).flatMap fun d => (es d).map (f d))) :: mu) ((x, ds[i]) :: (tz ++ (tx ++ ts))) s H3 := ⟨F3, T4.fewer fun q hq => by
      simp only [List.mem_cons, List.mem_append] at hq ⊢
      rcases hq with h | h | h | h
      · exact .inr (.inl h)
      · exact .inl h
      · exact .inr (.inr (.inl h))
      · exact .inr (.inr (.inr h))⟩
    refine hb c _ _ (wipe s vs) H3 x _ (S4.wipe vs) fun s5 H5 l5 k5 S5 => ?_
    refine ⟨wipe_back l5 k5 hj, ?_⟩
    simp only [tYes, if_true]
    obtain ⟨hI1, st1⟩ := st ((p, .lst ((ds.take i).flatMap fun d => (es d).map (f d))) :: mu)
    refine hI1 c _ s5 H5 _ S5 fun J1 H6 tx1 ⟨u1, u2, u3⟩ S6 => ?_
    have et : ds.take (i + 1) = ds.take i ++ [ds[i]] := by rw [List.take_succ, hd]; rfl
    have lim : ((ds.take i).flatMap es).length + (es ds[i]).length ≤ 1000 := by
      have e1 : ds.flatMap es = (ds.take (i + 1)).flatMap es ++ (ds.drop (i + 1)).flatMap es := by rw [← List.flatMap_append, List.take_append_drop]
      have e2 : ((ds.take (i + 1)).flatMap es).length = ((ds.take i).flatMap es).length + (es ds[i]).length := by rw [et, List.flatMap_append]; simp
      rw [e1, List.length_append, e2] at hn
      omega
    generalize hA : ((ds.take i).flatMap fun d => (es d).map (f d)) = A at S6
    have lA : A.length = ((ds.take i).flatMap es).length := by rw [← hA]; exact len i
    refine ⟨fun j k H => k = (es ds[i]).length - j ∧ j ≤ (es ds[i]).length ∧ Sat C c rho2 ((p, .lst (A ++ ((es ds[i]).take j).map (f ds[i]))) :: mu) (tx1 ++ (tz ++ (tx ++ ts))) s5 H, ⟨(es ds[i]).length, by simp, Nat.zero_le _, by simpa using S6⟩, ?_⟩
    rintro j k H7 ⟨rfl, hjl, S7⟩
    by_cases hjt : j < (es ds[i]).length
    · refine .inr ⟨u1 j _ _ s5 H7 S7 hjt, fun H' => j + 1 ≤ (es ds[i]).length ∧ Sat C c rho2 ((p, .lst (A ++ ((es ds[i]).take (j + 1)).map (f ds[i]))) :: mu) (tx1 ++ (tz ++ (tx ++ ts))) s5 H', fun H' z => ⟨(es ds[i]).length - (j + 1), by omega, rfl, z⟩, fun x1 H8 yl1 => ?_⟩
      have he : (es ds[i])[j]? = some (es ds[i])[j] := List.getElem?_eq_getElem hjt
      obtain ⟨rho3, js1, hb1, hj1, ev⟩ := st1 j _ he
      obtain ⟨F9, T9⟩ := u3 j _ _ _ s5 H7 x1 H8 he S7 yl1
      obtain ⟨tz1, T10, back1⟩ := T9.pin
      have S10 : Sat C c rho2 ((p, .lst (A ++ ((es ds[i]).take j).map (f ds[i]))) :: mu) ((x1, (es ds[i])[j]) :: (tz1 ++ (tx1 ++ (tz ++ (tx ++ ts))))) s5 H8 := ⟨F9, T10.fewer fun q hq => by
        simp only [List.mem_cons, List.mem_append] at hq ⊢
        rcases hq with h | h | h
        · exact .inr (.inl h)
        · exact .inl h
        · exact .inr (.inr h)⟩
      refine hb1 c _ _ (wipe s5 v1) H8 x1 _ (S10.wipe v1) fun s11 H11 l11 k11 S11 => ?_
      refine ⟨wipe_back l11 k11 hj1, ?_⟩
      simp only [tYes, if_true]
      refine (ev _).run S11 fun y H12 S12 => ?_
      obtain ⟨F12, T12⟩ := S12
      obtain ⟨_, _, xs, hx, hs⟩ := T12.mu (p, .lst (A ++ ((es ds[i]).take j).map (f ds[i]))) List.mem_cons_self
      refine ⟨xs, hx, ?_, hjt, ?_⟩
      · rw [hs.1, List.length_append, List.length_map, List.length_take]
        exact small (by omega)
      · have T13 := T12.changeAt (k := 0) (m' := .lst (A ++ ((es ds[i]).take (j + 1)).map (f ds[i]))) rfl id ⟨xs ++ [y], upd_same, by
          have e3 : (es ds[i]).take (j + 1) = (es ds[i]).take j ++ [(es ds[i])[j]] := by rw [List.take_succ, he]; rfl
          rw [e3, List.map_append, ← List.append_assoc]
          exact hs.app (.one T12.top)⟩
        exact back1 _ _ _ _ _ ⟨F12, T13.fewer fun q hq => List.mem_cons_of_mem _ hq⟩
    · have e : j = (es ds[i]).length := by omega
      subst e
      refine .inl ⟨u2 _ _ s5 H7 S7, hlt, ?_⟩
      have e4 : ((ds.take (i + 1)).flatMap fun d => (es d).map (f d)) = A ++ ((es ds[i]).take (es ds[i]).length).map (f ds[i]) := by
        rw [et, List.flatMap_append, hA, List.take_length]
        simp
      rw [e4]
      exact back _ _ _ _ _ (S7.fewer fun q hq => List.mem_append_right _ hq)
  · have e : i = ds.length := by omega
    subst e
    refine .inl ⟨w2 _ _ s H2 S2, ?_⟩
    rw [List.take_length] at S2
    obtain ⟨F, T⟩ := S2
    exact q _ (.ptr p) _ H2 ⟨p, rfl, rfl⟩ ⟨F, (T.temps (fun q hq => by
      rcases List.mem_cons.mp hq with e | hq
      · subst e; exact .ptr p
      · exact T.tmp q (List.mem_append_right _ hq)))⟩
end
end DL
/-! words that name the fragment K (within a block it can't be found by unification) -/
namespace DL
open PySem PySem.Spec PyProof.Rows L2

section
variable {X : Cx} {a b e e2 : Expr} {ta tb te : TE} {pos p tpos : Pos} {tg : Expr} {elts : List Expr} {kk : Nat}
theorem k_ix (K : PySem.W.Frag) (ha : PE X a ta) (hb : PE X b tb) (hK : X.K = K := by rfl) (hs : PlainIx b := by intro _ _; rfl) : PE X (.Subscript a b pos) (tOp (rIx K) ta tb) := hK ▸ x_ix ha hb hs
theorem k_fld (K : PySem.W.Frag) {f : Str} (ha : PE X a ta) (hK : X.K = K := by rfl) (hb : attributeBase a f X.env (eval a X.env) = eval a X.env := by rfl) : PE X (.Attribute a f pos) (tFld K ta f) := hK ▸ pe_fld ha hb
theorem k_pit (K : PySem.W.Frag) (ha : PE X a ta) (hK : X.K = K := by rfl) : PI X tg a (iTup K ta) := hK ▸ pi_tup ha
theorem k_pil (K : PySem.W.Frag) (ha : PE X a ta) (hK : X.K = K := by rfl) : PI X tg a (iList K ta) := hK ▸ pi_list ha
theorem k_eqD (K : PySem.W.Frag) (hu : X.A.units + 64 < cLine) (hK : X.K = K := by rfl) : OpR X (compareOp .Eq) (rEqD K) := hK ▸ op_eqD hu
theorem k_neD (K : PySem.W.Frag) (hu : X.A.units + 64 < cLine) (hK : X.K = K := by rfl) : OpR X (compareOp .NotEq) (rNeD K) := hK ▸ op_neD hu
theorem k_catA (K : PySem.W.Frag) (hK : X.K = K := by rfl) : OpR X (binaryOp .Add) (rCatA K) := hK ▸ op_catA
theorem k_slL (K : PySem.W.Frag) (hK : X.K = K := by rfl) : SlR X (rSlL K) := hK ▸ sl_list
theorem k_slT (K : PySem.W.Frag) (hK : X.K = K := by rfl) : SlR X (rSlA K) := hK ▸ sl_tupA
theorem k_revL (K : PySem.W.Frag) {k : Nat} {p1 p2 p3 : Pos} (he : PE X e te) (hK : X.K = K := by rfl) : PE X (.Subscript e (.Slice none none (some (.UnaryOp .USub (.Constant (.int 1) k p1) p2)) p3) pos) (tRevL K te) := hK ▸ pe_revL he
theorem k_gtup (K : PySem.W.Frag) (n : Nat) {es : List Expr} {k : Nat} {t : TGs} (h : PGs X es t) (hK : X.K = K := by rfl) (hc : X.calm = true := by rfl) (hn : (assignEach es X.env).length = n := by rfl) (hst : (assignEach es X.env).findIdx? (·.1) = none := by rfl) : PG X (.Tuple es k pos) (gTup K n t) := hK ▸ pg_tup hc h hn hst
theorem k_len (K : PySem.W.Frag) (hm : X.mg "len" = none) (ha : PE X a ta) (hK : X.K = K := by rfl) (hg : Gl X "len" := by rfl) (he : starEach [a] X.env = (false, eval a X.env) :: starEach [] X.env := by rfl) : PE X (.Call (.Name "len" p) [a] [] pos) (tCB (rLen K) (tCons ta tNil)) := hK ▸ x_len hm ha hg he
theorem k_tuple (K : PySem.W.Frag) (hm : X.mg "tuple" = none) (ha : PE X a ta) (hK : X.K = K := by rfl) (hg : Gl X "tuple" := by rfl) (he : starEach [a] X.env = (false, eval a X.env) :: starEach [] X.env := by rfl) : PE X (.Call (.Name "tuple" p) [a] [] pos) (tCB (rTup K) (tCons ta tNil)) := hK ▸ x_tuple hm ha hg he
theorem k_list (K : PySem.W.Frag) (hm : X.mg "list" = none) (ha : PE X a ta) (hK : X.K = K := by rfl) (hg : Gl X "list" := by rfl) (he : starEach [a] X.env = (false, eval a X.env) :: starEach [] X.env := by rfl) : PE X (.Call (.Name "list" p) [a] [] pos) (tCB (rLst K) (tCons ta tNil)) := hK ▸ x_list hm ha hg he
theorem k_all (K : PySem.W.Frag) (hm : X.mg "all" = none) (ha : PE X a ta) (hK : X.K = K := by rfl) (hc : X.calm = true := by rfl) (hg : Gl X "all" := by rfl) (he : starEach [a] X.env = (false, eval a X.env) :: starEach [] X.env := by rfl) : PE X (.Call (.Name "all" p) [a] [] pos) (tCB (rAll K) (tCons ta tNil)) := hK ▸ x_all hm ha hc hg he
theorem k_min (K : PySem.W.Frag) (hm : X.mg "min" = none) (ha : PE X a ta) (hK : X.K = K := by rfl) (hc : X.calm = true := by rfl) (hg : Gl X "min" := by rfl) (he : starEach [a] X.env = (false, eval a X.env) :: starEach [] X.env := by rfl) : PE X (.Call (.Name "min" p) [a] [] pos) (tCB (rMin K) (tCons ta tNil)) := hK ▸ x_min hm ha hc hg he
theorem k_max (K : PySem.W.Frag) (hm : X.mg "max" = none) (ha : PE X a ta) (hK : X.K = K := by rfl) (hc : X.calm = true := by rfl) (hg : Gl X "max" := by rfl) (he : starEach [a] X.env = (false, eval a X.env) :: starEach [] X.env := by rfl) : PE X (.Call (.Name "max" p) [a] [] pos) (tCB (rMax K) (tCons ta tNil)) := hK ▸ x_max hm ha hc hg he
theorem k_enumL (K : PySem.W.Frag) (hm : X.mg "enumerate" = none) (ha : PE X e te) (hK : X.K = K := by rfl) (hg : Gl X "enumerate" := by rfl) (hs : starEach [e] X.env = (false, eval e X.env) :: starEach [] X.env := by rfl) : PI X (.Tuple elts kk tpos) (.Call (.Name "enumerate" p) [e] [] pos) (iEnum K (tCons te tNil)) := hK ▸ x_enumL hm ha hg hs
theorem k_enumT (K : PySem.W.Frag) (hm : X.mg "enumerate" = none) (ha : PE X e te) (hK : X.K = K := by rfl) (hg : Gl X "enumerate" := by rfl) (hs : starEach [e] X.env = (false, eval e X.env) :: starEach [] X.env := by rfl) : PI X (.Tuple elts kk tpos) (.Call (.Name "enumerate" p) [e] [] pos) (iEnumT K (tCons te tNil)) := hK ▸ x_enumT hm ha hg hs
theorem k_zipA (K : PySem.W.Frag) {ta : TA} (hm : X.mg "zip" = none) (ha : PA X [e, e2] ta) (hK : X.K = K := by rfl) (hg : Gl X "zip" := by rfl) (hs : starEach [e, e2] X.env = (false, eval e X.env) :: starEach [e2] X.env := by rfl) (hpl : (backTo pos (starEach [e2] X.env)).any (·.1) = false := by rfl) :
    PI X (.Tuple elts kk tpos) (.Call (.Name "zip" p) [e, e2] [] pos) (RZ.iZipA K ta) := hK ▸ RZ.pi_zipA hg hm ha hs hpl
end

/-- a list or a tuple -/
def iSeq (K : PySem.W.Frag) (tl : TE) : TI := fun σ H R => tl σ H fun x H1 => ∃ a, x = .ref a ∧ (((∃ xs, SqL K H1 a xs) ∧ R (Itl K a) H1) ∨ ((∃ xs, SqT K H1 a xs) ∧ R (Itt K a) H1))
theorem k_pis {X : Cx} {tg l : Expr} {tl : TE} (K : PySem.W.Frag) (hl : PE X l tl) (hK : X.K = K := by rfl) : PI X tg l (iSeq K tl) := by
  subst hK
  refine ⟨fun pins s σ H R I h => thn (hl.run pins s σ H _ I h) fun v s1 ⟨x, H1, I1, r1, a, e, q1⟩ => ?_⟩
  subst e
  cases r1
  have fresh : ∀ b ∈ [s1.heap.objs.size], FpOk X pins H1 b := fun b hb => by
    rw [List.mem_singleton.mp hb]
    exact I1.fpOk (Nat.le_refl _) (I1.hok.fresh (Nat.le_refl _))
  rcases q1 with ⟨⟨xs, hq⟩, q⟩ | ⟨⟨xs, hq⟩, q⟩
  · obtain ⟨its, rv, p, hz⟩ := I1.list hq
    exact wpAny_pyIter_list p.isList ⟨_, _, _, _, H1, rfl, I1.kept (t' := s1.toks) fun b o e => Heap.get?_push_of_some _ e, turn_list a _, ⟨_, Heap.get?_push_size _ rfl, rfl, rfl⟩, fresh, q⟩
  · obtain ⟨its, rv, p, hz⟩ := I1.tuple hq
    exact wpAny_pyIter_tuple (show s1.heap.IsTuple a its.toArray from p) ⟨_, _, _, _, H1, rfl, I1.kept (t' := s1.toks) fun b o e => Heap.get?_push_of_some _ e, turn_tuple a _, ⟨_, Heap.get?_push_size _ rfl, rfl, rfl⟩, fresh, q⟩
def sq (b : Bool) (ds : List D) : D := if b then .lst ds else .tup ds
section
variable {C : Addr} {c : Cn} {K : PySem.W.Frag} {rho : List (Option D)} {mu : Mu} {ts : List (V × D)} {s : L2.St} {F H F' H' : Hp} {v : V} {d : D} {te ta tb : TE} {ds es : List D} {a : Addr}
theorem walks_lst : Walks C c (Itl K a) ([(.ref a, .lst ds)] ++ ts) ds := by
  have at' : ∀ {rho mu s H}, Sat C c rho mu ([(.ref a, .lst ds)] ++ ts) s H → ∃ F xs, SatF C c rho mu ([(.ref a, .lst ds)] ++ ts) s F H ∧ H a = some (.lst xs) ∧ DRs C F xs ds := fun ⟨F, T⟩ => by
    obtain ⟨a', xs, e, hx, hs⟩ := (T.tmp (.ref a, .lst ds) (by simp)).lst_inv
    cases e
    exact ⟨F, xs, T, T.sub _ _ hx, hs⟩
  refine ⟨fun i rho mu s H S hi => ?_, fun rho mu s H S => ?_, fun i d rho mu s H x H' hd S y => ?_⟩
  · obtain ⟨F, xs, T, hx, hs⟩ := at' S
    exact ⟨xs, xs[i]'(by rw [hs.1]; exact hi), SqL.of hx, by simp⟩
  · obtain ⟨F, xs, T, hx, hs⟩ := at' S
    exact ⟨xs, SqL.of hx, by rw [hs.1]; exact Nat.le_refl _⟩
  · obtain ⟨e, y⟩ := y
    subst e
    obtain ⟨F, xs, T, hx, hs⟩ := at' S
    exact ⟨F, T.push (hs.2 i x d (y xs (SqL.of hx)) hd)⟩
theorem walks_tup : Walks C c (Itt K a) ([(.ref a, .tup ds)] ++ ts) ds := by
  have at' : ∀ {rho mu s H}, Sat C c rho mu ([(.ref a, .tup ds)] ++ ts) s H → ∃ F xs, SatF C c rho mu ([(.ref a, .tup ds)] ++ ts) s F H ∧ H a = some (.tup xs) ∧ DRs C F xs ds := fun ⟨F, T⟩ => by
    obtain ⟨a', xs, e, hx, hs⟩ := (T.tmp (.ref a, .tup ds) (by simp)).tup_inv
    cases e
    exact ⟨F, xs, T, T.sub _ _ hx, hs⟩
  refine ⟨fun i rho mu s H S hi => ?_, fun rho mu s H S => ?_, fun i d rho mu s H x H' hd S y => ?_⟩
  · obtain ⟨F, xs, T, hx, hs⟩ := at' S
    exact ⟨xs, xs[i]'(by rw [hs.1]; exact hi), SqT.of hx, by simp⟩
  · obtain ⟨F, xs, T, hx, hs⟩ := at' S
    exact ⟨xs, SqT.of hx, by rw [hs.1]; exact Nat.le_refl _⟩
  · obtain ⟨e, y⟩ := y
    subst e
    obtain ⟨F, xs, T, hx, hs⟩ := at' S
    exact ⟨F, T.push (hs.2 i x d (y xs (SqT.of hx)) hd)⟩
theorem evi_seq {b : Bool} (h : EvD C te rho mu (sq b ds)) : EvI C (iSeq K te) rho mu ds := fun c ts s H R S q => h.run S fun v H1 S1 => by
  obtain ⟨F, T⟩ := id S1
  cases b with
  | true =>
    obtain ⟨a, xs, e, hx, hs⟩ := DR.lst_inv (show DR C F v (.lst ds) from T.top)
    subst e
    exact ⟨a, rfl, .inl ⟨⟨xs, SqL.of (T.sub _ _ hx)⟩, q _ H1 [(.ref a, .lst ds)] walks_lst S1⟩⟩
  | false =>
    obtain ⟨a, xs, e, hx, hs⟩ := DR.tup_inv (show DR C F v (.tup ds) from T.top)
    subst e
    exact ⟨a, rfl, .inr ⟨⟨xs, SqT.of (T.sub _ _ hx)⟩, q _ H1 [(.ref a, .tup ds)] walks_tup S1⟩⟩
end

section
variable {C : Addr} {c : Cn} {rho : List (Option D)} {mu : Mu} {ts : List (V × D)} {s : L2.St} {H : Hp} {te tf tg : TE} {E : Ends} {u : TS} {R1 : D → Mu → Prop} {R2 : D → Mu → D → Mu → Prop} {R3 : D → D → Mu → D → Mu → Prop}
/-- a, b = x, y: one after another -/
theorem q_par2 {i j : Nat} (h : Ev C te rho mu R1) (h2 : ∀ d mu1, R1 d mu1 → Ev C tf rho mu1 (R2 d mu1)) (S : Sat C c rho mu ts s H) (k : ∀ d e mu1 mu' s' H', R1 d mu1 → R2 d mu1 e mu' → Sat C c ((rho.set i (some d)).set j (some e)) mu' ts s' H' → u E s' H') : tSeq (tPar i j (tCons te (tCons tf tNil))) u E s H :=
  h c ts s H _ S fun v d mu1 H1 r1 S1 => h2 d mu1 r1 c _ s H1 _ S1 fun v2 e mu2 H2 r2 S2 => ⟨v, v2, rfl, k d e mu1 mu2 _ H2 r1 r2 (Sat.store (Sat.store (S2.fewer fun p hp => by
    simp only [List.mem_cons] at hp ⊢
    rcases hp with h | h | h
    · exact .inr (.inl h)
    · exact .inl h
    · exact .inr (.inr h))))⟩
theorem q_par3' {i j l : Nat} (h : Ev C te rho mu R1) (h2 : ∀ d mu1, R1 d mu1 → Ev C tf rho mu1 (R2 d mu1)) (h3 : ∀ d e mu1 mu2, R1 d mu1 → R2 d mu1 e mu2 → Ev C tg rho mu2 (R3 d e mu2)) (S : Sat C c rho mu ts s H)
    (k : ∀ d e f mu1 mu2 mu' s' H', R1 d mu1 → R2 d mu1 e mu2 → R3 d e mu2 f mu' → Sat C c (((rho.set i (some d)).set j (some e)).set l (some f)) mu' ts s' H' → u E s' H') : tSeq (tPar3 i j l (tCons te (tCons tf (tCons tg tNil)))) u E s H :=
  h c ts s H _ S fun v d mu1 H1 r1 S1 => h2 d mu1 r1 c _ s H1 _ S1 fun v2 e mu2 H2 r2 S2 => h3 d e mu1 mu2 r1 r2 c _ s H2 _ S2 fun v3 f mu3 H3 r3 S3 => ⟨v, v2, v3, rfl, k d e f mu1 mu2 mu3 _ H3 r1 r2 r3 (Sat.store (Sat.store (Sat.store (S3.fewer fun p hp => by
    simp only [List.mem_cons] at hp ⊢
    rcases hp with h | h | h | h
    · exact .inr (.inr (.inl h))
    · exact .inr (.inl h)
    · exact .inl h
    · exact .inr (.inr (.inr h))))))⟩
end
end DL
/-! plain.py, machines.py, small defs of layers.py and court.py -/
namespace DL
open PySem L2 Mth

def optP : Option (Nat × Nat) → D
  | none => .non
  | some p => tp p

section
variable {C : Addr} {K : PySem.W.Frag} {rho : List (Option D)} {mu : Mu} {te ta tb : TE}
theorem nats_get {l : List Nat} {i x : Nat} (h : l[i]? = some x) : (nats l)[i]? = some (nat x) := by unfold nats; rw [List.getElem?_map, h]; rfl
theorem ev_nat {n : Nat} (ha : EvD C ta rho mu (tn l)) (hb : EvD C tb rho mu (nat i)) (h : l[i]? = some n) : EvD C (tOp (rIx K) ta tb) rho mu (nat n) := ev_ixT ha hb (at_nat (nats_get h))
/-- machine.steps[s][c] -/
theorem ev_nx {S : Mat} {k : Nat} {tm : TE} {s c : Nat} (hC : Cls K C) (hn : NoAttr K C "steps") (h : Ok S k) (hm : EvD C tm rho mu (.mach k S)) (ha : EvD C ta rho mu (nat s)) (hb : EvD C tb rho mu (nat c)) (hs : s < S.length) (hc : c < k) :
    EvD C (tOp (rIx K) (tOp (rIx K) (tFld K tm "steps") ta) tb) rho mu (nat (nx S s c)) := by
  obtain ⟨r, e, hl, g⟩ := h.get hs
  refine ev_ixT (ds := nats r) (ev_ixT (ev_steps hC hn hm) ha (at_nat ?_)) hb (at_nat (nats_get (g c hc)))
  rw [List.getElem?_map, e]
  rfl
theorem ev_cl {S : Mat} {i t : Nat} (ha : EvD C ta rho mu (tn (cls S i))) (hb : EvD C tb rho mu (nat t)) (h : t < S.length) : EvD C (tOp (rIx K) ta tb) rho mu (nat (cf S i t)) := ev_nat ha hb (cls_get h)
theorem ev_clD {cl : List Nat} {t : Nat} (ha : EvD C ta rho mu (tn cl)) (hb : EvD C tb rho mu (nat t)) (h : t < cl.length) : EvD C (tOp (rIx K) ta tb) rho mu (nat (cl.getD t 0)) := ev_nat ha hb (by rw [List.getD_eq_getElem?_getD, List.getElem?_eq_getElem h]; rfl)
end

theorem find_at {α : Type} {l : List α} {q : α → Bool} {i : Nat} {p : α} (hi : l[i]? = some p) (h0 : (l.take i).find? q = none) (hq : q p = true) : l.find? q = some p := by
  obtain ⟨hl, e⟩ := List.getElem?_eq_some_iff.mp hi
  have e2 : l = l.take i ++ p :: l.drop (i + 1) := by rw [← e, List.getElem_cons_drop, List.take_append_drop]
  rw [e2, List.find?_append, h0, List.find?_cons, hq]
  rfl
theorem find_next {α : Type} {l : List α} {q : α → Bool} {i : Nat} {p : α} (hi : l[i]? = some p) (h0 : (l.take i).find? q = none) (hq : q p = false) : (l.take (i + 1)).find? q = none := by
  rw [List.take_succ, hi, List.find?_append, h0]
  show (Option.toList (some p)).find? q = none
  rw [Option.toList_some, List.find?_cons, hq]
  rfl
theorem dec_nat (a b : Nat) : decide ((a : Int) = (b : Int)) = (a == b) := by
  by_cases h : a = b
  · subst h; simp
  · rw [decide_eq_false (fun z => h (by omega))]
    exact (beq_eq_false_iff_ne.mpr h).symm
section
variable {P : Program} {w : World} {K : PySem.W.Frag} {mg : Str → Option Value} {base : Heap} {C : Addr}
abbrev sp_is_number (C : Addr) : Sp := spF C (fun d : D => [d]) (fun d => (kd d).isSome = true) fun d r => r = .bl (isNumber d)
theorem c_is_number (T : Txt K mg C) : Cal P w K mg base 2 "is_number" ["value"] (sp_is_number C) := T.d.is_number.cal fun f fd Fn => okF Fn sc_is_number (fun _ => rfl) fun d cdv A outer s H E hp hr => by
  have g_is_integer := c_is_integer (P := P) (w := w) (base := base) T
  refine ⟨_, (pss_one (ps_ret (pe_and (pe_cal g_is_integer (hr.mono (by decide)) (pa_cons (pv 0) pa_nil)) (pe_one (pe_cmpR op_ge (pv 0) pe_int (nomark _)))))), fun c Q s0 H0 hM q S => ?_⟩
  refine s_ret (ev_andV (b := isNumber d) (ev_call (f := fun d => .bl (isInteger d)) d (ea_cons (ev_var rfl) ea_nil) hp) fun h => ?_) S fun v d' mu' H' ⟨e, _⟩ S' => q.go hM S' (e.trans ?_)
  · cases d with
    | int i =>
      show EvD C _ _ _ (.bl (decide (0 ≤ i)))
      exact ev_ge (ev_var rfl) ev_int
    | bl b => cases h
    | non => cases h
    | str x => cases h
    | tup x => cases h
    | lst x => cases h
    | dct x y => cases h
    | mach x y => cases h
    | ptr x => cases h
    | obj x => cases h
  · cases d <;> rfl
abbrev sp_is_sequence (C : Addr) : Sp := spF C (fun d : D => [d]) (fun d => (kd d).isSome = true) fun d r => r = .bl (isL d || isT d)
theorem c_is_sequence (T : Txt K mg C) : Cal P w K mg base 1 "is_sequence" ["value"] (sp_is_sequence C) := T.d.is_sequence.cal fun f fd Fn => okF Fn sc_is_sequence (fun _ => rfl) fun d cdv A outer s H E hp hr => by
  refine ⟨_, (pss_one (ps_ret (x_isiS T.b (pv 0)))), fun c Q s0 H0 hM q S => ?_⟩
  exact s_ret (ev_isS (ev_var rfl) hp) S fun v d' mu' H' ⟨e, _⟩ S' => q.go hM S' e
abbrev sp_is_index (C : Addr) : Sp := spF C (fun x : D × Int => [x.1, .int x.2]) (fun x => (kd x.1).isSome = true) fun x r => r = .bl (isIndex x.1 x.2)
theorem c_is_index (T : Txt K mg C) : Cal P w K mg base 3 "is_index" ["value", "many"] (sp_is_index C) := T.d.is_index.cal fun f fd Fn => okF Fn sc_is_index (fun _ => rfl) fun x cdv A outer s H E hp hr => by
  have g_is_number := c_is_number (P := P) (w := w) (base := base) T
  obtain ⟨d, n⟩ := x
  refine ⟨_, (pss_one (ps_ret (pe_and (pe_cal g_is_number (hr.mono (by decide)) (pa_cons (pv 0) pa_nil)) (pe_one (pe_cmpR op_lt (pv 0) (pv 1) (nomark _)))))), fun c Q s0 H0 hM q S => ?_⟩
  refine s_ret (ev_andV (b := isIndex d n) (ev_call (f := fun d => .bl (isNumber d)) d (ea_cons (ev_var rfl) ea_nil) hp) fun h => ?_) S fun v d' mu' H' ⟨e, _⟩ S' => q.go hM S' (e.trans ?_)
  · cases d with
    | int i =>
      have h0 : decide (0 ≤ i) = true := h
      show EvD C _ _ _ (.bl (decide (0 ≤ i) && decide (i < n)))
      rw [h0, Bool.true_and]
      exact ev_lt (ev_var rfl) (ev_var rfl)
    | _ => cases h
  · cases d with
    | int i =>
      show D.bl (decide (0 ≤ i) && (decide (0 ≤ i) && decide (i < n))) = _
      rw [← Bool.and_assoc, Bool.and_self]
      rfl
    | _ => rfl

abbrev sp_at_count (C : Addr) : Sp := spF C (fun x : List D × Nat => [.lst x.1, nat x.2]) (fun x => x.1 ≠ []) fun x r => x.1[min x.2 (x.1.length - 1)]? = some r
theorem c_at_count (T : Txt K mg C) : Cal P w K mg base 1 "at_count" ["rows", "count"] (sp_at_count C) := T.d.at_count.cal fun f fd Fn => okF Fn sc_at_count (fun _ => rfl) fun x cdv A outer s H E hp hr => by
  obtain ⟨ds, n⟩ := x
  refine ⟨_, (pss_one (ps_ret (k_ix K (pv 0) (x_min2 T.b.min (pv 1) (pe_op op_sub (k_len K T.b.len (pv 0)) pe_int))))), fun c Q s0 H0 hM q S => ?_⟩
  have hp' : ds ≠ [] := hp
  have h0 : 0 < ds.length := List.length_pos_iff.mpr hp'
  have hlt : min n (ds.length - 1) < ds.length := by omega
  have e : (if ((ds.length : Int) - 1) < (n : Int) then ((ds.length : Int) - 1) else (n : Int)) = ((min n (ds.length - 1) : Nat) : Int) := by split <;> omega
  refine s_ret (ev_ixL (d := ds[min n (ds.length - 1)]) (ev_var rfl) (EvD.to (ev_min2 (ev_var rfl) (ev_sub (ev_lenL (ev_var rfl)) ev_int)) (by rw [e])) (at_nat (List.getElem?_eq_getElem hlt))) S fun v d' mu' H' ⟨e, _⟩ S' => q.go hM S' ?_
  rw [e]
  exact List.getElem?_eq_getElem hlt

abbrev sp_clashing (C : Addr) : Sp := spF C (fun x : (Mat × Nat) × (Bool × List (Nat × Nat)) × (Nat × Nat) × List Nat => [.mach x.1.2 x.1.1, sq x.2.1.1 (x.2.1.2.map tp), nat x.2.2.1.1, nat x.2.2.1.2, tn x.2.2.2])
  (fun x => Ok x.1.1 x.1.2 ∧ (∀ p ∈ x.2.1.2, p.1 < x.1.1.length ∧ p.2 < x.1.1.length) ∧ x.2.2.1.1 < x.1.2 ∧ x.2.2.1.2 < x.1.2 ∧ x.2.2.2.length = x.1.1.length) fun x r => r = optP (clash x.1.1 x.2.1.2 x.2.2.1.1 x.2.2.1.2 x.2.2.2)
theorem c_clashing (T : Txt K mg C) : Cal P w K mg base 1 "clashing" ["machine", "pairs", "a", "c", "classes"] (sp_clashing C) := T.d.clashing.cal fun f fd Fn => okF Fn sc_clashing (fun _ => rfl) fun x cdv A outer s H E hp hr => by
  obtain ⟨⟨S, k⟩, ⟨bq, ps⟩, ⟨a, c⟩, cl⟩ := x
  obtain ⟨ok, hps, ha, hc, hcl⟩ := hp
  dsimp only at ok hps ha hc hcl
  refine ⟨_, (pss_cons (ps_for PassesOwn.never rfl (k_pis K (pv 1)) (k_gtup K 2 (pgs_cons (pgn 5 sc_clashing.nd) (pgs_cons (pgn 6 sc_clashing.nd) pgs_nil)))
  (pss_one (ps_if (pt_cmpR (k_neD K hr.units) (k_ix K (pv 4) (k_ix K (k_ix K (k_fld K (pv 0)) (pv 5)) (pv 3))) (k_ix K (pv 4) (k_ix K (k_ix K (k_fld K (pv 0)) (pv 6)) (pv 2))) (nomark _))
  (pss_one (ps_ret (pe_tup (pa_cons (pv 5) (pa_cons (pv 6) pa_nil)))))
  pss_nil)))
  (pss_one (ps_ret pe_non))), fun cn Q s0 H0 hM q Z => ?_⟩
  refine q_for (ds := ps.map tp) (evi_seq (ev_var rfl)) Z (fun i (_ : Unit) => [some (.mach k S), some (sq bq (ps.map tp)), some (nat a), some (nat c), some (tn cl), none, none]) (fun _ _ => []) (fun i _ => clash S (ps.take i) a c cl = none) ⟨(), rfl, ⟨rfl, rfl, rfl, rfl, rfl, trivial⟩, rfl⟩ (fun i d y tx hd hi => ?_) fun y s1 H1 hy Z1 => ?_
  · rw [List.getElem?_map] at hd
    cases hpi : ps[i]? with
    | none => rw [hpi] at hd; cases hd
    | some p =>
      rw [hpi] at hd
      cases hd
      obtain ⟨h1, h2⟩ := hps p (List.mem_of_getElem? hpi)
      refine ⟨_, _, bg_tup bg_name bg_name, fun s1 H1 Z1 => ?_⟩
      refine s_ifD (et_test (ev_neI (ev_clD (ev_var rfl) (ev_nx T.cl T.nT ok (ev_var rfl) (ev_var rfl) (ev_var rfl) h1 hc) (by rw [hcl]; exact ok.nx_lt _ _)) (ev_clD (ev_var rfl) (ev_nx T.cl T.nT ok (ev_var rfl) (ev_var rfl) (ev_var rfl) h2 ha) (by rw [hcl]; exact ok.nx_lt _ _)))) Z1 (fun hb H2 Z2 => ?_) fun hb H2 Z2 => ?_
      · refine s_ret (ev_tup (ea_cons (ev_var rfl) (ea_cons (ev_var rfl) ea_nil))) Z2 fun v d' mu' H' ⟨e, _⟩ S' => q.go hM S' ?_
        rw [dec_nat] at hb
        rw [e, show clash S ps a c cl = some p from find_at hpi hi hb]
        rfl
      · rw [dec_nat] at hb
        exact ⟨(), find_next hpi hi hb, Z2.weak ⟨rfl, rfl, rfl, rfl, rfl, trivial⟩⟩
  · refine s_ret ev_non Z1 fun v d' mu' H' ⟨e, _⟩ S' => q.go hM S' ?_
    rw [List.length_map, List.take_length] at hy
    rw [e, hy]
    rfl
end
end DL
/-! layers.py -/
namespace DL
open PySem L2 Mth

def nOf : D → Nat
  | .int i => i.toNat
  | _ => 0
theorem nOf_nat (n : Nat) : nOf (nat n) = n := by show ((n : Int)).toNat = n; omega
def lotsD (ls : List (List Nat)) : List D := ls.map tn
theorem nats_at {l : List Nat} {i : Nat} {d : D} (h : (nats l)[i]? = some d) : ∃ x, l[i]? = some x ∧ d = nat x := by
  unfold nats at h
  rw [List.getElem?_map] at h
  cases q : l[i]? with
  | none => rw [q] at h; cases h
  | some x => rw [q] at h; cases h; exact ⟨x, rfl, rfl⟩
theorem rng_at {n i : Nat} {d : D} (h : ((List.range n).map nat)[i]? = some d) : i < n ∧ d = nat i := by
  obtain ⟨x, h1, h2⟩ := nats_at (l := List.range n) h
  have hi : i < n := by
    have := (List.getElem?_eq_some_iff.mp h1).1
    simpa using this
  rw [List.getElem?_range hi] at h1
  cases h1
  exact ⟨hi, h2⟩
theorem onw_mem {S : Mat} {k : Nat} (h : Ok S k) {st : List Nat} {j : Int} : j ∈ (onw S k st).map (fun (n : Nat) => (n : Int)) ↔ j ∈ (nats st).flatMap fun d => ((List.range k).map nat).map fun e => ((nx S (nOf d) (nOf e) : Nat) : Int) := by
  rw [List.mem_map, List.mem_flatMap]
  constructor
  · rintro ⟨t, ht, e⟩
    obtain ⟨_, s, hs, c, hc, e2⟩ := mem_onw.mp ht
    refine ⟨nat s, List.mem_map.mpr ⟨s, hs, rfl⟩, List.mem_map.mpr ⟨nat c, List.mem_map.mpr ⟨c, List.mem_range.mpr hc, rfl⟩, ?_⟩⟩
    rw [nOf_nat, nOf_nat, e2]
    exact e
  · rintro ⟨d, hd, hj⟩
    obtain ⟨s, hs, e⟩ := List.mem_map.mp hd
    obtain ⟨e', he', ej⟩ := List.mem_map.mp hj
    obtain ⟨c, hc, ec⟩ := List.mem_map.mp he'
    subst e; subst ec
    rw [nOf_nat, nOf_nat] at ej
    exact ⟨_, mem_onw.mpr ⟨h.nx_lt _ _, s, hs, c, List.mem_range.mp hc, rfl⟩, ej⟩
theorem onw_asc (S : Mat) (k : Nat) (st : List Nat) : ((onw S k st).map (fun (n : Nat) => (n : Int))).Pairwise (· < ·) := by
  rw [List.pairwise_map]
  unfold onw
  exact (List.Pairwise.filter _ (List.pairwise_lt_range (n := S.length))).imp fun h => by omega
theorem nats_map (l : List Nat) : (l.map (fun (n : Nat) => (n : Int))).map D.int = nats l := by
  rw [List.map_map]
  rfl
theorem at_last {α : Type} {l : List α} {n : Nat} {x : α} (hl : l.length = n + 1) (hx : l[n]? = some x) : atI l (-1) = some x := by
  unfold atI ixN
  rw [hl, if_neg (by decide), if_pos (by omega)]
  have e : (-1 + ((n + 1 : Nat) : Int)).toNat = n := by omega
  rw [e]
  exact hx
theorem pl_tn (l : List Nat) : pl 2 (tn l) = true := pls_nats 1 l
theorem lot_list (S : Mat) (k i : Nat) : atI ((List.range (i + 1)).map fun j => tn (lot S k j)) (-1) = some (tn (lot S k i)) := at_last (n := i) (by simp) (by rw [List.getElem?_map, List.getElem?_range (by omega)]; rfl)
theorem cls_list (S : Mat) (i : Nat) : atI ((List.range (i + 1)).map fun j => tn (cls S j)) (-1) = some (tn (cls S i)) := at_last (n := i) (by simp) (by rw [List.getElem?_map, List.getElem?_range (by omega)]; rfl)
theorem lot_len {S : Mat} {k : Nat} (h : Ok S k) (i : Nat) : (lot S k i).length ≤ 10 := by
  have e := lot_is h i
  have l := List.length_filter_le (fun t => decide (t ∈ lot S k i)) (List.range S.length)
  rw [← e, List.length_range] at l
  exact Nat.le_trans l h.n10
section
variable {P : Program} {w : World} {K : PySem.W.Frag} {mg : Str → Option Value} {base : Heap} {C : Addr}
abbrev sp_onward (C : Addr) : Sp := spF C (fun x : (Mat × Nat) × List Nat => [.mach x.1.2 x.1.1, tn x.2]) (fun x => Ok x.1.1 x.1.2 ∧ (∀ s ∈ x.2, s < x.1.1.length) ∧ x.2.length ≤ 10) fun x r => r = tn (onw x.1.1 x.1.2 x.2)
theorem c_onward (T : Txt K mg C) : Cal P w K mg base 1 "onward" ["machine", "states"] (sp_onward C) := T.d.onward.cal fun f fd Fn => okF Fn sc_onward (fun _ => rfl) fun x cdv A outer s H E hp hr => by
  obtain ⟨⟨S, k⟩, st⟩ := x
  obtain ⟨h, hst, hl⟩ := hp
  refine ⟨_, (pss_one (ps_ret (k_tuple K T.b.tuple (x_sortI T.b.sorted (pe_s2 (own := [("state", 2), ("command", 3)]) (v1 := [3]) gathI (by rfl) sc_onward.nd (k_pit K (pv 1)) (bk (own := [("state", 2), ("command", 3)]) (N := N_onward) (sc := defScope s_onward)) (by decide) (fun _ _ _ _ _ => (pgn 2 sc_onward.nd)) (fun _ _ _ _ _ => pts_nil) (fun _ _ _ _ _ => (pi_range1 (by rfl) T.b.range (pa_cons (k_fld K (pv 0)) pa_nil))) (fun _ _ _ _ _ => (pgn 3 sc_onward.nd)) (fun _ _ _ _ _ => pts_nil) (fun _ _ _ _ _ => (k_ix K (k_ix K (k_fld K (pv 0)) (pv 2)) (pv 3)))))))), fun c Q s0 H0 hM q S0 => ?_⟩
  refine s_ret (ev_tupleL (EvN.ev ((el_sortedI (ev_s2I (fun d e => ((nx S (nOf d) (nOf e) : Nat) : Int)) (fun _ => (List.range k).map nat) (evi_tup (ev_var rfl)) ?_ fun i d hd => ?_) ?_ ((onw S k st).map fun (n : Nat) => (n : Int)) (onw_asc S k st) fun j => onw_mem h).to (nats_map _)))) S0 fun v d' mu' H' ⟨e, _⟩ S' => q.go hM S' e
  · have := h.k5
    have e : ∀ (l : List D), (l.flatMap fun _ => (List.range k).map nat).length = l.length * k := by
      intro l
      induction l with
      | nil => simp
      | cons x l ih => rw [List.flatMap_cons, List.length_append, ih]; simp [Nat.succ_mul]; omega
    rw [e]
    unfold nats
    rw [List.length_map]
    have : st.length * k ≤ 10 * 5 := Nat.mul_le_mul hl this
    omega
  · obtain ⟨sv, hs, rfl⟩ := nats_at hd
    refine ⟨_, _, bg_name, by simp, fun mu' => ⟨evi_rng (ev_commands T.cl T.nC (ev_var rfl)) (by have h5 : k ≤ 5 := h.k5; omega), fun j e he => ?_⟩⟩
    obtain ⟨hj, rfl⟩ := rng_at he
    refine ⟨_, _, bg_name, by simp, fun mu' => ?_⟩
    rw [nOf_nat, nOf_nat]
    exact ev_nx T.cl T.nT h (ev_var rfl) (ev_var rfl) (ev_var rfl) (hst _ (List.mem_of_getElem? hs)) hj
  · have := h.k5
    have e : ∀ (l : List D), (l.flatMap fun d => ((List.range k).map nat).map fun e => ((nx S (nOf d) (nOf e) : Nat) : Int)).length = l.length * k := by
      intro l
      induction l with
      | nil => simp
      | cons x l ih => rw [List.flatMap_cons, List.length_append, ih]; simp [Nat.succ_mul]; omega
    rw [e]
    unfold nats
    rw [List.length_map]
    have : st.length * k ≤ 10 * 5 := Nat.mul_le_mul hl this
    omega

abbrev sp_all_behind (C : Addr) : Sp := spF C (fun x : Mat × Nat => [.mach x.2 x.1]) (fun x => Ok x.1 x.2) fun x r => r = .lst ((lots x.1 x.2).map tn)
theorem c_all_behind (T : Txt K mg C) : Cal P w K mg base 2 "all_behind" ["machine"] (sp_all_behind C) := T.d.all_behind.cal fun f fd Fn => okF Fn sc_all_behind (fun _ => rfl) fun x cdv A outer s H E hp hr => by
  have g_onward := c_onward (P := P) (w := w) (base := base) T
  obtain ⟨S, k⟩ := x
  have h : Ok S k := hp
  have h10 := h.n10
  obtain ⟨u1, u2, u3⟩ := uu_spec h
  refine ⟨_, (pss_cons (psn 1 sc_all_behind.nd (pe_lst (pa_cons (pe_tupRg rfl rfl T.b.tuple (prg_1 rfl T.b.range (k_fld K (pv 0)))) pa_nil)))
  (pss_one (ps_while PassesOwn.never (pt_val pe_bl)
  (pss_cons (psn 2 sc_all_behind.nd (pe_cal g_onward (hr.mono (by decide)) (pa_cons (pv 0) (pa_cons (k_ix K (pv 1) (pe_un un_neg pe_int)) pa_nil))))
  (pss_cons (ps_if (pt_cmpR (k_eqD K hr.units) (pv 2) (k_ix K (pv 1) (pe_un un_neg pe_int)) (nomark _))
  (pss_one (ps_ret (pv 1)))
  pss_nil)
  (pss_one (ps_expr (pe_bm PySem.F.plainAttrs_list PySem.F.slot_list_append PySem.F.type_list_append mt_append (pv 1) (pa_cons (pv 2) pa_nil))))))))), fun c Q s0 H0 hM q Z => ?_⟩
  refine q_asgN (el_lst (ea_cons (ev_tupRg (ev_states T.cl T.nS (ev_var rfl)) (by show S.length ≤ _; omega)) ea_nil)) Z fun p s1 H1 Z1 => ?_
  refine s_while Z1 (fun _ : Nat => [some (.mach k S), some (.ptr p), none]) (fun i => [(p, .lst ((List.range (i + 1)).map fun j => tn (lot S k j)))]) (fun n i => i ≤ uu S k ∧ n = uu S k - i) ⟨0, uu S k, ⟨Nat.zero_le _, rfl⟩, ⟨rfl, rfl, trivial⟩, rfl⟩ fun n i hI => ?_
  refine ⟨_, et_B ev_bl, fun mu' s2 H2 hb Z2 => ?_, fun mu' s2 H2 hb _ => by cases hb.1⟩
  obtain ⟨_, e⟩ := hb
  subst e
  obtain ⟨hi, hn⟩ := hI
  refine q_asgD (ev_call (f := fun x : (Mat × Nat) × List Nat => tn (onw x.1.1 x.1.2 x.2)) ((S, k), lot S k i) (ea_cons (ev_var rfl) (ea_cons (ev_ixO (ev_var rfl) (ev_neg ev_int) List.mem_cons_self (lot_list S k i)) ea_nil)) ⟨h, fun t ht => lot_lt h ht, lot_len h i⟩) Z2 fun s3 H3 Z3 => ?_
  refine q_when (et_test (EvD.to (ev_eq 2 (ev_var rfl) (ev_ixO (ev_var rfl) (ev_neg ev_int) List.mem_cons_self (lot_list S k i)) (pl_tn _) (pl_tn _)) (by rw [show eqd (tn (onw S k (lot S k i))) (tn (lot S k i)) = decide (lot S k (i + 1) = lot S k i) from eqd_nats _ _]))) Z3 (fun hb H4 Z4 => ?_) fun hb H4 Z4 => ?_
  · have e : lot S k (i + 1) = lot S k i := of_decide_eq_true hb
    have ei : i = uu S k := by
      rcases Nat.lt_or_ge i (uu S k) with z | z
      · exact absurd e (u2 i z)
      · omega
    refine s_ret (ev_letgo (ev_var rfl)) Z4 fun v d' mu' H' ⟨e1, _⟩ S' => q.go hM S' (e1.trans ?_)
    rw [ei]
    unfold lots
    rw [List.map_map]
    rfl
  · have e : lot S k (i + 1) ≠ lot S k i := of_decide_eq_false hb
    have lt : i < uu S k := by
      rcases Nat.lt_or_ge i (uu S k) with z | z
      · exact z
      · have ei : i = uu S k := by omega
        rw [ei] at e
        exact absurd u1 e
    refine s_appD 0 (ev_var rfl) (ev_var rfl) rfl (by simp; omega) Z4 fun H5 Z5 => ⟨i + 1, uu S k - (i + 1), by omega, ⟨lt, rfl⟩, ?_⟩
    have el : ((List.range (i + 1 + 1)).map fun j => tn (lot S k j)) = ((List.range (i + 1)).map fun j => tn (lot S k j)) ++ [tn (onw S k (lot S k i))] := by
      rw [List.range_succ (n := i + 1), List.map_append]
      rfl
    dsimp only
    rw [el]
    exact Z5.weak ⟨rfl, rfl, trivial⟩
abbrev sp_behind (C : Addr) : Sp := spF C (fun x : (Mat × Nat) × Nat => [.mach x.1.2 x.1.1, nat x.2]) (fun x => Ok x.1.1 x.1.2) fun x r => r = tn (lot x.1.1 x.1.2 x.2)
theorem ev_lots_at {te ta : TE} {E : XK} {rho : List (Option D)} {mu : Mu} {S : Mat} {k n : Nat} (h : Ok S k) (ha : EvD C te rho mu (.lst ((lots S k).map tn))) (hb : EvD C ta rho mu (nat n)) : EvD C (tCall (sp_at_count C) [] E (tCons te (tCons ta tNil))) rho mu (tn (lot S k n)) :=
  Ev.imp (ev_callP (((lots S k).map tn), n) (ea_cons ha (ea_cons hb ea_nil)) (by
    show (lots S k).map tn ≠ []
    intro z
    have := congrArg List.length z
    rw [List.length_map, lots_len] at this
    cases this)) fun d mu' ⟨e, e2⟩ => ⟨by
      have e' : ((lots S k).map tn)[min n (((lots S k).map tn).length - 1)]? = some d := e
      rw [List.length_map, lots_len, Nat.add_sub_cancel, List.getElem?_map, lots_get (Nat.min_le_right _ _), lot_sat h] at e'
      exact (Option.some.inj e').symm, e2⟩
theorem c_behind (T : Txt K mg C) : Cal P w K mg base 3 "behind" ["machine", "count"] (sp_behind C) := T.d.behind.cal fun f fd Fn => okF Fn sc_behind (fun _ => rfl) fun x cdv A outer s H E hp hr => by
  have g_all_behind := c_all_behind (P := P) (w := w) (base := base) T
  have g_at_count := c_at_count (P := P) (w := w) (base := base) T
  obtain ⟨⟨S, k⟩, n⟩ := x
  refine ⟨_, (pss_one (ps_ret (pe_cal g_at_count (hr.mono (by decide)) (pa_cons (pe_cal g_all_behind (hr.mono (by decide)) (pa_cons (pv 0) pa_nil)) (pa_cons (pv 1) pa_nil))))), fun c Q s0 H0 hM q Z => ?_⟩
  exact s_ret (ev_lots_at hp (ev_call (f := fun x : Mat × Nat => .lst ((lots x.1 x.2).map tn)) (S, k) (ea_cons (ev_var rfl) ea_nil) hp) (ev_var rfl)) Z fun v d' mu' H' ⟨e, _⟩ S' => q.go hM S' e
abbrev sp_settled_behind (C : Addr) : Sp := spF C (fun x : Mat × Nat => [.mach x.2 x.1]) (fun x => Ok x.1 x.2) fun x r => r = nat (uu x.1 x.2)
theorem c_settled_behind (T : Txt K mg C) : Cal P w K mg base 3 "settled_behind" ["machine"] (sp_settled_behind C) := T.d.settled_behind.cal fun f fd Fn => okF Fn sc_settled_behind (fun _ => rfl) fun x cdv A outer s H E hp hr => by
  have g_all_behind := c_all_behind (P := P) (w := w) (base := base) T
  obtain ⟨S, k⟩ := x
  refine ⟨_, (pss_one (ps_ret (pe_op op_sub (k_len K T.b.len (pe_cal g_all_behind (hr.mono (by decide)) (pa_cons (pv 0) pa_nil))) pe_int))), fun c Q s0 H0 hM q Z => ?_⟩
  refine s_ret (ev_sub (ev_lenL (ev_call (f := fun x : Mat × Nat => .lst ((lots x.1 x.2).map tn)) (S, k) (ea_cons (ev_var rfl) ea_nil) hp)) ev_int) Z fun v d' mu' H' ⟨e, _⟩ S' => q.go hM S' (e.trans ?_)
  rw [List.length_map, lots_len]
  show D.int _ = D.int _
  congr 1
  omega
end
end DL
/-! layers.py: the classes -/
namespace DL
open PySem L2 Mth

def inz (l : List Nat) : List Int := l.map fun (n : Nat) => (n : Int)
theorem inz_inj {a b : List Nat} (h : inz a = inz b) : a = b := by
  unfold inz at h
  exact (List.map_inj_right fun x y z => by omega).mp h
theorem tn_ky (l : List Nat) : tn l = ky (inz l) := by
  unfold tn ky inz
  rw [nats_ints]
theorem idx_take {l : List (List Nat)} {i : Nat} {x : List Nat} (h : l[i]? = some x) : l.idxOf x = if x ∈ l.take i then (l.take i).idxOf x else i := by
  obtain ⟨hi, e⟩ := List.getElem?_eq_some_iff.mp h
  have e2 : l = l.take i ++ x :: l.drop (i + 1) := by rw [← e, List.getElem_cons_drop, List.take_append_drop]
  conv => lhs; rw [e2]
  rw [List.idxOf_append]
  by_cases hm : x ∈ l.take i
  · rw [if_pos hm, if_pos hm]
  · rw [if_neg hm, if_neg hm, List.idxOf_cons_self, List.length_take]
    omega
theorem getM_app {m : List (List Int × D)} {k j : List Int} {d : D} : getM (m ++ [(j, d)]) k = (getM m k).or (if j = k then some d else none) := by
  unfold getM
  rw [List.find?_append]
  cases h : m.find? fun p => decide (p.1 = k) with
  | some p => rfl
  | none =>
    by_cases e : j = k
    · rw [List.find?_cons, decide_eq_true e, if_pos e]; rfl
    · rw [List.find?_cons, decide_eq_false e, if_neg e]; rfl
/-- what firsts knows behind i turns -/
def Fst (ks : List (List Nat)) (i : Nat) (m : List (List Int × D)) : Prop := m.length ≤ i ∧ ∀ key : List Nat, getM m (inz key) = if key ∈ ks.take i then some (nat ((ks.take i).idxOf key)) else none
theorem Fst.old {ks : List (List Nat)} {i : Nat} {m : List (List Int × D)} {x : List Nat} (h : Fst ks i m) (hx : ks[i]? = some x) (hm : x ∈ ks.take i) : Fst ks (i + 1) m := by
  refine ⟨Nat.le_succ_of_le h.1, fun key => ?_⟩
  have et : ks.take (i + 1) = ks.take i ++ [x] := by rw [List.take_succ, hx]; rfl
  rw [h.2, et]
  by_cases hk : key ∈ ks.take i
  · rw [if_pos hk, if_pos (List.mem_append_left _ hk), List.idxOf_append, if_pos hk]
  · have : key ∉ ks.take i ++ [x] := fun z => (List.mem_append.mp z).elim hk fun z => hk (by rw [List.mem_singleton.mp z]; exact hm)
    rw [if_neg hk, if_neg this]
theorem Fst.new {ks : List (List Nat)} {i : Nat} {m : List (List Int × D)} {x : List Nat} (h : Fst ks i m) (hx : ks[i]? = some x) (hm : x ∉ ks.take i) : Fst ks (i + 1) (putM m (inz x) (nat i)) := by
  have hn : getM m (inz x) = none := by rw [h.2, if_neg hm]
  rw [putM_new _ hn]
  refine ⟨by have := h.1; simp; omega, fun key => ?_⟩
  have et : ks.take (i + 1) = ks.take i ++ [x] := by rw [List.take_succ, hx]; rfl
  have hi : i < ks.length := (List.getElem?_eq_some_iff.mp hx).1
  rw [getM_app, h.2, et]
  by_cases hk : key ∈ ks.take i
  · rw [if_pos hk, if_pos (List.mem_append_left _ hk), List.idxOf_append, if_pos hk]
    rfl
  · rw [if_neg hk]
    by_cases e : x = key
    · rw [if_pos (by rw [e]), if_pos (List.mem_append_right _ (by rw [e]; exact List.mem_cons_self)), List.idxOf_append, if_neg hk, ← e, List.idxOf_cons_self, List.length_take]
      have e2 : 0 + min i ks.length = i := by omega
      rw [e2]
      rfl
    · have e' : key ∉ ks.take i ++ [x] := fun z => (List.mem_append.mp z).elim hk fun z => e (List.mem_singleton.mp z).symm
      rw [if_neg (fun z => e (inz_inj z)), if_neg e']
      rfl
section
variable {P : Program} {w : World} {K : PySem.W.Frag} {mg : Str → Option Value} {base : Heap} {C : Addr}
theorem ev_row {te ta : TE} {rho : List (Option D)} {mu : Mu} {S : Mat} {k s : Nat} {r : List Nat} (hC : Cls K C) (hn : NoAttr K C "steps") (hm : EvD C te rho mu (.mach k S)) (ha : EvD C ta rho mu (nat s)) (hr : S[s]? = some r) : EvD C (tOp (rIx K) (tFld K te "steps") ta) rho mu (tn r) :=
  ev_ixT (ev_steps hC hn hm) ha (at_nat (by rw [List.getElem?_map, hr]; rfl))
abbrev sp_coarser (C : Addr) : Sp := spF C (fun x : (Mat × Nat) × List Nat => [.mach x.1.2 x.1.1, tn x.2]) (fun x => Ok x.1.1 x.1.2 ∧ x.2.length = x.1.1.length) fun x r => r = tn (coar x.1.1 x.2)
theorem c_coarser (T : Txt K mg C) : Cal P w K mg base 1 "coarser" ["machine", "classes"] (sp_coarser C) := T.d.coarser.cal fun f fd Fn => okF Fn sc_coarser (fun _ => rfl) fun x cdv A outer s H E hp hr => by
  obtain ⟨⟨S, k⟩, cl⟩ := x
  obtain ⟨h, hl⟩ := hp
  dsimp only at h hl
  have h10 := h.n10
  refine ⟨_, (pss_cons (ps_par (i := 2) (j := 3) rfl sc_coarser.nd rfl rfl (by decide) rfl rfl (pa_cons pe_dnewT (pa_cons (pe_lst pa_nil) pa_nil)) (by rfl))
  (pss_cons (ps_for PassesOwn.never rfl (pi_range1 (by rfl) T.b.range (pa_cons (k_fld K (pv 0)) pa_nil)) (pgn 4 sc_coarser.nd)
  (pss_cons (psn 5 sc_coarser.nd (k_tuple K T.b.tuple (pe_lc (own := [("later", 6)]) (by rfl) sc_coarser.nd (k_pit K (k_ix K (k_fld K (pv 0)) (pv 4))) (bk (own := [("later", 6)]) (N := N_coarser) (sc := defScope s_coarser)) (fun _ _ _ _ _ => (pgn 6 sc_coarser.nd)) (fun _ _ _ _ _ => pts_nil) (fun _ _ _ _ _ => (k_ix K (pv 1) (pv 6))))))
  (pss_one (ps_expr (pe_bm PySem.F.plainAttrs_list PySem.F.slot_list_append PySem.F.type_list_append mt_append (pv 3) (pa_cons (pe_setdT (hu_of hr) (pv 2) (pv 5) (pv 4) ⟨by rfl, by rfl, by rfl, by rfl⟩) pa_nil))))))
  (pss_one (ps_ret (k_tuple K T.b.tuple (pv 3)))))), fun c Q s0 H0 hM q Z => ?_⟩
  replace Z : Sat C c [some (.mach k S), some (tn cl), none, none, none, none, none] [] [] s0 H0 := Z
  refine q_par2 el_dnew (fun d mu1 _ => el_lst ea_nil) Z fun d e mu1 mu' s1 H1 ⟨pd, ed, em⟩ ⟨pf, ef, em2⟩ Z1 => ?_
  subst ed; subst em; subst ef; subst em2
  have kl : ∀ i, i < S.length → ∃ r, S[i]? = some r ∧ (keys S cl)[i]? = some (r.map fun t => cl.getD t 0) ∧ ∀ t ∈ r, t < S.length := fun i hi => by
    have e : S[i]? = some S[i] := List.getElem?_eq_getElem hi
    exact ⟨S[i], e, by unfold keys; rw [List.getElem?_map, e]; rfl, fun t ht => h.val _ (List.getElem_mem hi) t ht⟩
  refine q_for (evi_rng (ev_states T.cl T.nS (ev_var rfl)) (by omega)) Z1 (fun i (_ : List (List Int × D)) => [some (.mach k S), some (tn cl), some (.ptr pd), some (.ptr pf), none, none, none]) (fun i m => [(pf, .lst (nats ((coar S cl).take i))), (pd, .dct m)]) (fun i m => Fst (keys S cl) i m) ⟨[], ⟨Nat.le_refl _, fun key => by simp [getM]⟩, ⟨rfl, rfl, rfl, rfl, trivial⟩, rfl⟩ (fun i d m tx hd hi => ?_) fun m s2 H2 hm Z2 => ?_
  · obtain ⟨hlt, rfl⟩ := rng_at hd
    obtain ⟨r, hr, hk, hv⟩ := kl i hlt
    refine ⟨_, _, bg_name, fun s2 H2 Z2 => ?_⟩
    refine q_asgD (ev_tupleL (EvN.ev ((el_map (fun d => nat (cl.getD (nOf d) 0)) (evi_tup (ev_row T.cl T.nT (ev_var rfl) (ev_var rfl) hr)) ?_ fun j d hd => ?_).to (show _ = nats (r.map fun t => cl.getD t 0) from ?_)))) Z2 fun s3 H3 Z3 => ?_
    · have := h.row r (List.mem_of_getElem? hr)
      have := h.k5
      unfold nats
      rw [List.length_map]
      omega
    · obtain ⟨t, ht, rfl⟩ := nats_at hd
      refine ⟨_, _, bg_name, by simp, fun mu' => ?_⟩
      rw [nOf_nat]
      exact ev_clD (ev_var rfl) (ev_var rfl) (by rw [hl]; exact hv t (List.mem_of_getElem? ht))
    · unfold nats
      rw [List.map_map, List.map_map]
      refine List.map_congr_left fun t _ => ?_
      show nat (cl.getD (nOf (nat t)) 0) = nat (cl.getD t 0)
      rw [nOf_nat]
    · have hcoar : (coar S cl)[i]? = some ((keys S cl).idxOf (r.map fun t => cl.getD t 0)) := by
        unfold coar
        rw [List.getElem?_map, hk]
        rfl
      have et : nats ((coar S cl).take (i + 1)) = nats ((coar S cl).take i) ++ [nat ((keys S cl).idxOf (r.map fun t => cl.getD t 0))] := by
        rw [List.take_succ, hcoar]
        unfold nats
        rw [List.map_append]
        rfl
      have hi2 : m.length < 100000 := by have := hi.1; omega
      have hx := idx_take hk
      have hv2 := hi.2 (r.map fun t => cl.getD t 0)
      refine s_appR 0 (ev_var rfl) List.mem_cons_self (ev_setd (kk := inz (r.map fun t => cl.getD t 0)) 1 (ev_var rfl) (EvD.to (ev_var rfl) (tn_ky _)) (ev_var rfl) rfl hi2) Z3 (fun d mu' hR => ⟨nats ((coar S cl).take i), ?_, ?_⟩) fun d mu' ds H4 hR hds Z4 => ?_
      · rcases hR with ⟨_, e⟩ | ⟨_, _, e⟩ <;> rw [e] <;> rfl
      · unfold nats
        rw [List.length_map, List.length_take]
        omega
      · rcases hR with ⟨g, e⟩ | ⟨g, ed, e⟩
        · subst e
          have hds' : nats ((coar S cl).take i) = ds := by
            injection hds with z
            injection z with _ z
            injection z
          subst hds'
          rw [hv2] at g
          by_cases hm : (r.map fun t => cl.getD t 0) ∈ (keys S cl).take i
          · rw [if_pos hm] at g hx
            cases g
            exact ⟨m, hi.old hk hm, by dsimp only; rw [et, hx]; exact Z4.weak ⟨rfl, rfl, rfl, rfl, trivial⟩⟩
          · rw [if_neg hm] at g
            cases g
        · subst e; subst ed
          have hds' : nats ((coar S cl).take i) = ds := by
            injection hds with z
            injection z with _ z
            injection z
          subst hds'
          rw [hv2] at g
          by_cases hm : (r.map fun t => cl.getD t 0) ∈ (keys S cl).take i
          · rw [if_pos hm] at g
            cases g
          · rw [if_neg hm] at hx
            exact ⟨_, hi.new hk hm, by dsimp only; rw [et, hx]; exact Z4.weak ⟨rfl, rfl, rfl, rfl, trivial⟩⟩
  · refine s_ret (ev_tupleO (ev_var rfl) List.mem_cons_self) Z2 fun v d' mu' H' ⟨e, _⟩ S' => q.go hM S' (e.trans ?_)
    rw [List.length_map, List.length_range]
    have : (coar S cl).take S.length = coar S cl := by
      rw [List.take_of_length_le]
      unfold coar
      rw [List.length_map, keys_len]
      exact Nat.le_refl _
    rw [this]
    rfl

abbrev sp_all_joined (C : Addr) : Sp := spF C (fun x : Mat × Nat => [.mach x.2 x.1]) (fun x => Ok x.1 x.2) fun x r => r = .lst ((clss x.1).map tn)
theorem c_all_joined (T : Txt K mg C) : Cal P w K mg base 2 "all_joined" ["machine"] (sp_all_joined C) := T.d.all_joined.cal fun f fd Fn => okF Fn sc_all_joined (fun _ => rfl) fun x cdv A outer s H E hp hr => by
  have g_coarser := c_coarser (P := P) (w := w) (base := base) T
  obtain ⟨S, k⟩ := x
  have h : Ok S k := hp
  have h10 := h.n10
  obtain ⟨u1, u2, u3⟩ := vv_spec h
  refine ⟨_, (pss_cons (psn 1 sc_all_joined.nd (pe_lst (pa_cons (pe_tupRg rfl rfl T.b.tuple (prg_1 rfl T.b.range (k_fld K (pv 0)))) pa_nil)))
  (pss_one (ps_while PassesOwn.never (pt_val pe_bl)
  (pss_cons (psn 2 sc_all_joined.nd (pe_cal g_coarser (hr.mono (by decide)) (pa_cons (pv 0) (pa_cons (k_ix K (pv 1) (pe_un un_neg pe_int)) pa_nil))))
  (pss_cons (ps_if (pt_cmpR (k_eqD K hr.units) (pv 2) (k_ix K (pv 1) (pe_un un_neg pe_int)) (nomark _))
  (pss_one (ps_ret (pv 1)))
  pss_nil)
  (pss_one (ps_expr (pe_bm PySem.F.plainAttrs_list PySem.F.slot_list_append PySem.F.type_list_append mt_append (pv 1) (pa_cons (pv 2) pa_nil))))))))), fun c Q s0 H0 hM q Z => ?_⟩
  replace Z : Sat C c [some (.mach k S), none, none] [] [] s0 H0 := Z
  refine q_asgN (el_lst (ea_cons (ev_tupRg (ev_states T.cl T.nS (ev_var rfl)) (by omega)) ea_nil)) Z fun p s1 H1 Z1 => ?_
  refine s_while Z1 (fun _ : Nat => [some (.mach k S), some (.ptr p), none]) (fun i => [(p, .lst ((List.range (i + 1)).map fun j => tn (cls S j)))]) (fun n i => i ≤ vv S ∧ n = vv S - i) ⟨0, vv S, ⟨Nat.zero_le _, rfl⟩, ⟨rfl, rfl, trivial⟩, rfl⟩ fun n i hI => ?_
  refine ⟨_, et_B ev_bl, fun mu' s2 H2 hb Z2 => ?_, fun mu' s2 H2 hb _ => by cases hb.1⟩
  obtain ⟨_, e⟩ := hb
  subst e
  obtain ⟨hi, hn⟩ := hI
  refine q_asgD (ev_call (f := fun x : (Mat × Nat) × List Nat => tn (coar x.1.1 x.2)) ((S, k), cls S i) (ea_cons (ev_var rfl) (ea_cons (ev_ixO (ev_var rfl) (ev_neg ev_int) List.mem_cons_self (cls_list S i)) ea_nil)) ⟨h, cls_len i⟩) Z2 fun s3 H3 Z3 => ?_
  refine q_when (et_test (EvD.to (ev_eq 2 (ev_var rfl) (ev_ixO (ev_var rfl) (ev_neg ev_int) List.mem_cons_self (cls_list S i)) (pl_tn _) (pl_tn _)) (by rw [show eqd (tn (coar S (cls S i))) (tn (cls S i)) = decide (cls S (i + 1) = cls S i) from eqd_nats _ _]))) Z3 (fun hb H4 Z4 => ?_) fun hb H4 Z4 => ?_
  · have e : cls S (i + 1) = cls S i := of_decide_eq_true hb
    have ei : i = vv S := by
      rcases Nat.lt_or_ge i (vv S) with z | z
      · exact absurd e (u2 i z)
      · omega
    refine s_ret (ev_letgo (ev_var rfl)) Z4 fun v d' mu' H' ⟨e1, _⟩ S' => q.go hM S' (e1.trans ?_)
    rw [ei]
    unfold clss
    rw [List.map_map]
    rfl
  · have e : cls S (i + 1) ≠ cls S i := of_decide_eq_false hb
    have lt : i < vv S := by
      rcases Nat.lt_or_ge i (vv S) with z | z
      · exact z
      · have ei : i = vv S := by omega
        rw [ei] at e
        exact absurd u1 e
    refine s_appD 0 (ev_var rfl) (ev_var rfl) rfl (by simp; omega) Z4 fun H5 Z5 => ⟨i + 1, vv S - (i + 1), by omega, ⟨lt, rfl⟩, ?_⟩
    have el : ((List.range (i + 1 + 1)).map fun j => tn (cls S j)) = ((List.range (i + 1)).map fun j => tn (cls S j)) ++ [tn (coar S (cls S i))] := by
      rw [List.range_succ (n := i + 1), List.map_append]
      rfl
    dsimp only
    rw [el]
    exact Z5.weak ⟨rfl, rfl, trivial⟩
theorem ev_clss_at {te ta : TE} {E : XK} {rho : List (Option D)} {mu : Mu} {S : Mat} {k n : Nat} (h : Ok S k) (ha : EvD C te rho mu (.lst ((clss S).map tn))) (hb : EvD C ta rho mu (nat n)) : EvD C (tCall (sp_at_count C) [] E (tCons te (tCons ta tNil))) rho mu (tn (cls S n)) :=
  Ev.imp (ev_callP (((clss S).map tn), n) (ea_cons ha (ea_cons hb ea_nil)) (by
    show (clss S).map tn ≠ []
    intro z
    have := congrArg List.length z
    rw [List.length_map, clss_len] at this
    cases this)) fun d mu' ⟨e, e2⟩ => ⟨by
      have e' : ((clss S).map tn)[min n (((clss S).map tn).length - 1)]? = some d := e
      rw [List.length_map, clss_len, Nat.add_sub_cancel, List.getElem?_map, clss_get (Nat.min_le_right _ _), cls_sat h] at e'
      exact (Option.some.inj e').symm, e2⟩
abbrev sp_joined (C : Addr) : Sp := spF C (fun x : (Mat × Nat) × Nat => [.mach x.1.2 x.1.1, nat x.2]) (fun x => Ok x.1.1 x.1.2) fun x r => r = tn (cls x.1.1 x.2)
theorem c_joined (T : Txt K mg C) : Cal P w K mg base 3 "joined" ["machine", "count"] (sp_joined C) := T.d.joined.cal fun f fd Fn => okF Fn sc_joined (fun _ => rfl) fun x cdv A outer s H E hp hr => by
  have g_all_joined := c_all_joined (P := P) (w := w) (base := base) T
  have g_at_count := c_at_count (P := P) (w := w) (base := base) T
  obtain ⟨⟨S, k⟩, n⟩ := x
  refine ⟨_, (pss_one (ps_ret (pe_cal g_at_count (hr.mono (by decide)) (pa_cons (pe_cal g_all_joined (hr.mono (by decide)) (pa_cons (pv 0) pa_nil)) (pa_cons (pv 1) pa_nil))))), fun c Q s0 H0 hM q Z => ?_⟩
  exact s_ret (ev_clss_at hp (ev_call (f := fun x : Mat × Nat => .lst ((clss x.1).map tn)) (S, k) (ea_cons (ev_var rfl) ea_nil) hp) (ev_var rfl)) Z fun v d' mu' H' ⟨e, _⟩ S' => q.go hM S' e
abbrev sp_settled_joined (C : Addr) : Sp := spF C (fun x : Mat × Nat => [.mach x.2 x.1]) (fun x => Ok x.1 x.2) fun x r => r = nat (vv x.1)
theorem c_settled_joined (T : Txt K mg C) : Cal P w K mg base 3 "settled_joined" ["machine"] (sp_settled_joined C) := T.d.settled_joined.cal fun f fd Fn => okF Fn sc_settled_joined (fun _ => rfl) fun x cdv A outer s H E hp hr => by
  have g_all_joined := c_all_joined (P := P) (w := w) (base := base) T
  obtain ⟨S, k⟩ := x
  refine ⟨_, (pss_one (ps_ret (pe_op op_sub (k_len K T.b.len (pe_cal g_all_joined (hr.mono (by decide)) (pa_cons (pv 0) pa_nil))) pe_int))), fun c Q s0 H0 hM q Z => ?_⟩
  refine s_ret (ev_sub (ev_lenL (ev_call (f := fun x : Mat × Nat => .lst ((clss x.1).map tn)) (S, k) (ea_cons (ev_var rfl) ea_nil) hp)) ev_int) Z fun v d' mu' H' ⟨e, _⟩ S' => q.go hM S' (e.trans ?_)
  rw [List.length_map, clss_len]
  show D.int _ = D.int _
  congr 1
  omega
def layD (S : Mat) (k : Nat) : D := .tup [.lst ((lots S k).map tn), .lst ((clss S).map tn)]
abbrev sp_layers_of (C : Addr) : Sp := spF C (fun x : Mat × Nat => [.mach x.2 x.1]) (fun x => Ok x.1 x.2) fun x r => r = layD x.1 x.2
theorem c_layers_of (T : Txt K mg C) : Cal P w K mg base 3 "layers_of" ["machine"] (sp_layers_of C) := T.d.layers_of.cal fun f fd Fn => okF Fn sc_layers_of (fun _ => rfl) fun x cdv A outer s H E hp hr => by
  have g_all_behind := c_all_behind (P := P) (w := w) (base := base) T
  have g_all_joined := c_all_joined (P := P) (w := w) (base := base) T
  obtain ⟨S, k⟩ := x
  refine ⟨_, (pss_one (ps_ret (pe_tup (pa_cons (pe_cal g_all_behind (hr.mono (by decide)) (pa_cons (pv 0) pa_nil)) (pa_cons (pe_cal g_all_joined (hr.mono (by decide)) (pa_cons (pv 0) pa_nil)) pa_nil))))), fun c Q s0 H0 hM q Z => ?_⟩
  exact s_ret (ev_tup (ea_cons (ev_call (f := fun x : Mat × Nat => .lst ((lots x.1 x.2).map tn)) (S, k) (ea_cons (ev_var rfl) ea_nil) hp) (ea_cons (ev_call (f := fun x : Mat × Nat => .lst ((clss x.1).map tn)) (S, k) (ea_cons (ev_var rfl) ea_nil) hp) ea_nil))) Z fun v d' mu' H' ⟨e, _⟩ S' => q.go hM S' e
end
end DL
/-! keeping_row -/
namespace DL
open PySem L2 Mth

section
variable {C : Addr} {c : Cn} {K : PySem.W.Frag} {rho : List (Option D)} {mu : Mu} {ts : List (V × D)} {s : L2.St} {H : Hp} {te ta tb : TE} {ds : List D}
/-- range(m - 1, -1, -1) -/
theorem evi_down {m : Nat} {ta : TA} (h : EvA C ta rho mu [.int ((m : Int) - 1), .int (-1), .int (-1)]) (hm : m ≤ 100000) : EvI C (iRng3 ta) rho mu ((List.range m).reverse.map nat) := fun c ts s H R S q => h.run S fun vs H1 l S1 => by
  obtain ⟨F, T⟩ := id S1
  have e := DRs.ints_inv (ns := [(m : Int) - 1, -1, -1]) (zip_drs l T.tmp)
  subst e
  have en : ((m : Int) - 1 - -1).toNat = m := by omega
  have rg : RgC ((m : Int) - 1) (-1) (-1) m := by
    have := RgC.neg (i := (m : Int) - 1) (j := -1) (by omega) (by omega) (by decide) (by decide)
    rw [en] at this
    exact this
  refine ⟨_, _, _, m, rfl, rg, q _ H1 [] ⟨fun i rho mu s H S hi => ?_, fun rho mu s H S => ?_, fun i d rho mu s H x H' hd S y => ?_⟩ (S1.fewer fun p hp => List.mem_append_right _ hp)⟩
  · have : i < m := by simpa using hi
    exact this
  · show m ≤ ((List.range m).reverse.map nat).length
    simp
  · obtain ⟨e, y⟩ := y
    subst e; subst y
    rw [List.getElem?_map] at hd
    cases q2 : (List.range m).reverse[i]? with
    | none => rw [q2] at hd; cases hd
    | some j =>
      rw [q2] at hd
      cases hd
      have hi : i < m := by
        have := (List.getElem?_eq_some_iff.mp q2).1
        simpa using this
      have ej : j = m - 1 - i := by
        rw [List.getElem?_reverse (by simpa using hi), List.length_range, List.getElem?_range (by omega)] at q2
        exact (Option.some.inj q2).symm
      obtain ⟨F, T⟩ := S
      refine ⟨F, T.push ?_⟩
      have e2 : ((m : Int) - 1) + ((i : Nat) : Int) * -1 = ((m - 1 - i : Nat) : Int) := by omega
      rw [e2, ej]
      exact .int _
theorem down_at {m i : Nat} {d : D} (h : ((List.range m).reverse.map nat)[i]? = some d) : i < m ∧ d = nat (m - 1 - i) := by
  rw [List.getElem?_map] at h
  cases q : (List.range m).reverse[i]? with
  | none => rw [q] at h; cases h
  | some j =>
    rw [q] at h
    cases h
    have hi : i < m := by
      have := (List.getElem?_eq_some_iff.mp q).1
      simpa using this
    rw [List.getElem?_reverse (by simpa using hi), List.length_range, List.getElem?_range (by omega)] at q
    rw [← Option.some.inj q]
    exact ⟨hi, rfl⟩
end
theorem enumD_map {n : Nat} (g : Nat → D) : enumD ((List.range n).map g) = (List.range n).map fun c => .tup [nat c, g c] := by
  refine List.ext_getElem? fun i => ?_
  by_cases hi : i < n
  · rw [List.getElem?_map, List.getElem?_range hi]
    unfold enumD
    rw [List.getElem?_zipWith, List.length_map, List.length_range, List.getElem?_range hi, List.getElem?_map, List.getElem?_range hi]
    rfl
  · rw [List.getElem?_eq_none (by rw [enumD_len]; simpa using hi), List.getElem?_eq_none (by simpa using hi)]
/-- of the first entry's number -/
def fstN : D → Nat
  | .tup (d :: _) => nOf d
  | _ => 0
theorem filt_enum {n : Nat} (g : Nat → D) (q : Nat → Bool) : (enumD ((List.range n).map g)).filterMap (fun d => if q (fstN d) then some (nat (fstN d)) else none) = ((List.range n).filter q).map nat := by
  rw [enumD_map, List.filterMap_map]
  induction List.range n with
  | nil => rfl
  | cons c l ih =>
    have e : fstN (.tup [nat c, g c]) = c := nOf_nat c
    rw [List.filter_cons]
    by_cases h : q c = true
    · rw [List.filterMap_cons_some (b := nat c) (by show (if q (fstN (.tup [nat c, g c])) then some (nat (fstN (.tup [nat c, g c]))) else none) = _; rw [e, if_pos h]), if_pos h, List.map_cons, ih]
    · rw [List.filterMap_cons_none (by show (if q (fstN (.tup [nat c, g c])) then some (nat (fstN (.tup [nat c, g c]))) else none) = _; rw [e, if_neg h]), if_neg h, ih]
/-- the first number of a filtered range -/
theorem first_filt {n : Nat} {q : Nat → Bool} (h : ∃ c, c < n ∧ q c = true) : ∃ c, c < n ∧ q c = true ∧ (((List.range n).filter q).map nat)[0]? = some (nat c) := by
  obtain ⟨c, hc, hq⟩ := h
  have hm : c ∈ (List.range n).filter q := List.mem_filter.mpr ⟨List.mem_range.mpr hc, hq⟩
  cases e : (List.range n).filter q with
  | nil => rw [e] at hm; cases hm
  | cons x l =>
    have hx : x ∈ (List.range n).filter q := by rw [e]; exact List.mem_cons_self
    obtain ⟨a, b⟩ := List.mem_filter.mp hx
    exact ⟨x, List.mem_range.mp a, b, rfl⟩
section
variable {P : Program} {w : World} {K : PySem.W.Frag} {mg : Str → Option Value} {base : Heap} {C : Addr}
abbrev sp_keeping_row (C : Addr) : Sp := spF C (fun x : (Mat × Nat) × (Nat × Nat) × Nat => [.mach x.1.2 x.1.1, nat x.2.1.1, nat x.2.1.2, nat x.2.2])
  (fun x => Ok x.1.1 x.1.2 ∧ x.2.1.1 < x.1.1.length ∧ x.2.1.2 < x.1.1.length ∧ cf x.1.1 x.2.2 x.2.1.1 ≠ cf x.1.1 x.2.2 x.2.1.2 ∧ x.2.2 ≤ 1000) fun x r => ∃ row : List Nat, r = tn row ∧ row.length = x.2.2 ∧ (∀ e ∈ row, e < x.1.2) ∧ ledN x.1.1 x.2.1.1 row ≠ ledN x.1.1 x.2.1.2 row
theorem c_keeping_row (T : Txt K mg C) : Cal P w K mg base 3 "keeping_row" ["machine", "one", "other", "count"] (sp_keeping_row C) := T.d.keeping_row.cal fun f fd Fn => okF Fn sc_keeping_row (fun _ => rfl) fun x cdv A outer s H E hp hr => by
  have g_all_joined := c_all_joined (P := P) (w := w) (base := base) T
  have g_at_count := c_at_count (P := P) (w := w) (base := base) T
  obtain ⟨⟨S, k⟩, ⟨one, other⟩, n⟩ := x
  obtain ⟨h, h1, h2, hne, hn⟩ := hp
  dsimp only at h h1 h2 hne hn
  have h10 := h.n10
  have h5 := h.k5
  refine ⟨_, (pss_cons (ps_par (i := 4) (j := 5) rfl sc_keeping_row.nd rfl rfl (by decide) rfl rfl (pa_cons (pe_cal g_all_joined (hr.mono (by decide)) (pa_cons (pv 0) pa_nil)) (pa_cons (pe_lst pa_nil) pa_nil)) (by rfl))
  (pss_cons (ps_if (pt_cmpR (k_eqD K hr.units) (k_ix K (pe_cal g_at_count (hr.mono (by decide)) (pa_cons (pv 4) (pa_cons (pv 3) pa_nil))) (pv 1)) (k_ix K (pe_cal g_at_count (hr.mono (by decide)) (pa_cons (pv 4) (pa_cons (pv 3) pa_nil))) (pv 2)) (nomark _))
  (pss_one ps_never)
  pss_nil)
  (pss_cons (ps_for PassesOwn.never rfl (pi_range3 (by rfl) T.b.range (pa_cons (pe_op op_sub (pv 3) pe_int) (pa_cons (pe_un un_neg pe_int) (pa_cons (pe_un un_neg pe_int) pa_nil)))) (pgn 6 sc_keeping_row.nd)
  (pss_cons (psn 7 sc_keeping_row.nd (pe_cal g_at_count (hr.mono (by decide)) (pa_cons (pv 4) (pa_cons (pv 6) pa_nil))))
  (pss_cons (ps_setLc (i := 8) (own := [("command", 9)]) rfl sc_keeping_row.nd rfl rfl (sw_true rfl rfl rfl (by decide +kernel)) (pi_range1 (by rfl) T.b.range (pa_cons (k_fld K (pv 0)) pa_nil)) (bk (own := [("command", 9)]) (N := N_keeping_row) (sc := defScope s_keeping_row)) (fun _ _ _ _ _ => (pgn 9 sc_keeping_row.nd)) (fun _ _ _ _ _ => pts_nil) (fun _ _ _ _ _ => (pe_tup (pa_cons (k_ix K (k_ix K (k_fld K (pv 0)) (pv 1)) (pv 9)) (pa_cons (k_ix K (k_ix K (k_fld K (pv 0)) (pv 2)) (pv 9)) pa_nil)))))
  (pss_cons (psn 9 sc_keeping_row.nd (k_ix K (pe_lc (own := [("at", 10), ("left_one", 11), ("right_one", 12)]) (by rfl) sc_keeping_row.nd (k_enumL K T.b.enumerate (pv 8)) (bk (own := [("at", 10), ("left_one", 11), ("right_one", 12)]) (N := N_keeping_row) (sc := defScope s_keeping_row)) (fun _ _ _ _ _ => (k_gtup K 2 (pgs_cons (pgn 10 sc_keeping_row.nd) (pgs_cons (k_gtup K 2 (pgs_cons (pgn 11 sc_keeping_row.nd) (pgs_cons (pgn 12 sc_keeping_row.nd) pgs_nil))) pgs_nil)))) (fun _ _ _ _ _ => (pts_one (pt_cmpR (k_neD K hr.units) (k_ix K (pv 7) (pv 11)) (k_ix K (pv 7) (pv 12)) (nomark _)))) (fun _ _ _ _ _ => (pv 10))) pe_int))
  (pss_cons (ps_expr (pe_bm PySem.F.plainAttrs_list PySem.F.slot_list_append PySem.F.type_list_append mt_append (pv 5) (pa_cons (pv 9) pa_nil)))
  (pss_one (ps_asg (k_ix K (pv 8) (pv 9)) (k_gtup K 2 (pgs_cons (pgn 1 sc_keeping_row.nd) (pgs_cons (pgn 2 sc_keeping_row.nd) pgs_nil))))))))))
  (pss_one (ps_ret (k_tuple K T.b.tuple (pv 5))))))), fun c Q s0 H0 hM q Z => ?_⟩
  replace Z : Sat C c [some (.mach k S), some (nat one), some (nat other), some (nat n), none, none, none, none, none, none, none, none, none] [] [] s0 H0 := Z
  refine q_par2 (ev_call (f := fun x : Mat × Nat => .lst ((clss x.1).map tn)) (S, k) (ea_cons (ev_var rfl) ea_nil) h) (fun d mu1 _ => el_lst ea_nil) Z fun d e mu1 mu' s1 H1 ⟨ed, em⟩ ⟨pf, ef, em2⟩ Z1 => ?_
  subst ed; subst em; subst ef; subst em2
  refine q_when (et_test (ev_eqI (ev_cl (ev_clss_at h (ev_var rfl) (ev_var rfl)) (ev_var rfl) h1) (ev_cl (ev_clss_at h (ev_var rfl) (ev_var rfl)) (ev_var rfl) h2))) Z1 (fun hb H2 Z2 => ?_) fun _ H2 Z2 => ?_
  · have := of_decide_eq_true hb
    exact absurd (by omega) hne
  refine q_for (evi_down (m := n) (ea_cons (ev_sub (ev_var rfl) ev_int) (ea_cons (ev_neg ev_int) (ea_cons (ev_neg ev_int) ea_nil))) (by omega)) Z2 (fun t (y : (Nat × Nat) × List Nat) => [some (.mach k S), some (nat y.1.1), some (nat y.1.2), some (nat n), some (.lst ((clss S).map tn)), some (.ptr pf), none, none, none, none, none, none, none])
    (fun t y => [(pf, .lst (nats y.2))]) (fun t y => y.1.1 < S.length ∧ y.1.2 < S.length ∧ cf S (n - t) y.1.1 ≠ cf S (n - t) y.1.2 ∧ y.2.length = t ∧ (∀ e ∈ y.2, e < k) ∧ ledN S one y.2 = y.1.1 ∧ ledN S other y.2 = y.1.2) ⟨((one, other), []), ⟨h1, h2, hne, rfl, by simp, rfl, rfl⟩, ⟨rfl, rfl, rfl, rfl, rfl, rfl, trivial⟩, rfl⟩ (fun t d y tx hd hy => ?_) fun y s3 H3 hy Z3 => ?_
  · obtain ⟨ht, rfl⟩ := down_at hd
    obtain ⟨⟨o1, o2⟩, fo⟩ := y
    obtain ⟨i1, i2, i3, i4, i5, i6, i7⟩ := hy
    dsimp only at i1 i2 i3 i4 i5 i6 i7
    have el : n - t = (n - 1 - t) + 1 := by omega
    generalize hl : n - 1 - t = left at el
    rw [el] at i3
    have ex : ∃ c, c < k ∧ (fun c => !(cf S left (nx S o1 c) == cf S left (nx S o2 c))) c = true := by
      refine Classical.byContradiction fun z => i3 ((key_eq h i1 i2).mpr fun c hc => ?_)
      refine Classical.byContradiction fun z2 => z ⟨c, hc, ?_⟩
      show (!(cf S left (nx S o1 c) == cf S left (nx S o2 c))) = true
      rw [beq_eq_false_iff_ne.mpr z2]
      rfl
    obtain ⟨cc, hcc, hq, hat⟩ := first_filt ex
    refine ⟨_, _, bg_name, fun s3 H3 Z3 => ?_⟩
    refine q_asgD (ev_clss_at h (ev_var rfl) (ev_var rfl)) Z3 fun s4 H4 Z4 => ?_
    refine q_asgD (EvN.ev ((el_map (fun d => tp (nx S o1 (nOf d), nx S o2 (nOf d))) (evi_rng (ev_commands T.cl T.nC (ev_var rfl)) (by omega)) (by rw [List.length_map, List.length_range]; omega) fun j d hd => ?_).to (show _ = (List.range k).map fun c => tp (nx S o1 c, nx S o2 c) from ?_))) Z4 fun s5 H5 Z5 => ?_
    · obtain ⟨hj, rfl⟩ := rng_at hd
      refine ⟨_, _, bg_name, by simp, fun mu' => ?_⟩
      rw [nOf_nat]
      exact ev_tup (ea_cons (ev_nx T.cl T.nT h (ev_var rfl) (ev_var rfl) (ev_var rfl) i1 hj) (ea_cons (ev_nx T.cl T.nT h (ev_var rfl) (ev_var rfl) (ev_var rfl) i2 hj) ea_nil))
    · rw [List.map_map]
      refine List.map_congr_left fun c _ => ?_
      show tp (nx S o1 (nOf (nat c)), nx S o2 (nOf (nat c))) = _
      rw [nOf_nat]
    refine q_asgD (ev_ixL (EvN.ev ((el_lc (fun d => if (!(cf S left (nx S o1 (fstN d)) == cf S left (nx S o2 (fstN d)))) then some (nat (fstN d)) else none) (evi_enumL (ev_var rfl)) (by rw [enumD_len, List.length_map, List.length_range]; omega) fun j d hd => ?_).to (filt_enum (fun c => tp (nx S o1 c, nx S o2 c)) fun c => !(cf S left (nx S o1 c) == cf S left (nx S o2 c))))) ev_int (at_nat (n := 0) hat)) Z5 fun s6 H6 Z6 => ?_
    · rw [enumD_map] at hd
      rw [List.getElem?_map] at hd
      have hj : j < k := by
        cases q2 : (List.range k)[j]? with
        | none => rw [q2] at hd; cases hd
        | some z => have := (List.getElem?_eq_some_iff.mp q2).1; simpa using this
      rw [List.getElem?_range hj] at hd
      cases hd
      refine ⟨_, _, bg_tup bg_name (bg_tup bg_name bg_name), by simp, fun mu' => ⟨_, et_test (ev_neI (ev_cl (ev_var rfl) (ev_var rfl) (h.nx_lt _ _)) (ev_cl (ev_var rfl) (ev_var rfl) (h.nx_lt _ _))), fun hb => ?_, fun hb => ?_⟩⟩
      · rw [dec_nat] at hb
        have ef : fstN (.tup [nat j, tp (nx S o1 j, nx S o2 j)]) = j := nOf_nat j
        exact ⟨nat j, by rw [ef]; exact if_pos hb, ev_var rfl⟩
      · rw [dec_nat] at hb
        have ef : fstN (.tup [nat j, tp (nx S o1 j, nx S o2 j)]) = j := nOf_nat j
        rw [ef]
        exact if_neg (by intro z; rw [show (!(cf S left (nx S o1 j) == cf S left (nx S o2 j))) = false from hb] at z; cases z)
    refine q_appD 0 (ev_var rfl) (ev_var rfl) rfl (by unfold nats; rw [List.length_map, i4]; omega) Z6 fun H7 Z7 => ?_
    refine s_bind (ev_ixL (ev_var rfl) (ev_var rfl) (at_nat (n := cc) (by rw [List.getElem?_map, List.getElem?_range hcc]; rfl))) (bg_tup bg_name bg_name) Z7 fun s8 H8 Z8 => ?_
    refine ⟨((nx S o1 cc, nx S o2 cc), fo ++ [cc]), ⟨h.nx_lt _ _, h.nx_lt _ _, ?_, by simp [i4], fun e he => ?_, ?_, ?_⟩, ?_⟩
    · have e2 : n - (t + 1) = left := by omega
      rw [e2]
      intro z
      rw [z] at hq
      simp at hq
    · rcases List.mem_append.mp he with he | he
      · exact i5 e he
      · rw [List.mem_singleton.mp he]
        exact hcc
    · rw [ledN_append, i6]; rfl
    · rw [ledN_append, i7]; rfl
    · have en : nats (fo ++ [cc]) = nats fo ++ [nat cc] := by unfold nats; rw [List.map_append]; rfl
      dsimp only
      rw [en]
      exact Z8.weak ⟨rfl, rfl, rfl, rfl, rfl, rfl, trivial⟩
  · obtain ⟨i1, i2, i3, i4, i5, i6, i7⟩ := hy
    have e0 : ((List.range n).reverse.map nat).length = n := by simp
    rw [e0] at i3 i4
    refine s_ret (ev_tupleO (ev_var rfl) List.mem_cons_self) Z3 fun v d' mu' H' ⟨e, _⟩ S' => q.go hM S' ⟨y.2, e, i4, i5, ?_⟩
    rw [Nat.sub_self, cf0 i1, cf0 i2] at i3
    rw [i6, i7]
    exact i3
end
end DL
/-! gaps.py -/
namespace DL
open PySem L2 Mth

theorem opn_asc {S : Mat} {k : Nat} (h : Ok S k) (st : List Nat) (a c : Nat) : (opn S st a c).Pairwise fun p q => cd p < cd q := List.Pairwise.filter _ (prs_asc _ (by have := h.n10; omega))
theorem carr_asc {S : Mat} {k : Nat} (h : Ok S k) (ps : List (Nat × Nat)) : (carr S k ps).Pairwise fun p q => cd p < cd q := List.Pairwise.filter _ (prs_asc _ (by have := h.n10; omega))
theorem prs_len (n : Nat) : (prs n).length = n * n := by
  unfold prs
  rw [List.length_flatMap]
  have e : ((List.range n).map fun a => ((List.range n).map fun y => (a, y)).length) = (List.range n).map fun _ => n := List.map_congr_left fun a _ => by simp
  rw [e, List.map_const', List.sum_replicate_nat, List.length_range]
theorem par_len {S : Mat} {k : Nat} (h : Ok S k) (st : List Nat) (a c g : Nat) : (par S k st a c g).length ≤ 100 := by
  have h10 := h.n10
  have l : (prs S.length).length ≤ 100 := by
    rw [prs_len]
    exact Nat.mul_le_mul h10 h10
  cases g with
  | zero => exact Nat.le_trans (List.length_filter_le _ _) l
  | succ g => exact Nat.le_trans (List.length_filter_le _ _) l
theorem getM_true {ks : List (Nat × Nat)} {p : Nat × Nat} : (getM (ks.map fun q => (kp q, D.bl true)) (kp p)).isSome = decide (p ∈ ks) := by
  by_cases h : p ∈ ks
  · rw [decide_eq_true h]
    cases e : getM (ks.map fun q => (kp q, D.bl true)) (kp p) with
    | some d => rfl
    | none =>
      refine absurd ?_ (getM_none.mp e)
      rw [List.map_map]
      exact List.mem_map.mpr ⟨p, h, rfl⟩
  · rw [decide_eq_false h]
    rw [getM_none.mpr fun z => ?_]
    · rfl
    · rw [List.map_map] at z
      obtain ⟨q, hq, e⟩ := List.mem_map.mp z
      have := kp_inj (show kp q = kp p from e)
      exact h (by rw [← this]; exact hq)
theorem putM_true (ks : List (Nat × Nat)) (p : Nat × Nat) : putM (ks.map fun q => (kp q, D.bl true)) (kp p) (.bl true) = (if p ∈ ks then ks else ks ++ [p]).map fun q => (kp q, D.bl true) := by
  unfold putM
  rw [getM_true]
  by_cases h : p ∈ ks
  · rw [if_pos (decide_eq_true h), if_pos h, List.map_map]
    refine List.map_congr_left fun q _ => ?_
    show (if kp q = kp p then (kp q, D.bl true) else (kp q, D.bl true)) = _
    split <;> rfl
  · rw [if_neg (by rw [decide_eq_false h]; decide), if_neg h, List.map_append]
    rfl
theorem tps_at {ps : List (Nat × Nat)} {i : Nat} {d : D} (h : (ps.map tp)[i]? = some d) : ∃ p, ps[i]? = some p ∧ d = tp p := by
  rw [List.getElem?_map] at h
  cases q : ps[i]? with
  | none => rw [q] at h; cases h
  | some p => rw [q] at h; cases h; exact ⟨p, rfl, rfl⟩
section
variable {P : Program} {w : World} {K : PySem.W.Frag} {mg : Str → Option Value} {base : Heap} {C : Addr}
abbrev sp_opened (C : Addr) : Sp := spF C (fun x : (Mat × Nat) × List Nat × (Nat × Nat) => [.mach x.1.2 x.1.1, tn x.2.1, nat x.2.2.1, nat x.2.2.2])
  (fun x => Ok x.1.1 x.1.2 ∧ (∀ s ∈ x.2.1, s < x.1.1.length) ∧ x.2.1.length ≤ 10 ∧ x.2.2.1 < x.1.2 ∧ x.2.2.2 < x.1.2) fun x r => r = tps (opn x.1.1 x.2.1 x.2.2.1 x.2.2.2)
theorem c_opened (T : Txt K mg C) : Cal P w K mg base 1 "opened" ["machine", "states", "a", "c"] (sp_opened C) := T.d.opened.cal fun f fd Fn => okF Fn sc_opened (fun _ => rfl) fun x cdv A outer s H E hp hr => by
  obtain ⟨⟨S, k⟩, st, ⟨a, c⟩⟩ := x
  obtain ⟨h, hst, hl, ha, hc⟩ := hp
  dsimp only at h hst hl ha hc
  refine ⟨_, (pss_one (ps_ret (k_tuple K T.b.tuple (x_sortP T.b.sorted (pe_s1 (own := [("state", 4)]) (gathT (hu_of hr)) (by rfl) sc_opened.nd (k_pit K (pv 1)) (bk (own := [("state", 4)]) (N := N_opened) (sc := defScope s_opened)) (fun _ _ _ _ _ => (pgn 4 sc_opened.nd)) (fun _ _ _ _ _ => pts_nil) (fun _ _ _ _ _ => (pe_tup (pa_cons (k_ix K (k_ix K (k_fld K (pv 0)) (pv 4)) (pv 2)) (pa_cons (k_ix K (k_ix K (k_fld K (pv 0)) (pv 4)) (pv 3)) pa_nil))))))))), fun cn Q s0 H0 hM q Z => ?_⟩
  replace Z : Sat C cn [some (.mach k S), some (tn st), some (nat a), some (nat c), none] [] [] s0 H0 := Z
  refine s_ret (ev_tupleL (EvN.ev (el_sortedP (ev_s1P (fun d => (nx S (nOf d) a, nx S (nOf d) c)) (evi_tup (ev_var rfl)) ?_ fun i d hd => ?_) (fun p hp => ?_) (opn S st a c) (opn_asc h st a c) fun p => ?_))) Z fun v d' mu' H' ⟨e, _⟩ S' => q.go hM S' e
  · unfold nats
    rw [List.length_map]
    omega
  · obtain ⟨sv, hs, rfl⟩ := nats_at hd
    refine ⟨_, _, bg_name, by simp, fun mu' => ?_⟩
    rw [nOf_nat]
    have hs' := hst _ (List.mem_of_getElem? hs)
    exact ev_tup (ea_cons (ev_nx T.cl T.nT h (ev_var rfl) (ev_var rfl) (ev_var rfl) hs' ha) (ea_cons (ev_nx T.cl T.nT h (ev_var rfl) (ev_var rfl) (ev_var rfl) hs' hc) ea_nil))
  · obtain ⟨d, hd, e⟩ := List.mem_map.mp hp
    have h10 := h.n10
    have l1 := h.nx_lt (nOf d) a
    have l2 := h.nx_lt (nOf d) c
    rw [← e]
    exact ⟨by show nx S (nOf d) a < 64; omega, by show nx S (nOf d) c < 64; omega⟩
  · rw [mem_opn h, List.mem_map]
    constructor
    · rintro ⟨s, hs, e⟩
      exact ⟨nat s, List.mem_map.mpr ⟨s, hs, rfl⟩, by rw [nOf_nat]; exact e⟩
    · rintro ⟨d, hd, e⟩
      obtain ⟨s, hs, e2⟩ := List.mem_map.mp hd
      subst e2
      rw [nOf_nat] at e
      exact ⟨s, hs, e⟩
abbrev sp_carried (C : Addr) : Sp := spF C (fun x : (Mat × Nat) × List (Nat × Nat) => [.mach x.1.2 x.1.1, tps x.2]) (fun x => Ok x.1.1 x.1.2 ∧ (∀ p ∈ x.2, p.1 < x.1.1.length ∧ p.2 < x.1.1.length) ∧ x.2.length ≤ 1000) fun x r => r = tps (carr x.1.1 x.1.2 x.2)
theorem c_carried (T : Txt K mg C) : Cal P w K mg base 1 "carried" ["machine", "pairs"] (sp_carried C) := T.d.carried.cal fun f fd Fn => okF Fn sc_carried (fun _ => rfl) fun x cdv A outer s H E hp hr => by
  obtain ⟨⟨S, k⟩, ps⟩ := x
  obtain ⟨h, hps, hl⟩ := hp
  dsimp only at h hps hl
  have h5 := h.k5
  refine ⟨_, (pss_cons (psn 2 sc_carried.nd pe_dnewT)
  (pss_cons (ps_for PassesOwn.never rfl (k_pit K (pv 1)) (k_gtup K 2 (pgs_cons (pgn 3 sc_carried.nd) (pgs_cons (pgn 4 sc_carried.nd) pgs_nil)))
  (pss_one (ps_forZ PassesOwn.never rfl (x_zip1 T.b.zip (pa_cons (k_ix K (k_fld K (pv 0)) (pv 3)) (pa_cons (k_ix K (k_fld K (pv 0)) (pv 4)) pa_nil))) (pgn 5 sc_carried.nd)
  (pss_one (ps_dput (hu_of hr) (pv 2) (pv 5) pe_bl (by rfl))))))
  (pss_one (ps_ret (k_tuple K T.b.tuple (x_sortD T.b.sorted (pv 2))))))), fun c Q s0 H0 hM q Z => ?_⟩
  replace Z : Sat C c [some (.mach k S), some (tps ps), none, none, none, none] [] [] s0 H0 := Z
  refine q_asg el_dnew Z fun d mu' s1 H1 ⟨pd, ed, em⟩ Z1 => ?_
  subst ed; subst em
  refine q_for (evi_tup (ev_var rfl)) Z1 (fun i (_ : List (Nat × Nat)) => [some (.mach k S), some (tps ps), some (.ptr pd), none, none, none]) (fun i ks => [(pd, .dct (ks.map fun q => (kp q, D.bl true)))])
    (fun i ks => ks.Nodup ∧ ks.length ≤ i * 10 ∧ ∀ p, p ∈ ks ↔ ∃ q ∈ ps.take i, ∃ e, e < k ∧ (nx S q.1 e, nx S q.2 e) = p) ⟨[], ⟨List.nodup_nil, Nat.zero_le _, fun p => by simp⟩, ⟨rfl, rfl, rfl, trivial⟩, rfl⟩ (fun i d ks tx hd hi => ?_) fun ks s2 H2 hks Z2 => ?_
  · obtain ⟨⟨o1, o2⟩, hpi, rfl⟩ := tps_at hd
    obtain ⟨nd, lk, mem⟩ := hi
    obtain ⟨b1, b2⟩ := hps _ (List.mem_of_getElem? hpi)
    dsimp only at b1 b2
    have hip : i < ps.length := (List.getElem?_eq_some_iff.mp hpi).1
    obtain ⟨r1, e1, l1, g1⟩ := h.get b1
    obtain ⟨r2, e2, l2, g2⟩ := h.get b2
    refine ⟨_, _, bg_tup bg_name bg_name, fun s2 H2 Z2 => ?_⟩
    refine s_forZ (evi_zip1 (ev_row T.cl T.nT (ev_var rfl) (ev_var rfl) e1) (ev_row T.cl T.nT (ev_var rfl) (ev_var rfl) e2)) Z2 (fun j (_ : List (Nat × Nat)) => [some (.mach k S), some (tps ps), some (.ptr pd), some (nat o1), some (nat o2), none]) (fun j ks => [(pd, .dct (ks.map fun q => (kp q, D.bl true)))])
      (fun j ks => ks.Nodup ∧ ks.length ≤ i * 10 + j ∧ ∀ p, p ∈ ks ↔ (∃ q ∈ ps.take i, ∃ e, e < k ∧ (nx S q.1 e, nx S q.2 e) = p) ∨ ∃ e, e < j ∧ (nx S o1 e, nx S o2 e) = p) ⟨ks, ⟨nd, lk, fun p => by rw [mem]; simp⟩, ⟨rfl, rfl, rfl, rfl, rfl, trivial⟩, rfl⟩ (fun j d ks tx2 hd hj => ?_) fun ks s3 H3 hks Z3 => ?_
    · obtain ⟨x, y, gx, gy, rfl⟩ := zipD_get hd
      obtain ⟨xn, hx, rfl⟩ := nats_at gx
      obtain ⟨yn, hy, rfl⟩ := nats_at gy
      have hjk : j < k := by rw [← l1]; exact (List.getElem?_eq_some_iff.mp hx).1
      have ex : xn = nx S o1 j := by have := g1 j hjk; rw [hx] at this; exact Option.some.inj this
      have ey : yn = nx S o2 j := by have := g2 j hjk; rw [hy] at this; exact Option.some.inj this
      subst ex; subst ey
      obtain ⟨nd, lk, mem⟩ := hj
      refine ⟨_, _, bg_name, fun s3 H3 Z3 => ?_⟩
      refine s_dput (kk := kp (nx S o1 j, nx S o2 j)) 0 ev_bl (ev_var rfl) (EvD.to (d1 := tp (nx S o1 j, nx S o2 j)) (ev_var rfl) rfl) rfl (by rw [List.length_map]; omega) Z3 fun H4 Z4 => ?_
      rw [putM_true] at Z4
      refine ⟨_, ⟨?_, ?_, fun p => ?_⟩, Z4.weak ⟨rfl, rfl, rfl, rfl, rfl, trivial⟩⟩
      · split
        · exact nd
        · rename_i hn
          rw [List.nodup_append]
          exact ⟨nd, by simp, fun a ha b hb e => hn (by rw [List.mem_singleton.mp hb] at e; rw [← e]; exact ha)⟩
      · split
        · omega
        · rw [List.length_append]
          show ks.length + 1 ≤ _
          omega
      · have step : (∃ e, e < j + 1 ∧ (nx S o1 e, nx S o2 e) = p) ↔ (∃ e, e < j ∧ (nx S o1 e, nx S o2 e) = p) ∨ (nx S o1 j, nx S o2 j) = p := by
          constructor
          · rintro ⟨e, he, z⟩
            by_cases ee : e = j
            · subst ee; exact .inr z
            · exact .inl ⟨e, by omega, z⟩
          · rintro (⟨e, he, z⟩ | z)
            · exact ⟨e, by omega, z⟩
            · exact ⟨j, by omega, z⟩
        rw [step]
        split
        · rename_i hm
          rw [mem]
          constructor
          · rintro (z | z)
            · exact .inl z
            · exact .inr (.inl z)
          · rintro (z | z | z)
            · exact .inl z
            · exact .inr z
            · rw [← z]; exact (mem _).mp hm
        · rw [List.mem_append, mem, List.mem_singleton]
          constructor
          · rintro ((z | z) | z)
            · exact .inl z
            · exact .inr (.inl z)
            · exact .inr (.inr z.symm)
          · rintro (z | z | z)
            · exact .inl (.inl z)
            · exact .inl (.inr z)
            · exact .inr z.symm
    · obtain ⟨nd, lk, mem⟩ := hks
      have el : (zipD (nats r1) (nats r2)).length = k := by
        rw [zipD_len]
        unfold nats
        rw [List.length_map, List.length_map, l1, l2, Nat.min_self]
      rw [el] at lk mem
      refine ⟨ks, ⟨nd, by omega, fun p => ?_⟩, Z3.weak ⟨rfl, rfl, rfl, trivial⟩⟩
      have et : ps.take (i + 1) = ps.take i ++ [(o1, o2)] := by rw [List.take_succ, hpi]; rfl
      rw [mem, et]
      constructor
      · rintro (⟨q, hq, z⟩ | z)
        · exact ⟨q, List.mem_append_left _ hq, z⟩
        · exact ⟨(o1, o2), List.mem_append_right _ List.mem_cons_self, z⟩
      · rintro ⟨q, hq, z⟩
        rcases List.mem_append.mp hq with hq | hq
        · exact .inl ⟨q, hq, z⟩
        · rw [List.mem_singleton.mp hq] at z
          exact .inr z
  · obtain ⟨nd, lk, mem⟩ := hks
    rw [List.length_map, List.take_length] at mem
    refine s_ret (ev_tupleL (EvN.ev (el_sortD (ps := ks) (ev_var rfl) List.mem_cons_self (by rw [List.map_map]; rfl) (fun p hp => ?_) nd (carr S k ps) (carr_asc h ps) fun p => ?_))) Z2 fun v d' mu' H' ⟨e, _⟩ S' => q.go hM S' e
    · obtain ⟨q, _, e, _, z⟩ := (mem p).mp hp
      have h10 := h.n10
      have l1 := h.nx_lt q.1 e
      have l2 := h.nx_lt q.2 e
      rw [← z]
      exact ⟨by show nx S q.1 e < 64; omega, by show nx S q.2 e < 64; omega⟩
    · rw [mem_carr h, mem]
end
end DL
/-! pairs_after, lets, corners -/
namespace DL
open PySem L2 Mth

def rowsN (S : Mat) (k : Nat) (st : List Nat) (a c i : Nat) : List (List (Nat × Nat)) := (List.range i).map (par S k st a c)
theorem rowsN_succ (S : Mat) (k : Nat) (st : List Nat) (a c i : Nat) : rowsN S k st a c (i + 1) = rowsN S k st a c i ++ [par S k st a c i] := by
  unfold rowsN
  rw [List.range_succ, List.map_append]
  rfl
theorem rowsN_len (S : Mat) (k : Nat) (st : List Nat) (a c i : Nat) : (rowsN S k st a c i).length = i := by unfold rowsN; simp
theorem rowsN_get {S : Mat} {k : Nat} {st : List Nat} {a c i j : Nat} (h : j < i) : (rowsN S k st a c i)[j]? = some (par S k st a c j) := by
  unfold rowsN
  rw [List.getElem?_map, List.getElem?_range h]
  rfl
def optN : Option Nat → D
  | none => .non
  | some n => nat n
theorem unl_eq (k : Nat) : (((List.range k).map nat).flatMap fun d => ((List.range (nOf d)).map nat).map fun e => tp (nOf e, nOf d)) = (unl k).map tp := by
  unfold unl
  rw [List.map_flatMap, List.flatMap_map]
  have e : ∀ (l : List Nat), (l.flatMap fun c => ((List.range (nOf (nat c))).map nat).map fun e => tp (nOf e, nOf (nat c))) = l.flatMap fun c => ((List.range c).map fun a => (a, c)).map tp := by
    intro l
    induction l with
    | nil => rfl
    | cons c l ih =>
      rw [List.flatMap_cons, List.flatMap_cons, ih, nOf_nat, List.map_map, List.map_map]
      have e : (List.range c).map ((fun e => tp (nOf e, c)) ∘ nat) = (List.range c).map (tp ∘ fun a => (a, c)) := List.map_congr_left fun a _ => by
        show tp (nOf (nat a), c) = tp (a, c)
        rw [nOf_nat]
      rw [e]
  exact e _
section
variable {P : Program} {w : World} {K : PySem.W.Frag} {mg : Str → Option Value} {base : Heap} {C : Addr}
abbrev sp_pairs_after (C : Addr) : Sp := spF C (fun x : (Mat × Nat) × List Nat × (Nat × Nat) × Nat => [.mach x.1.2 x.1.1, tn x.2.1, nat x.2.2.1.1, nat x.2.2.1.2, nat x.2.2.2])
  (fun x => Ok x.1.1 x.1.2 ∧ (∀ s ∈ x.2.1, s < x.1.1.length) ∧ x.2.1.length ≤ 10 ∧ x.2.2.1.1 < x.1.2 ∧ x.2.2.1.2 < x.1.2 ∧ x.2.2.2 ≤ 500) fun x r => r = tps (par x.1.1 x.1.2 x.2.1 x.2.2.1.1 x.2.2.1.2 x.2.2.2)
theorem c_pairs_after (T : Txt K mg C) : Cal P w K mg base 2 "pairs_after" ["machine", "states", "a", "c", "gap"] (sp_pairs_after C) := T.d.pairs_after.cal fun f fd Fn => okF Fn sc_pairs_after (fun _ => rfl) fun x cdv A outer s H E hp hr => by
  have g_opened := c_opened (P := P) (w := w) (base := base) T
  have g_carried := c_carried (P := P) (w := w) (base := base) T
  obtain ⟨⟨S, k⟩, st, ⟨a, c⟩, n⟩ := x
  obtain ⟨h, hst, hl, ha, hc, hn⟩ := hp
  dsimp only at h hst hl ha hc hn
  refine ⟨_, (pss_cons (ps_par3 (i := 5) (j := 6) (l := 7) rfl sc_pairs_after.nd rfl rfl rfl (by decide) (by decide) (by decide) rfl rfl rfl (pa_cons (pe_cal g_opened (hr.mono (by decide)) (pa_cons (pv 0) (pa_cons (pv 1) (pa_cons (pv 2) (pa_cons (pv 3) pa_nil))))) (pa_cons (pe_lst pa_nil) (pa_cons pe_nnew pa_nil))) (by rfl))
  (pss_cons (ps_while PassesOwn.never (PW.pt (pw_and (pt_cmpR op_lt (k_len K T.b.len (pv 6)) (pv 4) (nomark _)) (pw_and1 (pt_cmpR (op_notInN hr) (pv 5) (pv 7) (by rfl)))))
  (pss_cons (x_nput hr (pv 7) (pv 5) (k_len K T.b.len (pv 6)))
  (pss_cons (ps_expr (pe_bm PySem.F.plainAttrs_list PySem.F.slot_list_append PySem.F.type_list_append mt_append (pv 6) (pa_cons (pv 5) pa_nil)))
  (pss_one (psn 5 sc_pairs_after.nd (pe_cal g_carried (hr.mono (by decide)) (pa_cons (pv 0) (pa_cons (pv 5) pa_nil))))))))
  (pss_cons (ps_if (pt_cmpR (k_eqD K hr.units) (k_len K T.b.len (pv 6)) (pv 4) (nomark _))
  (pss_one (ps_ret (pv 5)))
  pss_nil)
  (pss_cons (psn 8 sc_pairs_after.nd (x_nget hr (pv 7) (pv 5)))
  (pss_one (ps_ret (k_ix K (pv 6) (pe_op op_add (pv 8) (pe_op op_mod (pe_op op_sub (pv 4) (pv 8)) (pe_op op_sub (k_len K T.b.len (pv 6)) (pv 8))))))))))), fun cn Q s0 H0 hM q Z => ?_⟩
  replace Z : Sat C cn [some (.mach k S), some (tn st), some (nat a), some (nat c), some (nat n), none, none, none, none] [] [] s0 H0 := Z
  refine q_par3' (ev_call (f := fun x : (Mat × Nat) × List Nat × (Nat × Nat) => tps (opn x.1.1 x.2.1 x.2.2.1 x.2.2.2)) ((S, k), st, (a, c)) (ea_cons (ev_var rfl) (ea_cons (ev_var rfl) (ea_cons (ev_var rfl) (ea_cons (ev_var rfl) ea_nil)))) ⟨h, hst, hl, ha, hc⟩) (fun d mu1 _ => el_lst ea_nil) (fun d e mu1 mu2 _ _ => ev_nnew) Z fun d e f mu1 mu2 mu' s1 H1 ⟨ed, em⟩ ⟨pr, ee, em2⟩ ⟨pp, ef, em3⟩ Z1 => ?_
  subst ed; subst em; subst ee; subst em2; subst ef; subst em3
  refine q_while Z1 (fun i : Nat => [some (.mach k S), some (tn st), some (nat a), some (nat c), some (nat n), some (tps (par S k st a c i)), some (.ptr pr), some (.ptr pp), none]) (fun i => [(pp, .any (plcs P w pp (rowsN S k st a c i))), (pr, .lst ((rowsN S k st a c i).map tps))])
    (fun m i => i ≤ n ∧ (rowsN S k st a c i).Nodup ∧ m = n - i) ⟨0, n, ⟨Nat.zero_le _, List.nodup_nil, rfl⟩, ⟨rfl, rfl, rfl, rfl, rfl, rfl, rfl, rfl, trivial⟩, rfl⟩ fun m i hI => ?_
  obtain ⟨hi, nd, hm⟩ := hI
  have li : ((rowsN S k st a c i).map tps).length = i := by rw [List.length_map, rowsN_len]
  refine ⟨_, et_and (et_test (ev_lt (ev_lenO (ev_var rfl) (List.mem_cons_of_mem _ List.mem_cons_self)) (ev_var rfl))) fun _ => et_test (ev_notinN (ev_var rfl) (ev_var rfl) List.mem_cons_self nd), fun mu' s2 H2 hb Z2 => ?_, fun mu' s2 H2 hb Z2 => ?_⟩
  · obtain ⟨hb, e⟩ := hb
    subst e
    have hb := hb.symm
    rw [Bool.and_eq_true, decide_eq_true_eq, li] at hb
    obtain ⟨b1, b2⟩ := hb
    have lt : i < n := by omega
    have nin : par S k st a c i ∉ rowsN S k st a c i := by
      intro z
      rw [decide_eq_true z] at b2
      cases b2
    refine q_nput 0 (EvD.to (ev_lenO (ev_var rfl) (List.mem_cons_of_mem _ List.mem_cons_self)) (by rw [List.length_map])) (ev_var rfl) (ev_var rfl) rfl nin (by rw [rowsN_len]; omega) Z2 fun H3 Z3 => ?_
    refine q_appD (d := tps (par S k st a c i)) 1 (ev_var rfl) (ev_var rfl) rfl (by rw [li]; omega) Z3 fun H4 Z4 => ?_
    refine s_asgD (ev_call (f := fun x : (Mat × Nat) × List (Nat × Nat) => tps (carr x.1.1 x.1.2 x.2)) ((S, k), par S k st a c i) (ea_cons (ev_var rfl) (ea_cons (ev_var rfl) ea_nil)) ⟨h, fun p hp => par_lt hp, Nat.le_trans (par_len h st a c i) (by decide)⟩) Z4 fun s5 H5 Z5 => ?_
    refine ⟨i + 1, n - (i + 1), by omega, ⟨lt, ?_, rfl⟩, ?_⟩
    · rw [rowsN_succ, List.nodup_append]
      exact ⟨nd, by simp, fun x hx y hy e => nin (by rw [List.mem_singleton.mp hy] at e; rw [← e]; exact hx)⟩
    · dsimp only
      rw [rowsN_succ, List.map_append]
      exact Z5.weak ⟨rfl, rfl, rfl, rfl, rfl, rfl, rfl, rfl, trivial⟩
  · obtain ⟨hb, e⟩ := hb
    subst e
    have hb := hb.symm
    refine q_when (et_test (ev_eqI (ev_lenO (ev_var rfl) (List.mem_cons_of_mem _ List.mem_cons_self)) (ev_var rfl))) Z2 (fun hb2 H3 Z3 => ?_) fun hb2 H3 Z3 => ?_
    · have e : i = n := by
        have := of_decide_eq_true hb2
        rw [li] at this
        omega
      refine s_ret (ev_var rfl) Z3 fun v d' mu' H' ⟨e1, _⟩ S' => q.go hM S' ?_
      rw [e1, e]
    · have ne : i ≠ n := fun z => by
        rw [li, z] at hb2
        simp at hb2
      have lt : i < n := by omega
      have inn : par S k st a c i ∈ rowsN S k st a c i := by
        refine Classical.byContradiction fun z => ?_
        rw [li, decide_eq_true (show ((i : Nat) : Int) < (n : Int) by omega), decide_eq_false z] at hb
        cases hb
      obtain ⟨j, hj⟩ := List.getElem?_of_mem inn
      have hji : j < i := by
        have := (List.getElem?_eq_some_iff.mp hj).1
        rw [rowsN_len] at this
        exact this
      have ej : par S k st a c j = par S k st a c i := by
        rw [rowsN_get hji] at hj
        exact Option.some.inj hj
      have rnd := round (f := par S k st a c) (g := carr S k) (fun _ => rfl) hji ej.symm n (by omega)
      refine q_asgD (ev_nget (ev_var rfl) (ev_var rfl) List.mem_cons_self nd hj) Z3 fun s4 H4 Z4 => ?_
      have eidx : ((j : Int) + ((n : Int) - (j : Int)) % ((i : Int) - (j : Int))) = ((j + (n - j) % (i - j) : Nat) : Int) := by
        have e1 : (n : Int) - (j : Int) = ((n - j : Nat) : Int) := by omega
        have e2 : (i : Int) - (j : Int) = ((i - j : Nat) : Int) := by omega
        rw [e1, e2, Int.natCast_add, Int.natCast_emod]
      have hlt : j + (n - j) % (i - j) < i := by
        have := Nat.mod_lt (n - j) (show 0 < i - j by omega)
        omega
      refine s_ret (ev_ixO (ev_var rfl) (EvD.to (ev_add (ev_var rfl) (ev_mod (ev_sub (ev_var rfl) (ev_var rfl)) (ev_sub (EvD.to (ev_lenO (ev_var rfl) (List.mem_cons_of_mem _ List.mem_cons_self)) (by rw [li])) (ev_var rfl)) (by omega))) (by rw [eidx])) (List.mem_cons_of_mem _ List.mem_cons_self) (at_nat (x := tps (par S k st a c n)) (by
        rw [List.getElem?_map, rowsN_get hlt, ← rnd]
        rfl))) Z4 fun v d' mu' H' ⟨e1, _⟩ S' => q.go hM S' e1
abbrev sp_unlike_commands (C : Addr) : Sp := spF C (fun x : Mat × Nat => [.mach x.2 x.1]) (fun x => Ok x.1 x.2) fun x r => r = .lst ((unl x.2).map tp)
theorem c_unlike_commands (T : Txt K mg C) : Cal P w K mg base 1 "unlike_commands" ["machine"] (sp_unlike_commands C) := T.d.unlike_commands.cal fun f fd Fn => okF Fn sc_unlike_commands (fun _ => rfl) fun x cdv A outer s H E hp hr => by
  obtain ⟨S, k⟩ := x
  have h : Ok S k := hp
  have h5 := h.k5
  refine ⟨_, (pss_one (ps_ret (pe_lc2 (own := [("c", 1), ("a", 2)]) (vs1 := [2]) (by rfl) sc_unlike_commands.nd (pi_range1 (by rfl) T.b.range (pa_cons (k_fld K (pv 0)) pa_nil)) (bk (own := [("c", 1), ("a", 2)]) (N := N_unlike_commands) (sc := defScope s_unlike_commands)) (by decide) (fun _ _ _ _ _ => (pgn 1 sc_unlike_commands.nd)) (fun _ _ _ _ _ => pts_nil) (fun _ _ _ _ _ => (pi_range1 (by rfl) T.b.range (pa_cons (pv 1) pa_nil))) (fun _ _ _ _ _ => (pgn 2 sc_unlike_commands.nd)) (fun _ _ _ _ _ => pts_nil) (fun _ _ _ _ _ => (pe_tup (pa_cons (pv 2) (pa_cons (pv 1) pa_nil))))))), fun c Q s0 H0 hM q Z => ?_⟩
  replace Z : Sat C c [some (.mach k S), none, none] [] [] s0 H0 := Z
  refine s_ret (EvN.ev ((el_lc2 (fun d e => tp (nOf e, nOf d)) (fun d => (List.range (nOf d)).map nat) (evi_rng (ev_commands T.cl T.nC (ev_var rfl)) (by omega)) ?_ fun i d hd => ?_).to (unl_eq k))) Z fun v d' mu' H' ⟨e, _⟩ S' => q.go hM S' e
  · have : ∀ (l : List Nat), (∀ x ∈ l, x < k) → ((l.map nat).flatMap fun d => (List.range (nOf d)).map nat).length ≤ l.length * 5 := by
      intro l
      induction l with
      | nil => intro _; simp
      | cons x l ih =>
        intro hx
        have := ih fun y hy => hx y (List.mem_cons_of_mem _ hy)
        have hx0 := hx x List.mem_cons_self
        rw [List.map_cons, List.flatMap_cons, List.length_append, nOf_nat, List.length_map, List.length_range, List.length_cons]
        omega
    have l := this (List.range k) fun x hx => List.mem_range.mp hx
    rw [List.length_range] at l
    omega
  · obtain ⟨hi, rfl⟩ := rng_at hd
    refine ⟨_, _, bg_name, by simp, fun mu' => ⟨?_, fun j e he => ?_⟩⟩
    · rw [nOf_nat]
      exact evi_rng (ev_var rfl) (by omega)
    · rw [nOf_nat] at he
      obtain ⟨hj, rfl⟩ := rng_at he
      refine ⟨_, _, bg_name, by simp, fun mu' => ?_⟩
      rw [nOf_nat, nOf_nat]
      exact ev_tup (ea_cons (ev_var rfl) (ea_cons (ev_var rfl) ea_nil))
end
end DL
/-! lets, least_after, corners, contexts_left -/
namespace DL
open PySem L2 Mth

theorem all_next {α : Type} {l : List α} {q : α → Bool} {i : Nat} {p : α} (hi : l[i]? = some p) (h0 : (l.take i).all q = true) (hq : q p = true) : (l.take (i + 1)).all q = true := by
  rw [List.take_succ, hi, List.all_append, h0]
  show (Option.toList (some p)).all q = true
  rw [Option.toList_some, List.all_cons, hq]
  rfl
theorem optP_non (o : Option (Nat × Nat)) : isNon (optP o) = o.isNone := by cases o <;> rfl
section
variable {P : Program} {w : World} {K : PySem.W.Frag} {mg : Str → Option Value} {base : Heap} {C : Addr}
abbrev sp_lets (C : Addr) : Sp := spF C (fun x : (Mat × Nat) × Nat × Nat × Nat => [.mach x.1.2 x.1.1, layD x.1.1 x.1.2, nat x.2.1, nat x.2.2.1, nat x.2.2.2]) (fun x => Ok x.1.1 x.1.2 ∧ 1 ≤ x.2.2.1 ∧ x.2.2.1 ≤ 500) fun x r => r = .bl (L x.1.1 x.1.2 x.2.2.1 x.2.1 x.2.2.2)
theorem c_lets (T : Txt K mg C) : Cal P w K mg base 3 "lets" ["machine", "layers", "before", "step", "after"] (sp_lets C) := T.d.lets.cal fun f fd Fn => okF Fn sc_lets (fun _ => rfl) fun x cdv A outer s H E hp hr => by
  have g_at_count := c_at_count (P := P) (w := w) (base := base) T
  have g_unlike_commands := c_unlike_commands (P := P) (w := w) (base := base) T
  have g_clashing := c_clashing (P := P) (w := w) (base := base) T
  have g_pairs_after := c_pairs_after (P := P) (w := w) (base := base) T
  obtain ⟨⟨S, k⟩, x, d, y⟩ := x
  obtain ⟨h, hd1, hd2⟩ := hp
  dsimp only at h hd1 hd2
  refine ⟨_, (pss_cons (ps_par (i := 5) (j := 6) rfl sc_lets.nd rfl rfl (by decide) rfl rfl (pa_cons (pe_cal g_at_count (hr.mono (by decide)) (pa_cons (k_ix K (pv 1) pe_int) (pa_cons (pv 2) pa_nil))) (pa_cons (pe_cal g_at_count (hr.mono (by decide)) (pa_cons (k_ix K (pv 1) pe_int) (pa_cons (pv 4) pa_nil))) pa_nil)) (by rfl))
  (pss_cons (ps_for PassesOwn.never rfl (k_pil K (pe_cal g_unlike_commands (hr.mono (by decide)) (pa_cons (pv 0) pa_nil))) (k_gtup K 2 (pgs_cons (pgn 7 sc_lets.nd) (pgs_cons (pgn 8 sc_lets.nd) pgs_nil)))
  (pss_one (ps_if (pt_cmpR op_notN (pe_cal g_clashing (hr.mono (by decide)) (pa_cons (pv 0) (pa_cons (pe_cal g_pairs_after (hr.mono (by decide)) (pa_cons (pv 0) (pa_cons (pv 5) (pa_cons (pv 7) (pa_cons (pv 8) (pa_cons (pe_op op_sub (pv 3) pe_int) pa_nil)))))) (pa_cons (pv 7) (pa_cons (pv 8) (pa_cons (pv 6) pa_nil)))))) pe_non (nomark _))
  (pss_one (ps_ret pe_bl))
  pss_nil)))
  (pss_one (ps_ret pe_bl)))), fun cn Q s0 H0 hM q Z => ?_⟩
  replace Z : Sat C cn [some (.mach k S), some (layD S k), some (nat x), some (nat d), some (nat y), none, none, none, none] [] [] s0 H0 := Z
  refine q_parD (ea_cons (ev_lots_at (n := x) h (ev_ixT (ds := [.lst ((lots S k).map tn), .lst ((clss S).map tn)]) (ev_var rfl) ev_int (at_nat (n := 0) rfl)) (ev_var rfl)) (ea_cons (ev_clss_at (n := y) h (ev_ixT (ds := [.lst ((lots S k).map tn), .lst ((clss S).map tn)]) (ev_var rfl) ev_int (at_nat (n := 1) rfl)) (ev_var rfl)) ea_nil)) Z fun s1 H1 Z1 => ?_
  have ed : ((d : Int) - 1) = ((d - 1 : Nat) : Int) := by omega
  refine q_for (evi_lst (ev_call (f := fun x : Mat × Nat => .lst ((unl x.2).map tp)) (S, k) (ea_cons (ev_var rfl) ea_nil) h)) Z1 (fun i (_ : Unit) => [some (.mach k S), some (layD S k), some (nat x), some (nat d), some (nat y), some (tn (lot S k x)), some (tn (cls S y)), none, none]) (fun _ _ => [])
    (fun i _ => ((unl k).take i).all (fun ac => (clash S (par S k (lot S k x) ac.1 ac.2 (d - 1)) ac.1 ac.2 (cls S y)).isNone) = true) ⟨(), rfl, ⟨rfl, rfl, rfl, rfl, rfl, rfl, rfl, trivial⟩, rfl⟩ (fun i e y tx hd hi => ?_) fun _ s2 H2 hy Z2 => ?_
  · obtain ⟨⟨a, c⟩, hac, rfl⟩ := tps_at hd
    obtain ⟨m1, m2⟩ := mem_unl.mp (List.mem_of_getElem? hac)
    dsimp only at m1 m2
    refine ⟨_, _, bg_tup bg_name bg_name, fun s2 H2 Z2 => ?_⟩
    refine s_ifD (et_test (EvD.to (ev_notN (ev_call (f := fun x : (Mat × Nat) × (Bool × List (Nat × Nat)) × (Nat × Nat) × List Nat => optP (clash x.1.1 x.2.1.2 x.2.2.1.1 x.2.2.1.2 x.2.2.2)) ((S, k), (false, par S k (lot S k x) a c (d - 1)), (a, c), cls S _) (ea_cons (ev_var rfl) (ea_cons (ev_call (f := fun x : (Mat × Nat) × List Nat × (Nat × Nat) × Nat => tps (par x.1.1 x.1.2 x.2.1 x.2.2.1.1 x.2.2.1.2 x.2.2.2)) ((S, k), lot S k x, (a, c), d - 1) (ea_cons (ev_var rfl) (ea_cons (ev_var rfl) (ea_cons (ev_var rfl) (ea_cons (ev_var rfl) (ea_cons (EvD.to (ev_sub (ev_var rfl) ev_int) (by rw [ed])) ea_nil))))) ⟨h, fun t ht => lot_lt h ht, lot_len h x, by show a < k; omega, m2, by show d - 1 ≤ 500; omega⟩) (ea_cons (ev_var rfl) (ea_cons (ev_var rfl) (ea_cons (ev_var rfl) ea_nil))))) ⟨h, fun p hp => par_lt hp, by show a < k; omega, m2, cls_len _⟩) ev_non) (by rw [optP_non]))) Z2 (fun hb H3 Z3 => ?_) fun hb H3 Z3 => ?_
    · refine s_ret ev_bl Z3 fun v d' mu' H' ⟨e, _⟩ S' => q.go hM S' (e.trans ?_)
      show D.bl false = D.bl (letsB S k (lot S k x) (cls S _) d)
      congr 1
      unfold letsB
      refine (Bool.eq_false_iff.mpr fun z => ?_).symm
      have := List.all_eq_true.mp z (a, c) (List.mem_of_getElem? hac)
      dsimp only at this hb
      rw [this] at hb
      cases hb
    · refine ⟨(), all_next hac hi ?_, Z3.weak ⟨rfl, rfl, rfl, rfl, rfl, rfl, rfl, trivial⟩⟩
      dsimp only at hb ⊢
      revert hb
      cases (clash S (par S k (lot S k x) a c (d - 1)) a c (cls S _)).isNone <;> simp
  · refine s_ret ev_bl Z2 fun v d' mu' H' ⟨e, _⟩ S' => q.go hM S' (e.trans ?_)
    rw [List.length_map, List.take_length] at hy
    show D.bl true = D.bl (letsB S k (lot S k x) (cls S y) d)
    unfold letsB
    rw [hy]
abbrev sp_least_after (C : Addr) : Sp := spF C (fun x : (Mat × Nat) × Nat × Nat × Nat => [.mach x.1.2 x.1.1, layD x.1.1 x.1.2, nat x.2.1, nat x.2.2.1, nat x.2.2.2]) (fun x => Ok x.1.1 x.1.2 ∧ 1 ≤ x.2.2.1 ∧ x.2.2.1 ≤ 500) fun x r => r = optN (leastA (L x.1.1 x.1.2 x.2.2.1 x.2.1) x.2.2.2)
theorem c_least_after (T : Txt K mg C) : Cal P w K mg base 4 "least_after" ["machine", "layers", "before", "distance", "most"] (sp_least_after C) := T.d.least_after.cal fun f fd Fn => okF Fn sc_least_after (fun _ => rfl) fun x cdv A outer s H E hp hr => by
  have g_lets := c_lets (P := P) (w := w) (base := base) T
  obtain ⟨⟨S, k⟩, x, d, m0⟩ := x
  obtain ⟨h, hd1, hd2⟩ := hp
  dsimp only at h hd1 hd2
  refine ⟨_, (pss_cons (ps_if (pt_not (pt_val (pe_cal g_lets (hr.mono (by decide)) (pa_cons (pv 0) (pa_cons (pv 1) (pa_cons (pv 2) (pa_cons (pv 3) (pa_cons (pv 4) pa_nil))))))))
  (pss_one (ps_ret pe_non))
  pss_nil)
  (pss_cons (psn 5 sc_least_after.nd (pv 4))
  (pss_cons (ps_while PassesOwn.never (PW.pt (pw_and (pt_cmpR op_gt (pv 5) pe_int (nomark _)) (pw_and1 (pt_val (pe_cal g_lets (hr.mono (by decide)) (pa_cons (pv 0) (pa_cons (pv 1) (pa_cons (pv 2) (pa_cons (pv 3) (pa_cons (pe_op op_sub (pv 5) pe_int) pa_nil))))))))))
  (pss_one (psn 5 sc_least_after.nd (pe_op op_sub (pv 5) pe_int))))
  (pss_one (ps_ret (pv 5)))))), fun cn Q s0 H0 hM q Z => ?_⟩
  replace Z : Sat C cn [some (.mach k S), some (layD S k), some (nat x), some (nat d), some (nat m0), none] [] [] s0 H0 := Z
  refine q_when (et_not (et_B (ev_call (f := fun x : (Mat × Nat) × Nat × Nat × Nat => .bl (L x.1.1 x.1.2 x.2.2.1 x.2.1 x.2.2.2)) ((S, k), x, d, m0) (ea_cons (ev_var rfl) (ea_cons (ev_var rfl) (ea_cons (ev_var rfl) (ea_cons (ev_var rfl) (ea_cons (ev_var rfl) ea_nil))))) ⟨h, hd1, hd2⟩))) Z (fun hb H1 Z1 => ?_) fun hb H1 Z1 => ?_
  · refine s_ret ev_non Z1 fun v d' mu' H' ⟨e, _⟩ S' => q.go hM S' (e.trans ?_)
    dsimp only at hb ⊢
    have : L S k d x m0 = false := by simpa using hb
    unfold leastA
    rw [if_neg (by rw [this]; decide)]
    rfl
  · have hL : L S k d x m0 = true := by simpa using hb
    refine q_asgD (ev_var rfl) Z1 fun s2 H2 Z2 => ?_
    refine q_while Z2 (fun m : Nat => [some (.mach k S), some (layD S k), some (nat x), some (nat d), some (nat m0), some (nat m)]) (fun _ => []) (fun n m => n = m ∧ down (L S k d x) m = down (L S k d x) m0) ⟨m0, m0, ⟨rfl, rfl⟩, ⟨rfl, rfl, rfl, rfl, rfl, rfl, trivial⟩, rfl⟩ fun n m hI => ?_
    obtain ⟨rfl, hm⟩ := hI
    refine ⟨_, et_and (et_test (ev_gt (ev_var rfl) ev_int)) (b := L S k d x (n - 1)) fun hpos => et_B (ev_call (f := fun x : (Mat × Nat) × Nat × Nat × Nat => .bl (L x.1.1 x.1.2 x.2.2.1 x.2.1 x.2.2.2)) ((S, k), x, d, n - 1) (ea_cons (ev_var rfl) (ea_cons (ev_var rfl) (ea_cons (ev_var rfl) (ea_cons (ev_var rfl) (ea_cons (EvD.to (ev_sub (ev_var rfl) ev_int) (by
      have : 0 < n := by have := of_decide_eq_true hpos; omega
      show D.int ((n : Int) - 1) = D.int ((n - 1 : Nat) : Int)
      congr 1
      omega)) ea_nil))))) ⟨h, hd1, hd2⟩), fun mu' s3 H3 hb Z3 => ?_, fun mu' s3 H3 hb Z3 => ?_⟩
    · obtain ⟨hb, e⟩ := hb
      subst e
      have hb := hb.symm
      rw [Bool.and_eq_true, decide_eq_true_eq] at hb
      obtain ⟨b1, b2⟩ := hb
      have pos : 0 < n := by omega
      refine s_asgD (EvD.to (ev_sub (ev_var rfl) ev_int) (show _ = nat (n - 1) by
        show D.int _ = D.int _
        congr 1
        omega)) Z3 fun s4 H4 Z4 => ⟨n - 1, n - 1, by omega, ⟨rfl, ?_⟩, Z4.weak ⟨rfl, rfl, rfl, rfl, rfl, rfl, trivial⟩⟩
      rw [← hm]
      conv => rhs; rw [show n = (n - 1) + 1 by omega]
      unfold down
      rw [if_pos b2]
      cases n - 1 <;> rfl
    · obtain ⟨hb, e⟩ := hb
      subst e
      have hb := hb.symm
      refine s_ret (ev_var rfl) Z3 fun v d' mu' H' ⟨e, _⟩ S' => q.go hM S' (e.trans ?_)
      dsimp only
      unfold leastA
      rw [if_pos hL, ← hm]
      show nat n = nat (down (L S k d x) n)
      congr 2
      cases n with
      | zero => rfl
      | succ m =>
        have b2 : L S k d x m = false := by
          rw [decide_eq_true (show (0 : Int) < ((m + 1 : Nat) : Int) by omega), Bool.true_and] at hb
          exact hb
        unfold down
        rw [if_neg (by rw [b2]; decide)]
end
end DL
/-! corners, contexts_left -/
namespace DL
open PySem L2 Mth

theorem corn_cons {f : Nat → Nat → Bool} {n i m : Nat} (hi : i < n) : corn f ((List.range n).drop i) m = match leastA (f i) m with
    | none => corn f ((List.range n).drop (i + 1)) m
    | some a => (i, a) :: (if a = 0 then [] else corn f ((List.range n).drop (i + 1)) (a - 1)) := by
  rw [List.drop_eq_getElem_cons (by simpa using hi), List.getElem_range]
  rfl
section
variable {P : Program} {w : World} {K : PySem.W.Frag} {mg : Str → Option Value} {base : Heap} {C : Addr}
abbrev sp_corners (C : Addr) : Sp := spF C (fun x : (Mat × Nat) × Nat => [.mach x.1.2 x.1.1, nat x.2]) (fun x => Ok x.1.1 x.1.2 ∧ 1 ≤ x.2 ∧ x.2 ≤ 500) fun x r => r = tps (cornersM x.1.1 x.1.2 x.2)
theorem c_corners (T : Txt K mg C) : Cal P w K mg base 5 "corners" ["machine", "distance"] (sp_corners C) := T.d.corners.cal fun f fd Fn => okF Fn sc_corners (fun _ => rfl) fun x cdv A outer s H E hp hr => by
  have g_layers_of := c_layers_of (P := P) (w := w) (base := base) T
  have g_least_after := c_least_after (P := P) (w := w) (base := base) T
  obtain ⟨⟨S, k⟩, d⟩ := x
  obtain ⟨h, hd1, hd2⟩ := hp
  dsimp only at h hd1 hd2
  have h10 := h.n10
  have u3 := (uu_spec h).2.2
  refine ⟨_, (pss_cons (ps_par (i := 2) (j := 3) rfl sc_corners.nd rfl rfl (by decide) rfl rfl (pa_cons (pe_cal g_layers_of (hr.mono (by decide)) (pa_cons (pv 0) pa_nil)) (pa_cons (pe_lst pa_nil) pa_nil)) (by rfl))
  (pss_cons (psn 4 sc_corners.nd (pe_op op_sub (k_len K T.b.len (k_ix K (pv 2) pe_int)) pe_int))
  (pss_cons (ps_for PassesOwn.never rfl (pi_range1 (by rfl) T.b.range (pa_cons (k_len K T.b.len (k_ix K (pv 2) pe_int)) pa_nil)) (pgn 5 sc_corners.nd)
  (pss_cons (psn 6 sc_corners.nd (pe_cal g_least_after (hr.mono (by decide)) (pa_cons (pv 0) (pa_cons (pv 2) (pa_cons (pv 5) (pa_cons (pv 1) (pa_cons (pv 4) pa_nil)))))))
  (pss_one (ps_if (pt_cmpR op_notN (pv 6) pe_non (nomark _))
  (pss_cons (ps_expr (pe_bm PySem.F.plainAttrs_list PySem.F.slot_list_append PySem.F.type_list_append mt_append (pv 3) (pa_cons (pe_tup (pa_cons (pv 5) (pa_cons (pv 6) pa_nil))) pa_nil)))
  (pss_cons (ps_if (pt_cmpR (k_eqD K hr.units) (pv 6) pe_int (nomark _))
  (pss_one ps_break)
  pss_nil)
  (pss_one (psn 4 sc_corners.nd (pe_op op_sub (pv 6) pe_int)))))
  pss_nil))))
  (pss_one (ps_ret (k_tuple K T.b.tuple (pv 3))))))), fun cn Q s0 H0 hM q Z => ?_⟩
  replace Z : Sat C cn [some (.mach k S), some (nat d), none, none, none, none, none] [] [] s0 H0 := Z
  refine q_par2 (ev_call (f := fun x : Mat × Nat => layD x.1 x.2) (S, k) (ea_cons (ev_var rfl) ea_nil) h) (R2 := fun _ mu1 e mu2 => ∃ p, e = .ptr p ∧ mu2 = (p, .lst []) :: mu1) (fun d mu1 _ => el_lst ea_nil) Z fun d1 e1 mu1 mu2 s1 H1 ⟨e, e'⟩ ⟨p, e2, e3⟩ Z1 => ?_
  subst e; subst e'; subst e2; subst e3
  have ixl : ∀ {rho : List (Option D)} {mu : Mu}, rho[2]? = some (some (layD S k)) → EvD C (tOp (rIx K) (tVar 2) (tC (.int 0))) rho mu (.lst ((lots S k).map tn)) := fun hh => ev_ixT (ds := [.lst ((lots S k).map tn), .lst ((clss S).map tn)]) (ev_var hh) ev_int (at_nat (n := 0) rfl)
  have ixc : ∀ {rho : List (Option D)} {mu : Mu}, rho[2]? = some (some (layD S k)) → EvD C (tOp (rIx K) (tVar 2) (tC (.int 1))) rho mu (.lst ((clss S).map tn)) := fun hh => ev_ixT (ds := [.lst ((lots S k).map tn), .lst ((clss S).map tn)]) (ev_var hh) ev_int (at_nat (n := 1) rfl)
  refine q_asgD (EvD.to (d2 := nat (vv S)) (ev_sub (ev_lenL (ixc rfl)) ev_int) (by
    rw [List.length_map, clss_len]
    show D.int _ = D.int _
    congr 1
    omega)) Z1 fun s2 H2 Z2 => ?_
  refine q_for (evi_rng (n := uu S k + 1) (EvD.to (ev_lenL (ixl rfl)) (by rw [List.length_map, lots_len])) (by omega)) Z2 (fun i (y : List (Nat × Nat) × Nat) => [some (.mach k S), some (nat d), some (layD S k), some (.ptr p), some (nat y.2), none, none]) (fun _ y => [(p, .lst (y.1.map tp))])
    (fun i y => y.1.length ≤ i ∧ y.1 ++ corn (L S k d) ((List.range (uu S k + 1)).drop i) y.2 = cornersM S k d) ⟨([], vv S), ⟨Nat.le_refl _, rfl⟩, ⟨rfl, rfl, rfl, rfl, rfl, trivial⟩, rfl⟩ (fun i e y tx hd hi => ?_) fun y s3 H3 hy Z3 => ?_
  · obtain ⟨hu, rfl⟩ := rng_at hd
    obtain ⟨hl, hi⟩ := hi
    obtain ⟨fd, m⟩ := y
    dsimp only at hl hi
    rw [corn_cons hu] at hi
    refine ⟨_, _, bg_name, fun s3 H3 Z3 => ?_⟩
    refine q_asgD (ev_call (f := fun x : (Mat × Nat) × Nat × Nat × Nat => optN (leastA (L x.1.1 x.1.2 x.2.2.1 x.2.1) x.2.2.2)) ((S, k), i, d, m) (ea_cons (ev_var rfl) (ea_cons (ev_var rfl) (ea_cons (ev_var rfl) (ea_cons (ev_var rfl) (ea_cons (ev_var rfl) ea_nil))))) ⟨h, hd1, hd2⟩) Z3 fun s4 H4 Z4 => ?_
    dsimp only at Z4
    generalize leastA (L S k d i) m = o at Z4 hi
    cases o with
    | none =>
      refine s_ifD (b := false) (et_test (ev_notN (d := .non) (ev_var rfl) ev_non)) Z4 (fun z => by cases z) fun _ H5 Z5 => ?_
      exact ⟨(fd, m), ⟨by show fd.length ≤ i + 1; omega, hi⟩, Z5.weak ⟨rfl, rfl, rfl, rfl, rfl, trivial⟩⟩
    | some a =>
      replace Z4 : Sat C cn [some (.mach k S), some (nat d), some (layD S k), some (.ptr p), some (nat m), some (nat i), some (nat a)] [(p, .lst (fd.map tp))] (tx ++ []) s4 H4 := Z4
      refine s_ifD (b := true) (et_test (ev_notN (d := nat a) (ev_var rfl) ev_non)) Z4 (fun _ H5 Z5 => ?_) fun z => by cases z
      refine q_appD 0 (ev_var rfl) (d := tp (i, a)) (ev_tup (ea_cons (ev_var rfl) (ea_cons (ev_var rfl) ea_nil))) rfl (by rw [List.length_map]; omega) Z5 fun H6 Z6 => ?_
      have em : fd.map tp ++ [tp (i, a)] = (fd ++ [(i, a)]).map tp := by rw [List.map_append]; rfl
      rw [em] at Z6
      replace Z6 : Sat C cn [some (.mach k S), some (nat d), some (layD S k), some (.ptr p), some (nat m), some (nat i), some (nat a)] [(p, .lst ((fd ++ [(i, a)]).map tp))] (tx ++ []) s4 H6 := Z6
      refine q_when (et_test (ev_eqI (ev_var rfl) ev_int)) Z6 (fun hz H7 Z7 => ?_) fun hz H7 Z7 => ?_
      · have ha : a = 0 := by have := of_decide_eq_true hz; omega
        subst ha
        dsimp only at hi
        rw [if_pos rfl] at hi
        have Z8 := Z7.fewer (ts' := []) fun p hp => by cases hp
        refine s_ret (ev_tupleO (ev_var rfl) List.mem_cons_self) Z8 fun v d' mu' H' ⟨e, _⟩ S' => q.go hM S' (e.trans ?_)
        show tps _ = tps _
        rw [hi]
      · have ha : a ≠ 0 := by have := of_decide_eq_false hz; omega
        dsimp only at hi
        rw [if_neg ha] at hi
        refine s_asgD (EvD.to (d2 := nat (a - 1)) (ev_sub (ev_var rfl) ev_int) (by
          show D.int _ = D.int _
          congr 1
          omega)) Z7 fun s8 H8 Z8 => ⟨(fd ++ [(i, a)], a - 1), ⟨by show (fd ++ [(i, a)]).length ≤ i + 1; simp; omega, ?_⟩, Z8.weak ⟨rfl, rfl, rfl, rfl, rfl, trivial⟩⟩
        rw [← hi, List.append_assoc]
        rfl
  · obtain ⟨fd, m⟩ := y
    obtain ⟨_, hy⟩ := hy
    dsimp only at hy Z3
    refine s_ret (ev_tupleO (ev_var rfl) List.mem_cons_self) Z3 fun v d' mu' H' ⟨e, _⟩ S' => q.go hM S' (e.trans ?_)
    rw [List.length_map, List.length_range, List.drop_eq_nil_of_le (by simp)] at hy
    rw [← hy]
    show _ = tps (fd ++ [])
    rw [List.append_nil]
    rfl
end
theorem mids_zip : ∀ cs : List (Nat × Nat), mids cs = List.zipWith (fun a b => (b.1 - 1, a.2 - 1)) cs (cs.drop 1)
  | [] => rfl
  | [_] => rfl
  | a :: b :: r => by
    have := mids_zip (b :: r)
    show (b.1 - 1, a.2 - 1) :: mids (b :: r) = _
    rw [this]
    rfl
theorem last_at : ∀ (a : Nat × Nat) (r : List (Nat × Nat)), (a :: r)[r.length]? = some (lastC (a :: r))
  | a, [] => rfl
  | a, b :: r => last_at b r
theorem cut_tail (ds : List D) : cutD ds (some 1) none = ds.drop 1 := by
  unfold cutD HT.sIx
  cases ds with
  | nil => simp
  | cons x r => simp
theorem stairs_at : ∀ {cs : List (Nat × Nat)} {i : Nat} {a b : Nat × Nat}, stairs cs = true → cs[i]? = some a → cs[i + 1]? = some b → a.1 < b.1 ∧ b.2 < a.2
  | [], i, a, b, _, h, _ => by simp at h
  | [_], i, a, b, _, _, h => by simp at h
  | x :: y :: r, 0, a, b, hs, h1, h2 => by
    have hs' : ((decide (x.1 < y.1) && decide (y.2 < x.2)) && stairs (y :: r)) = true := hs
    rw [Bool.and_eq_true, Bool.and_eq_true, decide_eq_true_eq, decide_eq_true_eq] at hs'
    have e1 : x = a := by simpa using h1
    have e2 : y = b := by simpa using h2
    subst e1; subst e2
    exact hs'.1
  | x :: y :: r, i + 1, a, b, hs, h1, h2 => by
    have hs' : ((decide (x.1 < y.1) && decide (y.2 < x.2)) && stairs (y :: r)) = true := hs
    rw [Bool.and_eq_true] at hs'
    exact stairs_at hs'.2 (by simpa using h1) (by simpa using h2)
end DL
/-! contexts_left -/
namespace DL
open PySem L2 Mth

section
variable {P : Program} {w : World} {K : PySem.W.Frag} {mg : Str → Option Value} {base : Heap} {C : Addr}
theorem ev_fst {te : TE} {rho : List (Option D)} {mu : Mu} {p : Nat × Nat} (h : EvD C te rho mu (tp p)) : EvD C (tOp (rIx K) te (tC (.int 0))) rho mu (nat p.1) := ev_ixT (ds := [nat p.1, nat p.2]) h ev_int (at_nat (n := 0) rfl)
theorem ev_snd {te : TE} {rho : List (Option D)} {mu : Mu} {p : Nat × Nat} (h : EvD C te rho mu (tp p)) : EvD C (tOp (rIx K) te (tC (.int 1))) rho mu (nat p.2) := ev_ixT (ds := [nat p.1, nat p.2]) h ev_int (at_nat (n := 1) rfl)
theorem ev_less {te : TE} {rho : List (Option D)} {mu : Mu} {n : Nat} (h : EvD C te rho mu (nat n)) (h0 : 0 < n) : EvD C (tOp rSubI te (tC (.int 1))) rho mu (nat (n - 1)) := EvD.to (ev_sub h ev_int) (by
  show D.int _ = D.int _
  congr 1
  omega)
abbrev sp_contexts_left (C : Addr) : Sp := spF C (fun x : (Mat × Nat) × List (Nat × Nat) => [.mach x.1.2 x.1.1, tps x.2]) (fun x => Ok x.1.1 x.1.2 ∧ stairs x.2 = true ∧ x.2.length ≤ 1000) fun x r => r = tps (ctxL (uu x.1.1 x.1.2) (vv x.1.1) x.2)
theorem c_contexts_left (T : Txt K mg C) : Cal P w K mg base 4 "contexts_left" ["machine", "some"] (sp_contexts_left C) := T.d.contexts_left.cal fun f fd Fn => okF Fn sc_contexts_left (fun _ => rfl) fun x cdv A outer s H E hp hr => by
  have g_settled_behind := c_settled_behind (P := P) (w := w) (base := base) T
  have g_settled_joined := c_settled_joined (P := P) (w := w) (base := base) T
  obtain ⟨⟨S, k⟩, cs⟩ := x
  obtain ⟨h, hst, hl⟩ := hp
  dsimp only at h hst hl
  refine ⟨_, (pss_cons (ps_par (i := 2) (j := 3) rfl sc_contexts_left.nd rfl rfl (by decide) rfl rfl (pa_cons (pe_cal g_settled_behind (hr.mono (by decide)) (pa_cons (pv 0) pa_nil)) (pa_cons (pe_cal g_settled_joined (hr.mono (by decide)) (pa_cons (pv 0) pa_nil)) pa_nil)) (by rfl))
  (pss_cons (ps_if (pt_cmpR (k_eqD K hr.units) (k_len K T.b.len (pv 1)) pe_int (nomark _))
  (pss_one (ps_ret (pe_tup (pa_cons (pe_tup (pa_cons (pv 2) (pa_cons (pv 3) pa_nil))) pa_nil))))
  pss_nil)
  (pss_cons (psn 4 sc_contexts_left.nd (pe_ifExp (pt_cmpR op_gt (k_ix K (k_ix K (pv 1) pe_int) pe_int) pe_int (nomark _)) (pe_lst (pa_cons (pe_tup (pa_cons (pe_op op_sub (k_ix K (k_ix K (pv 1) pe_int) pe_int) pe_int) (pa_cons (pv 3) pa_nil))) pa_nil)) (pe_lst pa_nil)))
  (pss_cons (ps_for PassesOwn.never rfl (k_zipA K T.b.zip (pa_cons (pv 1) (pa_cons (pe_slice (k_slT K) (pv 1) (po_some pe_int) po_none) pa_nil))) (k_gtup K 2 (pgs_cons (pgn 5 sc_contexts_left.nd) (pgs_cons (pgn 6 sc_contexts_left.nd) pgs_nil)))
  (pss_one (ps_expr (pe_bm PySem.F.plainAttrs_list PySem.F.slot_list_append PySem.F.type_list_append mt_append (pv 4) (pa_cons (pe_tup (pa_cons (pe_op op_sub (k_ix K (pv 6) pe_int) pe_int) (pa_cons (pe_op op_sub (k_ix K (pv 5) pe_int) pe_int) pa_nil))) pa_nil)))))
  (pss_one (ps_ret (k_tuple K T.b.tuple (pe_op op_cat (pv 4) (pe_ifExp (pt_cmpR op_gt (k_ix K (k_ix K (pv 1) (pe_un un_neg pe_int)) pe_int) pe_int (nomark _)) (pe_lst (pa_cons (pe_tup (pa_cons (pv 2) (pa_cons (pe_op op_sub (k_ix K (k_ix K (pv 1) (pe_un un_neg pe_int)) pe_int) pe_int) pa_nil))) pa_nil)) (pe_lst pa_nil)))))))))), fun cn Q s0 H0 hM q Z => ?_⟩
  replace Z : Sat C cn [some (.mach k S), some (.tup (cs.map tp)), none, none, none, none, none] [] [] s0 H0 := Z
  refine q_parD (ea_cons (ev_call (f := fun x : Mat × Nat => nat (uu x.1 x.2)) (S, k) (ea_cons (ev_var rfl) ea_nil) h) (ea_cons (ev_call (f := fun x : Mat × Nat => nat (vv x.1)) (S, k) (ea_cons (ev_var rfl) ea_nil) h) ea_nil)) Z fun s1 H1 Z1 => ?_
  replace Z1 : Sat C cn [some (.mach k S), some (.tup (cs.map tp)), some (nat (uu S k)), some (nat (vv S)), none, none, none] [] [] s1 H1 := Z1
  refine q_when (et_test (ev_eqI (ev_lenT (ev_var rfl)) ev_int)) Z1 (fun hz H2 Z2 => ?_) fun hz H2 Z2 => ?_
  · have e0 : cs = [] := by
      have := of_decide_eq_true hz
      rw [List.length_map] at this
      exact List.length_eq_zero_iff.mp (by omega)
    subst e0
    exact s_ret (ev_tup (ds := [tp (uu S k, vv S)]) (ea_cons (ev_tup (ds := [nat (uu S k), nat (vv S)]) (ea_cons (ev_var rfl) (ea_cons (ev_var rfl) ea_nil))) ea_nil)) Z2 fun v d' mu' H' ⟨e, _⟩ S' => q.go hM S' e
  · cases cs with
    | nil => exact absurd (of_decide_eq_false hz) (by simp)
    | cons a r =>
      have at0 : ∀ {rho : List (Option D)} {mu : Mu}, rho[1]? = some (some (.tup ((a :: r).map tp))) → EvD C (tOp (rIx K) (tVar 1) (tC (.int 0))) rho mu (tp a) := fun hh => ev_ixT (ev_var hh) ev_int (at_nat (n := 0) rfl)
      have atl : ∀ {rho : List (Option D)} {mu : Mu}, rho[1]? = some (some (.tup ((a :: r).map tp))) → EvD C (tOp (rIx K) (tVar 1) (tUn (rU fun i => .int (-i)) (tC (.int 1)))) rho mu (tp (lastC (a :: r))) := fun hh => ev_ixT (ev_var hh) (ev_neg ev_int) (at_last (n := r.length) (by simp) (by rw [List.getElem?_map, last_at]; rfl))
      have fst : ∃ first : List (Nat × Nat), first = (if a.1 = 0 then [] else [(a.1 - 1, vv S)]) ∧ first.length ≤ 1 := ⟨_, rfl, by split <;> simp⟩
      obtain ⟨first, hf, hf1⟩ := fst
      refine q_asgN (ds := first.map tp) (ev_if (b := decide (0 < a.1)) (et_test (EvD.to (ev_gt (ev_fst (at0 rfl)) ev_int) (by rw [decide_eq_decide.mpr (show (0 : Int) < (a.1 : Int) ↔ 0 < a.1 by omega)]))) (fun hb => ?_) fun hb => ?_) Z2 fun p s3 H3 Z3 => ?_
      · have ha : 0 < a.1 := of_decide_eq_true hb
        rw [if_neg (by omega)] at hf
        rw [hf]
        exact el_lst (ds := [tp (a.1 - 1, vv S)]) (ea_cons (ev_tup (ds := [nat (a.1 - 1), nat (vv S)]) (ea_cons (ev_less (ev_fst (at0 rfl)) ha) (ea_cons (ev_var rfl) ea_nil))) ea_nil)
      · have ha : ¬ 0 < a.1 := of_decide_eq_false hb
        rw [if_pos (by omega)] at hf
        rw [hf]
        exact el_lst (ds := []) ea_nil
      · have hm : (mids (a :: r)).length ≤ 1000 := by
          rw [mids_zip, List.length_zipWith]
          omega
        refine q_for (ds := zipD ((a :: r).map tp) (((a :: r).map tp).drop 1)) (evi_zipT (ev_var rfl) (EvD.to (ev_cutT (ev_var rfl) (eo_some ev_int) eo_none) (by rw [cut_tail]))) Z3 (fun _ (_ : Unit) => [some (.mach k S), some (.tup ((a :: r).map tp)), some (nat (uu S k)), some (nat (vv S)), some (.ptr p), none, none]) (fun i _ => [(p, .lst ((first ++ (mids (a :: r)).take i).map tp))])
          (fun _ _ => True) ⟨(), trivial, ⟨rfl, rfl, rfl, rfl, rfl, trivial⟩, by rw [List.take_zero, List.append_nil]⟩ (fun i e y tx hd _ => ?_) fun y s4 H4 _ Z4 => ?_
        · obtain ⟨e1, e2, h1, h2, rfl⟩ := zipD_get hd
          obtain ⟨b1, hb1, rfl⟩ := tps_at h1
          rw [List.getElem?_drop, Nat.add_comm] at h2
          obtain ⟨b2, hb2, rfl⟩ := tps_at h2
          obtain ⟨l1, l2⟩ := stairs_at hst hb1 hb2
          refine ⟨_, _, bg_tup bg_name bg_name, fun s4 H4 Z4 => ?_⟩
          refine s_appD 0 (ev_var rfl) (ev_tup (ds := [nat (b2.1 - 1), nat (b1.2 - 1)]) (ea_cons (ev_less (ev_fst (ev_var rfl)) (by omega)) (ea_cons (ev_less (ev_snd (ev_var rfl)) (by omega)) ea_nil))) rfl (by rw [List.length_map, List.length_append, List.length_take]; omega) Z4 fun H5 Z5 => ⟨(), trivial, ?_⟩
          have hmi : (mids (a :: r))[i]? = some (b2.1 - 1, b1.2 - 1) := by
            rw [mids_zip, List.getElem?_zipWith, hb1, List.getElem?_drop, Nat.add_comm, hb2]
          have et : (first ++ (mids (a :: r)).take i).map tp ++ [.tup [nat (b2.1 - 1), nat (b1.2 - 1)]] = (first ++ (mids (a :: r)).take (i + 1)).map tp := by
            rw [List.take_succ, hmi, ← List.append_assoc, List.map_append (l₁ := first ++ _)]
            rfl
          rw [et] at Z5
          exact Z5.weak ⟨rfl, rfl, rfl, rfl, rfl, trivial⟩
        · have el : (zipD ((a :: r).map tp) (((a :: r).map tp).drop 1)).length = (mids (a :: r)).length := by
            rw [zipD_len, mids_zip, List.length_zipWith]
            simp
          rw [el, List.take_length] at Z4
          have Z5 := Z4.letgo (i := 4) rfl
          have lst : ∃ last : List (Nat × Nat), last = (if (lastC (a :: r)).2 = 0 then [] else [(uu S k, (lastC (a :: r)).2 - 1)]) ∧ last.length ≤ 1 := ⟨_, rfl, by split <;> simp⟩
          obtain ⟨last, hla, hla1⟩ := lst
          refine s_ret (ev_tupleL (EvN.ev (el_cat (ev_var rfl) (es := last.map tp) (ev_ifD (b := decide (0 < (lastC (a :: r)).2)) (et_test (EvD.to (ev_gt (ev_snd (atl rfl)) ev_int) (by rw [decide_eq_decide.mpr (show (0 : Int) < ((lastC (a :: r)).2 : Int) ↔ 0 < (lastC (a :: r)).2 by omega)]))) (fun hb => ?_) fun hb => ?_) ?_))) Z5 fun v d' mu' H' ⟨e, _⟩ S' => q.go hM S' (e.trans ?_)
          · have ha : 0 < (lastC (a :: r)).2 := of_decide_eq_true hb
            rw [if_neg (by omega)] at hla
            rw [hla]
            exact ev_lst (ds := [tp (uu S k, (lastC (a :: r)).2 - 1)]) (ea_cons (ev_tup (ds := [nat (uu S k), nat ((lastC (a :: r)).2 - 1)]) (ea_cons (ev_var rfl) (ea_cons (ev_less (ev_snd (atl rfl)) ha) ea_nil))) ea_nil)
          · have ha : ¬ 0 < (lastC (a :: r)).2 := of_decide_eq_false hb
            rw [if_pos (by omega)] at hla
            rw [hla]
            exact ev_lst (ds := []) ea_nil
          · rw [List.length_map, List.length_map, List.length_append]
            omega
          · rw [← List.map_append]
            show tps _ = tps _
            rw [hf, hla]
            rfl
end
end DL
/-! slices that go backwards: xs[:0:-1], t[::-1] -/
namespace DL
open PySem PySem.Spec PyProof.Rows L2

theorem back_range (n : Nat) : (List.range n).map (fun k => n - k) = ((List.range n).map (1 + ·)).reverse := by
  refine List.ext_getElem (by simp) fun i h1 h2 => ?_
  rw [List.getElem_map, List.getElem_reverse, List.getElem_map]
  have hi : i < n := by simpa using h1
  simp
  omega
theorem pick_to1 (items : Array Value) : slicePick items none (some 0) (some (-1)) = (items.toList.drop 1).reverse.toArray := by
  unfold slicePick
  have e : sliceRange (sliceBounds none (some 0) (some (-1)) items.size).1 (sliceBounds none (some 0) (some (-1)) items.size).2.1 (sliceBounds none (some 0) (some (-1)) items.size).2.2 = (List.range (items.size - 1)).map fun k => items.size - 1 - k := by
    generalize items.size = n
    have h1 : ¬ ((-1 : Int) > 0) := by decide
    simp only [sliceBounds, Option.getD_some, h1, if_false]
    unfold sliceRange
    simp only [h1, if_false]
    by_cases h : 1 < n
    · have c : max (-1 : Int) (min (if (0 : Int) < 0 then 0 + (n : Int) else 0) ((n : Int) - 1)) = 0 := by simp; omega
      rw [c, if_pos (by omega), show (- -1 : Int) = 1 by decide, Int.ediv_one]
      have c2 : ((n : Int) - 1 - 0 - -1 - 1).toNat = n - 1 := by omega
      rw [c2]
      refine List.map_congr_left fun k hk => ?_
      have := List.mem_range.mp hk
      omega
    · have c : ¬ ((n : Int) - 1 > max (-1 : Int) (min (if (0 : Int) < 0 then 0 + (n : Int) else 0) ((n : Int) - 1))) := by simp; omega
      rw [if_neg c]
      have : n - 1 = 0 := by omega
      rw [this]
      rfl
  rw [e, back_range, List.filterMap_reverse]
  have := pick_run items 1 (items.size - 1)
  rw [this]
  rw [List.take_of_length_le (by rw [List.length_drop, Array.length_toList]; exact Nat.le_refl _)]
section
variable {X : Cx}
def tRev0 (K : PySem.W.Frag) (te : TE) : TE := fun σ H Q => te σ H fun x H1 => ∃ a xs, x = .ref a ∧ SqL K H1 a xs ∧ ∀ p, H1 p = none → Q (.ref p) (upd H1 p (.lst (xs.drop 1).reverse))
theorem x_revL0 {e : Expr} {te : TE} {k k2 : Nat} {p1 p2 p3 p4 pos : Pos} (K : PySem.W.Frag) (he : PE X e te) (hK : X.K = K := by rfl) : PE X (.Subscript e (.Slice none (some (.Constant (.int 0) k2 p4)) (some (.UnaryOp .USub (.Constant (.int 1) k p1) p2)) p3) pos) (tRev0 K te) := by
  subst hK
  refine ⟨fun pins s σ H Q I h => ?_⟩
  refine Subscript_ (thn (he.run pins s σ H _ I h) fun v s1 ⟨x, H1, I1, r1, q1⟩ => ?_)
  obtain ⟨a, xs, ex, hx, q⟩ := q1
  subst ex
  cases r1
  have hst : PO X (some (.UnaryOp .USub (.Constant (.int 1) k p1) p2)) (tPart (tUn (rU fun i => .int (-i)) (tC (.int 1)))) := po_some (pe_un un_neg pe_int)
  have hup : PO X (some (.Constant (.int 0) k2 p4)) (tPart (tC (.int 0))) := po_some pe_int
  refine wpAny_Slice (thn (po_none.run pins s1 σ H1 (fun o H2 => o = none ∧ H2 = H1) I1 ⟨rfl, rfl⟩) fun vl s2 ⟨l, H2, I2, pl, el, e2⟩ => ?_)
  subst el e2
  refine thn (hup.run pins s2 σ H2 (fun o H3 => o = some 0 ∧ H3 = H2) I2 ⟨0, rfl, rfl, rfl⟩) fun vu s3 ⟨u, H3, I3, pu, eu, e3⟩ => ?_
  subst eu e3
  refine thn (hst.run pins s3 σ H3 (fun o H4 => o = some (-1) ∧ H4 = H3) I3 ⟨1, rfl, -1, rfl, rfl, rfl⟩) fun vs s4 ⟨o, H4, I4, ps, eo, e4⟩ => ?_
  subst eo e4
  have I5 : Inv X pins σ H4 { s4 with heap := s4.heap.push { cls := .type "slice", data := .fields #[vl, vu, vs] } } := I4.kept (t' := s4.toks) fun b ob q => Heap.get?_push_of_some _ q
  obtain ⟨its, r, ht, hz⟩ := I5.list hx
  have hlen := r.length
  refine tail_any (ops := [.ref a, .ref s4.heap.objs.size]) (s := { s4 with heap := s4.heap.push { cls := .type "slice", data := .fields #[vl, vu, vs] } }) ht.isList.typeIs (PySem.slot_list_getitem.lookup) ?_ (by with_unfolding_all rfl)
  refine wpAny_getItem_list_slice ht.isList (Heap.IsSliceOf.new _ vl vu vs) pl pu ps (by decide) ?_ (by rw [List.size_toArray]; omega)
  rw [pick_to1]
  refine ⟨.ref _, _, I5.laid (t' := s4.toks) (o := .lst (xs.drop 1).reverse) (fun b ob q => Heap.get?_push_of_some _ q) (Nat.le_refl _) ?_, rfl, q _ (I5.hok.fresh (Nat.le_refl _))⟩
  exact ⟨by rw [List.length_reverse, List.length_drop]; omega, _, 0, (r.drop 1).reverse, Heap.get?_push_size _ rfl⟩
end
section
variable {C : Addr} {c : Cn} {K : PySem.W.Frag} {rho : List (Option D)} {mu : Mu} {ts : List (V × D)} {s : L2.St} {F H F' H' : Hp} {v : V} {d : D} {te ta tb : TE} {ds es : List D} {a : Addr}
theorem el_rev0 (ha : EvD C ta rho mu (.lst ds)) : EvN C (tRev0 K ta) rho mu (ds.drop 1).reverse := EvN.of fun c ts s H Q S q => ha.run S fun v H1 S1 => by
  obtain ⟨F, S1⟩ := S1
  obtain ⟨a, xs, e, hx, hs⟩ := S1.top.lst_inv
  refine ⟨a, xs, by rw [e], SqL.of (S1.sub _ _ hx), fun l hl => q l _ ((S1.newL hl hs.drop.rev).fewer fun p hp => ?_)⟩
  simp only [List.mem_cons] at hp ⊢
  rcases hp with h | h
  · exact .inl h
  · exact .inr (.inr h)
end
end DL
/-! layered -/
namespace DL
open PySem L2 Mth

section
variable {C : Addr} {c : Cn} {K : PySem.W.Frag} {rho : List (Option D)} {mu : Mu} {ts : List (V × D)} {s : L2.St} {F H F' H' : Hp} {v : V} {d : D} {te ta tb : TE} {m : List (List Int × D)}
def dD (m : List (List Int × D)) : D := .dct (m.map (·.1)) (m.map (·.2))
theorem ev_frzN (h : Ev C te rho mu fun d mu' => ∃ p, d = .ptr p ∧ mu' = (p, .dct m) :: mu) : EvD C (tFrzE te) rho mu (dD m) := EvD.of fun c ts s H Q S q => h c ts s H _ S fun v d mu' H1 ⟨p, e1, e2⟩ S1 => by
  subst e1; subst e2
  obtain ⟨F, T⟩ := id S1
  have ev := T.top.ptr_inv
  subst ev
  have hc : EvD C (fun _ H Q => Q (.ref p) H) rho ((p, .dct m) :: mu) (.ptr p) := EvD.of fun c ts s H Q S q => q _ _ (let ⟨F, T⟩ := S; ⟨F, T.push (.ptr p)⟩)
  exact ev_frz hc c ts s H1 Q S1.pop fun v d mu' H' ⟨e, e2⟩ S' => by
    subst e; subst e2
    exact q v H' S'
end
def stp (S : Mat) (p : Nat × Nat) (e : Nat) : Nat × Nat := (nx S p.1 e, nx S p.2 e)
def Ly (S : Mat) (R : Nat × Nat → Nat → Prop) (m : List (List Int × D)) : Prop := ∃ qs : List (Nat × Nat), m.map (·.1) = qs.map kp ∧ qs.Nodup ∧ (∀ q ∈ qs, ∃ p e, R p e ∧ stp S p e = q ∧ getM m (kp q) = some (.tup [tp p, nat e])) ∧ ∀ p e, R p e → stp S p e ∈ qs
theorem Ly.nil {S : Mat} {R : Nat × Nat → Nat → Prop} (h : ∀ p e, ¬ R p e) : Ly S R [] := ⟨[], rfl, List.nodup_nil, fun q hq => by simp at hq, fun p e z => absurd z (h p e)⟩
theorem Ly.congr {S : Mat} {R R' : Nat × Nat → Nat → Prop} {m : List (List Int × D)} (h : Ly S R m) (e : ∀ p x, R p x ↔ R' p x) : Ly S R' m := by
  obtain ⟨qs, a, b, c, d⟩ := h
  refine ⟨qs, a, b, fun q hq => ?_, fun p x hx => d p x ((e p x).mpr hx)⟩
  obtain ⟨p, x, h1, h2⟩ := c q hq
  exact ⟨p, x, (e p x).mp h1, h2⟩
theorem Ly.len {S : Mat} {k : Nat} {R : Nat × Nat → Nat → Prop} {m : List (List Int × D)} (hS : Ok S k) (h : Ly S R m) : m.length ≤ 100 := by
  obtain ⟨qs, a, b, c, d⟩ := h
  have l1 : m.length = qs.length := by have := congrArg List.length a; simpa using this
  have h10 := hS.n10
  have sub : qs ⊆ prs S.length := fun q hq => by
    obtain ⟨p, e, _, h2, _⟩ := c q hq
    rw [← h2]
    exact mem_prs.mpr ⟨hS.nx_lt _ _, hS.nx_lt _ _⟩
  have := b.length_le_of_subset sub
  rw [prs_len] at this
  have h2 : S.length * S.length ≤ 10 * 10 := Nat.mul_le_mul h10 h10
  omega
theorem Ly.put {S : Mat} {R : Nat × Nat → Nat → Prop} {m : List (List Int × D)} {p : Nat × Nat} {e : Nat} (h : Ly S R m) : (∀ d, getM m (kp (stp S p e)) = some d → Ly S (fun q x => R q x ∨ (q = p ∧ x = e)) m) ∧
    (getM m (kp (stp S p e)) = none → Ly S (fun q x => R q x ∨ (q = p ∧ x = e)) (putM m (kp (stp S p e)) (.tup [tp p, nat e]))) := by
  obtain ⟨qs, a, b, c, d⟩ := h
  have kin : ∀ q, kp q ∈ m.map (·.1) ↔ q ∈ qs := fun q => by
    rw [a, List.mem_map]
    exact ⟨fun ⟨x, hx, e⟩ => kp_inj e ▸ hx, fun hq => ⟨q, hq, rfl⟩⟩
  refine ⟨fun d0 hg => ⟨qs, a, b, fun q hq => ?_, fun q x hx => ?_⟩, fun hg => ?_⟩
  · obtain ⟨p', x, h1, h2⟩ := c q hq
    exact ⟨p', x, .inl h1, h2⟩
  · rcases hx with hx | ⟨rfl, rfl⟩
    · exact d q x hx
    · refine (kin _).mp ?_
      rcases Decidable.em (kp (stp S q x) ∈ m.map (·.1)) with z | z
      · exact z
      · rw [getM_none.mpr z] at hg; cases hg
  · have hn : stp S p e ∉ qs := fun z => getM_none.mp hg ((kin _).mpr z)
    rw [putM_new _ hg]
    refine ⟨qs ++ [stp S p e], by rw [List.map_append, List.map_append, a]; rfl, ?_, fun q hq => ?_, fun q x hx => ?_⟩
    · rw [List.nodup_append]
      refine ⟨b, by simp, fun x hx y hy => ?_⟩
      rw [List.mem_singleton.mp hy]
      exact fun z => hn (z ▸ hx)
    · rcases List.mem_append.mp hq with hq | hq
      · obtain ⟨p', x, h1, h2, h3⟩ := c q hq
        exact ⟨p', x, .inl h1, h2, by rw [getM_app, h3]; rfl⟩
      · have e1 := List.mem_singleton.mp hq
        subst e1
        exact ⟨p, e, .inr ⟨rfl, rfl⟩, rfl, by rw [getM_app, hg, if_pos rfl]; rfl⟩
    · rcases hx with hx | ⟨rfl, rfl⟩
      · exact List.mem_append_left _ (d q x hx)
      · exact List.mem_append_right _ List.mem_cons_self
/-- the i-th layer -/
def Lyr (S : Mat) (k : Nat) (st : List Nat) (a c : Nat) : Nat → List (List Int × D) → Prop
  | 0, m => m.map (·.1) = (opn S st a c).map kp
  | i + 1, m => Ly S (fun p e => p ∈ par S k st a c i ∧ e < k) m
theorem Lyr.keys {S : Mat} {k : Nat} {st : List Nat} {a c i : Nat} {m : List (List Int × D)} (hS : Ok S k) (h : Lyr S k st a c i m) : ∃ ps : List (Nat × Nat), m.map (·.1) = ps.map kp ∧ ∀ p, p ∈ ps ↔ p ∈ par S k st a c i := by
  cases i with
  | zero => exact ⟨_, h, fun p => Iff.rfl⟩
  | succ i =>
    obtain ⟨qs, a', b, c', d⟩ := h
    refine ⟨qs, a', fun q => ⟨fun hq => ?_, fun hq => ?_⟩⟩
    · obtain ⟨p, e, ⟨h1, h2⟩, h3, _⟩ := c' q hq
      exact (mem_carr hS).mpr ⟨p, h1, e, h2, h3⟩
    · obtain ⟨p, hp, e, he, h3⟩ := (mem_carr hS).mp hq
      rw [← h3]
      exact d p e ⟨hp, he⟩
section
variable {P : Program} {w : World} {K : PySem.W.Frag} {mg : Str → Option Value} {base : Heap} {C : Addr}
abbrev sp_layered (C : Addr) : Sp := spF C (fun x : (Mat × Nat) × List Nat × (Nat × Nat) × Nat => [.mach x.1.2 x.1.1, tn x.2.1, nat x.2.2.1.1, nat x.2.2.1.2, nat x.2.2.2])
  (fun x => Ok x.1.1 x.1.2 ∧ (∀ s ∈ x.2.1, s < x.1.1.length) ∧ x.2.1.length ≤ 10 ∧ x.2.2.1.1 < x.1.2 ∧ x.2.2.1.2 < x.1.2 ∧ x.2.2.2 ≤ 500)
  fun x r => ∃ ms : List (List (List Int × D)), r = .lst (ms.map dD) ∧ ms.length = x.2.2.2 + 1 ∧ ∀ i m, ms[i]? = some m → Lyr x.1.1 x.1.2 x.2.1 x.2.2.1.1 x.2.2.1.2 i m
theorem c_layered (T : Txt K mg C) : Cal P w K mg base 2 "layered" ["machine", "states", "a", "c", "gap"] (sp_layered C) := T.d.layered.cal fun f fd Fn => okF Fn sc_layered (fun _ => rfl) fun x cdv A outer s H E hp hr => by
  have g_opened := c_opened (P := P) (w := w) (base := base) T
  obtain ⟨⟨S, k⟩, st, ⟨a, c⟩, g⟩ := x
  obtain ⟨h, hst, hl, ha, hc, hg⟩ := hp
  dsimp only at h hst hl ha hc hg
  have h5 := h.k5
  have h10 := h.n10
  refine ⟨_, (pss_cons (psn 5 sc_layered.nd (pe_lst (pa_cons (pe_frz (pe_dcT (own := [("pair", 6)]) (hu_of hr) (by rfl) sc_layered.nd (k_pit K (pe_cal g_opened (hr.mono (by decide)) (pa_cons (pv 0) (pa_cons (pv 1) (pa_cons (pv 2) (pa_cons (pv 3) pa_nil)))))) (bk (own := [("pair", 6)]) (N := N_layered) (sc := defScope s_layered)) (fun _ _ _ _ _ => (pgn 6 sc_layered.nd)) (fun _ _ _ _ _ => pts_nil) (fun _ _ _ _ _ => (pv 6)) (fun _ _ _ _ _ => pe_non))) pa_nil)))
  (pss_cons (ps_for PassesOwn.never rfl (pi_range1 (by rfl) T.b.range (pa_cons (pv 4) pa_nil)) (pgn 7 sc_layered.nd)
  (pss_cons (psn 8 sc_layered.nd pe_dnewT)
  (pss_cons (ps_for PassesOwn.never rfl (pi_keys (k_ix K (pv 5) (pe_un un_neg pe_int))) (pgn 6 sc_layered.nd)
  (pss_one (ps_forZ PassesOwn.never rfl (x_enumz T.b.enumerate T.b.zip (pa_cons (k_ix K (k_fld K (pv 0)) (k_ix K (pv 6) pe_int)) (pa_cons (k_ix K (k_fld K (pv 0)) (k_ix K (pv 6) pe_int)) pa_nil))) (k_gtup K 2 (pgs_cons (pgn 9 sc_layered.nd) (pgs_cons (pgn 10 sc_layered.nd) pgs_nil)))
  (pss_one (ps_expr (pe_setdT (hu_of hr) (pv 8) (pv 10) (pe_tup (pa_cons (pv 6) (pa_cons (pv 9) pa_nil))) ⟨by rfl, by rfl, by rfl, by rfl⟩))))))
  (pss_one (ps_expr (pe_bm PySem.F.plainAttrs_list PySem.F.slot_list_append PySem.F.type_list_append mt_append (pv 5) (pa_cons (pe_frz (pv 8)) pa_nil)))))))
  (pss_one (ps_ret (pv 5))))), fun cn Q s0 H0 hM q Z => ?_⟩
  replace Z : Sat C cn [some (.mach k S), some (tn st), some (nat a), some (nat c), some (nat g), none, none, none, none, none, none] [] [] s0 H0 := Z
  have lo : (opn S st a c).length ≤ 100 := par_len (k := k) h st a c 0
  refine q_asgN (el_lst (ea_cons (ev_frzN (ev_dc (ds := (opn S st a c).map tp) (fun d => kp (match d with | .tup [x, y] => (nOf x, nOf y) | _ => (0, 0))) (fun _ => .non) (evi_tup (ev_call (f := fun x : (Mat × Nat) × List Nat × (Nat × Nat) => tps (opn x.1.1 x.2.1 x.2.2.1 x.2.2.2)) ((S, k), st, (a, c)) (ea_cons (ev_var rfl) (ea_cons (ev_var rfl) (ea_cons (ev_var rfl) (ea_cons (ev_var rfl) ea_nil)))) ⟨h, hst, hl, ha, hc⟩)) ?_ ?_ fun i d hd => ?_)) ea_nil)) Z fun pf s1 H1 Z1 => ?_
  · rw [List.length_map]; omega
  · rw [List.map_map]
    have e : (opn S st a c).map ((fun d => kp (match d with | .tup [x, y] => (nOf x, nOf y) | _ => (0, 0))) ∘ tp) = (opn S st a c).map kp := List.map_congr_left fun p _ => by
      show kp (nOf (nat p.1), nOf (nat p.2)) = kp p
      rw [nOf_nat, nOf_nat]
    rw [e]
    have nd : (opn S st a c).Nodup := (opn_asc h st a c).imp fun h e => by subst e; exact Nat.lt_irrefl _ h
    exact List.Pairwise.map _ (fun x y hxy e => hxy (kp_inj e)) nd
  · obtain ⟨p, hpi, rfl⟩ := tps_at hd
    refine ⟨_, _, bg_name, by simp, fun mu' => ⟨EvD.to (ev_var rfl) ?_, ev_non⟩⟩
    show tp p = ky (kp (nOf (nat p.1), nOf (nat p.2)))
    rw [nOf_nat, nOf_nat]
    rfl
  · have em : ((opn S st a c).map tp).map (fun d => (kp (match d with | .tup [x, y] => (nOf x, nOf y) | _ => (0, 0)), D.non)) = (opn S st a c).map fun p => (kp p, D.non) := by
      rw [List.map_map]
      refine List.map_congr_left fun p _ => ?_
      show (kp (nOf (nat p.1), nOf (nat p.2)), D.non) = _
      rw [nOf_nat, nOf_nat]
    rw [em] at Z1
    refine q_for (evi_rng (ev_var rfl) (by omega)) Z1 (fun _ (_ : List (List (List Int × D))) => [some (.mach k S), some (tn st), some (nat a), some (nat c), some (nat g), some (.ptr pf), none, none, none, none, none]) (fun _ ms => [(pf, .lst (ms.map dD))])
      (fun i ms => ms.length = i + 1 ∧ ∀ j m, ms[j]? = some m → Lyr S k st a c j m) ⟨[(opn S st a c).map fun p => (kp p, D.non)], ⟨rfl, fun j m hj => ?_⟩, ⟨rfl, rfl, rfl, rfl, rfl, rfl, trivial⟩, rfl⟩ (fun i e ms tx hd hi => ?_) fun ms s2 H2 hy Z2 => ?_
    · cases j with
      | zero =>
        have e : m = (opn S st a c).map fun p => (kp p, D.non) := by simpa using hj.symm
        subst e
        show List.map _ (List.map _ _) = _
        rw [List.map_map]
        rfl
      | succ j => simp at hj
    · obtain ⟨hlt, rfl⟩ := rng_at hd
      obtain ⟨hlen, hly⟩ := hi
      obtain ⟨ml, hml⟩ : ∃ ml, ms[i]? = some ml := ⟨ms[i]'(by omega), List.getElem?_eq_getElem (by omega)⟩
      obtain ⟨ps, hps, hpm⟩ := (hly i ml hml).keys h
      refine ⟨_, _, bg_name, fun s2 H2 Z2 => ?_⟩
      refine q_asg el_dnew Z2 fun d mu' s3 H3 ⟨pd, ed, e2⟩ Z3 => ?_
      subst ed; subst e2
      refine q_for (ds := ps.map tp) ?_ Z3 (fun _ (_ : List (List Int × D)) => [some (.mach k S), some (tn st), some (nat a), some (nat c), some (nat g), some (.ptr pf), none, none, some (.ptr pd), none, none]) (fun _ m => [(pd, .dct m), (pf, .lst (ms.map dD))])
        (fun j m => Ly S (fun p e => p ∈ ps.take j ∧ e < k) m) ⟨[], Ly.nil fun p e z => by simp at z, ⟨rfl, rfl, rfl, rfl, rfl, rfl, rfl, trivial⟩, rfl⟩ (fun j d m tx2 hd2 hj => ?_) fun m s4 H4 hm Z4 => ?_
      · have ek : ps.map tp = (ml.map (·.1)).map ky := by rw [hps, List.map_map]; rfl
        rw [ek]
        refine evi_keysF (ks := ml.map (·.1)) (ds := ml.map (·.2)) ?_
        exact (ev_ixO (ev_var rfl) (ev_neg ev_int) (List.mem_cons_of_mem _ List.mem_cons_self) (at_last (l := ms.map dD) (x := dD ml) (n := i) (by rw [List.length_map]; exact hlen) (by rw [List.getElem?_map, hml]; rfl)))
      · obtain ⟨⟨o1, o2⟩, hpj, rfl⟩ := tps_at hd2
        obtain ⟨b1, b2⟩ := par_lt ((hpm _).mp (List.mem_of_getElem? hpj))
        dsimp only at b1 b2
        obtain ⟨r1, hr1, l1, g1⟩ := h.get b1
        obtain ⟨r2, hr2, l2, g2⟩ := h.get b2
        refine ⟨_, _, bg_name, fun s4 H4 Z4 => ?_⟩
        refine s_forZ (evi_enumz (ds := nats r1) (es := nats r2) (ev_row T.cl T.nT (ev_var rfl) (ev_fst (p := (o1, o2)) (ev_var rfl)) hr1) (ev_row T.cl T.nT (ev_var rfl) (ev_snd (p := (o1, o2)) (ev_var rfl)) hr2)) Z4 (fun _ (_ : List (List Int × D)) => [some (.mach k S), some (tn st), some (nat a), some (nat c), some (nat g), some (.ptr pf), some (tp (o1, o2)), none, some (.ptr pd), none, none]) (fun _ m => [(pd, .dct m), (pf, .lst (ms.map dD))])
          (fun x m => Ly S (fun p e => (p ∈ ps.take j ∧ e < k) ∨ (p = (o1, o2) ∧ e < x)) m) ⟨m, hj.congr fun p e => by simp, ⟨rfl, rfl, rfl, rfl, rfl, rfl, rfl, rfl, trivial⟩, rfl⟩ (fun x d m tx3 hd3 hx => ?_) fun m s5 H5 hm Z5 => ?_
        · obtain ⟨d', hd', rfl⟩ := enumD_get hd3
          obtain ⟨e1, e2, h1, h2, rfl⟩ := zipD_get hd'
          obtain ⟨t1, ht1, rfl⟩ := nats_at h1
          obtain ⟨t2, ht2, rfl⟩ := nats_at h2
          have hxk : x < k := by
            have := (List.getElem?_eq_some_iff.mp ht1).1
            omega
          have q1 := g1 x hxk
          have q2 := g2 x hxk
          rw [ht1] at q1
          rw [ht2] at q2
          have f1 := Option.some.inj q1
          have f2 := Option.some.inj q2
          subst f1; subst f2
          refine ⟨_, _, bg_tup bg_name bg_name, fun s5 H5 Z5 => ?_⟩
          have hml2 := Ly.len h hx
          refine s_drop (ev_setd (kk := kp (stp S (o1, o2) x)) (d0 := .tup [tp (o1, o2), nat x]) 0 (ev_var rfl) (EvD.to (ev_var rfl) (show _ = ky (kp (stp S (o1, o2) x)) from rfl)) (ev_tup (ea_cons (ev_var rfl) (ea_cons (ev_var rfl) ea_nil))) rfl (by omega)) Z5 fun d mu' H6 hR Z6 => ?_
          have nx' : ∀ m', Ly S (fun q y => ((q ∈ ps.take j ∧ y < k) ∨ (q = (o1, o2) ∧ y < x)) ∨ (q = (o1, o2) ∧ y = x)) m' → Ly S (fun p e => (p ∈ ps.take j ∧ e < k) ∨ (p = (o1, o2) ∧ e < x + 1)) m' := fun m' z => z.congr fun p e => by
            constructor
            · rintro ((z | ⟨z1, z2⟩) | ⟨z1, z2⟩)
              · exact .inl z
              · exact .inr ⟨z1, by omega⟩
              · exact .inr ⟨z1, by omega⟩
            · rintro (z | ⟨z1, z2⟩)
              · exact .inl (.inl z)
              · by_cases z3 : e = x
                · exact .inr ⟨z1, z3⟩
                · exact .inl (.inr ⟨z1, by omega⟩)
          rcases hR with ⟨hg1, e⟩ | ⟨hg1, _, e⟩
          · subst e
            exact ⟨m, nx' _ (hx.put.1 _ hg1), Z6.weak ⟨rfl, rfl, rfl, rfl, rfl, rfl, rfl, rfl, trivial⟩⟩
          · subst e
            exact ⟨_, nx' _ (hx.put.2 hg1), Z6.weak ⟨rfl, rfl, rfl, rfl, rfl, rfl, rfl, rfl, trivial⟩⟩
        · have el : (enumD (zipD (nats r1) (nats r2))).length = k := by
            rw [enumD_len, zipD_len]
            unfold nats
            rw [List.length_map, List.length_map, l1, l2, Nat.min_self]
          rw [el] at hm
          refine ⟨m, hm.congr fun p e => ?_, Z5.weak ⟨rfl, rfl, rfl, rfl, rfl, rfl, rfl, trivial⟩⟩
          rw [List.take_succ, hpj]
          constructor
          · rintro (⟨z1, z2⟩ | ⟨z1, z2⟩)
            · exact ⟨List.mem_append_left _ z1, z2⟩
            · exact ⟨List.mem_append_right _ (by rw [z1]; exact List.mem_cons_self), z2⟩
          · rintro ⟨z1, z2⟩
            rcases List.mem_append.mp z1 with z | z
            · exact .inl ⟨z, z2⟩
            · exact .inr ⟨by simpa using z, z2⟩
      · rw [List.length_map, List.take_length] at hm
        refine s_appR (ds0 := ms.map dD) 0 (ev_var rfl) (List.mem_cons_of_mem _ List.mem_cons_self) (ev_frz (ev_var rfl)) Z4 (fun d mu' hR => ⟨ms.map dD, by rw [hR.2]; rfl, by rw [List.length_map]; omega⟩) fun d mu' ds H5 hR hds Z5 => ?_
        obtain ⟨ed, em⟩ := hR
        subst ed; subst em
        have e2 : ms.map dD = ds := by
          have := hds
          injection this with z
          injection z with _ z
          injection z
        subst e2
        refine ⟨ms ++ [m], ⟨by simp [hlen], fun j m' hj => ?_⟩, ?_⟩
        · by_cases hji : j < ms.length
          · rw [List.getElem?_append_left hji] at hj
            exact hly j m' hj
          · rw [List.getElem?_append_right (by omega)] at hj
            have hj0 : j - ms.length = 0 := by
              rcases Nat.eq_zero_or_pos (j - ms.length) with z | z
              · exact z
              · rw [List.getElem?_eq_none (by simp; omega)] at hj; cases hj
            rw [hj0] at hj
            have ej : j = i + 1 := by omega
            have em : m = m' := by simpa using hj
            subst ej; subst em
            exact hm.congr fun p e => by rw [hpm]
        · have e3 : (ms ++ [m]).map dD = ms.map dD ++ [.dct (m.map (·.1)) (m.map (·.2))] := by rw [List.map_append]; rfl
          dsimp only
          rw [e3]
          exact Z5.weak ⟨rfl, rfl, rfl, rfl, rfl, rfl, trivial⟩
    · rw [List.length_map, List.length_range] at hy
      exact s_ret (ev_letgo (ev_var rfl)) Z2 fun v d' mu' H' ⟨e, _⟩ S' => q.go hM S' ⟨ms, e, hy.1, hy.2⟩
end
end DL
/-! traced, leading_row -/
namespace DL
open PySem L2 Mth

theorem zip_fs {α β : Type} : ∀ m : List (α × β), m = (m.map (·.1)).zip (m.map (·.2))
  | [] => rfl
  | x :: m => congrArg (x :: ·) (zip_fs m)
theorem filt_enumF {n : Nat} (g f : Nat → D) (q : Nat → Bool) : (enumD ((List.range n).map g)).filterMap (fun d => if q (fstN d) then some (f (fstN d)) else none) = ((List.range n).filter q).map f := by
  rw [enumD_map, List.filterMap_map]
  induction List.range n with
  | nil => rfl
  | cons c l ih =>
    have e : fstN (.tup [nat c, g c]) = c := nOf_nat c
    rw [List.filter_cons]
    by_cases h : q c = true
    · rw [List.filterMap_cons_some (b := f c) (by show (if q (fstN (.tup [nat c, g c])) then some (f (fstN (.tup [nat c, g c]))) else none) = _; rw [e, if_pos h]), if_pos h, List.map_cons, ih]
    · rw [List.filterMap_cons_none (by show (if q (fstN (.tup [nat c, g c])) then some (f (fstN (.tup [nat c, g c]))) else none) = _; rw [e, if_neg h]), if_neg h, ih]
theorem row_eq {S : Mat} {k s : Nat} (h : Ok S k) (hs : s < S.length) : S[s]? = some ((List.range k).map (nx S s)) := by
  obtain ⟨r, hr, l, g⟩ := h.get hs
  rw [hr]
  congr 1
  refine List.ext_getElem? fun i => ?_
  by_cases hi : i < k
  · rw [g i hi, List.getElem?_map, List.getElem?_range hi]
    rfl
  · rw [List.getElem?_eq_none (by omega), List.getElem?_eq_none (by simp; omega)]
/-- the commands that lead a state to another one -/
def leads (S : Mat) (k state s : Nat) : List (Nat × Nat) := ((List.range k).filter fun c => nx S s c == state).map fun c => (c, s)
def ways (S : Mat) (k state : Nat) (l : List Nat) : List (Nat × Nat) := l.flatMap (leads S k state)
theorem ways_len (S : Mat) (k state : Nat) (l : List Nat) : (ways S k state l).length ≤ l.length * k := by
  unfold ways
  induction l with
  | nil => simp
  | cons s l ih =>
    rw [List.flatMap_cons, List.length_append, List.length_cons, Nat.succ_mul]
    have : (leads S k state s).length ≤ k := by
      unfold leads
      rw [List.length_map]
      have := List.length_filter_le (fun c => nx S s c == state) (List.range k)
      rw [List.length_range] at this
      exact this
    omega
theorem mem_ways {S : Mat} {k state : Nat} {l : List Nat} {p : Nat × Nat} : p ∈ ways S k state l ↔ p.2 ∈ l ∧ p.1 < k ∧ nx S p.2 p.1 = state := by
  unfold ways leads
  rw [List.mem_flatMap]
  constructor
  · rintro ⟨s, hs, hp⟩
    obtain ⟨c, hc, e⟩ := List.mem_map.mp hp
    obtain ⟨h1, h2⟩ := List.mem_filter.mp hc
    subst e
    exact ⟨hs, List.mem_range.mp h1, eq_of_beq h2⟩
  · rintro ⟨h1, h2, h3⟩
    exact ⟨p.2, h1, List.mem_map.mpr ⟨p.1, List.mem_filter.mpr ⟨List.mem_range.mpr h2, beq_iff_eq.mpr h3⟩, rfl⟩⟩
section
variable {P : Program} {w : World} {K : PySem.W.Frag} {mg : Str → Option Value} {base : Heap} {C : Addr}
abbrev sp_traced (C : Addr) : Sp := spF C (fun x : ((Mat × Nat) × List Nat × (Nat × Nat) × Nat) × List (List (List Int × D)) × (Nat × Nat) => [.lst (x.2.1.map dD), tp x.2.2])
  (fun x => Ok x.1.1.1 x.1.1.2 ∧ x.1.2.2.2 ≤ 500 ∧ x.2.1.length = x.1.2.2.2 + 1 ∧ (∀ i m, x.2.1[i]? = some m → Lyr x.1.1.1 x.1.1.2 x.1.2.1 x.1.2.2.1.1 x.1.2.2.1.2 i m) ∧ x.2.2 ∈ par x.1.1.1 x.1.1.2 x.1.2.1 x.1.2.2.1.1 x.1.2.2.1.2 x.1.2.2.2)
  fun x r => ∃ (f : Nat × Nat) (row : List Nat), r = .tup [tp f, tn row] ∧ f ∈ opn x.1.1.1 x.1.2.1 x.1.2.2.1.1 x.1.2.2.1.2 ∧ row.length = x.1.2.2.2 ∧ (∀ e ∈ row, e < x.1.1.2) ∧ ledN x.1.1.1 f.1 row = x.2.2.1 ∧ ledN x.1.1.1 f.2 row = x.2.2.2
theorem c_traced (T : Txt K mg C) : Cal P w K mg base 1 "traced" ["layers", "pair"] (sp_traced C) := T.d.traced.cal fun f fd Fn => okF Fn sc_traced (fun _ => rfl) fun x cdv A outer s H E hp hr => by
  obtain ⟨⟨⟨S, k⟩, st, ⟨a, c⟩, g⟩, ms, p⟩ := x
  obtain ⟨h, hg, hl, hly, hpm⟩ := hp
  dsimp only at h hg hl hly hpm
  refine ⟨_, (pss_cons (psn 2 sc_traced.nd (pe_lst pa_nil))
  (pss_cons (ps_for PassesOwn.never rfl (k_pil K (x_revL0 K (pv 0))) (pgn 3 sc_traced.nd)
  (pss_cons (ps_asg (pe_dget (hu_of hr) (pv 3) (pv 1) (by intro _ _; rfl)) (k_gtup K 2 (pgs_cons (pgn 1 sc_traced.nd) (pgs_cons (pgn 4 sc_traced.nd) pgs_nil))))
  (pss_one (ps_expr (pe_bm PySem.F.plainAttrs_list PySem.F.slot_list_append PySem.F.type_list_append mt_append (pv 2) (pa_cons (pv 4) pa_nil))))))
  (pss_one (ps_ret (pe_tup (pa_cons (pv 1) (pa_cons (k_tuple K T.b.tuple (k_revL K (pv 2))) pa_nil))))))), fun cn Q s0 H0 hM q Z => ?_⟩
  replace Z : Sat C cn [some (.lst (ms.map dD)), some (tp p), none, none, none] [] [] s0 H0 := Z
  refine q_asgN (el_lst ea_nil) Z fun pr s1 H1 Z1 => ?_
  refine q_for (evi_lst (EvN.ev (el_rev0 (ev_var rfl)))) Z1 (fun _ (y : (Nat × Nat) × List Nat) => [some (.lst (ms.map dD)), some (tp y.1), some (.ptr pr), none, none]) (fun _ y => [(pr, .lst (nats y.2))])
    (fun i y => y.1 ∈ par S k st a c (g - i) ∧ y.2.length = i ∧ (∀ e ∈ y.2, e < k) ∧ ledN S y.1.1 y.2.reverse = p.1 ∧ ledN S y.1.2 y.2.reverse = p.2) ⟨(p, []), ⟨hpm, rfl, fun e z => by simp at z, rfl, rfl⟩, ⟨rfl, rfl, rfl, trivial⟩, rfl⟩ (fun i d y tx hd hi => ?_) fun y s2 H2 hy Z2 => ?_
  · obtain ⟨i1, i2, i3, i4, i5⟩ := hi
    have hi : i < g := by
      have := (List.getElem?_eq_some_iff.mp hd).1
      simp [hl] at this
      exact this
    obtain ⟨j, hj⟩ : ∃ j, g - i = j + 1 := ⟨g - i - 1, by omega⟩
    have hmj : ∃ m, ms[j + 1]? = some m := ⟨ms[j + 1]'(by omega), List.getElem?_eq_getElem (by omega)⟩
    obtain ⟨m, hm⟩ := hmj
    have ed : d = dD m := by
      rw [List.getElem?_reverse (by simp [hl]; omega), List.getElem?_drop, List.getElem?_map] at hd
      have e : 1 + ((((ms.map dD).drop 1).length - 1 - i)) = j + 1 := by simp [hl]; omega
      rw [e, hm] at hd
      exact (Option.some.inj hd).symm
    subst ed
    rw [hj] at i1
    obtain ⟨qs, b1, b2, b3, b4⟩ : Ly S (fun p e => p ∈ par S k st a c j ∧ e < k) m := hly (j + 1) m hm
    obtain ⟨f0, hf0, e0, he0, hfe⟩ := (mem_carr h).mp (show y.1 ∈ carr S k (par S k st a c j) from i1)
    have hq : y.1 ∈ qs := by rw [← hfe]; exact b4 f0 e0 ⟨hf0, he0⟩
    obtain ⟨f1, e1, ⟨h1, h2⟩, h3, h4⟩ := b3 _ hq
    have hz := zip_fs m
    refine ⟨_, _, bg_name, fun s2 H2 Z2 => ?_⟩
    refine q_bind (ev_dgetF (kk := kp y.1) (ks := m.map (·.1)) (ds := m.map (·.2)) (ev_var rfl) (EvD.to (ev_var rfl) (show tp y.1 = ky (kp y.1) from rfl)) (d := .tup [tp f1, nat e1]) (by rw [← hz]; exact h4)) (bg_tup bg_name bg_name) Z2 fun s3 H3 Z3 => ?_
    refine s_appD 0 (ev_var rfl) (ev_var rfl) rfl (by unfold nats; rw [List.length_map, i2]; omega) Z3 fun H4 Z4 => ?_
    have en : nats (y.2 ++ [e1]) = nats y.2 ++ [nat e1] := by unfold nats; rw [List.map_append]; rfl
    have f11 : nx S f1.1 e1 = y.1.1 := congrArg Prod.fst h3
    have f12 : nx S f1.2 e1 = y.1.2 := congrArg Prod.snd h3
    refine ⟨(f1, y.2 ++ [e1]), ⟨?_, by simp [i2], fun e he => ?_, ?_, ?_⟩, ?_⟩
    · have : g - (i + 1) = j := by omega
      rw [this]
      exact h1
    · rcases List.mem_append.mp he with he | he
      · exact i3 e he
      · rw [List.mem_singleton.mp he]; exact h2
    · show ledN S f1.1 (y.2 ++ [e1]).reverse = p.1
      rw [List.reverse_append]
      show ledN S (nx S f1.1 e1) y.2.reverse = p.1
      rw [f11]; exact i4
    · show ledN S f1.2 (y.2 ++ [e1]).reverse = p.2
      rw [List.reverse_append]
      show ledN S (nx S f1.2 e1) y.2.reverse = p.2
      rw [f12]; exact i5
    · dsimp only
      rw [en]
      exact Z4.weak ⟨rfl, rfl, rfl, trivial⟩
  · obtain ⟨i1, i2, i3, i4, i5⟩ := hy
    have e0 : (((ms.map dD).drop 1).reverse).length = g := by simp [hl]
    rw [e0] at i1 i2
    rw [Nat.sub_self] at i1
    refine s_ret (ev_tup (ds := [tp y.1, tn y.2.reverse]) (ea_cons (ev_var rfl) (ea_cons (ev_tupleL (EvN.ev ((el_revO (ev_var rfl) List.mem_cons_self).to (show _ = nats y.2.reverse by unfold nats; rw [List.map_reverse])))) ea_nil))) Z2 fun v d' mu' H' ⟨e, _⟩ S' => q.go hM S' ⟨y.1, y.2.reverse, e, i1, by rw [List.length_reverse]; exact i2, fun e he => i3 e (List.mem_reverse.mp he), i4, i5⟩
abbrev sp_leading_row (C : Addr) : Sp := spF C (fun x : (Mat × Nat) × Nat × Nat => [.mach x.1.2 x.1.1, nat x.2.1, nat x.2.2]) (fun x => Ok x.1.1 x.1.2 ∧ x.2.1 ∈ lot x.1.1 x.1.2 x.2.2 ∧ x.2.2 ≤ 1000)
  fun x r => ∃ (row : List Nat) (s : Nat), r = .tup [tn row, nat s] ∧ row.length = x.2.2 ∧ (∀ e ∈ row, e < x.1.2) ∧ s < x.1.1.length ∧ ledN x.1.1 s row = x.2.1
theorem c_leading_row (T : Txt K mg C) : Cal P w K mg base 3 "leading_row" ["machine", "state", "count"] (sp_leading_row C) := T.d.leading_row.cal fun f fd Fn => okF Fn sc_leading_row (fun _ => rfl) fun x cdv A outer s H E hp hr => by
  have g_all_behind := c_all_behind (P := P) (w := w) (base := base) T
  obtain ⟨⟨S, k⟩, st0, n⟩ := x
  obtain ⟨h, hst, hn⟩ := hp
  dsimp only at h hst hn
  have h10 := h.n10
  have h5 := h.k5
  refine ⟨_, (pss_cons (ps_par (i := 3) (j := 4) rfl sc_leading_row.nd rfl rfl (by decide) rfl rfl (pa_cons (pe_cal g_all_behind (hr.mono (by decide)) (pa_cons (pv 0) pa_nil)) (pa_cons (pe_lst pa_nil) pa_nil)) (by rfl))
  (pss_cons (ps_for PassesOwn.never rfl (pi_range3 (by rfl) T.b.range (pa_cons (pe_op op_sub (pv 2) pe_int) (pa_cons (pe_un un_neg pe_int) (pa_cons (pe_un un_neg pe_int) pa_nil)))) (pgn 5 sc_leading_row.nd)
  (pss_cons (psn 6 sc_leading_row.nd (pe_lst pa_nil))
  (pss_cons (ps_for PassesOwn.never rfl (k_pit K (k_ix K (pv 3) (x_min2 T.b.min (pv 5) (pe_op op_sub (k_len K T.b.len (pv 3)) pe_int)))) (pgn 7 sc_leading_row.nd)
  (pss_one (psn 6 sc_leading_row.nd (pe_op op_cat (pv 6) (pe_lc (own := [("command", 8), ("later", 9)]) (by rfl) sc_leading_row.nd (k_enumT K T.b.enumerate (k_ix K (k_fld K (pv 0)) (pv 7))) (bk (own := [("command", 8), ("later", 9)]) (N := N_leading_row) (sc := defScope s_leading_row)) (fun _ _ _ _ _ => (k_gtup K 2 (pgs_cons (pgn 8 sc_leading_row.nd) (pgs_cons (pgn 9 sc_leading_row.nd) pgs_nil)))) (fun _ _ _ _ _ => (pts_one (pt_cmpR (k_eqD K hr.units) (pv 9) (pv 1) (nomark _)))) (fun _ _ _ _ _ => (pe_tup (pa_cons (pv 8) (pa_cons (pv 7) pa_nil)))))))))
  (pss_cons (ps_asg (k_ix K (pv 6) pe_int) (k_gtup K 2 (pgs_cons (pgn 8 sc_leading_row.nd) (pgs_cons (pgn 1 sc_leading_row.nd) pgs_nil))))
  (pss_one (ps_expr (pe_bm PySem.F.plainAttrs_list PySem.F.slot_list_append PySem.F.type_list_append mt_append (pv 4) (pa_cons (pv 8) pa_nil))))))))
  (pss_one (ps_ret (pe_tup (pa_cons (k_tuple K T.b.tuple (k_revL K (pv 4))) (pa_cons (pv 1) pa_nil))))))), fun cn Q s0 H0 hM q Z => ?_⟩
  replace Z : Sat C cn [some (.mach k S), some (nat st0), some (nat n), none, none, none, none, none, none, none] [] [] s0 H0 := Z
  refine q_par2 (ev_call (f := fun x : Mat × Nat => .lst ((lots x.1 x.2).map tn)) (S, k) (ea_cons (ev_var rfl) ea_nil) h) (fun d mu1 _ => el_lst ea_nil) Z fun d e mu1 mu' s1 H1 ⟨ed, em⟩ ⟨pr, ef, em2⟩ Z1 => ?_
  subst ed; subst em; subst ef; subst em2
  refine q_for (evi_down (m := n) (ea_cons (ev_sub (ev_var rfl) ev_int) (ea_cons (ev_neg ev_int) (ea_cons (ev_neg ev_int) ea_nil))) (by omega)) Z1 (fun _ (y : Nat × List Nat) => [some (.mach k S), some (nat y.1), some (nat n), some (.lst ((lots S k).map tn)), some (.ptr pr), none, none, none, none, none]) (fun _ y => [(pr, .lst (nats y.2))])
    (fun i y => y.1 ∈ lot S k (n - i) ∧ y.2.length = i ∧ (∀ e ∈ y.2, e < k) ∧ ledN S y.1 y.2.reverse = st0) ⟨(st0, []), ⟨hst, rfl, fun e z => by simp at z, rfl⟩, ⟨rfl, rfl, rfl, rfl, rfl, trivial⟩, rfl⟩ (fun i d y tx hd hi => ?_) fun y s2 H2 hy Z2 => ?_
  · obtain ⟨hin, rfl⟩ := down_at hd
    obtain ⟨i1, i2, i3, i4⟩ := hi
    have el : n - i = (n - 1 - i) + 1 := by omega
    generalize hle : n - 1 - i = left at el
    rw [el] at i1
    obtain ⟨m1, s', hs', c', hc', hsc⟩ := mem_onw.mp (show y.1 ∈ onw S k (lot S k left) from i1)
    refine ⟨_, _, bg_name, fun s2 H2 Z2 => ?_⟩
    refine q_asgD (ev_lst (ds := []) ea_nil) Z2 fun s3 H3 Z3 => ?_
    have emin : (if ((uu S k : Int)) < (left : Int) then ((uu S k : Int)) else (left : Int)) = ((min left (uu S k) : Nat) : Int) := by split <;> omega
    refine q_for (ds := nats (lot S k left)) (evi_tup (ev_ixL (ev_var rfl) (EvD.to (ev_min2 (j := (uu S k : Int)) (ev_var rfl) (EvD.to (ev_sub (ev_lenL (ev_var rfl)) ev_int) (by
      rw [List.length_map, lots_len]
      show D.int _ = D.int _
      congr 1
      omega))) (by rw [emin])) (at_nat (by rw [List.getElem?_map, lots_get (Nat.min_le_right _ _), lot_sat h]; rfl)))) Z3 (fun j (_ : Unit) => [some (.mach k S), some (nat y.1), some (nat n), some (.lst ((lots S k).map tn)), some (.ptr pr), some (nat left), some (.lst ((ways S k y.1 ((lot S k left).take j)).map tp)), none, none, none]) (fun _ _ => [(pr, .lst (nats y.2))])
      (fun _ _ => True) ⟨(), trivial, ⟨rfl, rfl, rfl, rfl, rfl, rfl, rfl, trivial⟩, rfl⟩ (fun j d _ tx2 hd2 _ => ?_) fun _ s4 H4 _ Z4 => ?_
    · obtain ⟨one, hone, rfl⟩ := nats_at hd2
      have h1 := lot_lt h (List.mem_of_getElem? hone)
      have hl10 := lot_len h left
      have hjl := (List.getElem?_eq_some_iff.mp hone).1
      refine ⟨_, _, bg_name, fun s4 H4 Z4 => ?_⟩
      have er := row_eq h h1
      refine s_asgD (EvN.ev ((el_cat (es := (leads S k y.1 one).map tp) (ev_var rfl) (EvN.ev ((el_lc (ds := enumD ((List.range k).map fun c => nat (nx S one c))) (fun d => if (fun c => nx S one c == y.1) (fstN d) then some ((fun c => tp (c, one)) (fstN d)) else none) (evi_enumT (EvD.to (ev_row T.cl T.nT (ev_var rfl) (ev_var rfl) er) (by
        show D.tup (nats ((List.range k).map (nx S one))) = _
        unfold nats
        rw [List.map_map]
        rfl))) (by rw [enumD_len, List.length_map, List.length_range]; omega) fun x d hd => ?_).to ((filt_enumF (fun c => nat (nx S one c)) (fun c => tp (c, one)) (fun c => nx S one c == y.1)).trans (by unfold leads; rw [List.map_map]; rfl)))) ?_).to (show _ = (ways S k y.1 ((lot S k left).take (j + 1))).map tp from ?_))) Z4 fun s5 H5 Z5 => ⟨(), trivial, Z5.weak ⟨rfl, rfl, rfl, rfl, rfl, rfl, rfl, trivial⟩⟩
      · rw [enumD_map, List.getElem?_map] at hd
        have hx : x < k := by
          cases q2 : (List.range k)[x]? with
          | none => rw [q2] at hd; cases hd
          | some z => have := (List.getElem?_eq_some_iff.mp q2).1; simpa using this
        rw [List.getElem?_range hx] at hd
        cases hd
        have ef : fstN (.tup [nat x, nat (nx S one x)]) = x := nOf_nat x
        refine ⟨_, _, bg_tup bg_name bg_name, by simp, fun mu' => ⟨_, et_test (EvD.to (ev_eqI (ev_var rfl) (ev_var rfl)) (show D.bl (decide ((nx S one x : Int) = (y.1 : Int))) = .bl (nx S one x == y.1) by
          congr 1
          rw [Bool.eq_iff_iff, decide_eq_true_eq, beq_iff_eq]
          omega)), fun hb => ⟨tp (x, one), by rw [ef]; exact if_pos hb, ev_tup (ea_cons (ev_var rfl) (ea_cons (ev_var rfl) ea_nil))⟩, fun hb => by rw [ef]; exact if_neg (by show ¬ (nx S one x == y.1) = true; rw [hb]; decide)⟩⟩
      · have z1 := ways_len S k y.1 ((lot S k left).take j)
        have z2 := ways_len S k y.1 [one]
        have z3 : (leads S k y.1 one).length ≤ 1 * k := by
          have : ways S k y.1 [one] = leads S k y.1 one := by unfold ways; simp
          rw [this] at z2
          exact z2
        have z4 : ((lot S k left).take j).length * k ≤ 10 * 5 := Nat.mul_le_mul (by rw [List.length_take]; omega) h5
        rw [List.length_map, List.length_map]
        omega
      · rw [← List.map_append, List.take_succ, hone]
        unfold ways
        rw [List.flatMap_append]
        simp
    · have e0 : (nats (lot S k left)).length = (lot S k left).length := by unfold nats; rw [List.length_map]
      rw [e0, List.take_length] at Z4
      have hmem : (c', s') ∈ ways S k y.1 (lot S k left) := mem_ways.mpr ⟨hs', hc', hsc⟩
      cases hw : ways S k y.1 (lot S k left) with
      | nil => rw [hw] at hmem; cases hmem
      | cons p0 rest =>
        rw [hw] at Z4
        obtain ⟨w1, w2, w3⟩ := mem_ways.mp (show p0 ∈ ways S k y.1 (lot S k left) by rw [hw]; exact List.mem_cons_self)
        refine q_bind (ev_ixL (ev_var rfl) ev_int (at_nat (n := 0) rfl)) (bg_tup bg_name bg_name) Z4 fun s5 H5 Z5 => ?_
        refine s_appD 0 (ev_var rfl) (ev_var rfl) rfl (by unfold nats; rw [List.length_map, i2]; omega) Z5 fun H6 Z6 => ?_
        have en : nats (y.2 ++ [p0.1]) = nats y.2 ++ [nat p0.1] := by unfold nats; rw [List.map_append]; rfl
        refine ⟨(p0.2, y.2 ++ [p0.1]), ⟨?_, by simp [i2], fun e he => ?_, ?_⟩, ?_⟩
        · have : n - (i + 1) = left := by omega
          rw [this]
          exact w1
        · rcases List.mem_append.mp he with he | he
          · exact i3 e he
          · rw [List.mem_singleton.mp he]; exact w2
        · show ledN S p0.2 (y.2 ++ [p0.1]).reverse = st0
          rw [List.reverse_append]
          show ledN S (nx S p0.2 p0.1) y.2.reverse = st0
          rw [w3]; exact i4
        · dsimp only
          rw [en]
          exact Z6.weak ⟨rfl, rfl, rfl, rfl, rfl, trivial⟩
  · obtain ⟨i1, i2, i3, i4⟩ := hy
    have e0 : ((List.range n).reverse.map nat).length = n := by simp
    rw [e0] at i1 i2
    refine s_ret (ev_tup (ds := [tn y.2.reverse, nat y.1]) (ea_cons (ev_tupleL (EvN.ev ((el_revO (ev_var rfl) List.mem_cons_self).to (show _ = nats y.2.reverse by unfold nats; rw [List.map_reverse])))) (ea_cons (ev_var rfl) ea_nil))) Z2 fun v d' mu' H' ⟨e, _⟩ S' => q.go hM S' ⟨y.2.reverse, y.1, e, by rw [List.length_reverse]; exact i2, fun e he => i3 e (List.mem_reverse.mp he), lot_lt h i1, i4⟩
end
end DL
/-! built_harm, exchange_harm, corner_paper -/
namespace DL
open PySem L2 Mth

section
variable {C : Addr} {c : Cn} {K : PySem.W.Frag} {rho : List (Option D)} {mu : Mu} {ts : List (V × D)} {s : L2.St} {F H F' H' : Hp} {v : V} {d d1 : D} {te ta tb : TE} {ds es : List D} {E : Ends} {u : TS} {R : D → Mu → Prop} {P P2 : D → Prop}
theorem ev_opR {r : R2} (ha : EvD C ta rho mu d1) (hb : EvP C tb rho mu P2) (hr : ∀ d2, P2 d2 → RD C r d1 d2 P) : EvP C (tOp r ta tb) rho mu P := fun c ts s H Q S q => by
  refine ha.run S fun x H1 S1 => hb.run S1 fun y d2 H2 p2 S2 => ?_
  obtain ⟨F, S2⟩ := S2
  refine hr d2 p2 F H2 x y Q S2.sub (S2.tmp (x, d1) (by simp)) (S2.tmp (y, d2) (by simp)) fun z d F' H' p g z' => ?_
  exact q z d mu H' ⟨p, rfl⟩ ⟨F', ((S2.grow g).fewer fun p hp => by simp [hp]).push z'⟩
theorem rd_catT (hl : ds.length + es.length ≤ 100000) : RD C (rCatA K) (.tup ds) (.tup es) fun e => e = .tup (ds ++ es) := fun F H x y Q k r1 r2 q => by
  obtain ⟨a, xs, e, hx, hs⟩ := r1.tup_inv
  obtain ⟨b, ys, e2, hy, hs2⟩ := r2.tup_inv
  refine ⟨a, b, xs, ys, e, e2, SqT.of (k _ _ hx), SqT.of (k _ _ hy), by rw [hs.1, hs2.1]; exact Nat.le_trans hl (by rw [sizeLine_eq]; decide), fun z0 => ?_, fun _ z0 => ?_, fun _ _ p hp => ?_⟩
  · have z : ds = [] := List.length_eq_zero_iff.mp (by rw [← hs.1, z0]; rfl)
    subst z
    exact q _ _ F H rfl (Gr.refl k) (e2 ▸ r2)
  · have z : es = [] := List.length_eq_zero_iff.mp (by rw [← hs2.1, z0]; rfl)
    subst z
    rw [List.append_nil] at q
    exact q _ _ F H rfl (Gr.refl k) (e ▸ r1)
  · have g := Gr.alloc (o := .tup (xs ++ ys)) k hp
    have z := (hs.app hs2).mono g.ex
    exact q _ _ _ _ rfl g (.tup upd_same z.1 z.2)
theorem s_bindR {g : TG} (h : Ev C te rho mu R) (S : Sat C c rho mu ts s H) (k : ∀ d mu', R d mu' → ∃ rho' js, BindG C g d rho rho' js ∧ ∀ s' H', Sat C c rho' mu' ts s' H' → E.nx s' H') : tAsg te g E s H :=
  h c ts s H _ S fun v d mu' H1 r S1 => by
    obtain ⟨rho', js, hb, q⟩ := k d mu' r
    exact hb c mu' ts s H1 v _ S1 fun s' H' _ _ S' => q s' H' S'
theorem q_bindR {g : TG} (h : Ev C te rho mu R) (S : Sat C c rho mu ts s H) (k : ∀ d mu', R d mu' → ∃ rho' js, BindG C g d rho rho' js ∧ ∀ s' H', Sat C c rho' mu' ts s' H' → u E s' H') : tSeq (tAsg te g) u E s H := s_bindR (E := { E with nx := u E }) h S k
end
theorem eqd_tp (p q : Nat × Nat) : eqd (tp p) (tp q) = decide (p = q) := by
  have := eqd_nats [p.1, p.2] [q.1, q.2]
  refine Eq.trans this ?_
  rw [decide_eq_decide]
  constructor
  · intro e
    injection e with e1 e2
    injection e2 with e2 _
    exact Prod.ext e1 e2
  · intro e; rw [e]
/-- a harm -/
def Hm (S : Mat) (k x d y : Nat) (row : List Nat) (s : Nat) : Prop := row.length = x + d + 1 + y ∧ (∀ e ∈ row, e < k) ∧ s < S.length ∧ ledN S s row ≠ ledN S s (turnd row x (x + d))
section
variable {P : Program} {w : World} {K : PySem.W.Frag} {mg : Str → Option Value} {base : Heap} {C : Addr}
abbrev sp_built_harm (C : Addr) : Sp := spF C (fun x : (Mat × Nat) × (Nat × Nat × Nat) × (Nat × Nat) => [.mach x.1.2 x.1.1, nat x.2.1.1, nat x.2.1.2.1, nat x.2.1.2.2, nat x.2.2.1, nat x.2.2.2])
  (fun x => Ok x.1.1 x.1.2 ∧ (x.2.1.1 ≤ 500 ∧ 1 ≤ x.2.1.2.1 ∧ x.2.1.2.1 ≤ 500 ∧ x.2.1.2.2 ≤ 500) ∧ x.2.2.1 < x.1.2 ∧ x.2.2.2 < x.1.2 ∧ (clash x.1.1 (par x.1.1 x.1.2 (lot x.1.1 x.1.2 x.2.1.1) x.2.2.1 x.2.2.2 (x.2.1.2.1 - 1)) x.2.2.1 x.2.2.2 (cls x.1.1 x.2.1.2.2)).isSome = true)
  fun x r => ∃ row s, r = .tup [tn row, nat s] ∧ Hm x.1.1 x.1.2 x.2.1.1 x.2.1.2.1 x.2.1.2.2 row s
theorem c_built_harm (T : Txt K mg C) : Cal P w K mg base 4 "built_harm" ["machine", "before", "step", "after", "a", "c"] (sp_built_harm C) := T.d.built_harm.cal fun f fd Fn => okF Fn sc_built_harm (fun _ => rfl) fun x cdv A outer s H E hp hr => by
  have g_behind := c_behind (P := P) (w := w) (base := base) T
  have g_joined := c_joined (P := P) (w := w) (base := base) T
  have g_layered := c_layered (P := P) (w := w) (base := base) T
  have g_clashing := c_clashing (P := P) (w := w) (base := base) T
  have g_traced := c_traced (P := P) (w := w) (base := base) T
  have g_leading_row := c_leading_row (P := P) (w := w) (base := base) T
  have g_keeping_row := c_keeping_row (P := P) (w := w) (base := base) T
  obtain ⟨⟨S, k⟩, ⟨x, d, y⟩, ⟨a, c⟩⟩ := x
  obtain ⟨h, ⟨hx, hd1, hd2, hy⟩, ha, hc, hcl⟩ := hp
  dsimp only at h hx hd1 hd2 hy ha hc hcl
  have h10 := h.n10
  have hl10 := lot_len h x
  refine ⟨_, (pss_cons (ps_par (i := 6) (j := 7) rfl sc_built_harm.nd rfl rfl (by decide) rfl rfl (pa_cons (pe_cal g_behind (hr.mono (by decide)) (pa_cons (pv 0) (pa_cons (pv 1) pa_nil))) (pa_cons (pe_cal g_joined (hr.mono (by decide)) (pa_cons (pv 0) (pa_cons (pv 3) pa_nil))) pa_nil)) (by rfl))
  (pss_cons (psn 8 sc_built_harm.nd (pe_cal g_layered (hr.mono (by decide)) (pa_cons (pv 0) (pa_cons (pv 6) (pa_cons (pv 4) (pa_cons (pv 5) (pa_cons (pe_op op_sub (pv 2) pe_int) pa_nil)))))))
  (pss_cons (psn 9 sc_built_harm.nd (pe_cal g_clashing (hr.mono (by decide)) (pa_cons (pv 0) (pa_cons (x_listD T.b.list (k_ix K (pv 8) (pe_un un_neg pe_int))) (pa_cons (pv 4) (pa_cons (pv 5) (pa_cons (pv 7) pa_nil)))))))
  (pss_cons (ps_asg (pe_cal g_traced (hr.mono (by decide)) (pa_cons (pv 8) (pa_cons (pv 9) pa_nil))) (k_gtup K 2 (pgs_cons (pgn 10 sc_built_harm.nd) (pgs_cons (pgn 11 sc_built_harm.nd) pgs_nil))))
  (pss_cons (psn 12 sc_built_harm.nd (k_ix K (pe_lc (own := [("state", 13)]) (by rfl) sc_built_harm.nd (k_pit K (pv 6)) (bk (own := [("state", 13)]) (N := N_built_harm) (sc := defScope s_built_harm)) (fun _ _ _ _ _ => (pgn 13 sc_built_harm.nd)) (fun _ _ _ _ _ => (pts_one (pt_cmpR (k_eqD K hr.units) (pe_tup (pa_cons (k_ix K (k_ix K (k_fld K (pv 0)) (pv 13)) (pv 4)) (pa_cons (k_ix K (k_ix K (k_fld K (pv 0)) (pv 13)) (pv 5)) pa_nil))) (pv 10) (nomark _)))) (fun _ _ _ _ _ => (pv 13))) pe_int))
  (pss_cons (ps_asg (pe_cal g_leading_row (hr.mono (by decide)) (pa_cons (pv 0) (pa_cons (pv 12) (pa_cons (pv 1) pa_nil)))) (k_gtup K 2 (pgs_cons (pgn 14 sc_built_harm.nd) (pgs_cons (pgn 15 sc_built_harm.nd) pgs_nil))))
  (pss_cons (ps_par (i := 16) (j := 17) rfl sc_built_harm.nd rfl rfl (by decide) rfl rfl (pa_cons (k_ix K (k_ix K (k_fld K (pv 0)) (k_ix K (pv 9) pe_int)) (pv 5)) (pa_cons (k_ix K (k_ix K (k_fld K (pv 0)) (k_ix K (pv 9) pe_int)) (pv 4)) pa_nil)) (by rfl))
  (pss_one (ps_ret (pe_tup (pa_cons (pe_op (k_catA K) (pe_op (k_catA K) (pe_op (k_catA K) (pe_op (k_catA K) (pv 14) (pe_tup (pa_cons (pv 4) pa_nil))) (pv 11)) (pe_tup (pa_cons (pv 5) pa_nil))) (pe_cal g_keeping_row (hr.mono (by decide)) (pa_cons (pv 0) (pa_cons (pv 16) (pa_cons (pv 17) (pa_cons (pv 3) pa_nil)))))) (pa_cons (pv 15) pa_nil)))))))))))), fun cn Q s0 H0 hM q Z => ?_⟩
  replace Z : Sat C cn [some (.mach k S), some (nat x), some (nat d), some (nat y), some (nat a), some (nat c), none, none, none, none, none, none, none, none, none, none, none, none] [] [] s0 H0 := Z
  refine q_parD (ea_cons (ev_call (f := fun x : (Mat × Nat) × Nat => tn (lot x.1.1 x.1.2 x.2)) ((S, k), x) (ea_cons (ev_var rfl) (ea_cons (ev_var rfl) ea_nil)) h) (ea_cons (ev_call (f := fun x : (Mat × Nat) × Nat => tn (cls x.1.1 x.2)) ((S, k), y) (ea_cons (ev_var rfl) (ea_cons (ev_var rfl) ea_nil)) h) ea_nil)) Z fun s1 H1 Z1 => ?_
  replace Z1 : Sat C cn [some (.mach k S), some (nat x), some (nat d), some (nat y), some (nat a), some (nat c), some (tn (lot S k x)), some (tn (cls S y)), none, none, none, none, none, none, none, none, none, none] [] [] s1 H1 := Z1
  have ed : ((d : Int) - 1) = ((d - 1 : Nat) : Int) := by omega
  refine q_asgP (ev_callP ((S, k), lot S k x, (a, c), d - 1) (ea_cons (ev_var rfl) (ea_cons (ev_var rfl) (ea_cons (ev_var rfl) (ea_cons (ev_var rfl) (ea_cons (EvD.to (ev_sub (ev_var rfl) ev_int) (by rw [ed])) ea_nil))))) ⟨h, fun t ht => lot_lt h ht, hl10, ha, hc, by show d - 1 ≤ 500; omega⟩) Z1 fun dl s2 H2 hms Z2 => ?_
  obtain ⟨ms, e, hml, hly⟩ := hms
  subst e
  dsimp only at hml hly
  obtain ⟨m, hm⟩ : ∃ m, ms[d - 1]? = some m := ⟨ms[d - 1]'(by omega), List.getElem?_eq_getElem (by omega)⟩
  obtain ⟨ps, hps, hpm⟩ := (hly _ _ hm).keys h
  have hsome : ∃ p, clash S ps a c (cls S y) = some p := by
    cases e : clash S ps a c (cls S y) with
    | some p => exact ⟨p, rfl⟩
    | none =>
      obtain ⟨p, hp⟩ := Option.isSome_iff_exists.mp hcl
      unfold clash at hp e
      have h1 := List.find?_some hp
      have h2 := List.mem_of_find?_eq_some hp
      exact absurd h1 (List.find?_eq_none.mp e p ((hpm p).mpr h2))
  obtain ⟨p, hp⟩ := hsome
  have hpc : cf S y (nx S p.1 c) ≠ cf S y (nx S p.2 a) := by
    unfold clash at hp
    have := List.find?_some hp
    intro z
    unfold cf at z
    rw [z] at this
    simp at this
  have hpp : p ∈ par S k (lot S k x) a c (d - 1) := (hpm p).mp (List.mem_of_find?_eq_some hp)
  obtain ⟨b1, b2⟩ := par_lt hpp
  have ek : (m.map (·.1)).map ky = ps.map tp := by rw [hps, List.map_map]; rfl
  refine q_asgD (EvD.to (d2 := tp p) (ev_call (f := fun x : (Mat × Nat) × (Bool × List (Nat × Nat)) × (Nat × Nat) × List Nat => optP (clash x.1.1 x.2.1.2 x.2.2.1.1 x.2.2.1.2 x.2.2.2)) ((S, k), (true, ps), (a, c), cls S y) (ea_cons (ev_var rfl) (ea_cons (EvN.ev ((el_listF (ks := m.map (·.1)) (ds := m.map (·.2)) (ev_ixL (d := dD m) (ev_var rfl) (ev_neg ev_int) (at_last (l := ms.map dD) (x := dD m) (n := d - 1) (by rw [List.length_map]; exact hml) (by rw [List.getElem?_map, hm]; rfl)))).to ek)) (ea_cons (ev_var rfl) (ea_cons (ev_var rfl) (ea_cons (ev_var rfl) ea_nil))))) ⟨h, fun p hp => par_lt ((hpm p).mp hp), ha, hc, cls_len _⟩) (by dsimp only; rw [hp]; rfl)) Z2 fun s3 H3 Z3 => ?_
  refine q_bindR (ev_callP (((S, k), lot S k x, (a, c), d - 1), ms, p) (ea_cons (ev_var rfl) (ea_cons (ev_var rfl) ea_nil)) ⟨h, by show d - 1 ≤ 500; omega, hml, hly, hpp⟩) Z3 fun dt mu' ⟨⟨ff, bet, e, hfo, hbl, hbk, hb1, hb2⟩, e2⟩ => ?_
  subst e; subst e2
  dsimp only at hfo hbl hbk hb1 hb2
  refine ⟨_, _, bg_tup bg_name bg_name, fun s4 H4 Z4 => ?_⟩
  obtain ⟨sm, hsm, hsf⟩ := (mem_opn h).mp hfo
  have hmid : ∃ mid, mid ∈ lot S k x ∧ (nx S mid a, nx S mid c) = ff ∧ (nats ((lot S k x).filter fun t => (nx S t a, nx S t c) == ff))[0]? = some (nat mid) := by
    have hin : sm ∈ (lot S k x).filter fun t => (nx S t a, nx S t c) == ff := List.mem_filter.mpr ⟨hsm, beq_iff_eq.mpr hsf⟩
    cases e : (lot S k x).filter fun t => (nx S t a, nx S t c) == ff with
    | nil => rw [e] at hin; cases hin
    | cons z l =>
      have hz : z ∈ (lot S k x).filter fun t => (nx S t a, nx S t c) == ff := by rw [e]; exact List.mem_cons_self
      obtain ⟨z1, z2⟩ := List.mem_filter.mp hz
      exact ⟨z, z1, eq_of_beq z2, rfl⟩
  obtain ⟨mid, hmi, hmf, hm0⟩ := hmid
  have hmlt := lot_lt h hmi
  refine q_asgD (ev_ixL (EvN.ev ((el_lc (fun d => if (nx S (nOf d) a, nx S (nOf d) c) == ff then some d else none) (evi_tup (ev_var rfl)) (by unfold nats; rw [List.length_map]; omega) fun i d hd => ?_).to (show _ = nats ((lot S k x).filter fun t => (nx S t a, nx S t c) == ff) from ?_))) ev_int (at_nat (n := 0) hm0)) Z4 fun s5 H5 Z5 => ?_
  · obtain ⟨t, ht, rfl⟩ := nats_at hd
    have htl := lot_lt h (List.mem_of_getElem? ht)
    refine ⟨_, _, bg_name, by simp, fun mu' => ⟨_, et_test (EvD.to (ev_eq 2 (ev_tup (ds := [nat (nx S t a), nat (nx S t c)]) (ea_cons (ev_nx T.cl T.nT h (ev_var rfl) (ev_var rfl) (ev_var rfl) htl ha) (ea_cons (ev_nx T.cl T.nT h (ev_var rfl) (ev_var rfl) (ev_var rfl) htl hc) ea_nil))) (ev_var rfl) (pl_tn [nx S t a, nx S t c]) (pl_tn [ff.1, ff.2])) (show D.bl (eqd (tp (nx S t a, nx S t c)) (tp ff)) = .bl ((nx S t a, nx S t c) == ff) by
      rw [eqd_tp]
      congr 1
      rw [Bool.eq_iff_iff, decide_eq_true_eq, beq_iff_eq])), fun hb => ⟨nat t, by rw [nOf_nat]; exact if_pos hb, ev_var rfl⟩, fun hb => by rw [nOf_nat]; exact if_neg (by rw [hb]; decide)⟩⟩
  · unfold nats
    rw [List.filterMap_map]
    have : ∀ l : List Nat, l.filterMap ((fun d => if (nx S (nOf d) a, nx S (nOf d) c) == ff then some d else none) ∘ nat) = (l.filter fun t => (nx S t a, nx S t c) == ff).map nat := fun l => by
      induction l with
      | nil => rfl
      | cons t l ih =>
        have e : ((fun d => if (nx S (nOf d) a, nx S (nOf d) c) == ff then some d else none) ∘ nat) t = if (nx S t a, nx S t c) == ff then some (nat t) else none := by
          show (if (nx S (nOf (nat t)) a, nx S (nOf (nat t)) c) == ff then some (nat t) else none) = _
          rw [nOf_nat]
        rw [List.filter_cons]
        by_cases z : ((nx S t a, nx S t c) == ff) = true
        · rw [if_pos z] at e ⊢
          rw [List.filterMap_cons_some e, ih, List.map_cons]
        · rw [if_neg z] at e ⊢
          rw [List.filterMap_cons_none e, ih]
    exact this _
  refine q_bindR (ev_callP ((S, k), mid, x) (ea_cons (ev_var rfl) (ea_cons (ev_var rfl) (ea_cons (ev_var rfl) ea_nil))) ⟨h, hmi, by show x ≤ 1000; omega⟩) Z5 fun dt mu' ⟨⟨ah, st, e, hal, hak, hsl, hal2⟩, e2⟩ => ?_
  subst e; subst e2
  dsimp only at hal hak hsl hal2
  refine ⟨_, _, bg_tup bg_name bg_name, fun s6 H6 Z6 => ?_⟩
  refine q_parD (ea_cons (ev_nx T.cl T.nT h (ev_var rfl) (ev_fst (ev_var rfl)) (ev_var rfl) b1 hc) (ea_cons (ev_nx T.cl T.nT h (ev_var rfl) (ev_snd (ev_var rfl)) (ev_var rfl) b2 ha) ea_nil)) Z6 fun s7 H7 Z7 => ?_
  have base : ∀ {rho : List (Option D)} {mu : Mu}, rho[4]? = some (some (nat a)) → rho[5]? = some (some (nat c)) → rho[11]? = some (some (tn bet)) → rho[14]? = some (some (tn ah)) →
      EvD C (tOp (rCatA K) (tOp (rCatA K) (tOp (rCatA K) (tVar 14) (tTup (tCons (tVar 4) tNil))) (tVar 11)) (tTup (tCons (tVar 5) tNil))) rho mu (.tup (nats (ah ++ [a] ++ bet ++ [c]))) := fun r4 r5 r11 r14 => by
    have e1 : nats (ah ++ [a] ++ bet ++ [c]) = ((nats ah ++ [nat a]) ++ nats bet) ++ [nat c] := by unfold nats; simp
    rw [e1]
    have l0 : (nats ah).length = x := by unfold nats; rw [List.length_map, hal]
    have l1 : (nats bet).length = d - 1 := by unfold nats; rw [List.length_map, hbl]
    exact ev_catT (ev_catT (ev_catT (ev_var r14) (ev_tup (ea_cons (ev_var r4) ea_nil)) (by rw [l0]; show x + 1 ≤ _; omega)) (ev_var r11) (by rw [List.length_append, l0, l1]; show x + 1 + _ ≤ _; omega)) (ev_tup (ea_cons (ev_var r5) ea_nil)) (by rw [List.length_append, List.length_append, l0, l1]; show x + 1 + _ + 1 ≤ _; omega)
  refine s_ret (er_tup (er_cons (ev_opR (P := fun e => ∃ keep : List Nat, e = tn (ah ++ [a] ++ bet ++ [c] ++ keep) ∧ keep.length = y ∧ (∀ e ∈ keep, e < k) ∧ ledN S (nx S p.1 c) keep ≠ ledN S (nx S p.2 a) keep) (base rfl rfl rfl rfl) (ev_callP ((S, k), (nx S p.1 c, nx S p.2 a), y) (ea_cons (ev_var rfl) (ea_cons (ev_var rfl) (ea_cons (ev_var rfl) (ea_cons (ev_var rfl) ea_nil)))) ⟨h, h.nx_lt _ _, h.nx_lt _ _, hpc, by show y ≤ 1000; omega⟩) fun d2 ⟨keep, e, k1, k2, k3⟩ => ?_) (R2 := fun _ ds mu' => ds = [nat st] ∧ mu' = []) fun d1 mu1 hd1 => ?_) fun ds mu' hR => ?_) Z7 fun v d' mu' H' hR S' => q.go hM S' ?_
  · subst e
    dsimp only at k1 k2 k3
    have e1 : tn (ah ++ [a] ++ bet ++ [c] ++ keep) = .tup (nats (ah ++ [a] ++ bet ++ [c]) ++ nats keep) := by unfold tn nats; rw [List.map_append]
    intro F H x' y' Q' kk r1 r2 q'
    refine rd_catT ?_ F H x' y' Q' kk r1 r2 fun z d F' H' e => q' z d F' H' ⟨keep, by rw [e, e1], k1, k2, k3⟩
    unfold nats
    rw [List.length_map, List.length_map, k1]
    simp [hal, hbl]
    omega
  · obtain ⟨_, em⟩ := hd1
    subst em
    exact ea_cons (ev_var rfl) ea_nil
  · obtain ⟨d1, ds', mu1, e, _, e2⟩ := hR
    rw [e, e2.1]
    simp
  · obtain ⟨ds, e, d1, ds', mu1, e2, ⟨⟨keep, e3, k1, k2, k3⟩, _⟩, e4, _⟩ := hR
    subst e; subst e2; subst e3; subst e4
    have m1 : nx S mid a = ff.1 := congrArg Prod.fst hmf
    have m2 : nx S mid c = ff.2 := congrArg Prod.snd hmf
    have hw := harm_works (S := S) (s := st) (mid := mid) (a := a) (c := c) (p1 := p.1) (p2 := p.2) (ahead := ah) (between := bet) (keep := keep) hal2 (by rw [m1]; exact hb1) (by rw [m2]; exact hb2) k3
    have el : ah.length + bet.length + 1 = x + d := by omega
    rw [el, hal] at hw
    refine ⟨_, st, rfl, ?_, fun e he => ?_, hsl, hw⟩
    · simp [hal, hbl, k1]
      omega
    · simp only [List.mem_append, List.mem_singleton] at he
      rcases he with (((he | he) | he) | he) | he
      · exact hak e he
      · rw [he]; exact ha
      · exact hbk e he
      · rw [he]; exact hc
      · exact k2 e he
end
end DL
/-! exchange_harm, corner_paper -/
namespace DL
open PySem L2 Mth

def hD (r : List Nat × Nat) : D := .tup [tn r.1, nat r.2]
section
variable {P : Program} {w : World} {K : PySem.W.Frag} {mg : Str → Option Value} {base : Heap} {C : Addr}
abbrev sp_exchange_harm (C : Addr) : Sp := spF C (fun x : (Mat × Nat) × (Nat × Nat × Nat) => [.mach x.1.2 x.1.1, nat x.2.1, nat x.2.2.1, nat x.2.2.2])
  (fun x => Ok x.1.1 x.1.2 ∧ (x.2.1 ≤ 500 ∧ 1 ≤ x.2.2.1 ∧ x.2.2.1 ≤ 500 ∧ x.2.2.2 ≤ 500))
  fun x r => (L x.1.1 x.1.2 x.2.2.1 x.2.1 x.2.2.2 = true ∧ r = .non) ∨ (L x.1.1 x.1.2 x.2.2.1 x.2.1 x.2.2.2 = false ∧ ∃ h, r = hD h ∧ Hm x.1.1 x.1.2 x.2.1 x.2.2.1 x.2.2.2 h.1 h.2)
theorem c_exchange_harm (T : Txt K mg C) : Cal P w K mg base 5 "exchange_harm" ["machine", "before", "step", "after"] (sp_exchange_harm C) := T.d.exchange_harm.cal fun f fd Fn => okF Fn sc_exchange_harm (fun _ => rfl) fun x cdv A outer s H E hp hr => by
  have g_behind := c_behind (P := P) (w := w) (base := base) T
  have g_joined := c_joined (P := P) (w := w) (base := base) T
  have g_unlike_commands := c_unlike_commands (P := P) (w := w) (base := base) T
  have g_clashing := c_clashing (P := P) (w := w) (base := base) T
  have g_pairs_after := c_pairs_after (P := P) (w := w) (base := base) T
  have g_built_harm := c_built_harm (P := P) (w := w) (base := base) T
  obtain ⟨⟨S, k⟩, x, d, y⟩ := x
  obtain ⟨h, hx, hd1, hd2, hy⟩ := hp
  dsimp only at h hx hd1 hd2 hy
  refine ⟨_, (pss_cons (ps_par (i := 4) (j := 5) rfl sc_exchange_harm.nd rfl rfl (by decide) rfl rfl (pa_cons (pe_cal g_behind (hr.mono (by decide)) (pa_cons (pv 0) (pa_cons (pv 1) pa_nil))) (pa_cons (pe_cal g_joined (hr.mono (by decide)) (pa_cons (pv 0) (pa_cons (pv 3) pa_nil))) pa_nil)) (by rfl))
  (pss_cons (ps_for PassesOwn.never rfl (k_pil K (pe_cal g_unlike_commands (hr.mono (by decide)) (pa_cons (pv 0) pa_nil))) (k_gtup K 2 (pgs_cons (pgn 6 sc_exchange_harm.nd) (pgs_cons (pgn 7 sc_exchange_harm.nd) pgs_nil)))
  (pss_one (ps_if (pt_cmpR op_notN (pe_cal g_clashing (hr.mono (by decide)) (pa_cons (pv 0) (pa_cons (pe_cal g_pairs_after (hr.mono (by decide)) (pa_cons (pv 0) (pa_cons (pv 4) (pa_cons (pv 6) (pa_cons (pv 7) (pa_cons (pe_op op_sub (pv 2) pe_int) pa_nil)))))) (pa_cons (pv 6) (pa_cons (pv 7) (pa_cons (pv 5) pa_nil)))))) pe_non (nomark _))
  (pss_one (ps_ret (pe_cal g_built_harm (hr.mono (by decide)) (pa_cons (pv 0) (pa_cons (pv 1) (pa_cons (pv 2) (pa_cons (pv 3) (pa_cons (pv 6) (pa_cons (pv 7) pa_nil)))))))))
  pss_nil)))
  (pss_one (ps_ret pe_non)))), fun cn Q s0 H0 hM q Z => ?_⟩
  replace Z : Sat C cn [some (.mach k S), some (nat x), some (nat d), some (nat y), none, none, none, none] [] [] s0 H0 := Z
  refine q_parD (ea_cons (ev_call (f := fun x : (Mat × Nat) × Nat => tn (lot x.1.1 x.1.2 x.2)) ((S, k), x) (ea_cons (ev_var rfl) (ea_cons (ev_var rfl) ea_nil)) h) (ea_cons (ev_call (f := fun x : (Mat × Nat) × Nat => tn (cls x.1.1 x.2)) ((S, k), y) (ea_cons (ev_var rfl) (ea_cons (ev_var rfl) ea_nil)) h) ea_nil)) Z fun s1 H1 Z1 => ?_
  replace Z1 : Sat C cn [some (.mach k S), some (nat x), some (nat d), some (nat y), some (tn (lot S k x)), some (tn (cls S y)), none, none] [] [] s1 H1 := Z1
  have ed : ((d : Int) - 1) = ((d - 1 : Nat) : Int) := by omega
  refine q_for (evi_lst (ev_call (f := fun x : Mat × Nat => .lst ((unl x.2).map tp)) (S, k) (ea_cons (ev_var rfl) ea_nil) h)) Z1 (fun i (_ : Unit) => [some (.mach k S), some (nat x), some (nat d), some (nat y), some (tn (lot S k x)), some (tn (cls S y)), none, none]) (fun _ _ => [])
    (fun i _ => ((unl k).take i).all (fun ac => (clash S (par S k (lot S k x) ac.1 ac.2 (d - 1)) ac.1 ac.2 (cls S y)).isNone) = true) ⟨(), rfl, ⟨rfl, rfl, rfl, rfl, rfl, rfl, trivial⟩, rfl⟩ (fun i e _ tx hd hi => ?_) fun _ s2 H2 hall Z2 => ?_
  · obtain ⟨⟨a, c⟩, hac, rfl⟩ := tps_at hd
    obtain ⟨m1, m2⟩ := mem_unl.mp (List.mem_of_getElem? hac)
    dsimp only at m1 m2
    refine ⟨_, _, bg_tup bg_name bg_name, fun s2 H2 Z2 => ?_⟩
    refine s_ifD (et_test (EvD.to (ev_notN (ev_call (f := fun x : (Mat × Nat) × (Bool × List (Nat × Nat)) × (Nat × Nat) × List Nat => optP (clash x.1.1 x.2.1.2 x.2.2.1.1 x.2.2.1.2 x.2.2.2)) ((S, k), (false, par S k (lot S k x) a c (d - 1)), (a, c), cls S _) (ea_cons (ev_var rfl) (ea_cons (ev_call (f := fun x : (Mat × Nat) × List Nat × (Nat × Nat) × Nat => tps (par x.1.1 x.1.2 x.2.1 x.2.2.1.1 x.2.2.1.2 x.2.2.2)) ((S, k), lot S k x, (a, c), d - 1) (ea_cons (ev_var rfl) (ea_cons (ev_var rfl) (ea_cons (ev_var rfl) (ea_cons (ev_var rfl) (ea_cons (EvD.to (ev_sub (ev_var rfl) ev_int) (by rw [ed])) ea_nil))))) ⟨h, fun t ht => lot_lt h ht, lot_len h x, by show a < k; omega, m2, by show d - 1 ≤ 500; omega⟩) (ea_cons (ev_var rfl) (ea_cons (ev_var rfl) (ea_cons (ev_var rfl) ea_nil))))) ⟨h, fun p hp => par_lt hp, by show a < k; omega, m2, cls_len _⟩) ev_non) (by rw [optP_non]))) Z2 (fun hb H3 Z3 => ?_) fun hb H3 Z3 => ?_
    · dsimp only at hb
      have hcl : (clash S (par S k (lot S k x) a c (d - 1)) a c (cls S y)).isSome = true := by
        revert hb
        cases clash S (par S k (lot S k x) a c (d - 1)) a c (cls S y) <;> simp
      refine s_ret (ev_callP ((S, k), (x, d, y), (a, c)) (ea_cons (ev_var rfl) (ea_cons (ev_var rfl) (ea_cons (ev_var rfl) (ea_cons (ev_var rfl) (ea_cons (ev_var rfl) (ea_cons (ev_var rfl) ea_nil)))))) ⟨h, ⟨hx, hd1, hd2, hy⟩, by show a < k; omega, m2, hcl⟩) Z3 fun v d' mu' H' ⟨⟨row, st, e, hm⟩, _⟩ S' => q.go hM S' (.inr ⟨?_, (row, st), e, hm⟩)
      refine Bool.eq_false_iff.mpr fun z => ?_
      have := List.all_eq_true.mp z (a, c) (List.mem_of_getElem? hac)
      dsimp only at this
      rw [Option.isNone_iff_eq_none] at this
      rw [this] at hcl
      cases hcl
    · refine ⟨(), all_next hac hi ?_, Z3.weak ⟨rfl, rfl, rfl, rfl, rfl, rfl, trivial⟩⟩
      dsimp only at hb ⊢
      revert hb
      cases (clash S (par S k (lot S k x) a c (d - 1)) a c (cls S _)).isNone <;> simp
  · refine s_ret ev_non Z2 fun v d' mu' H' ⟨e, _⟩ S' => q.go hM S' (.inl ⟨?_, e⟩)
    rw [List.length_map, List.take_length] at hall
    exact hall
abbrev sp_corner_paper (C : Addr) : Sp := spF C (fun x : (Mat × Nat) × Nat => [.mach x.1.2 x.1.1, nat x.2]) (fun x => Ok x.1.1 x.1.2 ∧ 1 ≤ x.2 ∧ x.2 ≤ 500)
  fun x r => ∃ hs : List (List Nat × Nat), r = .tup [tps (cornersM x.1.1 x.1.2 x.2), .tup (hs.map hD)] ∧ hs.length = (ctxL (uu x.1.1 x.1.2) (vv x.1.1) (cornersM x.1.1 x.1.2 x.2)).length ∧
    ∀ (j : Nat) p h, (ctxL (uu x.1.1 x.1.2) (vv x.1.1) (cornersM x.1.1 x.1.2 x.2))[j]? = some p → hs[j]? = some h → Hm x.1.1 x.1.2 p.1 x.2 p.2 h.1 h.2
theorem corners_len {S : Mat} {k d : Nat} (h : Ok S k) : (cornersM S k d).length ≤ 10 := by
  have u3 := (uu_spec h).2.2
  have h10 := h.n10
  have : ∀ (f : Nat → Nat → Bool) (l : List Nat) (m : Nat), (corn f l m).length ≤ l.length := fun f l => by
    induction l with
    | nil => intro m; exact Nat.le_refl _
    | cons x l ih =>
      intro m
      unfold corn
      cases leastA (f x) m with
      | none => have := ih m; simp; omega
      | some a =>
        dsimp only
        split
        · simp
        · have := ih (a - 1)
          simp
          exact this
  have := this (L S k d) (List.range (uu S k + 1)) (vv S)
  unfold cornersM
  rw [List.length_range] at this
  omega
theorem ctx_len (u v : Nat) (cs : List (Nat × Nat)) : (ctxL u v cs).length ≤ cs.length + 1 := by
  cases cs with
  | nil => simp [ctxL]
  | cons a r =>
    unfold ctxL
    have hm : (mids (a :: r)).length ≤ r.length := by
      rw [mids_zip, List.length_zipWith]
      simp
    rw [List.length_append, List.length_append]
    have h1 : (if a.1 = 0 then [] else [(a.1 - 1, v)]).length ≤ 1 := by split <;> simp
    have h2 : (if (lastC (a :: r)).2 = 0 then [] else [(u, (lastC (a :: r)).2 - 1)]).length ≤ 1 := by split <;> simp
    rw [List.length_cons]
    omega
theorem c_corner_paper (T : Txt K mg C) : Cal P w K mg base 6 "corner_paper" ["machine", "distance"] (sp_corner_paper C) := T.d.corner_paper.cal fun f fd Fn => okF Fn sc_corner_paper (fun _ => rfl) fun x cdv A outer s H E hp hr => by
  have g_corners := c_corners (P := P) (w := w) (base := base) T
  have g_contexts_left := c_contexts_left (P := P) (w := w) (base := base) T
  have g_exchange_harm := c_exchange_harm (P := P) (w := w) (base := base) T
  obtain ⟨⟨S, k⟩, d⟩ := x
  obtain ⟨h, hd1, hd2⟩ := hp
  dsimp only at h hd1 hd2
  have h10 := h.n10
  obtain ⟨k1, k2, k3⟩ := corners_ok S k d
  have u3 := (uu_spec h).2.2
  have v3 := (vv_spec h).2.2
  have cl := corners_len (d := d) h
  have xl := ctx_len (uu S k) (vv S) (cornersM S k d)
  have xb := ctxL_le (u := uu S k) (v := vv S) fun c hc => ⟨(k1 c hc).1, (k1 c hc).2.1⟩
  refine ⟨_, (pss_cons (psn 2 sc_corner_paper.nd (pe_cal g_corners (hr.mono (by decide)) (pa_cons (pv 0) (pa_cons (pv 1) pa_nil))))
  (pss_cons (ps_setLc (i := 3) (own := [("before", 4), ("after", 5)]) rfl sc_corner_paper.nd rfl rfl (sw_true rfl rfl rfl (by decide +kernel)) (k_pit K (pe_cal g_contexts_left (hr.mono (by decide)) (pa_cons (pv 0) (pa_cons (pv 2) pa_nil)))) (bk (own := [("before", 4), ("after", 5)]) (N := N_corner_paper) (sc := defScope s_corner_paper)) (fun _ _ _ _ _ => (k_gtup K 2 (pgs_cons (pgn 4 sc_corner_paper.nd) (pgs_cons (pgn 5 sc_corner_paper.nd) pgs_nil)))) (fun _ _ _ _ _ => pts_nil) (fun _ _ _ _ _ => (pe_cal g_exchange_harm (hr.mono (by decide)) (pa_cons (pv 0) (pa_cons (pv 4) (pa_cons (pv 1) (pa_cons (pv 5) pa_nil)))))))
  (pss_one (ps_ret (pe_tup (pa_cons (pv 2) (pa_cons (k_tuple K T.b.tuple (pv 3)) pa_nil))))))), fun cn Q s0 H0 hM q Z => ?_⟩
  replace Z : Sat C cn [some (.mach k S), some (nat d), none, none, none, none] [] [] s0 H0 := Z
  refine q_asgD (ev_call (f := fun x : (Mat × Nat) × Nat => tps (cornersM x.1.1 x.1.2 x.2)) ((S, k), d) (ea_cons (ev_var rfl) (ea_cons (ev_var rfl) ea_nil)) ⟨h, hd1, hd2⟩) Z fun s1 H1 Z1 => ?_
  replace Z1 : Sat C cn [some (.mach k S), some (nat d), some (tps (cornersM S k d)), none, none, none] [] [] s1 H1 := Z1
  refine q_asg (ev_lcA (ds := (ctxL (uu S k) (vv S) (cornersM S k d)).map tp) (fun i acc => ∃ hs : List (List Nat × Nat), acc = hs.map hD ∧ hs.length = i ∧ ∀ (j : Nat) p h, (ctxL (uu S k) (vv S) (cornersM S k d))[j]? = some p → hs[j]? = some h → Hm S k p.1 d p.2 h.1 h.2)
    (evi_tup (ev_call (f := fun x : (Mat × Nat) × List (Nat × Nat) => tps (ctxL (uu x.1.1 x.1.2) (vv x.1.1) x.2)) ((S, k), cornersM S k d) (ea_cons (ev_var rfl) (ea_cons (ev_var rfl) ea_nil)) ⟨h, k2, by show (cornersM S k d).length ≤ 1000; omega⟩)) ⟨[], rfl, rfl, fun j p h _ z => by simp at z⟩ (by rw [List.length_map]; omega) fun i e acc hd hA hl => ?_) Z1 fun d' mu' s2 H2 hR Z2 => ?_
  · obtain ⟨⟨x, y⟩, hxy, rfl⟩ := tps_at hd
    obtain ⟨hx, hy⟩ := xb _ (List.mem_of_getElem? hxy)
    have hL := k3 _ (List.mem_of_getElem? hxy)
    dsimp only at hx hy hL
    refine ⟨_, _, bg_tup bg_name bg_name, by simp, fun p => ⟨true, EtD.of fun c ts s H Q S q => q H S, fun _ => ?_, fun z => by cases z⟩⟩
    refine Ev.imp (ev_callP ((S, k), x, d, y) (ea_cons (ev_var rfl) (ea_cons (ev_var rfl) (ea_cons (ev_var rfl) (ea_cons (ev_var rfl) ea_nil)))) ⟨h, by show x ≤ 500; omega, hd1, hd2, by show y ≤ 500; omega⟩) fun d' mu' hr => ⟨hr.2, ?_⟩
    rcases hr.1 with ⟨z, _⟩ | ⟨_, hh, e, hm⟩
    · exact absurd (hL.symm.trans z) (by decide)
    · obtain ⟨hs, e1, e2, e3⟩ := hA
      refine ⟨hs ++ [hh], by rw [e1, e, List.map_append]; rfl, by simp [e2], fun j p h' hj hj2 => ?_⟩
      by_cases hji : j < hs.length
      · rw [List.getElem?_append_left hji] at hj2
        exact e3 j p h' hj hj2
      · rw [List.getElem?_append_right (by omega)] at hj2
        have hj0 : j - hs.length = 0 := by
          rcases Nat.eq_zero_or_pos (j - hs.length) with z | z
          · exact z
          · rw [List.getElem?_eq_none (by simp; omega)] at hj2; cases hj2
        rw [hj0] at hj2
        have ej : j = i := by omega
        have eh : hh = h' := by simpa using hj2
        subst ej; subst eh
        rw [hxy] at hj
        cases hj
        exact hm
  · obtain ⟨p, acc, e1, e2, hs, e3, e4, e5⟩ := hR
    subst e1; subst e2; subst e3
    refine s_ret (ev_tup (ds := [tps (cornersM S k d), .tup (hs.map hD)]) (ea_cons (ev_var rfl) (ea_cons (ev_tupleO (ev_var rfl) List.mem_cons_self) ea_nil))) Z2 fun v d' mu' H' ⟨e, _⟩ S' => q.go hM S' ⟨hs, e, by rw [e4, List.length_map], e5⟩
end
end DL
/-! checked_row, led, end_state, is_exchange_harm -/
namespace DL
open PySem L2 Mth

theorem isT_inv {v : D} (h : isT v = true) : ∃ ds, v = .tup ds := by
  cases v with
  | tup ds => exact ⟨ds, rfl⟩
  | _ => cases h
theorem pl_kd {n : Nat} {v : D} (h : pl n v = true) : (kd v).isSome = true := by
  cases v with
  | non => rfl
  | bl b => rfl
  | int i => rfl
  | tup ds => rfl
  | lst ds => rfl
  | _ => cases n <;> cases h
theorem pl_in {n : Nat} {ds : List D} (h : pl (n + 1) (.tup ds) = true) : ∀ e ∈ ds, pl n e = true := by
  have : pls n ds = true := h
  rw [pls_all, List.all_eq_true] at this
  exact this
theorem isIndex_nat (s n : Nat) : isIndex (nat s) (n : Int) = decide (s < n) := by
  show (decide ((0 : Int) ≤ (s : Int)) && decide ((s : Int) < (n : Int))) = _
  rw [decide_eq_true (by omega), Bool.true_and, decide_eq_decide]
  omega
theorem isIndex_inv {e : D} {n : Nat} (h : isIndex e (n : Int) = true) : ∃ s : Nat, e = nat s ∧ s < n := by
  cases e with
  | int i =>
    have h' : (decide (0 ≤ i) && decide (i < (n : Int))) = true := h
    rw [Bool.and_eq_true, decide_eq_true_eq, decide_eq_true_eq] at h'
    refine ⟨i.toNat, ?_, by omega⟩
    show D.int i = D.int (i.toNat : Int)
    congr 1
    omega
  | _ => cases h
theorem all_index {rs : List D} {n : Nat} (h : ∀ e ∈ rs, isIndex e (n : Int) = true) : ∃ row : List Nat, rs = nats row ∧ ∀ e ∈ row, e < n := by
  induction rs with
  | nil => exact ⟨[], rfl, fun e z => by simp at z⟩
  | cons e rs ih =>
    obtain ⟨row, h1, h2⟩ := ih fun e he => h e (List.mem_cons_of_mem _ he)
    obtain ⟨s, hs, hl⟩ := isIndex_inv (h e List.mem_cons_self)
    refine ⟨s :: row, by rw [h1, hs]; rfl, fun e he => ?_⟩
    rcases List.mem_cons.mp he with z | z
    · rw [z]; exact hl
    · exact h2 e z
theorem nats_inj {a b : List Nat} (h : nats a = nats b) : a = b := by
  have : a = (nats a).map nOf := by
    unfold nats
    rw [List.map_map]
    have : (nOf ∘ nat) = id := funext fun n => nOf_nat n
    rw [this, List.map_id]
  rw [this, h]
  unfold nats
  rw [List.map_map]
  have : (nOf ∘ nat) = id := funext fun n => nOf_nat n
  rw [this, List.map_id]
def IsHm (S : Mat) (k x d y : Nat) (v : D) : Prop := ∃ row s, v = hD (row, s) ∧ Hm S k x d y row s
section
variable {C : Addr} {c : Cn} {K : PySem.W.Frag} {rho : List (Option D)} {mu : Mu} {te : TE} {t3 : TT} {v : D} {ds : List D}
abbrev tIsT (K : PySem.W.Frag) (te : TE) : TE := tCB (rIsi K) (tCons te (tCons (tC (.ty "tuple")) tNil))
abbrev tLen (K : PySem.W.Frag) (te : TE) : TE := tCB (rLen K) (tCons te tNil)
def two (b3 : D → D → Bool) : D → Bool
  | .tup [e0, e1] => b3 e0 e1
  | _ => true
theorem et_two {b3 : D → D → Bool} (hv : EvD C te rho mu v) (hk : (kd v).isSome = true) (h3 : ∀ e0 e1, v = .tup [e0, e1] → EtD C t3 rho mu (b3 e0 e1)) : EtD C (tOr (tNot (tB (tIsT K te))) (tOr (tTest (tOp (rNeD K) (tLen K te) (tC (.int 2)))) t3)) rho mu (two b3 v) := by
  cases hT : isT v with
  | false =>
    refine (et_or (a := true) (b := false) (EtD.to (et_not (et_B (ev_isT hv hk))) (by rw [hT]; rfl)) (fun z => by cases z)).to ?_
    cases v with
    | tup ds => cases hT
    | _ => rfl
  | true =>
    obtain ⟨ds, rfl⟩ := isT_inv hT
    refine (et_or (a := false) (EtD.to (et_not (et_B (ev_isT hv hk))) rfl) (fun _ => ?_)).to (Bool.false_or _)
    by_cases hl : ds.length = 2
    · match ds, hl with
      | [e0, e1], _ => exact (et_or (a := false) (EtD.to (et_test (ev_neI (ev_lenT hv) ev_int)) rfl) (fun _ => h3 e0 e1 rfl)).to (Bool.false_or _)
    · refine (et_or (a := true) (b := false) (EtD.to (et_test (ev_neI (ev_lenT hv) ev_int)) (by rw [decide_eq_false (by omega)]; rfl)) (fun z => by cases z)).to ?_
      match ds with
      | [] => rfl
      | [_] => rfl
      | [_, _] => exact absurd rfl hl
      | _ :: _ :: _ :: _ => rfl
theorem et_two' (hv : EvD C te rho mu v) (hk : (kd v).isSome = true) : EtD C (tOr (tNot (tB (tIsT K te))) (tTest (tOp (rNeD K) (tLen K te) (tC (.int 2))))) rho mu (two (fun _ _ => false) v) := by
  cases hT : isT v with
  | false =>
    refine (et_or (a := true) (b := false) (EtD.to (et_not (et_B (ev_isT hv hk))) (by rw [hT]; rfl)) (fun z => by cases z)).to ?_
    cases v with
    | tup ds => cases hT
    | _ => rfl
  | true =>
    obtain ⟨ds, rfl⟩ := isT_inv hT
    refine (et_or (a := false) (EtD.to (et_not (et_B (ev_isT hv hk))) rfl) (fun _ => et_test (ev_neI (ev_lenT hv) ev_int))).to ?_
    rw [Bool.false_or]
    match ds with
    | [] => rfl
    | [_] => rfl
    | [_, _] => rfl
    | a :: b :: c :: l =>
      show (!decide ((((a :: b :: c :: l).length : Nat) : Int) = 2)) = true
      rw [decide_eq_false (by simp; omega)]
      rfl
theorem cut_to (ds : List D) (n : Nat) : cutD ds none (some (n : Int)) = ds.take n := by
  unfold cutD
  rw [HT.sIx_none, HT.sIx_nat, List.drop_zero, Nat.sub_zero]
  by_cases h : n ≤ ds.length
  · rw [Nat.min_eq_left h]
  · rw [Nat.min_eq_right (by omega), List.take_length, List.take_of_length_le (by omega)]
theorem cut_from (ds : List D) (n : Nat) : cutD ds (some (n : Int)) none = ds.drop n := by
  unfold cutD
  rw [HT.sIx_none, HT.sIx_nat]
  by_cases h : n ≤ ds.length
  · rw [Nat.min_eq_left h, List.take_of_length_le (by rw [List.length_drop]; exact Nat.le_refl _)]
  · rw [Nat.min_eq_right (by omega), Nat.sub_self, List.take_zero, List.drop_eq_nil_of_le (by omega)]
theorem cut_mid (ds : List D) {m n : Nat} (h1 : m ≤ ds.length) (h2 : n ≤ ds.length) : cutD ds (some (m : Int)) (some (n : Int)) = (ds.drop m).take (n - m) := by
  unfold cutD
  rw [HT.sIx_nat, HT.sIx_nat, Nat.min_eq_left h1, Nat.min_eq_left h2]
end
section
variable {P : Program} {w : World} {K : PySem.W.Frag} {mg : Str → Option Value} {base : Heap} {C : Addr}
abbrev sp_checked_row (C : Addr) : Sp := spF C (fun x : Nat × List Nat => [nat x.1, tn x.2]) (fun x => ∀ e ∈ x.2, e < x.1) fun x r => r = tn x.2
theorem c_checked_row (T : Txt K mg C) : Cal P w K mg base 4 "checked_row" ["commands", "value"] (sp_checked_row C) := T.d.checked_row.cal fun f fd Fn => okF Fn sc_checked_row (fun _ => rfl) fun x cdv A outer s H E hp hr => by
  have g_is_sequence := c_is_sequence (P := P) (w := w) (base := base) T
  have g_is_index := c_is_index (P := P) (w := w) (base := base) T
  obtain ⟨k, row⟩ := x
  have hk : ∀ e ∈ row, e < k := hp
  refine ⟨_, (pss_cons (ps_if (pt_not (pt_val (pe_cal g_is_sequence (hr.mono (by decide)) (pa_cons (pv 1) pa_nil))))
  (pss_one ps_never)
  pss_nil)
  (pss_cons (ps_for PassesOwn.never rfl (k_enumT K T.b.enumerate (pv 1)) (k_gtup K 2 (pgs_cons (pgn 2 sc_checked_row.nd) (pgs_cons (pgn 3 sc_checked_row.nd) pgs_nil)))
  (pss_one (ps_if (pt_not (pt_val (pe_cal g_is_index (hr.mono (by decide)) (pa_cons (pv 3) (pa_cons (pv 0) pa_nil)))))
  (pss_one ps_never)
  pss_nil)))
  (pss_one (ps_ret (k_tuple K T.b.tuple (pv 1)))))), fun cn Q s0 H0 hM q Z => ?_⟩
  replace Z : Sat C cn [some (nat k), some (tn row), none, none] [] [] s0 H0 := Z
  refine q_when (b := false) (EtD.to (et_not (et_B (ev_call (f := fun d : D => .bl (isL d || isT d)) (tn row) (ea_cons (ev_var rfl) ea_nil) rfl))) rfl) Z (fun z => by cases z) fun _ H1 Z1 => ?_
  refine q_for (evi_enumT (ev_var rfl)) Z1 (fun _ (_ : Unit) => [some (nat k), some (tn row), none, none]) (fun _ _ => []) (fun _ _ => True) ⟨(), trivial, ⟨rfl, rfl, trivial⟩, rfl⟩ (fun i d _ tx hd _ => ?_) fun _ s2 H2 _ Z2 => ?_
  · obtain ⟨e, he, rfl⟩ := enumD_get hd
    obtain ⟨t, ht, rfl⟩ := nats_at he
    refine ⟨_, _, bg_tup bg_name bg_name, fun s2 H2 Z2 => ?_⟩
    refine s_ifD (b := false) (EtD.to (et_not (et_B (ev_call (f := fun x : D × Int => .bl (isIndex x.1 x.2)) (nat t, (k : Int)) (ea_cons (ev_var rfl) (ea_cons (ev_var rfl) ea_nil)) rfl))) (by
      show (!isIndex (nat t) (k : Int)) = false
      rw [isIndex_nat, decide_eq_true (hk t (List.mem_of_getElem? ht))]
      rfl)) Z2 (fun z => by cases z) fun _ H3 Z3 => ⟨(), trivial, Z3.weak ⟨rfl, rfl, trivial⟩⟩
  · exact s_ret (ev_tupleT (ev_var rfl)) Z2 fun v d' mu' H' ⟨e, _⟩ S' => q.go hM S' e
abbrev sp_led (C : Addr) : Sp := spF C (fun x : (Mat × Nat) × Nat × List Nat => [.mach x.1.2 x.1.1, nat x.2.1, tn x.2.2]) (fun x => Ok x.1.1 x.1.2 ∧ x.2.1 < x.1.1.length ∧ ∀ e ∈ x.2.2, e < x.1.2) fun x r => r = nat (ledN x.1.1 x.2.1 x.2.2)
theorem c_led (T : Txt K mg C) : Cal P w K mg base 1 "led" ["machine", "state", "row"] (sp_led C) := T.d.led.cal fun f fd Fn => okF Fn sc_led (fun _ => rfl) fun x cdv A outer s H E hp hr => by
  obtain ⟨⟨S, k⟩, st, row⟩ := x
  obtain ⟨h, hs, hk⟩ := hp
  dsimp only at h hs hk
  refine ⟨_, (pss_cons (psn 3 sc_led.nd (pv 1))
  (pss_cons (ps_for PassesOwn.never rfl (k_pit K (pv 2)) (pgn 4 sc_led.nd)
  (pss_one (psn 3 sc_led.nd (k_ix K (k_ix K (k_fld K (pv 0)) (pv 3)) (pv 4)))))
  (pss_one (ps_ret (pv 3))))), fun cn Q s0 H0 hM q Z => ?_⟩
  replace Z : Sat C cn [some (.mach k S), some (nat st), some (tn row), none, none] [] [] s0 H0 := Z
  refine q_asgD (ev_var rfl) Z fun s1 H1 Z1 => ?_
  refine q_for (evi_tup (ev_var rfl)) Z1 (fun i (_ : Unit) => [some (.mach k S), some (nat st), some (tn row), some (nat (ledN S st (row.take i))), none]) (fun _ _ => []) (fun _ _ => True) ⟨(), trivial, ⟨rfl, rfl, rfl, rfl, trivial⟩, rfl⟩ (fun i d _ tx hd _ => ?_) fun _ s2 H2 _ Z2 => ?_
  · obtain ⟨t, ht, rfl⟩ := nats_at hd
    refine ⟨_, _, bg_name, fun s2 H2 Z2 => ?_⟩
    refine s_asgD (EvD.to (ev_nx T.cl T.nT h (ev_var rfl) (ev_var rfl) (ev_var rfl) (ledN_lt h _ _ hs) (hk t (List.mem_of_getElem? ht))) (show _ = nat (ledN S st (row.take (i + 1))) from ?_)) Z2 fun s3 H3 Z3 => ⟨(), trivial, Z3.weak ⟨rfl, rfl, rfl, rfl, trivial⟩⟩
    rw [List.take_succ, ht, ledN_append]
    rfl
  · refine s_ret (ev_var rfl) Z2 fun v d' mu' H' ⟨e, _⟩ S' => q.go hM S' (e.trans ?_)
    have : (nats row).length = row.length := by unfold nats; rw [List.length_map]
    rw [this, List.take_length]
abbrev sp_end_state (C : Addr) : Sp := spF C (fun x : (Mat × Nat) × Nat × List Nat => [.mach x.1.2 x.1.1, nat x.2.1, tn x.2.2]) (fun x => Ok x.1.1 x.1.2 ∧ x.2.1 < x.1.1.length ∧ ∀ e ∈ x.2.2, e < x.1.2) fun x r => r = nat (ledN x.1.1 x.2.1 x.2.2)
theorem c_end_state (T : Txt K mg C) : Cal P w K mg base 5 "end_state" ["machine", "state", "row"] (sp_end_state C) := T.d.end_state.cal fun f fd Fn => okF Fn sc_end_state (fun _ => rfl) fun x cdv A outer s H E hp hr => by
  have g_is_index := c_is_index (P := P) (w := w) (base := base) T
  have g_led := c_led (P := P) (w := w) (base := base) T
  have g_checked_row := c_checked_row (P := P) (w := w) (base := base) T
  obtain ⟨⟨S, k⟩, st, row⟩ := x
  obtain ⟨h, hs, hk⟩ := hp
  dsimp only at h hs hk
  refine ⟨_, (pss_cons (ps_if (pt_not (pt_val (pe_cal g_is_index (hr.mono (by decide)) (pa_cons (pv 1) (pa_cons (k_fld K (pv 0)) pa_nil)))))
  (pss_one ps_never)
  pss_nil)
  (pss_one (ps_ret (pe_cal g_led (hr.mono (by decide)) (pa_cons (pv 0) (pa_cons (pv 1) (pa_cons (pe_cal g_checked_row (hr.mono (by decide)) (pa_cons (k_fld K (pv 0)) (pa_cons (pv 2) pa_nil))) pa_nil))))))), fun cn Q s0 H0 hM q Z => ?_⟩
  replace Z : Sat C cn [some (.mach k S), some (nat st), some (tn row)] [] [] s0 H0 := Z
  refine q_when (b := false) (EtD.to (et_not (et_B (ev_call (f := fun x : D × Int => .bl (isIndex x.1 x.2)) (nat st, (S.length : Int)) (ea_cons (ev_var rfl) (ea_cons (ev_states T.cl T.nS (ev_var rfl)) ea_nil)) rfl))) (by
    show (!isIndex (nat st) (S.length : Int)) = false
    rw [isIndex_nat, decide_eq_true hs]
    rfl)) Z (fun z => by cases z) fun _ H1 Z1 => ?_
  exact s_ret (ev_call (f := fun x : (Mat × Nat) × Nat × List Nat => nat (ledN x.1.1 x.2.1 x.2.2)) ((S, k), st, row) (ea_cons (ev_var rfl) (ea_cons (ev_var rfl) (ea_cons (ev_call (f := fun x : Nat × List Nat => tn x.2) (k, row) (ea_cons (ev_commands T.cl T.nC (ev_var rfl)) (ea_cons (ev_var rfl) ea_nil)) hk) ea_nil))) ⟨h, hs, hk⟩) Z1 fun v d' mu' H' ⟨e, _⟩ S' => q.go hM S' e
abbrev sp_is_exchange_harm (C : Addr) : Sp := spF C (fun x : (Mat × Nat) × (Nat × Nat × Nat) × D => [.mach x.1.2 x.1.1, nat x.2.1.1, nat x.2.1.2.1, nat x.2.1.2.2, x.2.2])
  (fun x => Ok x.1.1 x.1.2 ∧ (x.2.1.1 ≤ 500 ∧ 1 ≤ x.2.1.2.1 ∧ x.2.1.2.1 ≤ 500 ∧ x.2.1.2.2 ≤ 500) ∧ pl 6 x.2.2 = true) fun x r => ∃ b, r = .bl b ∧ (b = true ↔ IsHm x.1.1 x.1.2 x.2.1.1 x.2.1.2.1 x.2.1.2.2 x.2.2)
theorem c_is_exchange_harm (T : Txt K mg C) : Cal P w K mg base 6 "is_exchange_harm" ["machine", "before", "step", "after", "value"] (sp_is_exchange_harm C) := T.d.is_exchange_harm.cal fun f fd Fn => okF Fn sc_is_exchange_harm (fun _ => rfl) fun x cdv A outer s H E hp hr => by
  have g_is_index := c_is_index (P := P) (w := w) (base := base) T
  have g_end_state := c_end_state (P := P) (w := w) (base := base) T
  obtain ⟨⟨S, k⟩, ⟨x, d, y⟩, v⟩ := x
  obtain ⟨h, ⟨hx, hd1, hd2, hy⟩, hv⟩ := hp
  dsimp only at h hx hd1 hd2 hy hv
  refine ⟨_, (pss_cons (ps_if (PW.pt (pw_or (pt_not (pt_val (x_isiT T.b (pv 4)))) (pw_or (pt_cmpR (k_neD K hr.units) (k_len K T.b.len (pv 4)) pe_int (nomark _)) (pw_or1 (pt_not (pt_val (x_isiT T.b (k_ix K (pv 4) pe_int))))))))
  (pss_one (ps_ret pe_bl))
  pss_nil)
  (pss_cons (ps_asg (pv 4) (k_gtup K 2 (pgs_cons (pgn 5 sc_is_exchange_harm.nd) (pgs_cons (pgn 6 sc_is_exchange_harm.nd) pgs_nil))))
  (pss_cons (ps_if (PW.pt (pw_or (pt_cmpR (k_neD K hr.units) (k_len K T.b.len (pv 5)) (pe_op op_add (pe_op op_add (pe_op op_add (pv 1) (pv 2)) pe_int) (pv 3)) (nomark _)) (pw_or1 (pt_not (pt_val (pe_cal g_is_index (hr.mono (by decide)) (pa_cons (pv 6) (pa_cons (k_fld K (pv 0)) pa_nil))))))))
  (pss_one (ps_ret pe_bl))
  pss_nil)
  (pss_cons (ps_if (pt_not (pt_val (k_all K T.b.all (pe_lc (own := [("command", 7)]) (by rfl) sc_is_exchange_harm.nd (k_pit K (pv 5)) (bk (own := [("command", 7)]) (N := N_is_exchange_harm) (sc := defScope s_is_exchange_harm)) (fun _ _ _ _ _ => (pgn 7 sc_is_exchange_harm.nd)) (fun _ _ _ _ _ => pts_nil) (fun _ _ _ _ _ => (pe_cal g_is_index (hr.mono (by decide)) (pa_cons (pv 7) (pa_cons (k_fld K (pv 0)) pa_nil))))))))
  (pss_one (ps_ret pe_bl))
  pss_nil)
  (pss_cons (ps_par (i := 8) (j := 9) rfl sc_is_exchange_harm.nd rfl rfl (by decide) rfl rfl (pa_cons (pv 1) (pa_cons (pe_op op_add (pv 1) (pv 2)) pa_nil)) (by rfl))
  (pss_cons (psn 10 sc_is_exchange_harm.nd (pe_op (k_catA K) (pe_op (k_catA K) (pe_op (k_catA K) (pe_op (k_catA K) (pe_slice (k_slT K) (pv 5) po_none (po_some (pv 8))) (pe_tup (pa_cons (k_ix K (pv 5) (pv 9)) pa_nil))) (pe_slice (k_slT K) (pv 5) (po_some (pe_op op_add (pv 8) pe_int)) (po_some (pv 9)))) (pe_tup (pa_cons (k_ix K (pv 5) (pv 8)) pa_nil))) (pe_slice (k_slT K) (pv 5) (po_some (pe_op op_add (pv 9) pe_int)) po_none)))
  (pss_one (ps_ret (pe_cmpR (k_neD K hr.units) (pe_cal g_end_state (hr.mono (by decide)) (pa_cons (pv 0) (pa_cons (pv 6) (pa_cons (pv 5) pa_nil)))) (pe_cal g_end_state (hr.mono (by decide)) (pa_cons (pv 0) (pa_cons (pv 6) (pa_cons (pv 10) pa_nil)))) (nomark _)))))))))), fun cn Q s0 H0 hM q Z => ?_⟩
  replace Z : Sat C cn [some (.mach k S), some (nat x), some (nat d), some (nat y), some v, none, none, none, none, none, none] [] [] s0 H0 := Z
  have no : ∀ {rho mu ts s H}, ¬ IsHm S k x d y v → Sat C cn rho mu ts s H → tRet (tC (.bl false)) { nx := fun _ H' => Q .non H', rt := Q } s H := fun hn Z => s_ret ev_bl Z fun v d' mu' H' ⟨e, _⟩ S' => q.go hM S' ⟨false, e, by simpa using hn⟩
  refine q_when (et_two (b3 := fun e0 _ => !isT e0) (ev_var rfl) (pl_kd hv) fun e0 e1 hve => et_not (et_B (ev_isT (ev_ixT (d := e0) (EvD.to (ev_var rfl) hve) ev_int (at_nat (n := 0) rfl)) (pl_kd (pl_in (n := 5) (by rw [← hve]; exact hv) e0 List.mem_cons_self))))) Z (fun hb H1 Z1 => ?_) fun hb H1 Z1 => ?_
  · refine no (fun ⟨row, s', e, _⟩ => ?_) Z1
    rw [e] at hb
    cases hb
  · have sh : ∃ rs st, v = .tup [.tup rs, st] := by
      unfold two at hb
      split at hb
      · rename_i e0 e1
        have : isT e0 = true := by simpa using hb
        obtain ⟨rs, rfl⟩ := isT_inv this
        exact ⟨rs, e1, rfl⟩
      · cases hb
    obtain ⟨rs, st, rfl⟩ := sh
    have kst := pl_kd (pl_in hv st (List.mem_cons_of_mem _ List.mem_cons_self))
    have krs : ∀ e ∈ rs, (kd e).isSome = true := fun e he => pl_kd (pl_in (pl_in hv (.tup rs) List.mem_cons_self) e he)
    refine q_bind (ev_var rfl) (bg_tup bg_name bg_name) Z1 fun s2 H2 Z2 => ?_
    refine q_when (et_or (et_test (ev_neI (ev_lenT (ev_var rfl)) (ev_add (ev_add (ev_add (ev_var rfl) (ev_var rfl)) ev_int) (ev_var rfl)))) fun _ => et_not (et_B (ev_call (f := fun x : D × Int => .bl (isIndex x.1 x.2)) (st, (S.length : Int)) (ea_cons (ev_var rfl) (ea_cons (ev_states T.cl T.nS (ev_var rfl)) ea_nil)) kst))) Z2 (fun hb H3 Z3 => ?_) fun hb H3 Z3 => ?_
    · refine no (fun ⟨row, s', e, hm⟩ => ?_) Z3
      obtain ⟨m1, m2, m3, m4⟩ := hm
      injection e with e
      injection e with e1 e2
      injection e2 with e2 _
      injection e1 with e1
      subst e1; subst e2
      have l : (nats row).length = row.length := by unfold nats; rw [List.length_map]
      dsimp only at hb
      rw [isIndex_nat, decide_eq_true m3, l, m1, decide_eq_true (by omega)] at hb
      cases hb
    · rw [Bool.or_eq_false_iff] at hb
      obtain ⟨b1, b2⟩ := hb
      have hlen : rs.length = x + d + 1 + y := by
        have : decide ((rs.length : Int) = (x : Int) + (d : Int) + 1 + (y : Int)) = true := by simpa using b1
        have := of_decide_eq_true this
        omega
      obtain ⟨s', rfl, hs'⟩ := isIndex_inv (n := S.length) (by simpa using b2 : isIndex st (S.length : Int) = true)
      refine q_when (et_not (et_B (ev_all (bs := rs.map fun e => isIndex e (k : Int)) (EvN.ev ((el_map (fun e => .bl (isIndex e (k : Int))) (evi_tup (ev_var rfl)) (by omega) fun i e he => ?_).to (by rw [List.map_map]; rfl)))))) Z3 (fun hb H4 Z4 => ?_) fun hb H4 Z4 => ?_
      · exact ⟨_, _, bg_name, by simp, fun mu' => ev_call (f := fun x : D × Int => .bl (isIndex x.1 x.2)) (e, (k : Int)) (ea_cons (ev_var rfl) (ea_cons (ev_commands T.cl T.nC (ev_var rfl)) ea_nil)) (krs e (List.mem_of_getElem? he))⟩
      · refine no (fun ⟨row, s'', e, hm⟩ => ?_) Z4
        obtain ⟨m1, m2, m3, m4⟩ := hm
        injection e with e
        injection e with e1 e2
        injection e1 with e1
        subst e1
        have : ((nats row).map fun e => isIndex e (k : Int)).all id = true := by
          rw [List.all_map, List.all_eq_true]
          intro e he
          obtain ⟨t, ht, rfl⟩ := List.mem_map.mp he
          show isIndex (nat t) (k : Int) = true
          rw [isIndex_nat, decide_eq_true (m2 t ht)]
        rw [this] at hb
        cases hb
      · have hall : (rs.map fun e => isIndex e (k : Int)).all id = true := by simpa using hb
        rw [List.all_map, List.all_eq_true] at hall
        obtain ⟨row, rfl, hrow⟩ := all_index hall
        have hl : (nats row).length = row.length := by unfold nats; rw [List.length_map]
        have hlr : row.length = x + d + 1 + y := by omega
        refine q_parD (ea_cons (ev_var rfl) (ea_cons (EvD.to (ev_add (ev_var rfl) (ev_var rfl)) (show _ = nat (x + d) from congrArg D.int (by omega))) ea_nil)) Z4 fun s5 H5 Z5 => ?_
        have gt : ∀ {j : Nat}, j < row.length → (nats row)[j]? = some (nat (row.getD j 0)) := fun {j} hj => by
          rw [List.getD_eq_getElem?_getD, List.getElem?_eq_getElem hj]
          unfold nats
          rw [List.getElem?_map, List.getElem?_eq_getElem hj]
          rfl
        have et : tn (turnd row x (x + d)) = .tup (((((nats row).take x ++ [nat (row.getD (x + d) 0)]) ++ ((nats row).drop (x + 1)).take (x + d - (x + 1))) ++ [nat (row.getD x 0)]) ++ (nats row).drop (x + d + 1)) := by
          unfold tn turnd nats
          simp [List.map_take, List.map_drop]
        have inc : ∀ {n : Nat}, (n : Int) + 1 = ((n + 1 : Nat) : Int) := fun {n} => by omega
        refine q_asgD (EvD.to (ev_catT (ev_catT (ev_catT (ev_catT (EvD.to (ev_cutT (lo := none) (hi := some (x : Int)) (ev_var rfl) eo_none (eo_some (ev_var rfl))) (by rw [cut_to])) (ev_tup (ds := [nat (row.getD (x + d) 0)]) (ea_cons (ev_ixT (ev_var rfl) (ev_var rfl) (at_nat (gt (by omega)))) ea_nil)) ?_)
          (EvD.to (ev_cutT (lo := some ((x + 1 : Nat) : Int)) (hi := some ((x + d : Nat) : Int)) (ev_var rfl) (eo_some (EvD.to (ev_add (ev_var rfl) ev_int) (by rw [inc]))) (eo_some (ev_var rfl))) (by rw [cut_mid _ (by omega) (by omega)])) ?_) (ev_tup (ds := [nat (row.getD x 0)]) (ea_cons (ev_ixT (ev_var rfl) (ev_var rfl) (at_nat (gt (by omega)))) ea_nil)) ?_)
          (EvD.to (ev_cutT (lo := some ((x + d + 1 : Nat) : Int)) (hi := none) (ev_var rfl) (eo_some (EvD.to (ev_add (ev_var rfl) ev_int) (by rw [inc]))) eo_none) (by rw [cut_from])) ?_) et.symm) Z5 fun s6 H6 Z6 => ?_
        · rw [List.length_take]; simp; omega
        · simp; omega
        · simp; omega
        · simp; omega
        · have htk : ∀ e ∈ turnd row x (x + d), e < k := fun e he => by
            have mem : ∀ j, j < row.length → row.getD j 0 ∈ row := fun j hj => by
              rw [List.getD_eq_getElem?_getD, List.getElem?_eq_getElem hj]
              exact List.getElem_mem hj
            unfold turnd at he
            simp only [List.mem_append, List.mem_singleton] at he
            rcases he with (((he | he) | he) | he) | he
            · exact hrow e (List.mem_of_mem_take he)
            · rw [he]; exact hrow _ (mem _ (by omega))
            · exact hrow e (List.mem_of_mem_drop (List.mem_of_mem_take he))
            · rw [he]; exact hrow _ (mem _ (by omega))
            · exact hrow e (List.mem_of_mem_drop he)
          refine s_ret (ev_neI (ev_call (f := fun x : (Mat × Nat) × Nat × List Nat => nat (ledN x.1.1 x.2.1 x.2.2)) ((S, k), s', row) (ea_cons (ev_var rfl) (ea_cons (ev_var rfl) (ea_cons (ev_var rfl) ea_nil))) ⟨h, hs', hrow⟩) (ev_call (f := fun x : (Mat × Nat) × Nat × List Nat => nat (ledN x.1.1 x.2.1 x.2.2)) ((S, k), s', turnd row x (x + d)) (ea_cons (ev_var rfl) (ea_cons (ev_var rfl) (ea_cons (ev_var rfl) ea_nil))) ⟨h, hs', htk⟩)) Z6 fun v d' mu' H' ⟨e, _⟩ S' => q.go hM S' ⟨_, e, ?_⟩
          dsimp only
          constructor
          · intro hb
            have hne : ¬ ((ledN S s' row : Int) = (ledN S s' (turnd row x (x + d)) : Int)) := by simpa using hb
            exact ⟨row, s', rfl, hlr, hrow, hs', fun z => hne (by rw [z])⟩
          · rintro ⟨row', s'', e', m1, m2, m3, m4⟩
            injection e' with e'
            injection e' with e1 e2
            injection e1 with e1
            injection e2 with e2 _
            have er := nats_inj e1
            have es : s' = s'' := by
              injection e2 with e2
              exact Int.ofNat.inj e2
            subst er; subst es
            simp
            intro z
            exact m4 (by omega)
end
end DL
/-! are_stairs, is_corner_paper -/
namespace DL
open PySem L2 Mth

noncomputable def tru (p : Prop) : Bool := @decide p (Classical.propDecidable p)
theorem tru_iff {p : Prop} : tru p = true ↔ p := by unfold tru; exact @decide_eq_true_iff p (Classical.propDecidable p)
theorem tru_of {p : Prop} {b : Bool} (h : b = true ↔ p) : b = tru p := by
  rw [Bool.eq_iff_iff, tru_iff]
  exact h
def St (S : Mat) (k d : Nat) (v : D) : Prop := ∃ cs : List (Nat × Nat), v = tps cs ∧ (∀ c ∈ cs, c.1 ≤ uu S k ∧ c.2 ≤ vv S ∧ L S k d c.1 c.2 = true) ∧ stairs cs = true
def Pap (S : Mat) (k d : Nat) (v : D) : Prop := ∃ (cs : List (Nat × Nat)) (hs : List D), v = .tup [tps cs, .tup hs] ∧ (∀ c ∈ cs, c.1 ≤ uu S k ∧ c.2 ≤ vv S ∧ L S k d c.1 c.2 = true) ∧ stairs cs = true ∧
  hs.length = (ctxL (uu S k) (vv S) cs).length ∧ ∀ (j : Nat) p h, (ctxL (uu S k) (vv S) cs)[j]? = some p → hs[j]? = some h → IsHm S k p.1 d p.2 h
def lt2 : D → Bool
  | .tup [.tup [.int a, .int b], .tup [.int c, .int e]] => decide (a < c) && decide (e < b)
  | _ => false
theorem all_stairs : ∀ cs : List (Nat × Nat), ((zipD (cs.map tp) ((cs.map tp).drop 1)).map lt2).all id = stairs cs
  | [] => rfl
  | [_] => rfl
  | a :: b :: r => by
    have ih := all_stairs (b :: r)
    have e : (zipD ((a :: b :: r).map tp) (((a :: b :: r).map tp).drop 1)).map lt2 = (decide ((a.1 : Int) < (b.1 : Int)) && decide ((b.2 : Int) < (a.2 : Int))) :: (zipD ((b :: r).map tp) (((b :: r).map tp).drop 1)).map lt2 := rfl
    rw [e, List.all_cons, ih]
    show ((decide ((a.1 : Int) < (b.1 : Int)) && decide ((b.2 : Int) < (a.2 : Int))) && stairs (b :: r)) = ((decide (a.1 < b.1) && decide (b.2 < a.2)) && stairs (b :: r))
    rw [decide_eq_decide.mpr (show (a.1 : Int) < (b.1 : Int) ↔ a.1 < b.1 by omega), decide_eq_decide.mpr (show (b.2 : Int) < (a.2 : Int) ↔ b.2 < a.2 by omega)]
theorem tp_inj {p q : Nat × Nat} (h : tp p = tp q) : p = q := by
  have : eqd (tp p) (tp q) = true := by rw [h, eqd_tp, decide_eq_true rfl]
  rw [eqd_tp] at this
  exact of_decide_eq_true this
theorem map_tp_inj : ∀ {a b : List (Nat × Nat)}, a.map tp = b.map tp → a = b
  | [], [], _ => rfl
  | [], _ :: _, h => by simp at h
  | _ :: _, [], h => by simp at h
  | x :: a, y :: b, h => by
    rw [List.map_cons, List.map_cons] at h
    injection h with h1 h2
    rw [tp_inj h1, map_tp_inj h2]
theorem tps_inj {a b : List (Nat × Nat)} (h : tps a = tps b) : a = b := by
  unfold tps at h
  injection h with h
  exact map_tp_inj h
section
variable {P : Program} {w : World} {K : PySem.W.Frag} {mg : Str → Option Value} {base : Heap} {C : Addr}
abbrev sp_are_stairs (C : Addr) : Sp := spF C (fun x : (Mat × Nat) × Nat × D => [.mach x.1.2 x.1.1, nat x.2.1, x.2.2])
  (fun x => Ok x.1.1 x.1.2 ∧ (1 ≤ x.2.1 ∧ x.2.1 ≤ 500) ∧ pl 7 x.2.2 = true ∧ ∀ ds, x.2.2 = .tup ds → ds.length ≤ 1000) fun x r => r = .bl (tru (St x.1.1 x.1.2 x.2.1 x.2.2))
theorem c_are_stairs (T : Txt K mg C) : Cal P w K mg base 4 "are_stairs" ["machine", "distance", "value"] (sp_are_stairs C) := T.d.are_stairs.cal fun f fd Fn => okF Fn sc_are_stairs (fun _ => rfl) fun x cdv A outer s H E hp hr => by
  have g_layers_of := c_layers_of (P := P) (w := w) (base := base) T
  have g_is_index := c_is_index (P := P) (w := w) (base := base) T
  have g_lets := c_lets (P := P) (w := w) (base := base) T
  obtain ⟨⟨S, k⟩, d, v⟩ := x
  obtain ⟨h, ⟨hd1, hd2⟩, hv, hl⟩ := hp
  dsimp only at h hd1 hd2 hv hl
  refine ⟨_, (pss_cons (ps_if (pt_not (pt_val (x_isiT T.b (pv 2))))
  (pss_one (ps_ret pe_bl))
  pss_nil)
  (pss_cons (psn 3 sc_are_stairs.nd (pe_cal g_layers_of (hr.mono (by decide)) (pa_cons (pv 0) pa_nil)))
  (pss_cons (ps_for PassesOwn.never rfl (k_pit K (pv 2)) (pgn 4 sc_are_stairs.nd)
  (pss_cons (ps_if (PW.pt (pw_or (pt_not (pt_val (x_isiT T.b (pv 4)))) (pw_or1 (pt_cmpR (k_neD K hr.units) (k_len K T.b.len (pv 4)) pe_int (nomark _)))))
  (pss_one (ps_ret pe_bl))
  pss_nil)
  (pss_cons (ps_if (PW.pt (pw_or (pt_not (pt_val (pe_cal g_is_index (hr.mono (by decide)) (pa_cons (k_ix K (pv 4) pe_int) (pa_cons (k_len K T.b.len (k_ix K (pv 3) pe_int)) pa_nil))))) (pw_or1 (pt_not (pt_val (pe_cal g_is_index (hr.mono (by decide)) (pa_cons (k_ix K (pv 4) pe_int) (pa_cons (k_len K T.b.len (k_ix K (pv 3) pe_int)) pa_nil))))))))
  (pss_one (ps_ret pe_bl))
  pss_nil)
  (pss_one (ps_if (pt_not (pt_val (pe_cal g_lets (hr.mono (by decide)) (pa_cons (pv 0) (pa_cons (pv 3) (pa_cons (k_ix K (pv 4) pe_int) (pa_cons (pv 1) (pa_cons (k_ix K (pv 4) pe_int) pa_nil))))))))
  (pss_one (ps_ret pe_bl))
  pss_nil)))))
  (pss_one (ps_ret (k_all K T.b.all (pe_lc (own := [("one", 4), ("other", 5)]) (by rfl) sc_are_stairs.nd (k_zipA K T.b.zip (pa_cons (pv 2) (pa_cons (pe_slice (k_slT K) (pv 2) (po_some pe_int) po_none) pa_nil))) (bk (own := [("one", 4), ("other", 5)]) (N := N_are_stairs) (sc := defScope s_are_stairs)) (fun _ _ _ _ _ => (k_gtup K 2 (pgs_cons (pgn 4 sc_are_stairs.nd) (pgs_cons (pgn 5 sc_are_stairs.nd) pgs_nil)))) (fun _ _ _ _ _ => pts_nil) (fun _ _ _ _ _ => (pe_and (pe_cmpR op_lt (k_ix K (pv 4) pe_int) (k_ix K (pv 5) pe_int) (nomark _)) (pe_one (pe_cmpR op_gt (k_ix K (pv 4) pe_int) (k_ix K (pv 5) pe_int) (nomark _)))))))))))), fun cn Q s0 H0 hM q Z => ?_⟩
  replace Z : Sat C cn [some (.mach k S), some (nat d), some v, none, none, none] [] [] s0 H0 := Z
  have no : ∀ {E : Ends} {rho mu ts s H}, E.rt = Q → ¬ St S k d v → Sat C cn rho mu ts s H → tRet (tC (.bl false)) E s H := fun eE hn Z => s_ret ev_bl Z fun v d' mu' H' ⟨e, _⟩ S' => by
    rw [eE]
    exact q.go hM S' (e.trans (congrArg D.bl (tru_of (by simpa using hn))))
  refine q_when (et_not (et_B (ev_isT (ev_var rfl) (pl_kd hv)))) Z (fun hb H1 Z1 => ?_) fun hb H1 Z1 => ?_
  · refine no rfl (fun ⟨cs, e, _⟩ => ?_) Z1
    rw [e] at hb
    cases hb
  · obtain ⟨ds, rfl⟩ := isT_inv (v := v) (by simpa using hb)
    have hl := hl ds rfl
    have hpl := pl_in hv
    refine q_asgD (ev_call (f := fun x : Mat × Nat => layD x.1 x.2) (S, k) (ea_cons (ev_var rfl) ea_nil) h) Z1 fun s2 H2 Z2 => ?_
    replace Z2 : Sat C cn [some (.mach k S), some (nat d), some (.tup ds), some (layD S k), none, none] [] [] s2 H2 := Z2
    have ixl : ∀ {rho : List (Option D)} {mu : Mu}, rho[3]? = some (some (layD S k)) → EvD C (tOp (rIx K) (tVar 3) (tC (.int 0))) rho mu (.lst ((lots S k).map tn)) := fun hh => ev_ixT (ds := [.lst ((lots S k).map tn), .lst ((clss S).map tn)]) (ev_var hh) ev_int (at_nat (n := 0) rfl)
    have ixc : ∀ {rho : List (Option D)} {mu : Mu}, rho[3]? = some (some (layD S k)) → EvD C (tOp (rIx K) (tVar 3) (tC (.int 1))) rho mu (.lst ((clss S).map tn)) := fun hh => ev_ixT (ds := [.lst ((lots S k).map tn), .lst ((clss S).map tn)]) (ev_var hh) ev_int (at_nat (n := 1) rfl)
    refine q_for (evi_tup (ev_var rfl)) Z2 (fun _ (_ : List (Nat × Nat)) => [some (.mach k S), some (nat d), some (.tup ds), some (layD S k), none, none]) (fun _ _ => [])
      (fun i cs => ds.take i = cs.map tp ∧ ∀ c ∈ cs, c.1 ≤ uu S k ∧ c.2 ≤ vv S ∧ L S k d c.1 c.2 = true) ⟨[], ⟨rfl, fun c z => by simp at z⟩, ⟨rfl, rfl, rfl, rfl, trivial⟩, rfl⟩ (fun i e cs tx hd hi => ?_) fun cs s3 H3 hcs Z3 => ?_
    · have he := List.mem_of_getElem? hd
      have hpe := hpl e he
      have bad : (∀ c : Nat × Nat, e = tp c → c.1 ≤ uu S k → c.2 ≤ vv S → L S k d c.1 c.2 = true → False) → ¬ St S k d (.tup ds) := fun hx ⟨cs', e1, e2, _⟩ => by
        unfold tps at e1
        injection e1 with e1
        rw [e1] at he
        obtain ⟨c, hc, ec⟩ := List.mem_map.mp he
        obtain ⟨q1, q2, q3⟩ := e2 c hc
        exact hx c ec.symm q1 q2 q3
      refine ⟨_, _, bg_name, fun s3 H3 Z3 => ?_⟩
      refine q_when (et_two' (v := e) (ev_var rfl) (pl_kd hpe)) Z3 (fun hb H4 Z4 => ?_) fun hb H4 Z4 => ?_
      · refine no rfl (bad fun c ec _ _ _ => ?_) Z4
        rw [ec] at hb
        cases hb
      · have sh : ∃ e0 e1, e = .tup [e0, e1] := by
          unfold two at hb
          split at hb
          · exact ⟨_, _, rfl⟩
          · cases hb
        obtain ⟨e0, e1, rfl⟩ := sh
        have k0 := pl_kd (pl_in hpe e0 List.mem_cons_self)
        have k1 := pl_kd (pl_in hpe e1 (List.mem_cons_of_mem _ List.mem_cons_self))
        refine q_when (et_or (et_not (et_B (ev_call (f := fun x : D × Int => .bl (isIndex x.1 x.2)) (e0, ((uu S k + 1 : Nat) : Int)) (ea_cons (ev_ixT (ds := [e0, e1]) (ev_var rfl) ev_int (at_nat (n := 0) rfl)) (ea_cons (EvD.to (ev_lenL (ixl rfl)) (by rw [List.length_map, lots_len])) ea_nil)) k0)))
          fun _ => et_not (et_B (ev_call (f := fun x : D × Int => .bl (isIndex x.1 x.2)) (e1, ((vv S + 1 : Nat) : Int)) (ea_cons (ev_ixT (ds := [e0, e1]) (ev_var rfl) ev_int (at_nat (n := 1) rfl)) (ea_cons (EvD.to (ev_lenL (ixc rfl)) (by rw [List.length_map, clss_len])) ea_nil)) k1))) Z4 (fun hb H5 Z5 => ?_) fun hb H5 Z5 => ?_
        · refine no rfl (bad fun c ec q1 q2 _ => ?_) Z5
          unfold tp at ec
          injection ec with ec
          injection ec with a1 a2
          injection a2 with a2 _
          subst a1; subst a2
          dsimp only at hb
          rw [isIndex_nat, isIndex_nat, decide_eq_true (by omega), decide_eq_true (by omega)] at hb
          cases hb
        · rw [Bool.or_eq_false_iff] at hb
          obtain ⟨b1, b2⟩ := hb
          obtain ⟨x, rfl, hx⟩ := isIndex_inv (e := e0) (n := uu S k + 1) (by simpa using b1)
          obtain ⟨y, rfl, hy⟩ := isIndex_inv (e := e1) (n := vv S + 1) (by simpa using b2)
          refine s_ifD (et_not (et_B (ev_call (f := fun x : (Mat × Nat) × Nat × Nat × Nat => .bl (L x.1.1 x.1.2 x.2.2.1 x.2.1 x.2.2.2)) ((S, k), x, d, y) (ea_cons (ev_var rfl) (ea_cons (ev_var rfl) (ea_cons (ev_fst (p := (x, y)) (ev_var rfl)) (ea_cons (ev_var rfl) (ea_cons (ev_snd (p := (x, y)) (ev_var rfl)) ea_nil))))) ⟨h, hd1, hd2⟩))) Z5 (fun hb H6 Z6 => ?_) fun hb H6 Z6 => ?_
          · refine no rfl (bad fun c ec _ _ q3 => ?_) Z6
            have := tp_inj (p := (x, y)) ec
            subst this
            dsimp only at hb q3
            rw [q3] at hb
            cases hb
          · refine ⟨cs ++ [(x, y)], ⟨?_, fun c hc => ?_⟩, Z6.weak ⟨rfl, rfl, rfl, rfl, trivial⟩⟩
            · rw [List.take_succ, hd, hi.1, List.map_append]
              rfl
            · rcases List.mem_append.mp hc with hc | hc
              · exact hi.2 c hc
              · rw [List.mem_singleton.mp hc]
                exact ⟨by show x ≤ uu S k; omega, by show y ≤ vv S; omega, by simpa using hb⟩
    · obtain ⟨e, hg⟩ := hcs
      rw [List.take_length] at e
      subst e
      refine s_ret (ev_all (bs := (zipD (cs.map tp) ((cs.map tp).drop 1)).map lt2) (EvN.ev ((el_map (fun d => .bl (lt2 d)) (evi_zipT (ev_var rfl) (EvD.to (ev_cutT (ev_var rfl) (eo_some ev_int) eo_none) (by rw [cut_tail]))) (by rw [zipD_len]; omega) fun i d hd => ?_).to (by rw [List.map_map]; rfl)))) Z3 fun v d' mu' H' ⟨e, _⟩ S' => q.go hM S' (e.trans (congrArg D.bl (tru_of ?_)))
      · obtain ⟨d1, d2, h1, h2, rfl⟩ := zipD_get hd
        obtain ⟨a, ha, rfl⟩ := tps_at h1
        rw [List.getElem?_drop] at h2
        obtain ⟨b, hb, rfl⟩ := tps_at h2
        refine ⟨_, _, bg_tup bg_name bg_name, by simp, fun mu' => ?_⟩
        exact ev_andV (ev_lt (ev_fst (ev_var rfl)) (ev_fst (ev_var rfl))) fun _ => ev_gt (ev_snd (ev_var rfl)) (ev_snd (ev_var rfl))
      · rw [all_stairs]
        constructor
        · intro hst
          exact ⟨cs, rfl, hg, hst⟩
        · rintro ⟨cs', e1, _, e3⟩
          rw [tps_inj (show tps cs = tps cs' from e1)]
          exact e3
abbrev sp_is_corner_paper (C : Addr) : Sp := spF C (fun x : (Mat × Nat) × Nat × D => [.mach x.1.2 x.1.1, nat x.2.1, x.2.2])
  (fun x => Ok x.1.1 x.1.2 ∧ (1 ≤ x.2.1 ∧ x.2.1 ≤ 500) ∧ pl 8 x.2.2 = true ∧ ∀ ds e, x.2.2 = .tup [.tup ds, e] → ds.length ≤ 1000) fun x r => r = .bl (tru (Pap x.1.1 x.1.2 x.2.1 x.2.2))
def hmz (S : Mat) (k d : Nat) : D → Prop
  | .tup [.tup [.int x, .int y], v] => IsHm S k x.toNat d y.toNat v
  | _ => False
theorem c_is_corner_paper (T : Txt K mg C) : Cal P w K mg base 7 "is_corner_paper" ["machine", "distance", "value"] (sp_is_corner_paper C) := T.d.is_corner_paper.cal fun f fd Fn => okF Fn sc_is_corner_paper (fun _ => rfl) fun x cdv A outer s H E hp hr => by
  have g_are_stairs := c_are_stairs (P := P) (w := w) (base := base) T
  have g_contexts_left := c_contexts_left (P := P) (w := w) (base := base) T
  have g_is_exchange_harm := c_is_exchange_harm (P := P) (w := w) (base := base) T
  obtain ⟨⟨S, k⟩, d, v⟩ := x
  obtain ⟨h, ⟨hd1, hd2⟩, hv, hl⟩ := hp
  dsimp only at h hd1 hd2 hv hl
  have h10 := h.n10
  have u3 := (uu_spec h).2.2
  have v3 := (vv_spec h).2.2
  refine ⟨_, (pss_cons (ps_if (PW.pt (pw_or (pt_not (pt_val (x_isiT T.b (pv 2)))) (pw_or (pt_cmpR (k_neD K hr.units) (k_len K T.b.len (pv 2)) pe_int (nomark _)) (pw_or1 (pt_not (pt_val (pe_cal g_are_stairs (hr.mono (by decide)) (pa_cons (pv 0) (pa_cons (pv 1) (pa_cons (k_ix K (pv 2) pe_int) pa_nil))))))))))
  (pss_one (ps_ret pe_bl))
  pss_nil)
  (pss_cons (ps_par (i := 3) (j := 4) rfl sc_is_corner_paper.nd rfl rfl (by decide) rfl rfl (pa_cons (pe_cal g_contexts_left (hr.mono (by decide)) (pa_cons (pv 0) (pa_cons (k_ix K (pv 2) pe_int) pa_nil))) (pa_cons (k_ix K (pv 2) pe_int) pa_nil)) (by rfl))
  (pss_cons (ps_if (PW.pt (pw_or (pt_not (pt_val (x_isiT T.b (pv 4)))) (pw_or1 (pt_cmpR (k_neD K hr.units) (k_len K T.b.len (pv 4)) (k_len K T.b.len (pv 3)) (nomark _)))))
  (pss_one (ps_ret pe_bl))
  pss_nil)
  (pss_one (ps_ret (k_all K T.b.all (pe_lc (own := [("x", 6), ("y", 7), ("harm", 5)]) (by rfl) sc_is_corner_paper.nd (k_zipA K T.b.zip (pa_cons (pv 3) (pa_cons (pv 4) pa_nil))) (bk (own := [("x", 6), ("y", 7), ("harm", 5)]) (N := N_is_corner_paper) (sc := defScope s_is_corner_paper)) (fun _ _ _ _ _ => (k_gtup K 2 (pgs_cons (k_gtup K 2 (pgs_cons (pgn 6 sc_is_corner_paper.nd) (pgs_cons (pgn 7 sc_is_corner_paper.nd) pgs_nil))) (pgs_cons (pgn 5 sc_is_corner_paper.nd) pgs_nil)))) (fun _ _ _ _ _ => pts_nil) (fun _ _ _ _ _ => (pe_cal g_is_exchange_harm (hr.mono (by decide)) (pa_cons (pv 0) (pa_cons (pv 6) (pa_cons (pv 1) (pa_cons (pv 7) (pa_cons (pv 5) pa_nil)))))))))))))), fun cn Q s0 H0 hM q Z => ?_⟩
  replace Z : Sat C cn [some (.mach k S), some (nat d), some v, none, none, none, none, none] [] [] s0 H0 := Z
  have no : ∀ {E : Ends} {rho mu ts s H}, E.rt = Q → ¬ Pap S k d v → Sat C cn rho mu ts s H → tRet (tC (.bl false)) E s H := fun eE hn Z => s_ret ev_bl Z fun v d' mu' H' ⟨e, _⟩ S' => by
    rw [eE]
    exact q.go hM S' (e.trans (congrArg D.bl (tru_of (by simpa using hn))))
  refine q_when (et_two (b3 := fun e0 _ => !tru (St S k d e0)) (ev_var rfl) (pl_kd hv) fun e0 e1 hve => et_not (et_B (ev_call (f := fun x : (Mat × Nat) × Nat × D => .bl (tru (St x.1.1 x.1.2 x.2.1 x.2.2))) ((S, k), d, e0) (ea_cons (ev_var rfl) (ea_cons (ev_var rfl) (ea_cons (ev_ixT (d := e0) (EvD.to (ev_var rfl) hve) ev_int (at_nat (n := 0) rfl)) ea_nil)))
    ⟨h, ⟨hd1, hd2⟩, pl_in (n := 7) (by rw [← hve]; exact hv) e0 List.mem_cons_self, fun ds e => hl ds e1 (by rw [hve]; exact congrArg (fun z => D.tup [z, e1]) e)⟩))) Z (fun hb H1 Z1 => ?_) fun hb H1 Z1 => ?_
  · refine no rfl (fun ⟨cs, hs, e, p1, p2, p3⟩ => ?_) Z1
    rw [e] at hb
    have : tru (St S k d (tps cs)) = true := tru_iff.mpr ⟨cs, rfl, p1, p2⟩
    dsimp only [two] at hb
    rw [this] at hb
    cases hb
  · have sh : ∃ e0 e1, v = .tup [e0, e1] ∧ St S k d e0 := by
      unfold two at hb
      split at hb
      · exact ⟨_, _, rfl, tru_iff.mp (by simpa using hb)⟩
      · cases hb
    obtain ⟨e0, e1, rfl, cs, rfl, c1, c2⟩ := sh
    have hl := hl (cs.map tp) e1 rfl
    rw [List.length_map] at hl
    have hp1 := pl_in hv e1 (List.mem_cons_of_mem _ List.mem_cons_self)
    have xl := ctx_len (uu S k) (vv S) cs
    have xb := ctxL_le (u := uu S k) (v := vv S) fun c hc => ⟨(c1 c hc).1, (c1 c hc).2.1⟩
    refine q_parD (ea_cons (ev_call (f := fun x : (Mat × Nat) × List (Nat × Nat) => tps (ctxL (uu x.1.1 x.1.2) (vv x.1.1) x.2)) ((S, k), cs) (ea_cons (ev_var rfl) (ea_cons (ev_ixT (ds := [tps cs, e1]) (ev_var rfl) ev_int (at_nat (n := 0) rfl)) ea_nil)) ⟨h, c2, hl⟩) (ea_cons (ev_ixT (ds := [tps cs, e1]) (ev_var rfl) ev_int (at_nat (n := 1) rfl)) ea_nil)) Z1 fun s2 H2 Z2 => ?_
    replace Z2 : Sat C cn [some (.mach k S), some (nat d), some (.tup [tps cs, e1]), some (tps (ctxL (uu S k) (vv S) cs)), some e1, none, none, none] [] [] s2 H2 := Z2
    cases hT : isT e1 with
    | false =>
      refine q_when (et_or (a := true) (b := false) (EtD.to (et_not (et_B (ev_isT (ev_var rfl) (pl_kd hp1)))) (by rw [hT]; rfl)) fun z => by cases z) Z2 (fun _ H3 Z3 => ?_) fun z => by cases z
      refine no rfl (fun ⟨cs', hs, e, _⟩ => ?_) Z3
      injection e with e
      injection e with _ e
      injection e with e _
      rw [e] at hT
      cases hT
    | true =>
      obtain ⟨hs, rfl⟩ := isT_inv hT
      refine q_when (et_or (a := false) (EtD.to (et_not (et_B (ev_isT (ev_var rfl) (pl_kd hp1)))) rfl) fun _ => et_test (ev_neI (ev_lenT (ev_var rfl)) (ev_lenT (ev_var rfl)))) Z2 (fun hb H3 Z3 => ?_) fun hb H3 Z3 => ?_
      · refine no rfl (fun ⟨cs', hs', e, _, _, p3, _⟩ => ?_) Z3
        injection e with e
        injection e with e1 e
        injection e with e _
        injection e with e
        subst e
        rw [← tps_inj e1] at p3
        rw [Bool.false_or, List.length_map, p3, decide_eq_true rfl] at hb
        cases hb
      · have hlen : hs.length = (ctxL (uu S k) (vv S) cs).length := by
          rw [Bool.false_or, List.length_map] at hb
          have : decide ((hs.length : Int) = ((ctxL (uu S k) (vv S) cs).length : Int)) = true := by simpa using hb
          have := of_decide_eq_true this
          omega
        refine s_ret (ev_all (bs := (zipD ((ctxL (uu S k) (vv S) cs).map tp) hs).map fun z => tru (hmz S k d z)) (EvN.ev ((el_map (fun z => .bl (tru (hmz S k d z))) (evi_zipT (ev_var rfl) (ev_var rfl)) (by rw [zipD_len]; omega) fun i z hz => ?_).to (by rw [List.map_map]; rfl)))) Z3 fun v d' mu' H' ⟨e, _⟩ S' => q.go hM S' (e.trans (congrArg D.bl (tru_of ?_)))
        · obtain ⟨d1, d2, h1, h2, rfl⟩ := zipD_get hz
          obtain ⟨⟨x, y⟩, hxy, rfl⟩ := tps_at h1
          obtain ⟨x1, y1⟩ := xb _ (List.mem_of_getElem? hxy)
          dsimp only at x1 y1
          refine ⟨_, _, bg_tup (bg_tup bg_name bg_name) bg_name, by simp, fun mu' => ?_⟩
          refine Ev.imp (ev_callP ((S, k), (x, d, y), d2) (ea_cons (ev_var rfl) (ea_cons (ev_var rfl) (ea_cons (ev_var rfl) (ea_cons (ev_var rfl) (ea_cons (ev_var rfl) ea_nil))))) ⟨h, ⟨by show x ≤ 500; omega, hd1, hd2, by show y ≤ 500; omega⟩, pl_in (n := 6) hp1 d2 (List.mem_of_getElem? h2)⟩) fun d' mu' ⟨⟨b, e, hb⟩, e2⟩ => ⟨?_, e2⟩
          exact e.trans (congrArg D.bl (tru_of hb))
        · rw [List.all_map, List.all_eq_true]
          constructor
          · intro hall
            refine ⟨cs, hs, rfl, c1, c2, hlen, fun j p hh hj hj2 => ?_⟩
            have hz : (zipD ((ctxL (uu S k) (vv S) cs).map tp) hs)[j]? = some (.tup [tp p, hh]) := by
              unfold zipD
              rw [List.getElem?_zipWith, List.getElem?_map, hj, hj2]
              rfl
            exact tru_iff.mp (hall _ (List.mem_of_getElem? hz))
          · rintro ⟨cs', hs', e1, _, _, _, p4⟩ z hz
            injection e1 with e1
            injection e1 with e1 e2
            injection e2 with e2 _
            injection e2 with e2
            subst e2
            have ec := tps_inj e1
            subst ec
            obtain ⟨j, hj⟩ := List.mem_iff_getElem?.mp hz
            obtain ⟨d1, d2, h1, h2, rfl⟩ := zipD_get hj
            obtain ⟨p, hp, rfl⟩ := tps_at h1
            exact tru_iff.mpr (p4 j p d2 hp h2)
end
end DL
/-! set(list): of ints; of many pairs of which few differ -/
namespace DL
open PySem PySem.Spec PyProof.Rows L2

section
variable {P : Program} {w : World} {A : Around} {E : Value → Shared → Prop} {s : Shared}
/-- the set as it is made -/
def setNew (w : World) : Obj := { cls := .type "set", dict := none, data := .set #[] 0 (.fresh 0 0 (!w.params.followText "set-order")) }
def with0 (w : World) (h : Heap) : Heap := h.push (setNew w)
def with1 (w : World) (h : Heap) (l : Addr) : Heap := (with0 w h).push { cls := .type "list_iterator", data := .fields #[.ref l, .int 0 0] }
theorem with0_at (h : Heap) : (with0 w h).get? h.objs.size = some (setNew w) := Heap.get?_push_size _ rfl
theorem with0_len (h : Heap) : (with0 w h).objs.size = h.objs.size + 1 := Heap.size_push ..
/-- set(xs) by what its loop does -/
theorem set_from {l : Addr} {items : Array Value} (G : Heap → Prop) {Q : Value → Shared → Prop} (hl : s.heap.IsList l items)
    (loop : ∀ R : Result → Shared → Prop, (∀ h' tk, G h' → (∀ b o, s.heap.get? b = some o → h'.get? b = some o) → R (.ok (.ret .none)) { s with heap := h', toks := tk }) →
      codeAny (model P w) A.in1.in1 (.builtin "set.update.loop" ⟨[.ref s.heap.objs.size, .ref (with0 w s.heap).objs.size], []⟩) R { s with heap := with1 w s.heap l })
    (fin : ∀ h' tk, G h' → (∀ b o, s.heap.get? b = some o → h'.get? b = some o) → Q (.ref s.heap.objs.size) { s with heap := h', toks := tk }) :
    wpAny (model P w) A (call (.type "set") [.ref l]) Q E s := by
  obtain ⟨mc, mt, hmro⟩ := F.called_set.mro
  have f1 := F.called_set.made
  have f2 := F.called_set.sub
  refine wpAny_call (codeAny_of_tree ?_)
  show wpAny _ _ (callAny (.type "set") ⟨[.ref l], []⟩) _ _ _
  refine wpAny_pure ⟨Code.quiet_builtin _ (by decide +kernel), codeAny_builtin F.entry_type_call ?_⟩
  rw [Around.under_plain (weight_type_call_type "set" [.ref l] []) rfl]
  have f3 := F.called_set.notType
  have f4 := F.called_set.canCreate
  have f5 := F.typeCall_set_1 (.ref l)
  repeat (any_goals (first | assumption | wp_step))
  refine codeAny_mono (code_set_led1 (.ref l) (E := E) (Q₁ := fun ob t => ob = .ref s.heap.objs.size ∧ t = { s with heap := with0 w s.heap }) ⟨rfl, rfl⟩) fun r t hr => ?_
  cases r with
  | error e => exact hr
  | ok fl =>
    cases fl with
    | ret ob =>
      obtain ⟨eo, et⟩ := hr
      subst eo; subst et
      have atS : (with0 w s.heap).get? s.heap.objs.size = some { cls := .type "set", dict := none, data := .set #[] 0 (.fresh 0 0 (!w.params.followText "set-order")) } := with0_at s.heap
      have tyS : Shared.TypeIs { s with heap := with0 w s.heap } (.ref s.heap.objs.size) "set" := ⟨_, with0_at s.heap, rfl⟩
      have f6 := F.called_set.init.lookup
      have f7 := F.called_set.init.bind (.ref s.heap.objs.size)
      repeat (any_goals (first | assumption | wp_step))
      refine codeAny_mono (codeAny_call_builtin (R := wants (fun r t => r = .none ∧ ∃ h' tk, t = { s with heap := h', toks := tk } ∧ G h' ∧ ∀ b o, s.heap.get? b = some o → h'.get? b = some o) E) F.called_set.init.plain F.entry_set_init (check_set_init_1 tyS ?_)) fun r t hr => ?_
      · obtain ⟨ol, hol, hc, nl, hd⟩ := hl
        obtain ⟨c0, d0, dt0, sl0⟩ := ol
        simp only at hc hd
        subst hc; subst hd
        have hol' : (with0 w s.heap).get? l = some { cls := .type "list", dict := d0, data := .seq items nl, slots := sl0 } := Heap.get?_push_of_some _ hol
        have f8 := F.sub_list_set
        have f9 := F.sub_list_frozenset
        have f10 : (Value.type "list" == Value.type "dict") = false := by decide
        have hl1 : (with0 w s.heap).IsList l items := ⟨_, hol', rfl, nl, rfl⟩
        unfold Builtin.«set.__init__» noKeywords Builtin.Frozenset.updateFrom
        generalize hPI : pyIter = PI
        wp_walk
        subst hPI
        refine wpAny_pyIter_list (s := { s with heap := with0 w s.heap }) hl1 ?_
        refine wpAny_bind (wpAny_runValue ?_)
        refine loop _ fun h' tk hG hk => ?_
        show wpAny _ _ _ _ _ _
        refine wpAny_pure ?_
        show wpAny _ _ (ret Value.none) _ _ _
        exact wpAny_pure ⟨rfl, h', tk, rfl, hG, hk⟩
      · cases r with
        | error e => exact hr
        | ok fl =>
          cases fl with
          | ret r =>
            obtain ⟨er, h', tk, et, hG, hk⟩ := hr
            subst er; subst et
            repeat (any_goals (first | assumption | wp_step))
            exact fin h' tk hG hk
          | _ => exact hr.elim
    | _ => exact hr.elim
end
end DL
/-! set(list) as rules, upon data -/
namespace DL
open PySem PySem.Spec PyProof.Rows L2

section
variable {P : Program} {w : World} {A : Around} {E : Value → Shared → Prop} {s : Shared}
theorem none_up {h : Heap} {b : Addr} (hb : h.objs.size ≤ b) : h.get? b = none := by
  cases q : h.get? b with
  | none => rfl
  | some o => exact absurd (Heap.lt_size q) (Nat.not_lt.mpr hb)
theorem set_ints {l : Addr} {items : Array Value} (ns : List Int) {Q : Value → Shared → Prop} (hd : A.handled = none) (hl : s.heap.IsList l items) (hi : IntsAre items.toList ns) (hb : ns.length + 1 < scanBound)
    (fin : ∀ h' tk c, SetR w h' s.heap.objs.size (fun j => decide (j ∈ ns)) c → c ≤ ns.length → (∀ b o, s.heap.get? b = some o → h'.get? b = some o) → Q (.ref s.heap.objs.size) { s with heap := h', toks := tk }) :
    wpAny (model P w) A (call (.type "set") [.ref l]) Q E s := by
  have size : items.size = ns.length := by have := IntsAre.length hi; rwa [Array.length_toList] at this
  refine set_from (G := fun h' => ∃ c, SetR w h' s.heap.objs.size (fun j => decide (j ∈ ns)) c ∧ c ≤ ns.length) hl (fun R hR => ?_) fun h' tk ⟨c, a, b⟩ k => fin h' tk c a b k
  have lt : l < s.heap.objs.size := Heap.lt_size hl.choose_spec.1
  have hl1 : (with0 w s.heap).IsList l items := hl.push _
  have ne : l ≠ (with0 w s.heap).objs.size := by rw [with0_len]; exact Nat.ne_of_lt (Nat.lt_succ_of_lt lt)
  refine set_update_ints ((Walks.list (by simp [hd]) _ l ne items).toS) s.heap.objs.size (by simp only [List.mem_cons, List.not_mem_nil, or_false, not_or]; rw [with0_len]; exact ⟨Nat.ne_of_lt (Nat.lt_succ_self _), Nat.ne_of_gt lt⟩) ns size hb (fun i v hv => ?_) (items.size - 0) 0 _ rfl (Nat.zero_le _) ⟨⟨_, Heap.get?_push_size _ rfl, rfl, rfl⟩, hl1.push _⟩
    ⟨0, Nat.le_refl 0, setR_new_at (Heap.get?_push_of_some _ (with0_at s.heap))⟩ fun t c mv hc hS => ?_
  · have hlt : i < ns.length := by rw [← size]; exact (Array.getElem?_eq_some_iff.mp hv).1
    obtain ⟨tk, e⟩ := PyProof.Rows.IntsAre.int_at hi i v (by rw [Array.getElem?_toList]; exact hv)
    exact ⟨ns[i], tk, List.getElem?_eq_getElem hlt, by rw [e, List.getD_eq_getElem?_getD, List.getElem?_eq_getElem hlt]; rfl⟩
  · obtain ⟨h', gs, dr, tk, os⟩ := t
    obtain rfl : gs = s.gens := mv.gens
    obtain rfl : dr = s.drawn := mv.drawn
    obtain rfl : os = s.os := mv.os
    refine hR h' tk ⟨c, hS, by omega⟩ fun b o e => ?_
    have lb := Heap.lt_size e
    refine mv.heap b o (by simp only [List.mem_cons, List.not_mem_nil, or_false, not_or]; rw [with0_len]; exact ⟨Nat.ne_of_lt lb, Nat.ne_of_lt (Nat.lt_succ_of_lt lb)⟩) (Heap.get?_push_of_some _ (Heap.get?_push_of_some _ e))
/-- the loop over tuples of ints, where few differ -/
theorem upd_tups {I : Addr} {fp wr : List Addr} {G : Array GenState → Array GenState → Prop} {n : Nat} {Pv : Nat → Value → Prop} {St : Nat → Shared → Prop} {R : Result → Shared → Prop}
    (W : WalksS P w A.in1 I fp wr G n Pv St) (a : Addr) (ha : a ∉ fp) (ks : List (Addr × List Int)) (hn : n = ks.length) (few : ∀ L : List (Addr × List Int), (L.map (·.2)).Nodup → (∀ p ∈ L, p ∈ ks) → L.length < 63) (val : ∀ i v, Pv i v → ∃ p, ks[i]? = some p ∧ v = .ref p.1)
    (h0 : Heap) (at0 : ∀ p ∈ ks, IsT P w h0 p.2 p.1) (a0 : h0.get? a = none) (w0 : ∀ b ∈ wr, h0.get? b = none) (hu : A.in1.units < cLine) :
    ∀ (m i : Nat) (t : Shared), n - i = m → i ≤ n → St i t → (∀ b o, h0.get? b = some o → t.heap.get? b = some o) → (∃ L es ep tb, SetTR P w t.heap a L es ep tb ∧ Got ks i L) →
      (∀ t' L es ep tb, Moved (a :: wr) G t t' → SetTR P w t'.heap a L es ep tb → Got ks n L → (∀ b o, h0.get? b = some o → t'.heap.get? b = some o) → R (.ok (.ret .none)) t') →
      codeAny (model P w) A (.builtin "set.update.loop" ⟨[.ref a, .ref I], []⟩) R t := by
  have aw : a ∉ wr := fun z => ha (W.sub _ z)
  have wider : ∀ b ∈ wr, b ∈ a :: wr := fun b z => List.mem_cons_of_mem _ z
  have still : ∀ {t t' : Shared}, Moved wr G t t' → (∀ b o, h0.get? b = some o → t.heap.get? b = some o) → ∀ b o, h0.get? b = some o → t'.heap.get? b = some o := fun mv k b o e =>
    mv.heap b o (fun z => by rw [w0 b z] at e; cases e) (k b o e)
  intro m
  induction m with
  | zero =>
    intro i t em hi st k ⟨L, es, ep, tb, S, g⟩ hR
    obtain rfl : i = n := by omega
    refine codeAny_builtin F.entry_set_update_loop ?_
    rw [Around.under_plainId F.plain_set_update_loop _]
    show wpAny _ A.in1 (pyNext (.ref I) >>= _) _ _ t
    refine wpAny_bind (W.done t _ _ st fun t' mv => ?_)
    have k' := still mv k
    exact wpAny_pure (hR t' L es ep tb (mv.mono wider) (S.keep (fun o e => mv.heap a o aw e) fun p hp => isT_keep (at0 p (List.mem_of_mem_take (g.sub p hp))) k') g k')
  | succ m ih =>
    intro i t em hi st k ⟨L, es, ep, tb, S, g⟩ hR
    have lt : i < n := by omega
    refine codeAny_builtin F.entry_set_update_loop ?_
    rw [Around.under_plainId F.plain_set_update_loop _]
    show wpAny _ A.in1 (pyNext (.ref I) >>= _) _ _ t
    refine wpAny_bind (W.item i t _ _ lt st fun v t' hP st' mv => ?_)
    obtain ⟨p, hp, rfl⟩ := val i v hP
    have k' := still mv k
    have inks : ∀ p ∈ L, p ∈ ks := fun p hp => List.mem_of_mem_take (g.sub p hp)
    have S' := S.keep (fun o e => mv.heap a o aw e) fun q hq => isT_keep (at0 q (inks q hq)) k'
    have T' : IsT P w t'.heap p.2 p.1 := isT_keep (at0 p (List.mem_of_getElem? hp)) k'
    show wpAny _ A.in1 (holding [Value.ref p.1] (setAdd a (.ref p.1)) >>= _) _ _ t'
    refine wpAny_bind (wpAny_holding ?_)
    unfold setAdd
    refine wpAny_holding (wpAny_bind (wpAny_pyHash_tuple hu T' ?_))
    refine add_at (s := { t' with toks := t'.toks + (p.2.length + 1) }) S' T' hu (by have := few L S.nd inks; omega) fun b h' L' es' ep' tb' sb S2 c1 c2 => ?_
    have g' : Got ks (i + 1) L' := (Classical.em (p.2 ∈ L.map (·.2))).elim (fun z => by rw [c1 z]; exact g.same hp z) fun z => g.more hp (c2 z)
    have k2 : ∀ b o, h0.get? b = some o → h'.get? b = some o := fun b o e => (sb.2 b (fun z => by rw [z, a0] at e; cases e)).trans (k' b o e)
    refine wpAny_pure ⟨plainId_quiet F.plain_set_update_loop _, ih (i + 1) _ (by omega) lt (W.frame _ t' _ _ st' (Nat.le_add_right _ _) fun b hb o e => (sb.2 b fun z => ha (z ▸ hb)).trans e) k2 ⟨L', es', ep', tb', S2, g'⟩ fun t2 L2 es2 ep2 tb2 mv2 S3 g3 k3 => ?_⟩
    exact hR t2 L2 es2 ep2 tb2 (Moved.trans W.gtrans ((mv.mono wider).then_heap (Nat.le_add_right _ _) fun b o hb e => (sb.2 b fun z => hb (z ▸ List.mem_cons_self)).trans e) mv2) S3 g3 k3
theorem set_tups {l : Addr} {items : Array Value} (ks : List (Addr × List Int)) {Q : Value → Shared → Prop} (hd : A.handled = none) (hl : s.heap.IsList l items) (hi : items.toList = ks.map fun p => Value.ref p.1)
    (at0 : ∀ p ∈ ks, IsT P w s.heap p.2 p.1) (few : ∀ L : List (Addr × List Int), (L.map (·.2)).Nodup → (∀ p ∈ L, p ∈ ks) → L.length < 63) (hu : A.units + 3 < cLine)
    (fin : ∀ h' tk L, SetT0 P w h' s.heap.objs.size L → Got ks ks.length L → (L.map (·.2)).Nodup → (∀ b o, s.heap.get? b = some o → h'.get? b = some o) → Q (.ref s.heap.objs.size) { s with heap := h', toks := tk }) :
    wpAny (model P w) A (call (.type "set") [.ref l]) Q E s := by
  have size : items.size = ks.length := by have := congrArg List.length hi; rwa [Array.length_toList, List.length_map] at this
  refine set_from (w := w) (G := fun h' => ∃ L, SetT0 P w h' s.heap.objs.size L ∧ Got ks ks.length L ∧ (L.map (·.2)).Nodup) hl (fun R hR => ?_) fun h' tk ⟨L, a, b, c⟩ k => fin h' tk L a b c k
  have lt : l < s.heap.objs.size := Heap.lt_size hl.choose_spec.1
  have hl1 : (with0 w s.heap).IsList l items := hl.push _
  have ne : l ≠ (with0 w s.heap).objs.size := by rw [with0_len]; exact Nat.ne_of_lt (Nat.lt_succ_of_lt lt)
  refine upd_tups ((Walks.list (by simp [hd]) _ l ne items).toS) s.heap.objs.size (by simp only [List.mem_cons, List.not_mem_nil, or_false, not_or]; rw [with0_len]; exact ⟨Nat.ne_of_lt (Nat.lt_succ_self _), Nat.ne_of_gt lt⟩) ks size few (fun i v hv => ?_) s.heap at0 (none_up (Nat.le_refl _)) (fun b hb => none_up (by rw [List.mem_singleton.mp hb, with0_len]; exact Nat.le_succ _)) hu
    (items.size - 0) 0 _ rfl (Nat.zero_le _) ⟨⟨_, Heap.get?_push_size _ rfl, rfl, rfl⟩, hl1.push _⟩ (fun b o e => Heap.get?_push_of_some _ (Heap.get?_push_of_some _ e)) ⟨[], #[], 0, _, setTR_fresh (Heap.get?_push_of_some _ (with0_at s.heap)), Got.zero ks⟩ fun t L es ep tb mv S g k => ?_
  · have q : items.toList[i]? = some v := by rw [Array.getElem?_toList]; exact hv
    rw [hi, List.getElem?_map] at q
    cases e : ks[i]? with
    | none => rw [e] at q; cases q
    | some p => rw [e] at q; exact ⟨p, rfl, (Option.some.inj q).symm⟩
  · obtain ⟨h', gs, dr, tk, os⟩ := t
    obtain rfl : gs = s.gens := mv.gens
    obtain rfl : dr = s.drawn := mv.drawn
    obtain rfl : os = s.os := mv.os
    rw [size] at g
    exact hR h' tk ⟨L, S.t0, g, S.nd⟩ k
end
section
variable {X : Cx}
def rSetIs (K : PySem.W.Frag) (w : World) : List V → Hp → VK → Prop := fun xs H Q => ∃ (l : Addr) (ns : List Int), xs = [.ref l] ∧ SqL K H l (ns.map V.int) ∧ ns.length ≤ 1000 ∧ ∀ a c, H a = none → c ≤ ns.length → Q (.ref a) (upd H a (SetO w a (fun j => decide (j ∈ ns)) c))
theorem cr_setIs (hc : X.calm = true) : CallR X (.type "set") (rSetIs X.K X.w) := by
  intro pins s σ H xs us Q I r h
  obtain ⟨l, ns, rfl, hl, hn, q⟩ := h
  rw [Vals.ref1 r]
  obtain ⟨its, rv, pl, hz⟩ := I.list hl
  refine set_ints ns (I.ok.hd hc) pl.isList (by simpa using intsAre_of rv) (by unfold scanBound; omega) fun h' tk c R lc k => ?_
  exact ⟨.ref s.heap.objs.size, _, I.laid (t' := tk) k (Nat.le_refl _) (setO_new R), rfl, q _ c (I.hok.fresh (Nat.le_refl _)) lc⟩
def rSetPs (K : PySem.W.Frag) (P : Program) (w : World) : List V → Hp → VK → Prop := fun xs H Q => ∃ (l : Addr) (ks : List (Addr × List Int)), xs = [.ref l] ∧ SqL K H l (ks.map fun p => V.ref p.1) ∧ (∀ p ∈ ks, SqT K H p.1 (p.2.map V.int)) ∧
  (∀ L : List (Addr × List Int), (L.map (·.2)).Nodup → (∀ p ∈ L, p ∈ ks) → L.length < 63) ∧ ∀ a L, H a = none → (∀ p ∈ L, p ∈ ks) → (∀ p ∈ ks, p.2 ∈ L.map (·.2)) → (L.map (·.2)).Nodup → Q (.ref a) (upd H a (SetTO P w a L))
theorem cr_setPs (hc : X.calm = true) (hu : X.A.units + 64 < cLine) : CallR X (.type "set") (rSetPs X.K X.prog X.w) := by
  intro pins s σ H xs us Q I r h
  obtain ⟨l, ks, rfl, hl, hk, few, q⟩ := h
  rw [Vals.ref1 r]
  obtain ⟨its, rv, pl, hz⟩ := I.list hl
  refine set_tups (P := X.prog) (w := X.w) ks (I.ok.hd hc) pl.isList (by simpa using refs_of_vals rv) (fun p hp => I.isT (hk p hp)) few (by omega) fun h' tk L T g nd k => ?_
  exact ⟨.ref s.heap.objs.size, _, I.laid (t' := tk) k (Nat.le_refl _) (setTO_new T), rfl, q _ L (I.hok.fresh (Nat.le_refl _)) (fun p hp => List.mem_of_mem_take (g.sub p hp)) (fun p hp => g.all p (by rw [List.take_length]; exact hp)) nd⟩
end
section
variable {C : Addr} {c : Cn} {P : Program} {K : PySem.W.Frag} {w : World} {rho : List (Option D)} {mu : Mu} {ts : List (V × D)} {s : L2.St} {F H F' H' : Hp} {v : V} {d d1 d2 : D} {te ta tb : TE} {ds es : List D}
theorem ev_setIs {ns : List Int} (ha : EvD C ta rho mu (.lst (ns.map D.int))) (hn : ns.length ≤ 1000) : Ev C (tCB (rSetIs K w) (tCons ta tNil)) rho mu fun d mu' => ∃ p, d = .ptr p ∧ mu' = (p, .any (setI w p ns)) :: mu := fun c ts s H Q S q => ha.run S fun v H1 S1 => by
  obtain ⟨F, T⟩ := S1
  obtain ⟨l, xs, e, hx, hs⟩ := T.top.lst_inv
  have ex := hs.ints_inv
  refine ⟨l, ns, by rw [e], SqL.of (by rw [← ex]; exact T.sub _ _ hx), hn, fun a k hp hk => ?_⟩
  have T2 := T.ownAny (q := setI w a ns) hp (o := SetO w a (fun j => decide (j ∈ ns)) k) ⟨fun j => decide (j ∈ ns), k, rfl, fun j => decide_eq_true_iff, hk⟩
  exact q (.ref a) (.ptr a) ((a, .any (setI w a ns)) :: mu) _ ⟨a, rfl, rfl⟩ ⟨F, T2.fewer fun p hp => by
    simp only [List.mem_cons] at hp ⊢
    rcases hp with h | h
    · exact .inl h
    · exact .inr (.inr h)⟩
theorem keys_of : ∀ {ps : List (Nat × Nat)} {xs : List V}, DRs C F xs (ps.map tp) → ∃ ks : List (Addr × List Int), xs = ks.map (fun p => V.ref p.1) ∧ ks.map (·.2) = ps.map kp ∧ ∀ p ∈ ks, F p.1 = some (.tup (p.2.map V.int))
  | [], [], _ => ⟨[], rfl, rfl, fun p z => by cases z⟩
  | [], _ :: _, h => absurd h.1 (by simp)
  | _ :: _, [], h => absurd h.1 (by simp)
  | p :: ps, x :: xs, h => by
    rw [List.map_cons] at h
    obtain ⟨a, e, ha⟩ := h.head.kp_inv
    obtain ⟨ks, e1, e2, e3⟩ := keys_of h.tail
    refine ⟨(a, kp p) :: ks, by rw [e, e1]; rfl, by rw [List.map_cons, List.map_cons, e2], fun q hq => ?_⟩
    rcases List.mem_cons.mp hq with z | z
    · subst z; exact ha
    · exact e3 q z
theorem image_of {α β : Type} {f : α → β} {l : List α} : ∀ {m : List β}, (∀ x ∈ m, x ∈ l.map f) → ∃ qs : List α, m = qs.map f ∧ ∀ q ∈ qs, q ∈ l
  | [], _ => ⟨[], rfl, fun q z => by cases z⟩
  | x :: m, h => by
    obtain ⟨q, hq, e⟩ := List.mem_map.mp (h x List.mem_cons_self)
    obtain ⟨qs, e1, e2⟩ := image_of fun y hy => h y (List.mem_cons_of_mem _ hy)
    refine ⟨q :: qs, by rw [List.map_cons, e, ← e1], fun z hz => ?_⟩
    rcases List.mem_cons.mp hz with z1 | z1
    · rw [z1]; exact hq
    · exact e2 z z1
theorem ev_setPs {ps : List (Nat × Nat)} (ha : EvD C ta rho mu (.lst (ps.map tp))) (few : ∀ qs : List (Nat × Nat), qs.Nodup → (∀ q ∈ qs, q ∈ ps) → qs.length < 63) : Ev C (tCB (rSetPs K P w) (tCons ta tNil)) rho mu fun d mu' => ∃ p, d = .ptr p ∧ mu' = (p, .any (setP P w p ps)) :: mu := fun c ts s H Q S q => ha.run S fun v H1 S1 => by
  obtain ⟨F, T⟩ := S1
  obtain ⟨l, xs, e, hx, hs⟩ := T.top.lst_inv
  obtain ⟨ks, e1, e2, e3⟩ := keys_of hs
  subst e1
  refine ⟨l, ks, by rw [e], SqL.of (T.sub _ _ hx), fun p hp => SqT.of (T.sub _ _ (e3 p hp)), fun L nd sub => ?_, fun a L hp sub all nd => ?_⟩
  · obtain ⟨qs, f1, f2⟩ := image_of (f := kp) (l := ps) (m := L.map (·.2)) fun x hx => by
      obtain ⟨p, hp, e⟩ := List.mem_map.mp hx
      rw [← e2, ← e]
      exact List.mem_map_of_mem (sub p hp)
    have := few qs (List.Pairwise.of_map kp (fun _ _ hne e => hne (congrArg kp e)) (f1 ▸ nd)) f2
    have l1 := congrArg List.length f1
    rw [List.length_map, List.length_map] at l1
    omega
  · have T2 := T.ownAny (q := setP P w a ps) hp ⟨L, rfl, fun p hp => e3 p (sub p hp), fun k => ⟨fun hk => ?_, fun hk => ?_⟩, ?_⟩
    · exact q (.ref a) (.ptr a) ((a, .any (setP P w a ps)) :: mu) _ ⟨a, rfl, rfl⟩ ⟨F, T2.fewer fun p hp => by
        simp only [List.mem_cons] at hp ⊢
        rcases hp with h | h
        · exact .inl h
        · exact .inr (.inr h)⟩
    · obtain ⟨p, hp, e⟩ := List.mem_map.mp hk
      rw [← e2, ← e]
      exact List.mem_map_of_mem (sub p hp)
    · rw [← e2] at hk
      obtain ⟨p, hp, e⟩ := List.mem_map.mp hk
      rw [← e]
      exact all p hp
    · have n1 : L.Nodup := List.Pairwise.of_map (·.2) (fun _ _ hne e => hne (congrArg (·.2) e)) nd
      have l1 := n1.length_le_of_subset fun p hp => sub p hp
      have l2 := congrArg List.length e2
      rw [List.length_map, List.length_map] at l2
      omega
end
section
variable {X : Cx} {a : Expr} {ta : TE} {pos p : Pos}
theorem k_setI (K : PySem.W.Frag) (w : World) (hm : X.mg "set" = none) (ha : PE X a ta) (hK : X.K = K := by rfl) (hw : X.w = w := by rfl) (hc : X.calm = true := by rfl) (hg : Gl X "set" := by rfl) (he : starEach [a] X.env = (false, eval a X.env) :: starEach [] X.env := by rfl) : PE X (.Call (.Name "set" p) [a] [] pos) (tCB (rSetIs K w) (tCons ta tNil)) := by
  subst hK; subst hw
  exact x1T (cr_setIs hc) hm (by decide +kernel) ha hg (he := he)
theorem x_setP (hm : X.mg "set" = none) (hu : X.A.units + 64 < cLine) (ha : PE X a ta) (hc : X.calm = true := by rfl) (hg : Gl X "set" := by rfl) (he : starEach [a] X.env = (false, eval a X.env) :: starEach [] X.env := by rfl) : PE X (.Call (.Name "set" p) [a] [] pos) (tCB (rSetPs X.K X.prog X.w) (tCons ta tNil)) := x1T (cr_setPs hc hu) hm (by decide +kernel) ha hg (he := he)
end
end DL
/-! list.index, list.pop upon data -/
namespace DL
open PySem PySem.Spec PyProof.Rows L2

theorem hu65 {k : Nat} {A : Around} (r : Room k A) : A.units + 65 < cLine := by have := r.un; omega
section
variable {X : Cx} {o e : Expr} {to : TE} {t : TA} {apos cpos : Pos}
theorem k_index (K : PySem.W.Frag) (hu : X.A.units + 65 < cLine) (ho : PE X o to) (ha : PA X [e] t) (hK : X.K = K := by rfl)
    (hbase : attributeBase o "index" X.env (eval o X.env) = eval o X.env := by rfl)
    (hfew : ((backTo cpos (starEach [e] X.env)).all (fun x => !x.1) && (backToKw cpos (keywordEach [] X.env)).all (fun x => x.1.isSome) && decide ([e].length + ([] : List Keyword).length + (if ([] : List Keyword).isEmpty then 0 else 1) < 30)) = true := by rfl)
    (hline : (apos.endLine == cpos.line) = true := by rfl) (hs : starEach [e] X.env = (false, eval e X.env) :: starEach [] X.env := by rfl) (hplain : (backTo cpos (starEach [] X.env)).any (·.1) = false := by rfl) :
    PE X (.Call (.Attribute o "index" apos) [e] [] cpos) (tBM K "list" (rIndexD K) to t) := by
  subst hK
  exact pe_bm PySem.F.plainAttrs_list PySem.F.slot_list_index PySem.F.type_list_index (mt_indexD hu) ho ha hbase hfew hline hs hplain
end
section
variable {C : Addr} {c : Cn} {K : PySem.W.Frag} {rho : List (Option D)} {mu : Mu} {ts : List (V × D)} {s : L2.St} {F H F' H' : Hp} {v : V} {d : D} {te ta tb : TE} {ds es : List D} {a : Addr}
def ln (l : List Nat) : D := .lst (nats l)
theorem ev_index {ls : List (List Nat)} {x : List Nat} (ha : EvD C ta rho mu (.lst (ls.map ln))) (hb : EvD C tb rho mu (ln x)) (hx : x ∈ ls) : EvD C (tBM K "list" (rIndexD K) ta (tCons tb tNil)) rho mu (nat (ls.idxOf x)) := EvD.of fun c ts s H Q S q => by
  refine ha.run S fun u H1 S1 => ?_
  obtain ⟨F1, T1⟩ := id S1
  obtain ⟨b, xs, e, hxs, hs⟩ := T1.top.lst_inv
  subst e
  refine ⟨.inl ⟨rfl, xs, SqL.of (T1.sub _ _ hxs)⟩, hb.run S1 fun y H2 S2 => ?_⟩
  obtain ⟨F, T⟩ := id S2
  have p1 : pl 2 (.lst (ls.map ln)) = true := by
    show pls 1 (ls.map ln) = true
    rw [pls_all, List.all_map, List.all_eq_true]
    intro l _
    exact pls_nats 0 l
  have p2 : pl 2 (ln x) = true := pls_nats 1 x
  have hi := List.idxOf_lt_length_of_mem hx
  have eqz : ∀ z : List Nat, PyData.eqv (toPy (ln z)) (toPy (ln x)) = decide (z = x) := fun z => eqd_natsL z x
  have tz : ∀ (j : Nat) (z : PyData), (toPys (ls.map ln))[j]? = some z → ∃ l, ls[j]? = some l ∧ z = toPy (ln l) := fun j z hz => by
    rw [toPys_map, List.map_map, List.getElem?_map] at hz
    cases q : ls[j]? with
    | none => rw [q] at hz; cases hz
    | some l => rw [q] at hz; exact ⟨l, rfl, (Option.some.inj hz).symm⟩
  refine ⟨b, y, toPy (ln x), toPys (ls.map ln), ls.idxOf x, toPy (ln x), rfl, rfl, (T.tmp (.ref b, .lst (ls.map ln)) (by simp)).dp T.sub p1, T.top.dp T.sub p2, shaped_of (n := 2) (by decide) p1, shaped_of (n := 2) (by decide) p2, ?_, ?_, fun m z hm hz => ?_, ?_⟩
  · rw [toPys_map, List.map_map, List.getElem?_map, List.getElem?_eq_getElem hi]
    show some (toPy (ln (ls[ls.idxOf x]))) = _
    rw [List.getElem_idxOf hi]
  · rw [eqz, decide_eq_true rfl]
  · obtain ⟨l, hl, rfl⟩ := tz m z hz
    rw [eqz]
    refine decide_eq_false fun e => ?_
    have hmlt := (List.getElem?_eq_some_iff.mp hl).1
    have := List.not_of_lt_findIdx (xs := ls) (p := fun y => y == x) (i := m) hm
    rw [List.getElem?_eq_getElem hmlt] at hl
    rw [Option.some.inj hl, e] at this
    simp at this
  · exact q _ _ ⟨F, (T.push (.int _)).fewer fun p hp => by
      simp only [List.mem_cons] at hp ⊢
      rcases hp with h | h
      · exact .inl h
      · exact .inr (.inr (.inr h))⟩
/-- xs.pop(i) of an own list -/
theorem ev_popAt (k : Nat) (ho : EvD C ta rho mu (.ptr a)) (hi : EvP C tb rho mu fun d => ∃ j : Nat, d = nat j ∧ j < ds.length) (hk : mu[k]? = some (a, .lst ds)) (hn : ds.length ≤ 100000) :
    Ev C (tBM K "list" rPopAt ta (tCons tb tNil)) rho mu fun d mu' => ∃ j : Nat, ds[j]? = some d ∧ mu' = mu.set k (a, .lst (ds.eraseIdx j)) := fun c ts s H Q S q => by
  refine ho.run S fun u H1 S1 => ?_
  obtain ⟨F1, T1⟩ := id S1
  have ex := T1.top.ptr_inv
  subst ex
  obtain ⟨_, _, xs0, hx0, _⟩ := T1.mu _ (List.mem_of_getElem? hk)
  refine ⟨.inl ⟨rfl, xs0, SqL.of hx0⟩, hi.run S1 fun y d H2 hd S2 => ?_⟩
  obtain ⟨j, rfl, hj⟩ := hd
  obtain ⟨F, T⟩ := S2
  obtain ⟨_, _, xs, hx, hs⟩ := T.mu _ (List.mem_of_getElem? hk)
  have hjx : j < xs.length := by rw [hs.1]; exact hj
  have r := hs.2 j _ _ (List.getElem?_eq_getElem hjx) (List.getElem?_eq_getElem hj)
  refine ⟨a, xs, (j : Int), j, xs[j], rfl, by rw [T.top.int_inv], hx, by omega, by have := hs.1; omega, ?_, List.getElem?_eq_getElem hjx, ?_⟩
  · unfold seqIndex?
    simp
    omega
  · refine q _ ds[j] _ _ ⟨j, List.getElem?_eq_getElem hj, rfl⟩ ⟨F, ((T.changeAt (m' := .lst (ds.eraseIdx j)) hk id ⟨xs.eraseIdx j, upd_same, hs.erase⟩).push r).fewer fun p hp => ?_⟩
    simp only [List.mem_cons] at hp ⊢
    rcases hp with h | h
    · exact .inl h
    · exact .inr (.inr (.inr h))
end
end DL
/-! the law's lots and classes -/
namespace DL
open PySem L2 Mth

theorem eqd_ln (a b : List Nat) : eqd (ln a) (ln b) = decide (a = b) := eqd_natsL a b
theorem pl_ln (l : List Nat) : pl 2 (ln l) = true := pls_nats 1 l
def gat (S : Mat) (l : List Nat) : List Nat := l.flatMap fun s => S.getD s []
theorem mem_gat {S : Mat} {k : Nat} (h : Ok S k) {l : List Nat} (hl : ∀ s ∈ l, s < S.length) {t : Nat} : t ∈ gat S l ↔ t ∈ onw S k l := by
  unfold gat
  rw [List.mem_flatMap, mem_onw]
  constructor
  · rintro ⟨s, hs, ht⟩
    have hs' := hl s hs
    rw [List.getD_eq_getElem?_getD, row_eq h hs'] at ht
    obtain ⟨c, hc, e⟩ := List.mem_map.mp (show t ∈ (List.range k).map (nx S s) from ht)
    exact ⟨by rw [← e]; exact h.nx_lt _ _, s, hs, c, List.mem_range.mp hc, e⟩
  · rintro ⟨_, s, hs, c, hc, e⟩
    refine ⟨s, hs, ?_⟩
    rw [List.getD_eq_getElem?_getD, row_eq h (hl s hs)]
    exact List.mem_map.mpr ⟨c, List.mem_range.mpr hc, e⟩
theorem gat_len {S : Mat} {k : Nat} (h : Ok S k) {l : List Nat} (hl : ∀ s ∈ l, s < S.length) : (gat S l).length = l.length * k := by
  unfold gat
  induction l with
  | nil => simp
  | cons s l ih =>
    have hs := hl s List.mem_cons_self
    rw [List.flatMap_cons, List.length_append, ih fun x hx => hl x (List.mem_cons_of_mem _ hx), List.getD_eq_getElem?_getD, row_eq h hs, List.length_cons, Nat.succ_mul]
    show ((List.range k).map (nx S s)).length + _ = _
    rw [List.length_map, List.length_range]
    omega
section
variable {C : Addr} {rho : List (Option D)} {mu : Mu} {te tl : TE} {ds : List D} {d : D}
theorem er_new2 (h : EvD C te rho mu d) (hl : EvN C tl rho mu ds) : Ev C (tTup (tCons te (tCons tl tNil))) rho mu fun r mu' => ∃ p, r = .tup [d, .ptr p] ∧ mu' = (p, .lst ds) :: mu :=
  Ev.imp (er_tup (er_cons h (R2 := fun _ es mu' => ∃ p, es = [.ptr p] ∧ mu' = (p, .lst ds) :: mu) fun d1 mu1 hd => by
    obtain ⟨_, e⟩ := hd
    subst e
    exact fun c ts s H Q S q => er_cons hl (R2 := fun x es mu' => es = [] ∧ ∃ p, x = .ptr p ∧ mu' = (p, .lst ds) :: mu1) (fun x mu2 hx => fun c ts s H Q S q => ea_nil c ts s H Q S fun vs es mu' H' e l S' => q vs es mu' H' ⟨e.1, by
      obtain ⟨p, e1, e2⟩ := hx
      exact ⟨p, e1, e.2.trans e2⟩⟩ l S') c ts s H Q S fun vs es mu' H' hh l S' => q vs es mu' H' (by
        obtain ⟨x, es', mu2, e1, _, e2, p, e3, e4⟩ := hh
        exact ⟨p, by rw [e1, e2, e3], e4⟩) l S') fun es mu' hh => by
      obtain ⟨x, es', mu1, e1, _, p, e2, _⟩ := hh
      rw [e1, e2]
      simp) fun r mu' hr => by
    obtain ⟨es, e, x, es', mu1, e1, ⟨e0, _⟩, p, e2, e3⟩ := hr
    exact ⟨p, by rw [e, e1, e2, e0], e3⟩
end
section
variable {P : Program} {w : World} {K : PySem.W.Frag} {mg : Str → Option Value} {base : Heap} {C : Addr}
theorem ev_rowL {te ta : TE} {rho : List (Option D)} {mu : Mu} {S : Mat} {s : Nat} {r : List Nat} (hm : EvD C te rho mu (matL S)) (ha : EvD C ta rho mu (nat s)) (hr : S[s]? = some r) : EvD C (tOp (rIx K) te ta) rho mu (ln r) :=
  ev_ixL hm ha (at_nat (by rw [List.getElem?_map, hr]; rfl))
theorem nats_app (a b : List Nat) : nats (a ++ b) = nats a ++ nats b := List.map_append
abbrev sp_l_lots (C : Addr) : Sp := spF C (fun x : Mat × Nat => [matL x.1]) (fun x => Ok x.1 x.2) fun x r => r = .lst ((lots x.1 x.2).map ln)
theorem lotL_list (S : Mat) (k i : Nat) : atI ((List.range (i + 1)).map fun j => ln (lot S k j)) (-1) = some (ln (lot S k i)) := at_last (n := i) (by simp) (by rw [List.getElem?_map, List.getElem?_range (by omega)]; rfl)
theorem clsL_list (S : Mat) (i : Nat) : atI ((List.range (i + 1)).map fun j => ln (cls S j)) (-1) = some (ln (cls S i)) := at_last (n := i) (by simp) (by rw [List.getElem?_map, List.getElem?_range (by omega)]; rfl)
theorem c_l_lots (T : Txt K mg C) : Cal P w K mg base 1 "_law_lots" ["_law_steps"] (sp_l_lots C) := T.d.l_lots.cal fun f fd Fn => okF Fn sc_l_lots (fun _ => rfl) fun x cdv A outer s H E hp hr => by
  obtain ⟨S, k⟩ := x
  have h : Ok S k := hp
  have h10 := h.n10
  have h5 := h.k5
  obtain ⟨u1, u2, u3⟩ := uu_spec h
  refine ⟨_, (pss_cons (psn 1 sc_l_lots.nd (pe_lst (pa_cons (pe_listRg rfl rfl T.b.list (prg_1 rfl T.b.range (k_len K T.b.len (pv 0)))) pa_nil)))
  (pss_cons (ps_for PassesOwn.never rfl (pi_range1 (by rfl) T.b.range (pa_cons (k_len K T.b.len (pv 0)) pa_nil)) (pgn 2 sc_l_lots.nd)
  (pss_cons (psn 3 sc_l_lots.nd (pe_lst pa_nil))
  (pss_cons (ps_for PassesOwn.never rfl (k_pil K (k_ix K (pv 1) (pe_un un_neg pe_int))) (pgn 4 sc_l_lots.nd)
  (pss_one (psn 3 sc_l_lots.nd (pe_op op_cat (pv 3) (k_ix K (pv 0) (pv 4))))))
  (pss_cons (psn 3 sc_l_lots.nd (x_sortI T.b.sorted (k_setI K w T.b.set (pv 3))))
  (pss_cons (ps_if (pt_cmpR (k_eqD K hr.units) (pv 3) (k_ix K (pv 1) (pe_un un_neg pe_int)) (nomark _))
  (pss_one (ps_ret (pv 1)))
  pss_nil)
  (pss_one (ps_expr (pe_bm PySem.F.plainAttrs_list PySem.F.slot_list_append PySem.F.type_list_append mt_append (pv 1) (pa_cons (pv 3) pa_nil)))))))))
  (pss_one (ps_ret (pv 1))))), fun cn Q s0 H0 hM q Z => ?_⟩
  replace Z : Sat C cn [some (matL S), none, none, none, none] [] [] s0 H0 := Z
  have hlen : ∀ {rho : List (Option D)} {mu : Mu}, rho[0]? = some (some (matL S)) → EvD C (tCB (rLen K) (tCons (tVar 0) tNil)) rho mu (nat S.length) := fun hh => EvD.to (ev_lenL (ds := S.map fun r => .lst (nats r)) (ev_var hh)) (by rw [List.length_map])
  refine q_asgN (el_lst (ds := [ln (List.range S.length)]) (ea_cons (EvN.ev (el_listRg (hlen rfl) (by omega))) ea_nil)) Z fun p s1 H1 Z1 => ?_
  refine q_for (evi_rng (hlen rfl) (by omega)) Z1 (fun _ (_ : Unit) => [some (matL S), some (.ptr p), none, none, none]) (fun i _ => [(p, .lst ((List.range (i + 1)).map fun j => ln (lot S k j)))]) (fun i _ => i ≤ uu S k) ⟨(), Nat.zero_le _, ⟨rfl, rfl, trivial⟩, rfl⟩ (fun i d _ tx hd hi => ?_) fun _ s2 H2 hy Z2 => ?_
  · obtain ⟨hin, rfl⟩ := rng_at hd
    have ltl : ∀ t ∈ lot S k i, t < S.length := fun t ht => lot_lt h ht
    have l10 := lot_len h i
    refine ⟨_, _, bg_name, fun s2 H2 Z2 => ?_⟩
    refine q_asgD (ev_lst (ds := []) ea_nil) Z2 fun s3 H3 Z3 => ?_
    refine q_for (ds := nats (lot S k i)) (evi_lst (ev_ixO (ev_var rfl) (ev_neg ev_int) List.mem_cons_self (lotL_list S k i))) Z3 (fun j (_ : Unit) => [some (matL S), some (.ptr p), none, some (ln (gat S ((lot S k i).take j))), none]) (fun _ _ => [(p, .lst ((List.range (i + 1)).map fun j => ln (lot S k j)))])
      (fun _ _ => True) ⟨(), trivial, ⟨rfl, rfl, rfl, trivial⟩, rfl⟩ (fun j d _ tx2 hd2 _ => ?_) fun _ s4 H4 _ Z4 => ?_
    · obtain ⟨sv, hsv, rfl⟩ := nats_at hd2
      have hs := ltl sv (List.mem_of_getElem? hsv)
      have hj := (List.getElem?_eq_some_iff.mp hsv).1
      have g1 := gat_len h (l := (lot S k i).take j) fun t ht => ltl t (List.mem_of_mem_take ht)
      refine ⟨_, _, bg_name, fun s4 H4 Z4 => ?_⟩
      refine s_asgD (EvN.ev ((el_cat (ev_var rfl) (ev_rowL (ev_var rfl) (ev_var rfl) (row_eq h hs)) ?_).to (show _ = nats (gat S ((lot S k i).take (j + 1))) from ?_))) Z4 fun s5 H5 Z5 => ⟨(), trivial, Z5.weak ⟨rfl, rfl, rfl, trivial⟩⟩
      · have m1 : ((lot S k i).take j).length * k ≤ 10 * 5 := Nat.mul_le_mul (by rw [List.length_take]; omega) h5
        unfold nats
        rw [List.length_map, List.length_map, List.length_map, List.length_range, g1]
        omega
      · rw [← nats_app, List.take_succ, hsv]
        unfold gat
        rw [List.flatMap_append]
        congr 1
        show _ = _ ++ (S.getD sv [] ++ [])
        rw [List.append_nil, List.getD_eq_getElem?_getD, row_eq h hs]
        rfl
    · have e0 : (nats (lot S k i)).length = (lot S k i).length := by unfold nats; rw [List.length_map]
      rw [e0, List.take_length] at Z4
      have gl := gat_len h ltl
      have m1 : (lot S k i).length * k ≤ 10 * 5 := Nat.mul_le_mul l10 h5
      have ei : ∀ l : List Nat, ln l = .lst ((l.map fun (n : Nat) => (n : Int)).map D.int) := fun l => by unfold ln; rw [nats_ints]
      refine q_asgD (EvN.ev ((el_sortedI (ev_setIs (ns := (gat S (lot S k i)).map fun (n : Nat) => (n : Int)) (EvD.to (ev_var rfl) (ei _)) (by rw [List.length_map]; omega)) (by rw [List.length_map]; omega) ((lot S k (i + 1)).map fun (n : Nat) => (n : Int)) (onw_asc S k (lot S k i)) fun j => ?_).to (nats_map _))) Z4 fun s5 H5 Z5 => ?_
      · rw [List.mem_map, List.mem_map]
        constructor
        · rintro ⟨t, ht, e⟩
          exact ⟨t, (mem_gat h ltl).mpr ht, e⟩
        · rintro ⟨t, ht, e⟩
          exact ⟨t, (mem_gat h ltl).mp ht, e⟩
      · refine q_when (et_test (EvD.to (ev_eq 2 (ev_var rfl) (ev_ixO (ev_var rfl) (ev_neg ev_int) List.mem_cons_self (lotL_list S k i)) (pl_ln _) (pl_ln _)) (show D.bl (eqd (ln (lot S k (i + 1))) (ln (lot S k i))) = .bl (decide (lot S k (i + 1) = lot S k i)) by rw [eqd_ln]))) Z5 (fun hb H6 Z6 => ?_) fun hb H6 Z6 => ?_
        · have e : lot S k (i + 1) = lot S k i := of_decide_eq_true hb
          have ei : i = uu S k := by
            rcases Nat.lt_or_ge i (uu S k) with z | z
            · exact absurd e (u2 i z)
            · omega
          refine s_ret (ev_letgo (ev_var rfl)) Z6 fun v d' mu' H' ⟨e1, _⟩ S' => q.go hM (S'.fewer (ts' := [(v, d')]) fun p hp => by
            rw [List.mem_singleton] at hp
            rw [hp]; exact List.mem_cons_self) (e1.trans ?_)
          rw [ei]
          unfold lots
          rw [List.map_map]
          rfl
        · have e : lot S k (i + 1) ≠ lot S k i := of_decide_eq_false hb
          have lt : i < uu S k := by
            rcases Nat.lt_or_ge i (uu S k) with z | z
            · exact z
            · have ei : i = uu S k := by omega
              rw [ei] at e
              exact absurd u1 e
          refine s_appD 0 (ev_var rfl) (ev_var rfl) rfl (by simp; omega) Z6 fun H7 Z7 => ⟨(), lt, ?_⟩
          have el : ((List.range (i + 1 + 1)).map fun j => ln (lot S k j)) = ((List.range (i + 1)).map fun j => ln (lot S k j)) ++ [.lst (nats (lot S k (i + 1)))] := by
            rw [List.range_succ (n := i + 1), List.map_append]
            rfl
          dsimp only
          rw [el]
          exact Z7.weak ⟨rfl, rfl, trivial⟩
  · rw [List.length_map, List.length_range] at hy
    omega
abbrev sp_l_classes (C : Addr) : Sp := spF C (fun x : Mat × Nat => [matL x.1]) (fun x => Ok x.1 x.2) fun x r => r = .lst ((clss x.1).map ln)
theorem c_l_classes (T : Txt K mg C) : Cal P w K mg base 1 "_law_classes" ["_law_steps"] (sp_l_classes C) := T.d.l_classes.cal fun f fd Fn => okF Fn sc_l_classes (fun _ => rfl) fun x cdv A outer s H E hp hr => by
  obtain ⟨S, k⟩ := x
  have h : Ok S k := hp
  have h10 := h.n10
  have h5 := h.k5
  obtain ⟨u1, u2, u3⟩ := vv_spec h
  refine ⟨_, (pss_cons (psn 1 sc_l_classes.nd (pe_lst (pa_cons (pe_listRg rfl rfl T.b.list (prg_1 rfl T.b.range (k_len K T.b.len (pv 0)))) pa_nil)))
  (pss_cons (ps_for PassesOwn.never rfl (pi_range1 (by rfl) T.b.range (pa_cons (k_len K T.b.len (pv 0)) pa_nil)) (pgn 2 sc_l_classes.nd)
  (pss_cons (ps_asg (pe_tup (pa_cons (k_ix K (pv 1) (pe_un un_neg pe_int)) (pa_cons (pe_lst pa_nil) pa_nil))) (k_gtup K 2 (pgs_cons (pgn 5 sc_l_classes.nd) (pgs_cons (pgn 6 sc_l_classes.nd) pgs_nil))))
  (pss_cons (ps_for PassesOwn.never rfl (k_pil K (pv 0)) (pgn 3 sc_l_classes.nd)
  (pss_one (ps_expr (pe_bm PySem.F.plainAttrs_list PySem.F.slot_list_append PySem.F.type_list_append mt_append (pv 6) (pa_cons (pe_lc (own := [("_law_later", 4)]) (by rfl) sc_l_classes.nd (k_pil K (pv 3)) (bk (own := [("_law_later", 4)]) (N := N_l_classes) (sc := defScope s_l_classes)) (fun _ _ _ _ _ => (pgn 4 sc_l_classes.nd)) (fun _ _ _ _ _ => pts_nil) (fun _ _ _ _ _ => (k_ix K (pv 5) (pv 4)))) pa_nil)))))
  (pss_cons (ps_setLc (i := 4) (own := [("_law_key", 7)]) rfl sc_l_classes.nd rfl rfl (sw_true rfl rfl rfl (by decide +kernel)) (k_pil K (pv 6)) (bk (own := [("_law_key", 7)]) (N := N_l_classes) (sc := defScope s_l_classes)) (fun _ _ _ _ _ => (pgn 7 sc_l_classes.nd)) (fun _ _ _ _ _ => pts_nil) (fun _ _ _ _ _ => (k_index K (hu65 hr) (pv 6) (pa_cons (pv 7) pa_nil))))
  (pss_cons (ps_if (pt_cmpR (k_eqD K hr.units) (pv 4) (pv 5) (nomark _))
  (pss_one (ps_ret (pv 1)))
  pss_nil)
  (pss_one (ps_expr (pe_bm PySem.F.plainAttrs_list PySem.F.slot_list_append PySem.F.type_list_append mt_append (pv 1) (pa_cons (pv 4) pa_nil)))))))))
  (pss_one (ps_ret (pv 1))))), fun cn Q s0 H0 hM q Z => ?_⟩
  replace Z : Sat C cn [some (matL S), none, none, none, none, none, none, none] [] [] s0 H0 := Z
  have hlen : ∀ {rho : List (Option D)} {mu : Mu}, rho[0]? = some (some (matL S)) → EvD C (tCB (rLen K) (tCons (tVar 0) tNil)) rho mu (nat S.length) := fun hh => EvD.to (ev_lenL (ds := S.map fun r => .lst (nats r)) (ev_var hh)) (by rw [List.length_map])
  refine q_asgN (el_lst (ds := [ln (List.range S.length)]) (ea_cons (EvN.ev (el_listRg (hlen rfl) (by omega))) ea_nil)) Z fun p s1 H1 Z1 => ?_
  refine q_for (evi_rng (hlen rfl) (by omega)) Z1 (fun _ (_ : Unit) => [some (matL S), some (.ptr p), none, none, none, none, none, none]) (fun i _ => [(p, .lst ((List.range (i + 1)).map fun j => ln (cls S j)))]) (fun i _ => i ≤ vv S) ⟨(), Nat.zero_le _, ⟨rfl, rfl, trivial⟩, rfl⟩ (fun i d _ tx hd hi => ?_) fun _ s2 H2 hy Z2 => ?_
  · obtain ⟨hin, rfl⟩ := rng_at hd
    refine ⟨_, _, bg_name, fun s2 H2 Z2 => ?_⟩
    have hc := cls_len (S := S) i
    refine q_bindR (er_new2 (ev_ixO (ev_var rfl) (ev_neg ev_int) List.mem_cons_self (clsL_list S i)) (el_lst ea_nil)) Z2 fun d mu' ⟨pk, e1, e2⟩ => ?_
    subst e1; subst e2
    refine ⟨_, _, bg_tup bg_name bg_name, fun s3 H3 Z3 => ?_⟩
    refine q_for (ds := S.map fun r => .lst (nats r)) (evi_lst (ev_var rfl)) Z3 (fun j (_ : Unit) => [some (matL S), some (.ptr p), none, none, none, some (ln (cls S i)), some (.ptr pk), none]) (fun j _ => [(pk, .lst (((keys S (cls S i)).take j).map ln)), (p, .lst ((List.range (i + 1)).map fun j => ln (cls S j)))])
      (fun _ _ => True) ⟨(), trivial, ⟨rfl, rfl, rfl, rfl, trivial⟩, rfl⟩ (fun j d _ tx2 hd2 _ => ?_) fun _ s4 H4 _ Z4 => ?_
    · rw [List.getElem?_map] at hd2
      cases hr : S[j]? with
      | none => rw [hr] at hd2; cases hd2
      | some r =>
        rw [hr] at hd2
        cases hd2
        have hj := (List.getElem?_eq_some_iff.mp hr).1
        have hv := h.val r (List.mem_of_getElem? hr)
        have hrl := h.row r (List.mem_of_getElem? hr)
        refine ⟨_, _, bg_name, fun s4 H4 Z4 => ?_⟩
        refine s_appD 0 (ev_var rfl) (EvN.ev ((el_map (fun d => nat ((cls S i).getD (nOf d) 0)) (evi_lst (ds := nats r) (ev_var rfl)) (by unfold nats; rw [List.length_map]; omega) fun x d hd => ?_).to (show _ = nats (r.map fun t => (cls S i).getD t 0) from ?_))) rfl (by rw [List.length_map, List.length_take, keys_len]; omega) Z4 fun H5 Z5 => ⟨(), trivial, ?_⟩
        · obtain ⟨t, ht, rfl⟩ := nats_at hd
          refine ⟨_, _, bg_name, by simp, fun mu' => ?_⟩
          rw [nOf_nat]
          have htl : t < (cls S i).length := by rw [hc]; exact hv t (List.mem_of_getElem? ht)
          exact ev_ixL (ev_var rfl) (ev_var rfl) (at_nat (nats_get (by rw [List.getD_eq_getElem?_getD, List.getElem?_eq_getElem htl]; rfl)))
        · unfold nats
          rw [List.map_map, List.map_map]
          refine List.map_congr_left fun t _ => ?_
          show nat ((cls S i).getD (nOf (nat t)) 0) = _
          rw [nOf_nat]
          rfl
        · have hk : (keys S (cls S i))[j]? = some (r.map fun t => (cls S i).getD t 0) := by unfold keys; rw [List.getElem?_map, hr]; rfl
          have e : ((keys S (cls S i)).take (j + 1)).map ln = ((keys S (cls S i)).take j).map ln ++ [.lst (nats (r.map fun t => (cls S i).getD t 0))] := by
            rw [List.take_succ, hk, List.map_append]
            rfl
          dsimp only
          rw [e]
          exact Z5.weak ⟨rfl, rfl, rfl, rfl, trivial⟩
    · have e0 : (S.map fun r => D.lst (nats r)).length = (keys S (cls S i)).length := by rw [List.length_map, keys_len]
      rw [e0, List.take_length] at Z4
      have Z5 := Z4.letgo (i := 6) rfl
      refine q_asgD (d := ln (cls S (i + 1))) (EvN.ev ((el_map (fun d => match d with | .lst l => nat ((keys S (cls S i)).idxOf (l.map nOf)) | _ => .non) (evi_lst (ds := (keys S (cls S i)).map ln) (ev_var rfl)) (by rw [List.length_map, keys_len]; omega) fun x d hd => ?_).to (show _ = nats (cls S (i + 1)) from ?_))) Z5 fun s6 H6 Z6 => ?_
      · rw [List.getElem?_map] at hd
        cases hx : (keys S (cls S i))[x]? with
        | none => rw [hx] at hd; cases hd
        | some key =>
          rw [hx] at hd
          cases hd
          refine ⟨_, _, bg_name, by simp, fun mu' => ?_⟩
          have e : (nats key).map nOf = key := by
            unfold nats
            rw [List.map_map, show (nOf ∘ nat) = id from funext fun n => nOf_nat n, List.map_id]
          show EvD C _ _ _ (nat ((keys S (cls S i)).idxOf ((nats key).map nOf)))
          rw [e]
          exact ev_index (ev_var rfl) (ev_var rfl) (List.mem_of_getElem? hx)
      · rw [List.map_map]
        show _ = nats (coar S (cls S i))
        unfold coar nats
        rw [List.map_map]
        refine List.map_congr_left fun key _ => ?_
        show nat ((keys S (cls S i)).idxOf ((nats key).map nOf)) = nat _
        have e : (nats key).map nOf = key := by
          unfold nats
          rw [List.map_map, show (nOf ∘ nat) = id from funext fun n => nOf_nat n, List.map_id]
        rw [e]
      · refine q_when (et_test (EvD.to (ev_eq 2 (d1 := ln (cls S (i + 1))) (d2 := ln (cls S i)) (ev_var rfl) (ev_var rfl) (pl_ln _) (pl_ln _)) (by rw [eqd_ln]))) Z6 (fun hb H7 Z7 => ?_) fun hb H7 Z7 => ?_
        · have e : cls S (i + 1) = cls S i := of_decide_eq_true hb
          have ei : i = vv S := by
            rcases Nat.lt_or_ge i (vv S) with z | z
            · exact absurd e (u2 i z)
            · omega
          refine s_ret (ev_letgo (ev_var rfl)) Z7 fun v d' mu' H' ⟨e1, _⟩ S' => q.go hM (S'.fewer (ts' := [(v, d')]) fun p hp => by
            rw [List.mem_singleton] at hp
            rw [hp]; exact List.mem_cons_self) (e1.trans ?_)
          rw [ei]
          unfold clss
          rw [List.map_map]
          rfl
        · have e : cls S (i + 1) ≠ cls S i := of_decide_eq_false hb
          have lt : i < vv S := by
            rcases Nat.lt_or_ge i (vv S) with z | z
            · exact z
            · have ei : i = vv S := by omega
              rw [ei] at e
              exact absurd u1 e
          refine s_appD 0 (ev_var rfl) (ev_var rfl) rfl (by simp; omega) Z7 fun H8 Z8 => ⟨(), lt, ?_⟩
          have el : ((List.range (i + 1 + 1)).map fun j => ln (cls S j)) = ((List.range (i + 1)).map fun j => ln (cls S j)) ++ [ln (cls S (i + 1))] := by
            rw [List.range_succ (n := i + 1), List.map_append]
            rfl
          dsimp only
          rw [el]
          exact Z8.weak ⟨rfl, rfl, trivial⟩
  · rw [List.length_map, List.length_range] at hy
    omega
end
end DL
/-! the law's opened, carried, holds -/
namespace DL
open PySem L2 Mth

def pr : D → Nat × Nat
  | .tup [.int i, .int j] => (i.toNat, j.toNat)
  | _ => (0, 0)
theorem pr_tp (p : Nat × Nat) : pr (tp p) = p := by
  show ((p.1 : Int).toNat, (p.2 : Int).toNat) = p
  rw [Int.toNat_natCast, Int.toNat_natCast]
theorem filt_tp (q : Nat × Nat → Bool) (ps : List (Nat × Nat)) : (ps.map tp).filterMap (fun d => if q (pr d) then some d else none) = (ps.filter q).map tp := by
  induction ps with
  | nil => rfl
  | cons p ps ih =>
    rw [List.map_cons, List.filter_cons]
    by_cases h : q p = true
    · rw [List.filterMap_cons_some (b := tp p) (by rw [pr_tp, if_pos h]), if_pos h, List.map_cons, ih]
    · rw [List.filterMap_cons_none (by rw [pr_tp, if_neg h]), if_neg h, ih]
theorem eqd_nil (ps : List (Nat × Nat)) : eqd (.lst (ps.map tp)) (.lst []) = decide (ps = []) := by
  cases ps with
  | nil => rfl
  | cons p ps => rfl
theorem pl_tps (ps : List (Nat × Nat)) : pl 3 (.lst (ps.map tp)) = true := by
  show pls 2 (ps.map tp) = true
  rw [pls_all, List.all_map, List.all_eq_true]
  intro p _
  exact pls_nats 1 [p.1, p.2]
def bad (S : Mat) (a c : Nat) (cl : List Nat) (p : Nat × Nat) : Bool := !(cl.getD (nx S p.1 c) 0 == cl.getD (nx S p.2 a) 0)
theorem clash_bad (S : Mat) (ps : List (Nat × Nat)) (a c : Nat) (cl : List Nat) : (clash S ps a c cl).isNone = decide (ps.filter (bad S a c cl) = []) := by
  unfold clash
  rw [Bool.eq_iff_iff, Option.isNone_iff_eq_none, decide_eq_true_eq, List.find?_eq_none, List.filter_eq_nil_iff]
  exact Iff.rfl
def Few (S : Mat) (k : Nat) : Prop := ∃ U : List (Nat × Nat), U.length < 63 ∧ (∀ s, s < S.length → ∀ a c, a < k → c < k → (nx S s a, nx S s c) ∈ U) ∧ ∀ p ∈ U, ∀ e, e < k → stp S p e ∈ U
def oneOn (S : Mat) (k : Nat) (ps : List (Nat × Nat)) : List (Nat × Nat) := ps.flatMap fun p => (List.range k).map (stp S p)
theorem oneOn_len (S : Mat) (k : Nat) (ps : List (Nat × Nat)) : (oneOn S k ps).length = ps.length * k := by
  unfold oneOn
  induction ps with
  | nil => simp
  | cons p ps ih => rw [List.flatMap_cons, List.length_append, ih, List.length_map, List.length_range, List.length_cons, Nat.succ_mul]; omega
theorem mem_oneOn {S : Mat} {k : Nat} (h : Ok S k) {ps : List (Nat × Nat)} {q : Nat × Nat} : q ∈ oneOn S k ps ↔ q ∈ carr S k ps := by
  unfold oneOn
  rw [mem_carr h, List.mem_flatMap]
  constructor
  · rintro ⟨p, hp, hq⟩
    obtain ⟨e, he, z⟩ := List.mem_map.mp hq
    exact ⟨p, hp, e, List.mem_range.mp he, z⟩
  · rintro ⟨p, hp, e, he, z⟩
    exact ⟨p, hp, List.mem_map.mpr ⟨e, List.mem_range.mpr he, z⟩⟩
theorem lt64 {S : Mat} {k : Nat} (h : Ok S k) {p : Nat × Nat} (hp : p.1 < S.length ∧ p.2 < S.length) : p.1 < 64 ∧ p.2 < 64 := by
  have := h.n10
  exact ⟨by omega, by omega⟩
section
variable {P : Program} {w : World} {K : PySem.W.Frag} {mg : Str → Option Value} {base : Heap} {C : Addr}
theorem ev_nxL {te ta tb : TE} {rho : List (Option D)} {mu : Mu} {S : Mat} {k s c : Nat} (h : Ok S k) (hm : EvD C te rho mu (matL S)) (ha : EvD C ta rho mu (nat s)) (hb : EvD C tb rho mu (nat c)) (hs : s < S.length) (hc : c < k) : EvD C (tOp (rIx K) (tOp (rIx K) te ta) tb) rho mu (nat (nx S s c)) :=
  ev_ixL (ev_rowL hm ha (row_eq h hs)) hb (at_nat (nats_get (by rw [List.getElem?_map, List.getElem?_range hc]; rfl)))
theorem ev_k {te : TE} {rho : List (Option D)} {mu : Mu} {S : Mat} {k : Nat} (h : Ok S k) (hm : EvD C te rho mu (matL S)) : EvD C (tCB (rLen K) (tCons (tOp (rIx K) te (tC (.int 0))) tNil)) rho mu (nat k) :=
  EvD.to (ev_lenL (ds := nats ((List.range k).map (nx S 0))) (ev_rowL (s := 0) hm ev_int (row_eq h h.n0))) (by unfold nats; rw [List.length_map, List.length_map, List.length_range])
theorem ev_clL {te ta : TE} {rho : List (Option D)} {mu : Mu} {cl : List Nat} {t : Nat} (ha : EvD C te rho mu (ln cl)) (hb : EvD C ta rho mu (nat t)) (h : t < cl.length) : EvD C (tOp (rIx K) te ta) rho mu (nat (cl.getD t 0)) :=
  ev_ixL ha hb (at_nat (nats_get (by rw [List.getD_eq_getElem?_getD, List.getElem?_eq_getElem h]; rfl)))
abbrev sp_l_opened (C : Addr) : Sp := spF C (fun x : (Mat × Nat) × List Nat × (Nat × Nat) => [matL x.1.1, ln x.2.1, nat x.2.2.1, nat x.2.2.2])
  (fun x => Ok x.1.1 x.1.2 ∧ (∀ s ∈ x.2.1, s < x.1.1.length) ∧ x.2.1.length ≤ 10 ∧ x.2.2.1 < x.1.2 ∧ x.2.2.2 < x.1.2) fun x r => r = .lst ((opn x.1.1 x.2.1 x.2.2.1 x.2.2.2).map tp)
theorem c_l_opened (T : Txt K mg C) : Cal P w K mg base 1 "_law_opened" ["_law_steps", "_law_states", "_law_a", "_law_c"] (sp_l_opened C) := T.d.l_opened.cal fun f fd Fn => okF Fn sc_l_opened (fun _ => rfl) fun x cdv A outer s H E hp hr => by
  obtain ⟨⟨S, k⟩, st, ⟨a, c⟩⟩ := x
  obtain ⟨h, hst, hl, ha, hc⟩ := hp
  dsimp only at h hst hl ha hc
  refine ⟨_, (pss_one (ps_ret (x_sortP T.b.sorted (x_setP T.b.set hr.units (pe_lc (own := [("_law_state", 4)]) (by rfl) sc_l_opened.nd (k_pil K (pv 1)) (bk (own := [("_law_state", 4)]) (N := N_l_opened) (sc := defScope s_l_opened)) (fun _ _ _ _ _ => (pgn 4 sc_l_opened.nd)) (fun _ _ _ _ _ => pts_nil) (fun _ _ _ _ _ => (pe_tup (pa_cons (k_ix K (k_ix K (pv 0) (pv 4)) (pv 2)) (pa_cons (k_ix K (k_ix K (pv 0) (pv 4)) (pv 3)) pa_nil))))))))), fun cn Q s0 H0 hM q Z => ?_⟩
  replace Z : Sat C cn [some (matL S), some (ln st), some (nat a), some (nat c), none] [] [] s0 H0 := Z
  refine s_ret (EvN.ev (el_sortedP (ev_setPs (ps := st.map fun t => (nx S t a, nx S t c)) (EvN.ev ((el_map (fun d => tp (nx S (nOf d) a, nx S (nOf d) c)) (evi_lst (ds := nats st) (ev_var rfl)) (by unfold nats; rw [List.length_map]; omega) fun i d hd => ?_).to ?_)) fun qs nd sub => ?_) (fun p hp => ?_) (opn S st a c) (opn_asc h st a c) fun p => ?_)) Z fun v d' mu' H' ⟨e, _⟩ S' => q.go hM S' e
  · obtain ⟨t, ht, rfl⟩ := nats_at hd
    have hs := hst _ (List.mem_of_getElem? ht)
    refine ⟨_, _, bg_name, by simp, fun mu' => ?_⟩
    rw [nOf_nat]
    exact ev_tup (ea_cons (ev_nxL h (ev_var rfl) (ev_var rfl) (ev_var rfl) hs ha) (ea_cons (ev_nxL h (ev_var rfl) (ev_var rfl) (ev_var rfl) hs hc) ea_nil))
  · unfold nats
    rw [List.map_map, List.map_map]
    refine List.map_congr_left fun t _ => ?_
    show tp (nx S (nOf (nat t)) a, nx S (nOf (nat t)) c) = _
    rw [nOf_nat]
    rfl
  · have := nd.length_le_of_subset fun q hq => sub q hq
    rw [List.length_map] at this
    omega
  · obtain ⟨t, _, e⟩ := List.mem_map.mp hp
    rw [← e]
    exact lt64 h ⟨h.nx_lt _ _, h.nx_lt _ _⟩
  · rw [mem_opn h, List.mem_map]
abbrev sp_l_carried (C : Addr) : Sp := spF C (fun x : (Mat × Nat) × List (Nat × Nat) => [matL x.1.1, .lst (x.2.map tp)])
  (fun x => Ok x.1.1 x.1.2 ∧ (∀ p ∈ x.2, p.1 < x.1.1.length ∧ p.2 < x.1.1.length) ∧ x.2.length ≤ 100 ∧ ∀ qs : List (Nat × Nat), qs.Nodup → (∀ q ∈ qs, q ∈ carr x.1.1 x.1.2 x.2) → qs.length < 63) fun x r => r = .lst ((carr x.1.1 x.1.2 x.2).map tp)
theorem c_l_carried (T : Txt K mg C) : Cal P w K mg base 1 "_law_carried" ["_law_steps", "_law_pairs"] (sp_l_carried C) := T.d.l_carried.cal fun f fd Fn => okF Fn sc_l_carried (fun _ => rfl) fun x cdv A outer s H E hp hr => by
  obtain ⟨⟨S, k⟩, ps⟩ := x
  obtain ⟨h, hps, hl, few⟩ := hp
  dsimp only at h hps hl few
  have h5 := h.k5
  refine ⟨_, (pss_cons (psn 2 sc_l_carried.nd (pe_lst pa_nil))
  (pss_cons (ps_for PassesOwn.never rfl (k_pil K (pv 1)) (k_gtup K 2 (pgs_cons (pgn 3 sc_l_carried.nd) (pgs_cons (pgn 4 sc_l_carried.nd) pgs_nil)))
  (pss_one (psn 2 sc_l_carried.nd (pe_op op_cat (pv 2) (pe_lc (own := [("_law_command", 5)]) (by rfl) sc_l_carried.nd (pi_range1 (by rfl) T.b.range (pa_cons (k_len K T.b.len (k_ix K (pv 0) pe_int)) pa_nil)) (bk (own := [("_law_command", 5)]) (N := N_l_carried) (sc := defScope s_l_carried)) (fun _ _ _ _ _ => (pgn 5 sc_l_carried.nd)) (fun _ _ _ _ _ => pts_nil) (fun _ _ _ _ _ => (pe_tup (pa_cons (k_ix K (k_ix K (pv 0) (pv 3)) (pv 5)) (pa_cons (k_ix K (k_ix K (pv 0) (pv 4)) (pv 5)) pa_nil)))))))))
  (pss_one (ps_ret (x_sortP T.b.sorted (x_setP T.b.set hr.units (pv 2))))))), fun cn Q s0 H0 hM q Z => ?_⟩
  replace Z : Sat C cn [some (matL S), some (.lst (ps.map tp)), none, none, none, none] [] [] s0 H0 := Z
  refine q_asgD (ev_lst (ds := []) ea_nil) Z fun s1 H1 Z1 => ?_
  refine q_for (evi_lst (ev_var rfl)) Z1 (fun i (_ : Unit) => [some (matL S), some (.lst (ps.map tp)), some (.lst ((oneOn S k (ps.take i)).map tp)), none, none, none]) (fun _ _ => []) (fun _ _ => True) ⟨(), trivial, ⟨rfl, rfl, rfl, trivial⟩, rfl⟩ (fun i d _ tx hd _ => ?_) fun _ s2 H2 _ Z2 => ?_
  · obtain ⟨⟨o1, o2⟩, hpi, rfl⟩ := tps_at hd
    obtain ⟨b1, b2⟩ := hps _ (List.mem_of_getElem? hpi)
    have hi := (List.getElem?_eq_some_iff.mp hpi).1
    dsimp only at b1 b2
    refine ⟨_, _, bg_tup bg_name bg_name, fun s2 H2 Z2 => ?_⟩
    refine s_asgD (EvN.ev ((el_cat (es := ((List.range k).map (stp S (o1, o2))).map tp) (ev_var rfl) (EvN.ev ((el_map (fun d => tp (stp S (o1, o2) (nOf d))) (evi_rng (ev_k h (ev_var rfl)) (by omega)) (by rw [List.length_map, List.length_range]; omega) fun j d hd => ?_).to ?_)) ?_).to (show _ = (oneOn S k (ps.take (i + 1))).map tp from ?_))) Z2 fun s3 H3 Z3 => ⟨(), trivial, Z3.weak ⟨rfl, rfl, rfl, trivial⟩⟩
    · obtain ⟨hj, rfl⟩ := rng_at hd
      refine ⟨_, _, bg_name, by simp, fun mu' => ?_⟩
      rw [nOf_nat]
      exact ev_tup (ea_cons (ev_nxL h (ev_var rfl) (ev_var rfl) (ev_var rfl) b1 hj) (ea_cons (ev_nxL h (ev_var rfl) (ev_var rfl) (ev_var rfl) b2 hj) ea_nil))
    · rw [List.map_map, List.map_map]
      refine List.map_congr_left fun e _ => ?_
      show tp (stp S (o1, o2) (nOf (nat e))) = _
      rw [nOf_nat]
      rfl
    · have m1 : (ps.take i).length * k ≤ 100 * 5 := Nat.mul_le_mul (by rw [List.length_take]; omega) h5
      rw [List.length_map, List.length_map, List.length_map, List.length_range, oneOn_len]
      omega
    · rw [← List.map_append, List.take_succ, hpi]
      unfold oneOn
      rw [List.flatMap_append]
      simp
  · rw [List.length_map, List.take_length] at Z2
    refine s_ret (EvN.ev (el_sortedP (ev_setPs (ps := oneOn S k ps) (ev_var rfl) fun qs nd sub => few qs nd fun q hq => (mem_oneOn h).mp (sub q hq)) (fun p hp => lt64 h (carr_lt ((mem_oneOn h).mp hp))) (carr S k ps) (carr_asc h ps) fun p => (mem_oneOn h).symm)) Z2 fun v d' mu' H' ⟨e, _⟩ S' => q.go hM S' e
abbrev sp_l_holds (C : Addr) : Sp := spF C (fun x : (Mat × Nat) × List Nat × Nat × List Nat => [matL x.1.1, ln x.2.1, nat x.2.2.1, ln x.2.2.2])
  (fun x => Ok x.1.1 x.1.2 ∧ Few x.1.1 x.1.2 ∧ ((∀ s ∈ x.2.1, s < x.1.1.length) ∧ x.2.1.length ≤ 10) ∧ (1 ≤ x.2.2.1 ∧ x.2.2.1 ≤ 500) ∧ x.2.2.2.length = x.1.1.length) fun x r => r = .bl (letsB x.1.1 x.1.2 x.2.1 x.2.2.2 x.2.2.1)
theorem c_l_holds (T : Txt K mg C) : Cal P w K mg base 2 "_law_holds" ["_law_steps", "_law_states", "_law_step", "_law_classes_here"] (sp_l_holds C) := T.d.l_holds.cal fun f fd Fn => okF Fn sc_l_holds (fun _ => rfl) fun x cdv A outer s H E hp hr => by
  have g_l_opened := c_l_opened (P := P) (w := w) (base := base) T
  have g_l_carried := c_l_carried (P := P) (w := w) (base := base) T
  obtain ⟨⟨S, k⟩, st, d, cl⟩ := x
  obtain ⟨h, ⟨U, u1, u2, u3⟩, ⟨hst, hl⟩, ⟨hd1, hd2⟩, hcl⟩ := hp
  dsimp only at h u1 u2 u3 hst hl hd1 hd2 hcl
  have h5 := h.k5
  have parU : ∀ a c, a < k → c < k → ∀ g, ∀ p ∈ par S k st a c g, p ∈ U := fun a c ha hc g => by
    induction g with
    | zero =>
      intro p hp
      obtain ⟨s', hs, e⟩ := (mem_opn h).mp (show p ∈ opn S st a c from hp)
      rw [← e]
      exact u2 s' (hst s' hs) a c ha hc
    | succ g ih =>
      intro p hp
      obtain ⟨q, hq, e, he, z⟩ := (mem_carr h).mp (show p ∈ carr S k (par S k st a c g) from hp)
      rw [← z]
      exact u3 q (ih q hq) e he
  refine ⟨_, (pss_cons (ps_for PassesOwn.never rfl (pi_range1 (by rfl) T.b.range (pa_cons (k_len K T.b.len (k_ix K (pv 0) pe_int)) pa_nil)) (pgn 4 sc_l_holds.nd)
  (pss_one (ps_for PassesOwn.never rfl (pi_range1 (by rfl) T.b.range (pa_cons (pv 4) pa_nil)) (pgn 5 sc_l_holds.nd)
  (pss_cons (psn 6 sc_l_holds.nd (pe_cal g_l_opened (hr.mono (by decide)) (pa_cons (pv 0) (pa_cons (pv 1) (pa_cons (pv 5) (pa_cons (pv 4) pa_nil))))))
  (pss_cons (ps_for PassesOwn.never rfl (pi_range1 (by rfl) T.b.range (pa_cons (pe_op op_sub (pv 2) pe_int) pa_nil)) (pgn 7 sc_l_holds.nd)
  (pss_one (psn 6 sc_l_holds.nd (pe_cal g_l_carried (hr.mono (by decide)) (pa_cons (pv 0) (pa_cons (pv 6) pa_nil))))))
  (pss_one (ps_if (pt_cmpR (k_neD K hr.units) (pe_lc (own := [("_law_pair", 8)]) (by rfl) sc_l_holds.nd (k_pil K (pv 6)) (bk (own := [("_law_pair", 8)]) (N := N_l_holds) (sc := defScope s_l_holds)) (fun _ _ _ _ _ => (pgn 8 sc_l_holds.nd)) (fun _ _ _ _ _ => (pts_one (pt_cmpR (k_neD K hr.units) (k_ix K (pv 3) (k_ix K (k_ix K (pv 0) (k_ix K (pv 8) pe_int)) (pv 4))) (k_ix K (pv 3) (k_ix K (k_ix K (pv 0) (k_ix K (pv 8) pe_int)) (pv 5))) (nomark _)))) (fun _ _ _ _ _ => (pv 8))) (pe_lst pa_nil) (nomark _))
  (pss_one (ps_ret pe_bl))
  pss_nil)))))))
  (pss_one (ps_ret pe_bl))), fun cn Q s0 H0 hM q Z => ?_⟩
  replace Z : Sat C cn [some (matL S), some (ln st), some (nat d), some (ln cl), none, none, none, none, none] [] [] s0 H0 := Z
  refine q_for (evi_rng (ev_k h (ev_var rfl)) (by omega)) Z (fun _ (_ : Unit) => [some (matL S), some (ln st), some (nat d), some (ln cl), none, none, none, none, none]) (fun _ _ => [])
    (fun i _ => ∀ a c, a < c → c < i → (clash S (par S k st a c (d - 1)) a c cl).isNone = true) ⟨(), fun a c _ z => absurd z (Nat.not_lt_zero _), ⟨rfl, rfl, rfl, rfl, trivial⟩, rfl⟩ (fun c dd _ tx hd hi => ?_) fun _ s1 H1 hall Z1 => ?_
  · obtain ⟨hc, rfl⟩ := rng_at hd
    refine ⟨_, _, bg_name, fun s1 H1 Z1 => ?_⟩
    refine s_for (evi_rng (n := c) (ev_var rfl) (by omega)) Z1 (fun _ (_ : Unit) => [some (matL S), some (ln st), some (nat d), some (ln cl), some (nat c), none, none, none, none]) (fun _ _ => [])
      (fun j _ => ∀ a, a < j → (clash S (par S k st a c (d - 1)) a c cl).isNone = true) ⟨(), fun a z => absurd z (Nat.not_lt_zero _), ⟨rfl, rfl, rfl, rfl, rfl, trivial⟩, rfl⟩ (fun a dd _ tx2 hd2 hj => ?_) fun _ s2 H2 hin Z2 => ?_
    · obtain ⟨hac, rfl⟩ := rng_at hd2
      have ha : a < k := by omega
      refine ⟨_, _, bg_name, fun s2 H2 Z2 => ?_⟩
      refine q_asgD (ev_call (f := fun x : (Mat × Nat) × List Nat × (Nat × Nat) => .lst ((opn x.1.1 x.2.1 x.2.2.1 x.2.2.2).map tp)) ((S, k), st, (a, c)) (ea_cons (ev_var rfl) (ea_cons (ev_var rfl) (ea_cons (ev_var rfl) (ea_cons (ev_var rfl) ea_nil)))) ⟨h, hst, hl, ha, hc⟩) Z2 fun s3 H3 Z3 => ?_
      have ed : ((d : Int) - 1) = ((d - 1 : Nat) : Int) := by omega
      refine q_for (evi_rng (n := d - 1) (EvD.to (ev_sub (ev_var rfl) ev_int) (by rw [ed])) (by omega)) Z3 (fun g (_ : Unit) => [some (matL S), some (ln st), some (nat d), some (ln cl), some (nat c), some (nat a), some (.lst ((par S k st a c g).map tp)), none, none]) (fun _ _ => []) (fun _ _ => True) ⟨(), trivial, ⟨rfl, rfl, rfl, rfl, rfl, rfl, rfl, trivial⟩, rfl⟩ (fun g dd _ tx3 hd3 _ => ?_) fun _ s4 H4 _ Z4 => ?_
      · obtain ⟨hg, rfl⟩ := rng_at hd3
        refine ⟨_, _, bg_name, fun s4 H4 Z4 => ?_⟩
        refine s_asgD (ev_call (f := fun x : (Mat × Nat) × List (Nat × Nat) => .lst ((carr x.1.1 x.1.2 x.2).map tp)) ((S, k), par S k st a c g) (ea_cons (ev_var rfl) (ea_cons (ev_var rfl) ea_nil)) ⟨h, fun p hp => par_lt hp, par_len h st a c g, fun qs nd sub => ?_⟩) Z4 fun s5 H5 Z5 => ⟨(), trivial, Z5.weak ⟨rfl, rfl, rfl, rfl, rfl, rfl, rfl, trivial⟩⟩
        exact Nat.lt_of_le_of_lt (nd.length_le_of_subset fun q hq => parU a c ha hc (g + 1) q (sub q hq)) u1
      · have e0 : ((List.range (d - 1)).map nat).length = d - 1 := by simp
        rw [e0] at Z4
        refine s_ifD (EtD.to (et_test (ev_ne 3 (EvN.ev ((el_lc (fun dd => if bad S a c cl (pr dd) then some dd else none) (evi_lst (ds := (par S k st a c (d - 1)).map tp) (ev_var rfl)) (by have := par_len h st a c (d - 1); rw [List.length_map]; omega) fun i dd hdd => ?_).to (filt_tp _ _))) (ev_lst (ds := []) ea_nil) (pl_tps _) rfl)) (b := !(clash S (par S k st a c (d - 1)) a c cl).isNone) (by rw [eqd_nil, clash_bad])) Z4 (fun hb H5 Z5 => ?_) fun hb H5 Z5 => ?_
        · obtain ⟨p, hp, rfl⟩ := tps_at hdd
          obtain ⟨b1, b2⟩ := par_lt (List.mem_of_getElem? hp)
          refine ⟨_, _, bg_name, by simp, fun mu' => ⟨bad S a c cl p, EtD.to (et_test (ev_neI (ev_clL (ev_var rfl) (ev_nxL h (ev_var rfl) (ev_fst (ev_var rfl)) (ev_var rfl) b1 hc) (by rw [hcl]; exact h.nx_lt _ _)) (ev_clL (ev_var rfl) (ev_nxL h (ev_var rfl) (ev_snd (ev_var rfl)) (ev_var rfl) b2 ha) (by rw [hcl]; exact h.nx_lt _ _)))) ?_, fun hb => ⟨tp p, by rw [pr_tp]; exact if_pos hb, ev_var rfl⟩, fun hb => by rw [pr_tp]; exact if_neg (by rw [hb]; decide)⟩⟩
          rw [dec_nat]
          rfl
        · refine s_ret ev_bl Z5 fun v d' mu' H' ⟨e, _⟩ S' => q.go hM S' (e.trans (congrArg D.bl ?_))
          refine (Bool.eq_false_iff.mpr fun z => ?_).symm
          have := List.all_eq_true.mp z (a, c) (mem_unl.mpr ⟨hac, hc⟩)
          dsimp only at this
          rw [this] at hb
          cases hb
        · refine ⟨(), fun a' ha' => ?_, Z5.weak ⟨rfl, rfl, rfl, rfl, rfl, trivial⟩⟩
          by_cases z : a' = a
          · rw [z]; simpa using hb
          · exact hj a' (by omega)
    · rw [List.length_map, List.length_range] at hin
      refine ⟨(), fun a c' hac hc' => ?_, Z2.weak ⟨rfl, rfl, rfl, rfl, trivial⟩⟩
      by_cases z : c' = c
      · rw [z] at hac ⊢; exact hin a hac
      · exact hi a c' hac (by omega)
  · rw [List.length_map, List.length_range] at hall
    refine s_ret ev_bl Z1 fun v d' mu' H' ⟨e, _⟩ S' => q.go hM S' (e.trans (congrArg D.bl ?_))
    refine (List.all_eq_true.mpr fun ac hac => ?_).symm
    obtain ⟨m1, m2⟩ := mem_unl.mp hac
    exact hall ac.1 ac.2 m1 m2
end
end DL
/-! the law's end, left, is_harm -/
namespace DL
open PySem L2 Mth

section
variable {C : Addr} {c : Cn} {K : PySem.W.Frag} {rho : List (Option D)} {mu : Mu} {ts : List (V × D)} {s : L2.St} {F H F' H' : Hp} {v : V} {d d1 d2 : D} {te tm ta tb tx ty : TE} {ds es : List D} {E : Ends} {u : TS} {a : Addr}
abbrev tIsI (K : PySem.W.Frag) (te : TE) (n : String) : TE := tCB (rIsi K) (tCons te (tCons (tC (.ty n)) tNil))
/-- not an int, or a bool, or out of bounds -/
theorem et_bounds {m : Int} (hv : EvD C te rho mu d) (hk : (kd d).isSome = true) (hm : EvD C tm rho mu (.int m)) :
    EtD C (tOr (tNot (tB (tIsI K te "int"))) (tOr (tB (tIsI K te "bool")) (tNot (tTest (tChain rLeI rLtI (tC (.int 0)) te tm))))) rho mu (!isIndex d m) := by
  cases d with
  | int i => exact (et_or (a := false) (EtD.to (et_not (et_B (ev_isI hv hk))) rfl) fun _ => et_or (a := false) (EtD.to (et_B (ev_isB hv hk)) rfl) fun _ => et_not (et_test (ev_chainI (p := fun i j => decide (i ≤ j)) (q := fun i j => decide (i < j)) ev_int hv hm))).to rfl
  | bl b => exact (et_or (a := false) (EtD.to (et_not (et_B (ev_isI hv hk))) rfl) fun _ => et_or (a := true) (b := false) (EtD.to (et_B (ev_isB hv hk)) rfl) fun z => by cases z).to rfl
  | non => exact (et_or (a := true) (b := false) (EtD.to (et_not (et_B (ev_isI hv hk))) rfl) fun z => by cases z).to rfl
  | tup ds => exact (et_or (a := true) (b := false) (EtD.to (et_not (et_B (ev_isI hv hk))) rfl) fun z => by cases z).to rfl
  | lst ds => exact (et_or (a := true) (b := false) (EtD.to (et_not (et_B (ev_isI hv hk))) rfl) fun z => by cases z).to rfl
  | str x => cases hk
  | dct ks ds => cases hk
  | mach k S => cases hk
  | ptr a => cases hk
  | obj o => cases hk
/-- a[i], a[j] = x, y of an own list -/
theorem q_store2 (k : Nat) {i j : Int} {m n : Nat} (hv : EvD C te rho mu (.tup [d1, d2])) (ha : EvD C ta rho mu (.ptr a)) (hi : EvD C tx rho mu (.int i)) (hj : EvD C ty rho mu (.int j)) (ha' : ∀ mu', EvD C ta rho mu' (.ptr a)) (hj' : ∀ mu', EvD C ty rho mu' (.int j)) (hk : mu[k]? = some (a, .lst ds)) (hm : ixN ds.length i = some m) (hn : ixN ds.length j = some n) (S : Sat C c rho mu ts s H)
    (q : ∀ H', Sat C c rho (mu.set k (a, .lst ((ds.set m d1).set n d2))) ts s H' → u E s H') : tSeq (tAsg te (gTup K 2 (gCons (gSub ta tx rSetL) (gCons (gSub ta ty rSetL) gNil)))) u E s H := by
  refine hv.run S fun v H1 S1 => ?_
  obtain ⟨F, T⟩ := id S1
  obtain ⟨b, xs, e, hx, hs⟩ := T.top.tup_inv
  subst e
  match xs, hs with
  | [x, y], hs =>
    refine ⟨b, [x, y], rfl, SqT.of (T.sub _ _ hx), rfl, x, [y], rfl, ?_⟩
    have S2 : Sat C c rho mu ((x, d1) :: (y, d2) :: ts) s H1 := ⟨F, T.temps fun p hp => by
      rcases List.mem_cons.mp hp with h | hp
      · subst h; exact hs.head
      · rcases List.mem_cons.mp hp with h | hp
        · subst h; exact hs.tail.head
        · exact T.tmp p (List.mem_cons_of_mem _ hp)⟩
    refine ha.run S2 fun o H2 S3 => hi.run S3 fun w H3 S4 => ?_
    obtain ⟨F4, T4⟩ := S4
    obtain ⟨_, _, zs, hz, hzs⟩ := T4.mu _ (List.mem_of_getElem? hk)
    have r := T4.tmp (x, d1) (by simp)
    refine ⟨a, zs, i, m, (T4.tmp (o, .ptr a) (by simp)).ptr_inv, T4.top.int_inv, hz, by rw [hzs.1]; exact hm, y, [], rfl, ?_⟩
    have T5 := (T4.changeAt (m' := .lst (ds.set m d1)) hk id ⟨zs.set m x, upd_same, hzs.set r⟩).fewer (ts' := (y, d2) :: ts) fun p hp => by
      simp only [List.mem_cons] at hp ⊢
      rcases hp with h | h
      · exact .inr (.inr (.inr (.inl h)))
      · exact .inr (.inr (.inr (.inr h)))
    have hk' : (mu.set k (a, MO.lst (ds.set m d1)))[k]? = some (a, .lst (ds.set m d1)) := by
      rw [List.getElem?_set_self (List.getElem?_eq_some_iff.mp hk).1]
    refine (ha' _).run ⟨F4, T5⟩ fun o2 H5 S6 => (hj' _).run S6 fun w2 H6 S7 => ?_
    obtain ⟨F7, T7⟩ := S7
    obtain ⟨_, _, zs2, hz2, hzs2⟩ := T7.mu _ (List.mem_of_getElem? hk')
    have r2 := T7.tmp (y, d2) (by simp)
    have T8 := (T7.changeAt (m' := .lst ((ds.set m d1).set n d2)) hk' id ⟨zs2.set n y, upd_same, hzs2.set r2⟩).fewer (ts' := ts) fun p hp => by simp [hp]
    rw [List.set_set] at T8
    exact ⟨a, zs2, j, n, (T7.tmp (o2, .ptr a) (by simp)).ptr_inv, T7.top.int_inv, hz2, by rw [hzs2.1, List.length_set]; exact hn, rfl, q _ ⟨F7, T8⟩⟩
  | [], hs => exact absurd hs.1 (by simp)
  | [_], hs => exact absurd hs.1 (by simp)
  | _ :: _ :: _ :: _, hs => exact absurd hs.1 (by simp)
end
theorem stairs_of : ∀ {cs : List (Nat × Nat)}, (∀ (i : Nat) a b, cs[i]? = some a → cs[i + 1]? = some b → a.1 < b.1 ∧ b.2 < a.2) → stairs cs = true
  | [], _ => rfl
  | [_], _ => rfl
  | x :: y :: r, h => by
    have h0 := h 0 x y rfl rfl
    have ih := stairs_of (cs := y :: r) fun i a b h1 h2 => h (i + 1) a b h1 h2
    show ((decide (x.1 < y.1) && decide (y.2 < x.2)) && stairs (y :: r)) = true
    rw [ih, decide_eq_true h0.1, decide_eq_true h0.2]
    rfl
section
variable {P : Program} {w : World} {K : PySem.W.Frag} {mg : Str → Option Value} {base : Heap} {C : Addr}
abbrev sp_l_end (C : Addr) : Sp := spF C (fun x : (Mat × Nat) × Nat × (Bool × List Nat) => [matL x.1.1, nat x.2.1, sq x.2.2.1 (nats x.2.2.2)]) (fun x => Ok x.1.1 x.1.2 ∧ x.2.1 < x.1.1.length ∧ ∀ e ∈ x.2.2.2, e < x.1.2) fun x r => r = nat (ledN x.1.1 x.2.1 x.2.2.2)
theorem c_l_end (T : Txt K mg C) : Cal P w K mg base 1 "_law_end" ["_law_steps", "_law_state", "_law_row"] (sp_l_end C) := T.d.l_end.cal fun f fd Fn => okF Fn sc_l_end (fun _ => rfl) fun x cdv A outer s H E hp hr => by
  obtain ⟨⟨S, k⟩, st, b, row⟩ := x
  obtain ⟨h, hs, hk⟩ := hp
  dsimp only at h hs hk
  refine ⟨_, (pss_cons (ps_for PassesOwn.never rfl (k_pis K (pv 2)) (pgn 3 sc_l_end.nd)
  (pss_one (psn 1 sc_l_end.nd (k_ix K (k_ix K (pv 0) (pv 1)) (pv 3)))))
  (pss_one (ps_ret (pv 1)))), fun cn Q s0 H0 hM q Z => ?_⟩
  replace Z : Sat C cn [some (matL S), some (nat st), some (sq b (nats row)), none] [] [] s0 H0 := Z
  refine q_for (evi_seq (ev_var rfl)) Z (fun i (_ : Unit) => [some (matL S), some (nat (ledN S st (row.take i))), some (sq b (nats row)), none]) (fun _ _ => []) (fun _ _ => True) ⟨(), trivial, ⟨rfl, rfl, rfl, trivial⟩, rfl⟩ (fun i d _ tx hd _ => ?_) fun _ s2 H2 _ Z2 => ?_
  · obtain ⟨t, ht, rfl⟩ := nats_at hd
    refine ⟨_, _, bg_name, fun s2 H2 Z2 => ?_⟩
    refine s_asgD (EvD.to (ev_nxL h (ev_var rfl) (ev_var rfl) (ev_var rfl) (ledN_lt h _ _ hs) (hk t (List.mem_of_getElem? ht))) (show _ = nat (ledN S st (row.take (i + 1))) from ?_)) Z2 fun s3 H3 Z3 => ⟨(), trivial, Z3.weak ⟨rfl, rfl, rfl, trivial⟩⟩
    rw [List.take_succ, ht, ledN_append]
    rfl
  · refine s_ret (ev_var rfl) Z2 fun v d' mu' H' ⟨e, _⟩ S' => q.go hM S' (e.trans ?_)
    have : (nats row).length = row.length := by unfold nats; rw [List.length_map]
    rw [this, List.take_length]
abbrev sp_l_left (C : Addr) : Sp := spF C (fun x : (Mat × Nat) × List (Nat × Nat) => [matL x.1.1, tps x.2]) (fun x => Ok x.1.1 x.1.2 ∧ stairs x.2 = true ∧ x.2.length ≤ 1000) fun x r => r = .lst ((ctxL (uu x.1.1 x.1.2) (vv x.1.1) x.2).map tp)
theorem c_l_left (T : Txt K mg C) : Cal P w K mg base 2 "_law_left" ["_law_steps", "_law_some"] (sp_l_left C) := T.d.l_left.cal fun f fd Fn => okF Fn sc_l_left (fun _ => rfl) fun x cdv A outer s H E hp hr => by
  have g_l_lots := c_l_lots (P := P) (w := w) (base := base) T
  have g_l_classes := c_l_classes (P := P) (w := w) (base := base) T
  obtain ⟨⟨S, k⟩, cs⟩ := x
  obtain ⟨h, hst, hl⟩ := hp
  dsimp only at h hst hl
  refine ⟨_, (pss_cons (ps_par (i := 2) (j := 3) rfl sc_l_left.nd rfl rfl (by decide) rfl rfl (pa_cons (pe_op op_sub (k_len K T.b.len (pe_cal g_l_lots (hr.mono (by decide)) (pa_cons (pv 0) pa_nil))) pe_int) (pa_cons (pe_op op_sub (k_len K T.b.len (pe_cal g_l_classes (hr.mono (by decide)) (pa_cons (pv 0) pa_nil))) pe_int) pa_nil)) (by rfl))
  (pss_cons (ps_if (pt_cmpR (k_eqD K hr.units) (k_len K T.b.len (pv 1)) pe_int (nomark _))
  (pss_one (ps_ret (pe_lst (pa_cons (pe_tup (pa_cons (pv 2) (pa_cons (pv 3) pa_nil))) pa_nil))))
  pss_nil)
  (pss_cons (psn 4 sc_l_left.nd (pe_ifExp (pt_cmpR op_gt (k_ix K (k_ix K (pv 1) pe_int) pe_int) pe_int (nomark _)) (pe_lst (pa_cons (pe_tup (pa_cons (pe_op op_sub (k_ix K (k_ix K (pv 1) pe_int) pe_int) pe_int) (pa_cons (pv 3) pa_nil))) pa_nil)) (pe_lst pa_nil)))
  (pss_cons (ps_for PassesOwn.never rfl (pi_range1 (by rfl) T.b.range (pa_cons (pe_op op_sub (k_len K T.b.len (pv 1)) pe_int) pa_nil)) (pgn 5 sc_l_left.nd)
  (pss_one (ps_expr (pe_bm PySem.F.plainAttrs_list PySem.F.slot_list_append PySem.F.type_list_append mt_append (pv 4) (pa_cons (pe_tup (pa_cons (pe_op op_sub (k_ix K (k_ix K (pv 1) (pe_op op_add (pv 5) pe_int)) pe_int) pe_int) (pa_cons (pe_op op_sub (k_ix K (k_ix K (pv 1) (pv 5)) pe_int) pe_int) pa_nil))) pa_nil)))))
  (pss_one (ps_ret (pe_op op_cat (pv 4) (pe_ifExp (pt_cmpR op_gt (k_ix K (k_ix K (pv 1) (pe_un un_neg pe_int)) pe_int) pe_int (nomark _)) (pe_lst (pa_cons (pe_tup (pa_cons (pv 2) (pa_cons (pe_op op_sub (k_ix K (k_ix K (pv 1) (pe_un un_neg pe_int)) pe_int) pe_int) pa_nil))) pa_nil)) (pe_lst pa_nil))))))))), fun cn Q s0 H0 hM q Z => ?_⟩
  replace Z : Sat C cn [some (matL S), some (.tup (cs.map tp)), none, none, none, none] [] [] s0 H0 := Z
  have eu : ∀ n : Nat, D.int (((n + 1 : Nat) : Int) - 1) = nat n := fun n => by
    show D.int _ = D.int _
    congr 1
    omega
  refine q_parD (ea_cons (EvD.to (d2 := nat (uu S k)) (ev_sub (EvD.to (ev_lenL (ev_call (f := fun x : Mat × Nat => .lst ((lots x.1 x.2).map ln)) (S, k) (ea_cons (ev_var rfl) ea_nil) h)) (by rw [List.length_map, lots_len])) ev_int) (eu _)) (ea_cons (EvD.to (d2 := nat (vv S)) (ev_sub (EvD.to (ev_lenL (ev_call (f := fun x : Mat × Nat => .lst ((clss x.1).map ln)) (S, k) (ea_cons (ev_var rfl) ea_nil) h)) (by rw [List.length_map, clss_len])) ev_int) (eu _)) ea_nil)) Z fun s1 H1 Z1 => ?_
  replace Z1 : Sat C cn [some (matL S), some (.tup (cs.map tp)), some (nat (uu S k)), some (nat (vv S)), none, none] [] [] s1 H1 := Z1
  refine q_when (et_test (ev_eqI (ev_lenT (ev_var rfl)) ev_int)) Z1 (fun hz H2 Z2 => ?_) fun hz H2 Z2 => ?_
  · have e0 : cs = [] := by
      have := of_decide_eq_true hz
      rw [List.length_map] at this
      exact List.length_eq_zero_iff.mp (by omega)
    subst e0
    exact s_ret (ev_lst (ds := [tp (uu S k, vv S)]) (ea_cons (ev_tup (ds := [nat (uu S k), nat (vv S)]) (ea_cons (ev_var rfl) (ea_cons (ev_var rfl) ea_nil))) ea_nil)) Z2 fun v d' mu' H' ⟨e, _⟩ S' => q.go hM S' e
  · cases cs with
    | nil => exact absurd (of_decide_eq_false hz) (by simp)
    | cons a r =>
      have at0 : ∀ {rho : List (Option D)} {mu : Mu}, rho[1]? = some (some (.tup ((a :: r).map tp))) → EvD C (tOp (rIx K) (tVar 1) (tC (.int 0))) rho mu (tp a) := fun hh => ev_ixT (ev_var hh) ev_int (at_nat (n := 0) rfl)
      have atl : ∀ {rho : List (Option D)} {mu : Mu}, rho[1]? = some (some (.tup ((a :: r).map tp))) → EvD C (tOp (rIx K) (tVar 1) (tUn (rU fun i => .int (-i)) (tC (.int 1)))) rho mu (tp (lastC (a :: r))) := fun hh => ev_ixT (ev_var hh) (ev_neg ev_int) (at_last (n := r.length) (by simp) (by rw [List.getElem?_map, last_at]; rfl))
      obtain ⟨first, hf, hf1⟩ : ∃ first : List (Nat × Nat), first = (if a.1 = 0 then [] else [(a.1 - 1, vv S)]) ∧ first.length ≤ 1 := ⟨_, rfl, by split <;> simp⟩
      refine q_asgN (ds := first.map tp) (ev_if (b := decide (0 < a.1)) (et_test (EvD.to (ev_gt (ev_fst (at0 rfl)) ev_int) (by rw [decide_eq_decide.mpr (show (0 : Int) < (a.1 : Int) ↔ 0 < a.1 by omega)]))) (fun hb => ?_) fun hb => ?_) Z2 fun p s3 H3 Z3 => ?_
      · have ha : 0 < a.1 := of_decide_eq_true hb
        rw [if_neg (by omega)] at hf
        rw [hf]
        exact el_lst (ds := [tp (a.1 - 1, vv S)]) (ea_cons (ev_tup (ds := [nat (a.1 - 1), nat (vv S)]) (ea_cons (ev_less (ev_fst (at0 rfl)) ha) (ea_cons (ev_var rfl) ea_nil))) ea_nil)
      · have ha : ¬ 0 < a.1 := of_decide_eq_false hb
        rw [if_pos (by omega)] at hf
        rw [hf]
        exact el_lst (ds := []) ea_nil
      · have hm : (mids (a :: r)).length = r.length := by
          rw [mids_zip, List.length_zipWith]
          simp
        have hlr : r.length ≤ 1000 := by simp at hl; omega
        refine q_for (evi_rng (n := r.length) (EvD.to (ev_sub (ev_lenT (ev_var rfl)) ev_int) (by
          rw [List.length_map, List.length_cons]
          exact eu _)) (by omega)) Z3 (fun _ (_ : Unit) => [some (matL S), some (.tup ((a :: r).map tp)), some (nat (uu S k)), some (nat (vv S)), some (.ptr p), none]) (fun i _ => [(p, .lst ((first ++ (mids (a :: r)).take i).map tp))])
          (fun _ _ => True) ⟨(), trivial, ⟨rfl, rfl, rfl, rfl, rfl, trivial⟩, by rw [List.take_zero, List.append_nil]⟩ (fun i e y tx hd _ => ?_) fun y s4 H4 _ Z4 => ?_
        · obtain ⟨hi, rfl⟩ := rng_at hd
          have g1 : (a :: r)[i]? = some ((a :: r)[i]'(by simp; omega)) := List.getElem?_eq_getElem _
          have g2 : (a :: r)[i + 1]? = some ((a :: r)[i + 1]'(by simp; omega)) := List.getElem?_eq_getElem _
          generalize (a :: r)[i]'(by simp; omega) = b1 at g1
          generalize (a :: r)[i + 1]'(by simp; omega) = b2 at g2
          obtain ⟨l1, l2⟩ := stairs_at hst g1 g2
          refine ⟨_, _, bg_name, fun s4 H4 Z4 => ?_⟩
          have ix1 : ∀ {rho : List (Option D)} {mu : Mu}, rho[1]? = some (some (.tup ((a :: r).map tp))) → rho[5]? = some (some (nat i)) → EvD C (tOp (rIx K) (tVar 1) (tVar 5)) rho mu (tp b1) := fun hh h5 => ev_ixT (ev_var hh) (ev_var h5) (at_nat (by rw [List.getElem?_map, g1]; rfl))
          have ix2 : ∀ {rho : List (Option D)} {mu : Mu}, rho[1]? = some (some (.tup ((a :: r).map tp))) → rho[5]? = some (some (nat i)) → EvD C (tOp (rIx K) (tVar 1) (tOp rAddI (tVar 5) (tC (.int 1)))) rho mu (tp b2) := fun hh h5 => ev_ixT (ev_var hh) (EvD.to (ev_add (ev_var h5) ev_int) (show _ = nat (i + 1) from congrArg D.int (by omega))) (at_nat (by rw [List.getElem?_map, g2]; rfl))
          refine s_appD 0 (ev_var rfl) (ev_tup (ds := [nat (b2.1 - 1), nat (b1.2 - 1)]) (ea_cons (ev_less (ev_fst (ix2 rfl rfl)) (by omega)) (ea_cons (ev_less (ev_snd (ix1 rfl rfl)) (by omega)) ea_nil))) rfl (by rw [List.length_map, List.length_append, List.length_take]; omega) Z4 fun H5 Z5 => ⟨(), trivial, ?_⟩
          have hmi : (mids (a :: r))[i]? = some (b2.1 - 1, b1.2 - 1) := by
            rw [mids_zip, List.getElem?_zipWith, g1, List.getElem?_drop, Nat.add_comm, g2]
          have et : (first ++ (mids (a :: r)).take i).map tp ++ [.tup [nat (b2.1 - 1), nat (b1.2 - 1)]] = (first ++ (mids (a :: r)).take (i + 1)).map tp := by
            rw [List.take_succ, hmi, ← List.append_assoc, List.map_append (l₁ := first ++ _)]
            rfl
          rw [et] at Z5
          exact Z5.weak ⟨rfl, rfl, rfl, rfl, rfl, trivial⟩
        · have el : ((List.range r.length).map nat).length = (mids (a :: r)).length := by simp [hm]
          rw [el, List.take_length] at Z4
          have Z5 := Z4.letgo (i := 4) rfl
          obtain ⟨last, hla, hla1⟩ : ∃ last : List (Nat × Nat), last = (if (lastC (a :: r)).2 = 0 then [] else [(uu S k, (lastC (a :: r)).2 - 1)]) ∧ last.length ≤ 1 := ⟨_, rfl, by split <;> simp⟩
          refine s_ret (EvN.ev (el_cat (ev_var rfl) (es := last.map tp) (ev_ifD (b := decide (0 < (lastC (a :: r)).2)) (et_test (EvD.to (ev_gt (ev_snd (atl rfl)) ev_int) (by rw [decide_eq_decide.mpr (show (0 : Int) < ((lastC (a :: r)).2 : Int) ↔ 0 < (lastC (a :: r)).2 by omega)]))) (fun hb => ?_) fun hb => ?_) ?_)) Z5 fun v d' mu' H' ⟨e, _⟩ S' => q.go hM S' (e.trans ?_)
          · have ha : 0 < (lastC (a :: r)).2 := of_decide_eq_true hb
            rw [if_neg (by omega)] at hla
            rw [hla]
            exact ev_lst (ds := [tp (uu S k, (lastC (a :: r)).2 - 1)]) (ea_cons (ev_tup (ds := [nat (uu S k), nat ((lastC (a :: r)).2 - 1)]) (ea_cons (ev_var rfl) (ea_cons (ev_less (ev_snd (atl rfl)) ha) ea_nil))) ea_nil)
          · have ha : ¬ 0 < (lastC (a :: r)).2 := of_decide_eq_false hb
            rw [if_pos (by omega)] at hla
            rw [hla]
            exact ev_lst (ds := []) ea_nil
          · rw [List.length_map, List.length_map, List.length_append]
            omega
          · rw [← List.map_append]
            congr 2
            rw [hf, hla]
            rfl
end
end DL
/-! the law's is_harm -/
namespace DL
open PySem L2 Mth

section
variable {P : Program} {w : World} {K : PySem.W.Frag} {mg : Str → Option Value} {base : Heap} {C : Addr}
abbrev sp_l_is_harm (C : Addr) : Sp := spF C (fun x : (Mat × Nat) × (Nat × Nat × Nat) × D => [matL x.1.1, nat x.2.1.1, nat x.2.1.2.1, nat x.2.1.2.2, x.2.2])
  (fun x => Ok x.1.1 x.1.2 ∧ (x.2.1.1 ≤ 500 ∧ 1 ≤ x.2.1.2.1 ∧ x.2.1.2.1 ≤ 500 ∧ x.2.1.2.2 ≤ 500) ∧ pl 6 x.2.2 = true ∧ ∀ rs st, x.2.2 = .tup [.tup rs, st] → rs.length ≤ 5000) fun x r => r = .bl (tru (IsHm x.1.1 x.1.2 x.2.1.1 x.2.1.2.1 x.2.1.2.2 x.2.2))
theorem c_l_is_harm (T : Txt K mg C) : Cal P w K mg base 2 "_law_is_harm" ["_law_steps", "_law_before", "_law_step", "_law_after", "_law_value"] (sp_l_is_harm C) := T.d.l_is_harm.cal fun f fd Fn => okF Fn sc_l_is_harm (fun _ => rfl) fun x cdv A outer s H E hp hr => by
  have g_l_end := c_l_end (P := P) (w := w) (base := base) T
  obtain ⟨⟨S, k⟩, ⟨x, d, y⟩, v⟩ := x
  obtain ⟨h, ⟨hx, hd1, hd2, hy⟩, hv, hrow⟩ := hp
  dsimp only at h hx hd1 hd2 hy hv hrow
  refine ⟨_, (pss_cons (ps_if (PW.pt (pw_or (pt_not (pt_val (x_isiT T.b (pv 4)))) (pw_or (pt_cmpR (k_neD K hr.units) (k_len K T.b.len (pv 4)) pe_int (nomark _)) (pw_or1 (pt_not (pt_val (x_isiT T.b (k_ix K (pv 4) pe_int))))))))
  (pss_one (ps_ret pe_bl))
  pss_nil)
  (pss_cons (ps_asg (pv 4) (k_gtup K 2 (pgs_cons (pgn 5 sc_l_is_harm.nd) (pgs_cons (pgn 6 sc_l_is_harm.nd) pgs_nil))))
  (pss_cons (ps_for PassesOwn.never rfl (k_pil K (pe_op op_cat (pe_lst (pa_cons (pe_tup (pa_cons (pv 6) (pa_cons (k_len K T.b.len (pv 0)) pa_nil))) pa_nil)) (pe_lc (own := [("_law_command", 9)]) (by rfl) sc_l_is_harm.nd (k_pit K (pv 5)) (bk (own := [("_law_command", 9)]) (N := N_l_is_harm) (sc := defScope s_l_is_harm)) (fun _ _ _ _ _ => (pgn 9 sc_l_is_harm.nd)) (fun _ _ _ _ _ => pts_nil) (fun _ _ _ _ _ => (pe_tup (pa_cons (pv 9) (pa_cons (k_len K T.b.len (k_ix K (pv 0) pe_int)) pa_nil))))))) (k_gtup K 2 (pgs_cons (pgn 7 sc_l_is_harm.nd) (pgs_cons (pgn 8 sc_l_is_harm.nd) pgs_nil)))
  (pss_one (ps_if (PW.pt (pw_or (pt_not (pt_val (x_isiI T.b (pv 7)))) (pw_or (pt_val (x_isiB T.b (pv 7))) (pw_or1 (pt_not (pt_chain op_le op_lt pe_int (pv 7) (pv 8)))))))
  (pss_one (ps_ret pe_bl))
  pss_nil)))
  (pss_cons (ps_if (pt_cmpR (k_neD K hr.units) (k_len K T.b.len (pv 5)) (pe_op op_add (pe_op op_add (pe_op op_add (pv 1) (pv 2)) pe_int) (pv 3)) (nomark _))
  (pss_one (ps_ret pe_bl))
  pss_nil)
  (pss_cons (psn 10 sc_l_is_harm.nd (k_list K T.b.list (pv 5)))
  (pss_cons (ps_asg (pe_tup (pa_cons (k_ix K (pv 5) (pe_op op_add (pv 1) (pv 2))) (pa_cons (k_ix K (pv 5) (pv 1)) pa_nil))) (k_gtup K 2 (pgs_cons (pg_sub (pv 10) (pv 1) set_list) (pgs_cons (pg_sub (pv 10) (pe_op op_add (pv 1) (pv 2)) set_list) pgs_nil))))
  (pss_one (ps_ret (pe_cmpR (k_neD K hr.units) (pe_cal g_l_end (hr.mono (by decide)) (pa_cons (pv 0) (pa_cons (pv 6) (pa_cons (pv 5) pa_nil)))) (pe_cal g_l_end (hr.mono (by decide)) (pa_cons (pv 0) (pa_cons (pv 6) (pa_cons (pv 10) pa_nil)))) (nomark _)))))))))), fun cn Q s0 H0 hM q Z => ?_⟩
  replace Z : Sat C cn [some (matL S), some (nat x), some (nat d), some (nat y), some v, none, none, none, none, none, none] [] [] s0 H0 := Z
  have no : ∀ {E : Ends} {rho mu ts s H}, E.rt = Q → ¬ IsHm S k x d y v → Sat C cn rho mu ts s H → tRet (tC (.bl false)) E s H := fun eE hn Z => s_ret ev_bl Z fun v d' mu' H' ⟨e, _⟩ S' => by
    rw [eE]
    exact q.go hM S' (e.trans (congrArg D.bl (tru_of (by simpa using hn))))
  refine q_when (et_two (b3 := fun e0 _ => !isT e0) (ev_var rfl) (pl_kd hv) fun e0 e1 hve => et_not (et_B (ev_isT (ev_ixT (d := e0) (EvD.to (ev_var rfl) hve) ev_int (at_nat (n := 0) rfl)) (pl_kd (pl_in (n := 5) (by rw [← hve]; exact hv) e0 List.mem_cons_self))))) Z (fun hb H1 Z1 => ?_) fun hb H1 Z1 => ?_
  · refine no rfl (fun ⟨row, s', e, _⟩ => ?_) Z1
    rw [e] at hb
    cases hb
  · have sh : ∃ rs st, v = .tup [.tup rs, st] := by
      unfold two at hb
      split at hb
      · rename_i e0 e1
        have : isT e0 = true := by simpa using hb
        obtain ⟨rs, rfl⟩ := isT_inv this
        exact ⟨rs, e1, rfl⟩
      · cases hb
    obtain ⟨rs, st, rfl⟩ := sh
    have hrl := hrow rs st rfl
    have kst := pl_kd (pl_in hv st (List.mem_cons_of_mem _ List.mem_cons_self))
    have krs : ∀ e ∈ rs, (kd e).isSome = true := fun e he => pl_kd (pl_in (pl_in hv (.tup rs) List.mem_cons_self) e he)
    have hlen : ∀ {rho : List (Option D)} {mu : Mu}, rho[0]? = some (some (matL S)) → EvD C (tCB (rLen K) (tCons (tVar 0) tNil)) rho mu (nat S.length) := fun hh => EvD.to (ev_lenL (ds := S.map fun r => .lst (nats r)) (ev_var hh)) (by rw [List.length_map])
    refine q_bind (ev_var rfl) (bg_tup bg_name bg_name) Z1 fun s2 H2 Z2 => ?_
    refine q_for (ds := D.tup [st, nat S.length] :: rs.map fun e => .tup [e, nat k]) (evi_lst (EvN.ev (el_cat (ev_lst (ds := [D.tup [st, nat S.length]]) (ea_cons (ev_tup (ds := [st, nat S.length]) (ea_cons (ev_var rfl) (ea_cons (hlen rfl) ea_nil))) ea_nil)) (EvN.ev (el_map (fun e => .tup [e, nat k]) (evi_tup (ev_var rfl)) (by omega) fun i e he => ⟨_, _, bg_name, by simp, fun mu' => ev_tup (ea_cons (ev_var rfl) (ea_cons (ev_k h (ev_var rfl)) ea_nil))⟩)) (by rw [List.length_map]; simp; omega)))) Z2
      (fun _ (_ : Unit) => [some (matL S), some (nat x), some (nat d), some (nat y), some (.tup [.tup rs, st]), some (.tup rs), some st, none, none, none, none]) (fun _ _ => []) (fun i _ => (0 < i → isIndex st (S.length : Int) = true) ∧ ∀ (j : Nat) e, j + 1 < i → rs[j]? = some e → isIndex e (k : Int) = true)
      ⟨(), ⟨fun z => absurd z (Nat.lt_irrefl _), fun j e z => absurd z (Nat.not_lt_zero _)⟩, ⟨rfl, rfl, rfl, rfl, rfl, rfl, rfl, trivial⟩, rfl⟩ (fun i e _ tx he hi => ?_) fun _ s3 H3 hall Z3 => ?_
    · cases i with
      | zero =>
        have e1 : D.tup [st, nat S.length] = e := by simpa using he
        subst e1
        refine ⟨_, _, bg_tup bg_name bg_name, fun s3 H3 Z3 => ?_⟩
        refine s_ifD (et_bounds (m := (S.length : Int)) (ev_var rfl) kst (ev_var rfl)) Z3 (fun hb H4 Z4 => ?_) fun hb H4 Z4 => ?_
        · refine no rfl (fun ⟨row, s', e, m1, m2, m3, m4⟩ => ?_) Z4
          injection e with e
          injection e with e1 e2
          injection e2 with e2 _
          subst e2
          rw [isIndex_nat, decide_eq_true m3] at hb
          cases hb
        · exact ⟨(), ⟨fun _ => by simpa using hb, fun j e z => absurd z (by omega)⟩, Z4.weak ⟨rfl, rfl, rfl, rfl, rfl, rfl, rfl, trivial⟩⟩
      | succ i =>
        rw [List.getElem?_cons_succ, List.getElem?_map] at he
        cases hr0 : rs[i]? with
        | none => rw [hr0] at he; cases he
        | some r0 =>
          rw [hr0] at he
          cases he
          have hmem := List.mem_of_getElem? hr0
          refine ⟨_, _, bg_tup bg_name bg_name, fun s3 H3 Z3 => ?_⟩
          refine s_ifD (et_bounds (m := (k : Int)) (ev_var rfl) (krs _ hmem) (ev_var rfl)) Z3 (fun hb H4 Z4 => ?_) fun hb H4 Z4 => ?_
          · refine no rfl (fun ⟨row, s', e, m1, m2, m3, m4⟩ => ?_) Z4
            injection e with e
            injection e with e1 e2
            injection e1 with e1
            rw [e1] at hmem
            obtain ⟨t, ht, e3⟩ := List.mem_map.mp hmem
            subst e3
            rw [isIndex_nat, decide_eq_true (m2 t ht)] at hb
            cases hb
          · refine ⟨(), ⟨fun _ => hi.1 (by omega), fun j e hj hje => ?_⟩, Z4.weak ⟨rfl, rfl, rfl, rfl, rfl, rfl, rfl, trivial⟩⟩
            by_cases z : j = i
            · rw [z, hr0] at hje
              cases hje
              simpa using hb
            · exact hi.2 j e (by omega) hje
    · obtain ⟨a1, a2⟩ := hall
      obtain ⟨s', rfl, hs'⟩ := isIndex_inv (a1 (by simp))
      obtain ⟨row, rfl, hrw⟩ := all_index (rs := rs) (n := k) fun e he => by
        obtain ⟨j, hj⟩ := List.mem_iff_getElem?.mp he
        exact a2 j e (by have := (List.getElem?_eq_some_iff.mp hj).1; simp; omega) hj
      have hl : (nats row).length = row.length := by unfold nats; rw [List.length_map]
      refine q_when (et_test (ev_neI (ev_lenT (ev_var rfl)) (ev_add (ev_add (ev_add (ev_var rfl) (ev_var rfl)) ev_int) (ev_var rfl)))) Z3 (fun hb H4 Z4 => ?_) fun hb H4 Z4 => ?_
      · refine no rfl (fun ⟨row', s'', e, m1, m2, m3, m4⟩ => ?_) Z4
        injection e with e
        injection e with e1 e2
        injection e1 with e1
        have er := nats_inj e1
        subst er
        rw [hl, m1, decide_eq_true (by omega)] at hb
        cases hb
      · have hlr : row.length = x + d + 1 + y := by
          have : decide (((nats row).length : Int) = (x : Int) + (d : Int) + 1 + (y : Int)) = true := by simpa using hb
          have := of_decide_eq_true this
          omega
        refine q_asgN (el_listT (ev_var rfl)) Z4 fun pt s5 H5 Z5 => ?_
        have gt : ∀ {j : Nat}, j < row.length → (nats row)[j]? = some (nat (row.getD j 0)) := fun {j} hj => by
          rw [List.getD_eq_getElem?_getD, List.getElem?_eq_getElem hj]
          unfold nats
          rw [List.getElem?_map, List.getElem?_eq_getElem hj]
          rfl
        have exd : (x : Int) + (d : Int) = ((x + d : Nat) : Int) := by omega
        have ixn : ∀ {j : Nat}, j < row.length → ixN (nats row).length (j : Int) = some j := fun {j} hj => by
          unfold ixN
          rw [if_pos (by omega), Int.toNat_natCast, if_pos (by omega)]
        refine q_store2 0 (i := (x : Int)) (j := ((x + d : Nat) : Int)) (m := x) (n := x + d) (d1 := nat (row.getD (x + d) 0)) (d2 := nat (row.getD x 0)) (ev_tup (ea_cons (ev_ixT (ev_var rfl) (EvD.to (ev_add (ev_var rfl) (ev_var rfl)) (by rw [exd])) (at_nat (gt (by omega)))) (ea_cons (ev_ixT (ev_var rfl) (ev_var rfl) (at_nat (gt (by omega)))) ea_nil))) (ev_var rfl) (ev_var rfl) (EvD.to (ev_add (ev_var rfl) (ev_var rfl)) (by rw [exd])) (fun mu' => ev_var rfl) (fun mu' => EvD.to (ev_add (ev_var rfl) (ev_var rfl)) (by rw [exd])) rfl (ixn (by omega)) (ixn (by omega)) Z5 fun H6 Z6 => ?_
        have et : ((nats row).set x (nat (row.getD (x + d) 0))).set (x + d) (nat (row.getD x 0)) = nats (turnd row x (x + d)) := by
          rw [← turnd_set (show x < x + d by omega) (show x + d < row.length by omega)]
          unfold nats
          rw [List.map_set, List.map_set]
        rw [et] at Z6
        have Z7 := Z6.letgo (i := 10) rfl
        have htk : ∀ e ∈ turnd row x (x + d), e < k := fun e he => by
          have mem : ∀ j, j < row.length → row.getD j 0 ∈ row := fun j hj => by
            rw [List.getD_eq_getElem?_getD, List.getElem?_eq_getElem hj]
            exact List.getElem_mem hj
          unfold turnd at he
          simp only [List.mem_append, List.mem_singleton] at he
          rcases he with (((he | he) | he) | he) | he
          · exact hrw e (List.mem_of_mem_take he)
          · rw [he]; exact hrw _ (mem _ (by omega))
          · exact hrw e (List.mem_of_mem_drop (List.mem_of_mem_take he))
          · rw [he]; exact hrw _ (mem _ (by omega))
          · exact hrw e (List.mem_of_mem_drop he)
        refine s_ret (ev_neI (ev_call (f := fun x : (Mat × Nat) × Nat × (Bool × List Nat) => nat (ledN x.1.1 x.2.1 x.2.2.2)) ((S, k), s', (false, row)) (ea_cons (ev_var rfl) (ea_cons (ev_var rfl) (ea_cons (ev_var rfl) ea_nil))) ⟨h, hs', hrw⟩) (ev_call (f := fun x : (Mat × Nat) × Nat × (Bool × List Nat) => nat (ledN x.1.1 x.2.1 x.2.2.2)) ((S, k), s', (true, turnd row x (x + d))) (ea_cons (ev_var rfl) (ea_cons (ev_var rfl) (ea_cons (ev_var rfl) ea_nil))) ⟨h, hs', htk⟩)) Z7 fun v d' mu' H' ⟨e, _⟩ S' => q.go hM S' (e.trans (congrArg D.bl (tru_of ?_)))
        dsimp only
        constructor
        · intro hb
          have hne : ¬ ((ledN S s' row : Int) = (ledN S s' (turnd row x (x + d)) : Int)) := by simpa using hb
          exact ⟨row, s', rfl, hlr, hrw, hs', fun z => hne (by rw [z])⟩
        · rintro ⟨row', s'', e', m1, m2, m3, m4⟩
          injection e' with e'
          injection e' with e1 e2
          injection e1 with e1
          injection e2 with e2 _
          have er := nats_inj e1
          have es : s' = s'' := by
            injection e2 with e2
            exact Int.ofNat.inj e2
          subst er; subst es
          simp
          intro z
          exact m4 (by omega)
end
end DL
/-! the law's is_paper -/
namespace DL
open PySem L2 Mth

theorem filt_nats (q : D → Bool) (f : D → Nat) (l : List D) : l.filterMap (fun z => if q z then some (nat (f z)) else none) = nats (l.filterMap fun z => if q z then some (f z) else none) := by
  unfold nats
  rw [List.map_filterMap]
  congr 1
  funext z
  cases q z <;> rfl
/-- the second of an enumerated entry, as a pair; with the harm that stands there -/
def hz (S : Mat) (k d : Nat) (hs : List D) : D → Prop
  | .tup [.int i, q] => ∃ h, hs[i.toNat]? = some h ∧ IsHm S k (pr q).1 d (pr q).2 h
  | _ => False
section
variable {C : Addr} {c : Cn} {rho : List (Option D)} {mu : Mu} {te : TE}
theorem evi_rngI {j : Int} (h : EvD C te rho mu (.int j)) (h0 : -100 ≤ j) (hn : j ≤ 100000) : EvI C (iRng1 (tCons te tNil)) rho mu ((List.range j.toNat).map nat) := fun c ts s H R S q => h.run S fun v H1 S1 => by
  obtain ⟨F, T⟩ := id S1
  have e := T.top.int_inv
  subst e
  refine ⟨j, rfl, by omega, by omega, q _ H1 [] ⟨fun i rho mu s H S hi => ?_, fun rho mu s H S => ?_, fun i d rho mu s H x H' hd S y => ?_⟩ (S1.pop)⟩
  · have : i < j.toNat := by simpa using hi
    exact this
  · show j.toNat ≤ ((List.range j.toNat).map nat).length
    simp
  · obtain ⟨e, y⟩ := y
    subst e; subst y
    obtain ⟨_, e2⟩ := rng_at hd
    subst e2
    obtain ⟨F, T⟩ := S
    refine ⟨F, T.push ?_⟩
    rw [Int.zero_add]
    exact .int _
end
section
variable {P : Program} {w : World} {K : PySem.W.Frag} {mg : Str → Option Value} {base : Heap} {C : Addr}
theorem et_four {te : TE} {t3 : TT} {rho : List (Option D)} {mu : Mu} {v : D} {b3 : D → D → Bool} (hv : EvD C te rho mu v) (hk : (kd v).isSome = true) (h3 : ∀ e0 e1, v = .tup [e0, e1] → EtD C t3 rho mu (b3 e0 e1)) : EtD C (tOr (tNot (tB (tIsT K te))) (tOr (tTest (tOp (rNeD K) (tLen K te) (tC (.int 2)))) t3)) rho mu (two b3 v) := et_two hv hk h3
abbrev sp_l_is_paper (C : Addr) : Sp := spF C (fun x : (Mat × Nat) × Nat × D => [matL x.1.1, nat x.2.1, x.2.2])
  (fun x => Ok x.1.1 x.1.2 ∧ Few x.1.1 x.1.2 ∧ (1 ≤ x.2.1 ∧ x.2.1 ≤ 500) ∧ pl 8 x.2.2 = true ∧ ∀ ds hs, x.2.2 = .tup [.tup ds, .tup hs] → ds.length ≤ 1000 ∧ ∀ h ∈ hs, ∀ rs st, h = .tup [.tup rs, st] → rs.length ≤ 5000) fun x r => r = .bl (tru (Pap x.1.1 x.1.2 x.2.1 x.2.2))
theorem c_l_is_paper (T : Txt K mg C) : Cal P w K mg base 3 "_law_is_paper" ["_law_steps", "_law_distance", "_law_value"] (sp_l_is_paper C) := T.d.l_is_paper.cal fun f fd Fn => okF Fn sc_l_is_paper (fun _ => rfl) fun x cdv A outer s H E hp hr => by
  have g_l_lots := c_l_lots (P := P) (w := w) (base := base) T
  have g_l_classes := c_l_classes (P := P) (w := w) (base := base) T
  have g_l_holds := c_l_holds (P := P) (w := w) (base := base) T
  have g_l_left := c_l_left (P := P) (w := w) (base := base) T
  have g_l_is_harm := c_l_is_harm (P := P) (w := w) (base := base) T
  obtain ⟨⟨S, k⟩, d, v⟩ := x
  obtain ⟨h, few, ⟨hd1, hd2⟩, hv, hrl⟩ := hp
  dsimp only at h few hd1 hd2 hv hrl
  have h10 := h.n10
  have u3 := (uu_spec h).2.2
  have v3 := (vv_spec h).2.2
  refine ⟨_, (pss_cons (ps_par (i := 3) (j := 4) rfl sc_l_is_paper.nd rfl rfl (by decide) rfl rfl (pa_cons (pe_cal g_l_lots (hr.mono (by decide)) (pa_cons (pv 0) pa_nil)) (pa_cons (pe_cal g_l_classes (hr.mono (by decide)) (pa_cons (pv 0) pa_nil)) pa_nil)) (by rfl))
  (pss_cons (ps_if (PW.pt (pw_or (pt_not (pt_val (x_isiT T.b (pv 2)))) (pw_or (pt_cmpR (k_neD K hr.units) (k_len K T.b.len (pv 2)) pe_int (nomark _)) (pw_or (pt_not (pt_val (x_isiT T.b (k_ix K (pv 2) pe_int)))) (pw_or1 (pt_not (pt_val (x_isiT T.b (k_ix K (pv 2) pe_int)))))))))
  (pss_one (ps_ret pe_bl))
  pss_nil)
  (pss_cons (ps_for PassesOwn.never rfl (k_pit K (k_ix K (pv 2) pe_int)) (pgn 5 sc_l_is_paper.nd)
  (pss_cons (ps_if (PW.pt (pw_or (pt_not (pt_val (x_isiT T.b (pv 5)))) (pw_or1 (pt_cmpR (k_neD K hr.units) (k_len K T.b.len (pv 5)) pe_int (nomark _)))))
  (pss_one (ps_ret pe_bl))
  pss_nil)
  (pss_cons (ps_for PassesOwn.never rfl (k_pil K (pe_lst (pa_cons (pe_tup (pa_cons (k_ix K (pv 5) pe_int) (pa_cons (k_len K T.b.len (pv 3)) pa_nil))) (pa_cons (pe_tup (pa_cons (k_ix K (pv 5) pe_int) (pa_cons (k_len K T.b.len (pv 4)) pa_nil))) pa_nil)))) (k_gtup K 2 (pgs_cons (pgn 6 sc_l_is_paper.nd) (pgs_cons (pgn 7 sc_l_is_paper.nd) pgs_nil)))
  (pss_one (ps_if (PW.pt (pw_or (pt_not (pt_val (x_isiI T.b (pv 6)))) (pw_or (pt_val (x_isiB T.b (pv 6))) (pw_or1 (pt_not (pt_chain op_le op_lt pe_int (pv 6) (pv 7)))))))
  (pss_one (ps_ret pe_bl))
  pss_nil)))
  (pss_one (ps_if (pt_not (pt_val (pe_cal g_l_holds (hr.mono (by decide)) (pa_cons (pv 0) (pa_cons (k_ix K (pv 3) (k_ix K (pv 5) pe_int)) (pa_cons (pv 1) (pa_cons (k_ix K (pv 4) (k_ix K (pv 5) pe_int)) pa_nil)))))))
  (pss_one (ps_ret pe_bl))
  pss_nil)))))
  (pss_cons (ps_for PassesOwn.never rfl (pi_range1 (by rfl) T.b.range (pa_cons (pe_op op_sub (k_len K T.b.len (k_ix K (pv 2) pe_int)) pe_int) pa_nil)) (pgn 8 sc_l_is_paper.nd)
  (pss_one (ps_if (PW.pt (pw_or (pt_cmpR op_ge (k_ix K (k_ix K (k_ix K (pv 2) pe_int) (pv 8)) pe_int) (k_ix K (k_ix K (k_ix K (pv 2) pe_int) (pe_op op_add (pv 8) pe_int)) pe_int) (nomark _)) (pw_or1 (pt_cmpR op_le (k_ix K (k_ix K (k_ix K (pv 2) pe_int) (pv 8)) pe_int) (k_ix K (k_ix K (k_ix K (pv 2) pe_int) (pe_op op_add (pv 8) pe_int)) pe_int) (nomark _)))))
  (pss_one (ps_ret pe_bl))
  pss_nil)))
  (pss_cons (psn 9 sc_l_is_paper.nd (pe_cal g_l_left (hr.mono (by decide)) (pa_cons (pv 0) (pa_cons (k_ix K (pv 2) pe_int) pa_nil))))
  (pss_cons (ps_if (pt_cmpR (k_neD K hr.units) (k_len K T.b.len (pv 9)) (k_len K T.b.len (k_ix K (pv 2) pe_int)) (nomark _))
  (pss_one (ps_ret pe_bl))
  pss_nil)
  (pss_one (ps_ret (pe_cmpR (k_eqD K hr.units) (pe_lc (own := [("_law_at", 8), ("_law_one", 5)]) (by rfl) sc_l_is_paper.nd (k_enumL K T.b.enumerate (pv 9)) (bk (own := [("_law_at", 8), ("_law_one", 5)]) (N := N_l_is_paper) (sc := defScope s_l_is_paper)) (fun _ _ _ _ _ => (k_gtup K 2 (pgs_cons (pgn 8 sc_l_is_paper.nd) (pgs_cons (pgn 5 sc_l_is_paper.nd) pgs_nil)))) (fun _ _ _ _ _ => (pts_one (pt_not (pt_val (pe_cal g_l_is_harm (hr.mono (by decide)) (pa_cons (pv 0) (pa_cons (k_ix K (pv 5) pe_int) (pa_cons (pv 1) (pa_cons (k_ix K (pv 5) pe_int) (pa_cons (k_ix K (k_ix K (pv 2) pe_int) (pv 8)) pa_nil)))))))))) (fun _ _ _ _ _ => (pv 8))) (pe_lst pa_nil) (nomark _)))))))))), fun cn Q s0 H0 hM q Z => ?_⟩
  replace Z : Sat C cn [some (matL S), some (nat d), some v, none, none, none, none, none, none, none] [] [] s0 H0 := Z
  have no : ∀ {E : Ends} {rho mu ts s H}, E.rt = Q → ¬ Pap S k d v → Sat C cn rho mu ts s H → tRet (tC (.bl false)) E s H := fun eE hn Z => s_ret ev_bl Z fun v d' mu' H' ⟨e, _⟩ S' => by
    rw [eE]
    exact q.go hM S' (e.trans (congrArg D.bl (tru_of (by simpa using hn))))
  refine q_parD (ea_cons (ev_call (f := fun x : Mat × Nat => .lst ((lots x.1 x.2).map ln)) (S, k) (ea_cons (ev_var rfl) ea_nil) h) (ea_cons (ev_call (f := fun x : Mat × Nat => .lst ((clss x.1).map ln)) (S, k) (ea_cons (ev_var rfl) ea_nil) h) ea_nil)) Z fun s1 H1 Z1 => ?_
  replace Z1 : Sat C cn [some (matL S), some (nat d), some v, some (.lst ((lots S k).map ln)), some (.lst ((clss S).map ln)), none, none, none, none, none] [] [] s1 H1 := Z1
  refine q_when (et_two (b3 := fun e0 e1 => !isT e0 || !isT e1) (ev_var rfl) (pl_kd hv) fun e0 e1 hve => et_or (et_not (et_B (ev_isT (ev_ixT (d := e0) (EvD.to (ev_var rfl) hve) ev_int (at_nat (n := 0) rfl)) (pl_kd (pl_in (n := 7) (by rw [← hve]; exact hv) e0 List.mem_cons_self))))) fun _ =>
    et_not (et_B (ev_isT (ev_ixT (d := e1) (EvD.to (ev_var rfl) hve) ev_int (at_nat (n := 1) rfl)) (pl_kd (pl_in (n := 7) (by rw [← hve]; exact hv) e1 (List.mem_cons_of_mem _ List.mem_cons_self)))))) Z1 (fun hb H2 Z2 => ?_) fun hb H2 Z2 => ?_
  · refine no rfl (fun ⟨cs, hs, e, _⟩ => ?_) Z2
    rw [e] at hb
    cases hb
  · have sh : ∃ ds hs, v = .tup [.tup ds, .tup hs] := by
      unfold two at hb
      split at hb
      · rename_i e0 e1
        rw [Bool.or_eq_false_iff] at hb
        obtain ⟨ds, rfl⟩ := isT_inv (v := e0) (by simpa using hb.1)
        obtain ⟨hs, rfl⟩ := isT_inv (v := e1) (by simpa using hb.2)
        exact ⟨ds, hs, rfl⟩
      · cases hb
    obtain ⟨ds, hs, rfl⟩ := sh
    obtain ⟨hdl, hhl⟩ := hrl ds hs rfl
    have p0 := pl_in hv (.tup ds) List.mem_cons_self
    have p1 := pl_in hv (.tup hs) (List.mem_cons_of_mem _ List.mem_cons_self)
    have hpl := pl_in p0
    have v0 : ∀ {rho : List (Option D)} {mu : Mu}, rho[2]? = some (some (.tup [.tup ds, .tup hs])) → EvD C (tOp (rIx K) (tVar 2) (tC (.int 0))) rho mu (.tup ds) := fun hh => ev_ixT (ev_var hh) ev_int (at_nat (n := 0) rfl)
    have v1 : ∀ {rho : List (Option D)} {mu : Mu}, rho[2]? = some (some (.tup [.tup ds, .tup hs])) → EvD C (tOp (rIx K) (tVar 2) (tC (.int 1))) rho mu (.tup hs) := fun hh => ev_ixT (ev_var hh) ev_int (at_nat (n := 1) rfl)
    refine q_for (evi_tup (v0 rfl)) Z2 (fun _ (_ : List (Nat × Nat)) => [some (matL S), some (nat d), some (.tup [.tup ds, .tup hs]), some (.lst ((lots S k).map ln)), some (.lst ((clss S).map ln)), none, none, none, none, none]) (fun _ _ => [])
      (fun i cs => ds.take i = cs.map tp ∧ ∀ c ∈ cs, c.1 ≤ uu S k ∧ c.2 ≤ vv S ∧ L S k d c.1 c.2 = true) ⟨[], ⟨rfl, fun c z => by simp at z⟩, ⟨rfl, rfl, rfl, rfl, rfl, trivial⟩, rfl⟩ (fun i e cs tx hd hi => ?_) fun cs s3 H3 hcs Z3 => ?_
    · have he := List.mem_of_getElem? hd
      have hpe := hpl e he
      have bd : (∀ c : Nat × Nat, e = tp c → c.1 ≤ uu S k → c.2 ≤ vv S → L S k d c.1 c.2 = true → False) → ¬ Pap S k d (.tup [.tup ds, .tup hs]) := fun hx ⟨cs', hs', e1, e2, _⟩ => by
        injection e1 with e1
        injection e1 with e1 _
        unfold tps at e1
        injection e1 with e1
        rw [e1] at he
        obtain ⟨c, hc, ec⟩ := List.mem_map.mp he
        obtain ⟨q1, q2, q3⟩ := e2 c hc
        exact hx c ec.symm q1 q2 q3
      refine ⟨_, _, bg_name, fun s3 H3 Z3 => ?_⟩
      refine q_when (et_two' (v := e) (ev_var rfl) (pl_kd hpe)) Z3 (fun hb H4 Z4 => ?_) fun hb H4 Z4 => ?_
      · refine no rfl (bd fun c ec _ _ _ => ?_) Z4
        rw [ec] at hb
        cases hb
      · have sh : ∃ e0 e1, e = .tup [e0, e1] := by
          unfold two at hb
          split at hb
          · exact ⟨_, _, rfl⟩
          · cases hb
        obtain ⟨e0, e1, rfl⟩ := sh
        have k0 := pl_kd (pl_in hpe e0 List.mem_cons_self)
        have k1 := pl_kd (pl_in hpe e1 (List.mem_cons_of_mem _ List.mem_cons_self))
        refine q_for (ds := [.tup [e0, nat (uu S k + 1)], .tup [e1, nat (vv S + 1)]]) (evi_lst (ev_lst (ea_cons (ev_tup (ds := [e0, nat (uu S k + 1)]) (ea_cons (ev_ixT (ds := [e0, e1]) (ev_var rfl) ev_int (at_nat (n := 0) rfl)) (ea_cons (EvD.to (ev_lenL (ev_var rfl)) (by rw [List.length_map, lots_len])) ea_nil))) (ea_cons (ev_tup (ds := [e1, nat (vv S + 1)]) (ea_cons (ev_ixT (ds := [e0, e1]) (ev_var rfl) ev_int (at_nat (n := 1) rfl)) (ea_cons (EvD.to (ev_lenL (ev_var rfl)) (by rw [List.length_map, clss_len])) ea_nil))) ea_nil)))) Z4
          (fun _ (_ : Unit) => [some (matL S), some (nat d), some (.tup [.tup ds, .tup hs]), some (.lst ((lots S k).map ln)), some (.lst ((clss S).map ln)), some (.tup [e0, e1]), none, none, none, none]) (fun _ _ => []) (fun j _ => (0 < j → isIndex e0 ((uu S k + 1 : Nat) : Int) = true) ∧ (1 < j → isIndex e1 ((vv S + 1 : Nat) : Int) = true))
          ⟨(), ⟨fun z => absurd z (by decide), fun z => absurd z (by decide)⟩, ⟨rfl, rfl, rfl, rfl, rfl, rfl, trivial⟩, rfl⟩ (fun j f _ tx2 hf hj => ?_) fun _ s5 H5 hin Z5 => ?_
        · match j, hf with
          | 0, hf =>
            have ef : D.tup [e0, nat (uu S k + 1)] = f := by simpa using hf
            subst ef
            refine ⟨_, _, bg_tup bg_name bg_name, fun s5 H5 Z5 => ?_⟩
            refine s_ifD (et_bounds (m := ((uu S k + 1 : Nat) : Int)) (ev_var rfl) k0 (ev_var rfl)) Z5 (fun hb H6 Z6 => ?_) fun hb H6 Z6 => ⟨(), ⟨fun _ => by simpa using hb, fun z => absurd z (by decide)⟩, Z6.weak ⟨rfl, rfl, rfl, rfl, rfl, rfl, trivial⟩⟩
            refine no rfl (bd fun c ec q1 q2 _ => ?_) Z6
            unfold tp at ec
            injection ec with ec
            injection ec with a1 a2
            subst a1
            rw [isIndex_nat, decide_eq_true (by omega)] at hb
            cases hb
          | 1, hf =>
            have ef : D.tup [e1, nat (vv S + 1)] = f := by simpa using hf
            subst ef
            refine ⟨_, _, bg_tup bg_name bg_name, fun s5 H5 Z5 => ?_⟩
            refine s_ifD (et_bounds (m := ((vv S + 1 : Nat) : Int)) (ev_var rfl) k1 (ev_var rfl)) Z5 (fun hb H6 Z6 => ?_) fun hb H6 Z6 => ⟨(), ⟨fun _ => hj.1 (by decide), fun _ => by simpa using hb⟩, Z6.weak ⟨rfl, rfl, rfl, rfl, rfl, rfl, trivial⟩⟩
            refine no rfl (bd fun c ec q1 q2 _ => ?_) Z6
            unfold tp at ec
            injection ec with ec
            injection ec with a1 a2
            injection a2 with a2 _
            subst a2
            rw [isIndex_nat, decide_eq_true (by omega)] at hb
            cases hb
          | j + 2, hf => simp at hf
        · obtain ⟨x, rfl, hx⟩ := isIndex_inv (hin.1 (by simp))
          obtain ⟨y, rfl, hy⟩ := isIndex_inv (hin.2 (by simp))
          have gx : (lots S k)[x]? = some (lot S k x) := lots_get (by omega)
          have gy : (clss S)[y]? = some (cls S y) := clss_get (by omega)
          refine s_ifD (et_not (et_B (ev_call (f := fun x : (Mat × Nat) × List Nat × Nat × List Nat => .bl (letsB x.1.1 x.1.2 x.2.1 x.2.2.2 x.2.2.1)) ((S, k), lot S k x, d, cls S y) (ea_cons (ev_var rfl) (ea_cons (ev_ixL (ev_var rfl) (ev_fst (p := (x, y)) (ev_var rfl)) (at_nat (by rw [List.getElem?_map, gx]; rfl))) (ea_cons (ev_var rfl) (ea_cons (ev_ixL (ev_var rfl) (ev_snd (p := (x, y)) (ev_var rfl)) (at_nat (by rw [List.getElem?_map, gy]; rfl))) ea_nil)))) ⟨h, few, ⟨fun t ht => lot_lt h ht, lot_len h x⟩, ⟨hd1, hd2⟩, cls_len y⟩))) Z5 (fun hb H6 Z6 => ?_) fun hb H6 Z6 => ?_
          · refine no rfl (bd fun c ec _ _ q3 => ?_) Z6
            have := tp_inj (p := (x, y)) ec
            subst this
            have q3' : letsB S k (lot S k x) (cls S y) d = true := q3
            dsimp only at hb
            rw [q3'] at hb
            cases hb
          · refine ⟨cs ++ [(x, y)], ⟨?_, fun c hc => ?_⟩, Z6.weak ⟨rfl, rfl, rfl, rfl, rfl, trivial⟩⟩
            · rw [List.take_succ, hd, hi.1, List.map_append]
              rfl
            · rcases List.mem_append.mp hc with hc | hc
              · exact hi.2 c hc
              · rw [List.mem_singleton.mp hc]
                exact ⟨by show x ≤ uu S k; omega, by show y ≤ vv S; omega, show letsB S k (lot S k x) (cls S y) d = true by simpa using hb⟩
    · obtain ⟨e, hg⟩ := hcs
      rw [List.take_length] at e
      subst e
      have lcs : cs.length ≤ 1000 := by rw [List.length_map] at hdl; exact hdl
      have enat : ((cs.length : Int) - 1).toNat = cs.length - 1 := by omega
      have ix1 : ∀ {i : Nat} {b1 : Nat × Nat} {rho : List (Option D)} {mu : Mu}, cs[i]? = some b1 → rho[2]? = some (some (.tup [.tup (cs.map tp), .tup hs])) → rho[8]? = some (some (nat i)) → EvD C (tOp (rIx K) (tOp (rIx K) (tVar 2) (tC (.int 0))) (tVar 8)) rho mu (tp b1) := fun g hh h5 => ev_ixT (v0 hh) (ev_var h5) (at_nat (by rw [List.getElem?_map, g]; rfl))
      have ix2 : ∀ {i : Nat} {b2 : Nat × Nat} {rho : List (Option D)} {mu : Mu}, cs[i + 1]? = some b2 → rho[2]? = some (some (.tup [.tup (cs.map tp), .tup hs])) → rho[8]? = some (some (nat i)) → EvD C (tOp (rIx K) (tOp (rIx K) (tVar 2) (tC (.int 0))) (tOp rAddI (tVar 8) (tC (.int 1)))) rho mu (tp b2) := fun {i} _ _ _ g hh h5 => ev_ixT (v0 hh) (EvD.to (ev_add (ev_var h5) ev_int) (show _ = nat (i + 1) from congrArg D.int (by omega))) (at_nat (by rw [List.getElem?_map, g]; rfl))
      refine q_for (evi_rngI (j := (cs.length : Int) - 1) (EvD.to (ev_sub (ev_lenT (v0 rfl)) ev_int) (by rw [List.length_map])) (by omega) (by omega)) Z3 (fun _ (_ : Unit) => [some (matL S), some (nat d), some (.tup [.tup (cs.map tp), .tup hs]), some (.lst ((lots S k).map ln)), some (.lst ((clss S).map ln)), none, none, none, none, none]) (fun _ _ => [])
        (fun i _ => ∀ (j : Nat) a b, j < i → cs[j]? = some a → cs[j + 1]? = some b → a.1 < b.1 ∧ b.2 < a.2) ⟨(), fun j a b z => absurd z (Nat.not_lt_zero _), ⟨rfl, rfl, rfl, rfl, rfl, trivial⟩, rfl⟩ (fun i e _ tx hd hi => ?_) fun _ s4 H4 hst Z4 => ?_
      · obtain ⟨hi', rfl⟩ := rng_at hd
        rw [enat] at hi'
        have g1 : cs[i]? = some (cs[i]'(by omega)) := List.getElem?_eq_getElem _
        have g2 : cs[i + 1]? = some (cs[i + 1]'(by omega)) := List.getElem?_eq_getElem _
        generalize cs[i]'(by omega) = b1 at g1
        generalize cs[i + 1]'(by omega) = b2 at g2
        refine ⟨_, _, bg_name, fun s4 H4 Z4 => ?_⟩
        refine s_ifD (et_or (et_test (ev_ge (ev_fst (ix1 g1 rfl rfl)) (ev_fst (ix2 g2 rfl rfl)))) fun _ => et_test (ev_le (ev_snd (ix1 g1 rfl rfl)) (ev_snd (ix2 g2 rfl rfl)))) Z4 (fun hb H5 Z5 => ?_) fun hb H5 Z5 => ?_
        · refine no rfl (fun ⟨cs', hs', e1, _, st', _⟩ => ?_) Z5
          injection e1 with e1
          injection e1 with e1 _
          have := tps_inj (show tps cs = tps cs' from e1)
          subst this
          obtain ⟨l1, l2⟩ := stairs_at st' g1 g2
          rw [decide_eq_false (by omega), decide_eq_false (by omega)] at hb
          cases hb
        · rw [Bool.or_eq_false_iff] at hb
          have l1 := of_decide_eq_false hb.1
          have l2 := of_decide_eq_false hb.2
          refine ⟨(), fun j a b hj ha hb' => ?_, Z5.weak ⟨rfl, rfl, rfl, rfl, rfl, trivial⟩⟩
          by_cases z : j = i
          · subst z
            rw [g1] at ha
            rw [g2] at hb'
            cases ha; cases hb'
            exact ⟨by omega, by omega⟩
          · exact hi j a b (by omega) ha hb'
      · rw [List.length_map, List.length_range, enat] at hst
        have stc : stairs cs = true := stairs_of fun i a b h1 h2 => hst i a b (by
          have := (List.getElem?_eq_some_iff.mp h2).1
          omega) h1 h2
        have xl := ctx_len (uu S k) (vv S) cs
        have xb := ctxL_le (u := uu S k) (v := vv S) fun c hc => ⟨(hg c hc).1, (hg c hc).2.1⟩
        refine q_asgD (ev_call (f := fun x : (Mat × Nat) × List (Nat × Nat) => .lst ((ctxL (uu x.1.1 x.1.2) (vv x.1.1) x.2).map tp)) ((S, k), cs) (ea_cons (ev_var rfl) (ea_cons (v0 rfl) ea_nil)) ⟨h, stc, lcs⟩) Z4 fun s5 H5 Z5 => ?_
        replace Z5 : Sat C cn [some (matL S), some (nat d), some (.tup [.tup (cs.map tp), .tup hs]), some (.lst ((lots S k).map ln)), some (.lst ((clss S).map ln)), none, none, none, none, some (.lst ((ctxL (uu S k) (vv S) cs).map tp))] [] [] s5 H5 := Z5
        refine q_when (et_test (ev_neI (ev_lenL (ev_var rfl)) (ev_lenT (v1 rfl)))) Z5 (fun hb H6 Z6 => ?_) fun hb H6 Z6 => ?_
        · refine no rfl (fun ⟨cs', hs', e1, _, _, p3, _⟩ => ?_) Z6
          injection e1 with e1
          injection e1 with e1 e2
          injection e2 with e2 _
          injection e2 with e2
          subst e2
          rw [← tps_inj (show tps cs = tps cs' from e1)] at p3
          rw [List.length_map, p3, decide_eq_true rfl] at hb
          cases hb
        · have hlen : hs.length = (ctxL (uu S k) (vv S) cs).length := by
            rw [List.length_map] at hb
            have : decide (((ctxL (uu S k) (vv S) cs).length : Int) = (hs.length : Int)) = true := by simpa using hb
            have := of_decide_eq_true this
            omega
          have el := fun l => filt_nats (fun z => !tru (hz S k d hs z)) fstN l
          refine s_ret (ev_eq 2 (EvN.ev ((el_lc (fun z => if !tru (hz S k d hs z) then some (nat (fstN z)) else none) (evi_enumL (ev_var rfl)) (by rw [enumD_len, List.length_map]; omega) fun i z hz' => ?_).to (el _))) (ev_lst (ds := []) ea_nil) (pl_ln _) rfl) Z6 fun v d' mu' H' ⟨e, _⟩ S' => q.go hM S' (e.trans (congrArg D.bl (tru_of ?_)))
          · obtain ⟨z1, hz1, rfl⟩ := enumD_get hz'
            obtain ⟨⟨x, y⟩, hxy, rfl⟩ := tps_at hz1
            obtain ⟨x1, y1⟩ := xb _ (List.mem_of_getElem? hxy)
            dsimp only at x1 y1
            have hil : i < hs.length := by
              have := (List.getElem?_eq_some_iff.mp hxy).1
              omega
            have hmem : hs[i]? = some hs[i] := List.getElem?_eq_getElem hil
            generalize hs[i] = hh at hmem
            have hin := List.mem_of_getElem? hmem
            have ehz : tru (hz S k d hs (.tup [nat i, tp (x, y)])) = tru (IsHm S k x d y hh) := by
              refine (tru_of (tru_iff.trans ?_)).symm ▸ rfl
              show (∃ h, hs[((i : Int)).toNat]? = some h ∧ IsHm S k (pr (tp (x, y))).1 d (pr (tp (x, y))).2 h) ↔ IsHm S k x d y hh
              rw [pr_tp, Int.toNat_natCast, hmem]
              exact ⟨fun ⟨h, e1, e2⟩ => by cases e1; exact e2, fun e2 => ⟨hh, rfl, e2⟩⟩
            have ef : fstN (.tup [nat i, tp (x, y)]) = i := nOf_nat i
            refine ⟨_, _, bg_tup bg_name bg_name, by simp, fun mu' => ⟨!tru (IsHm S k x d y hh), et_not (et_B (ev_call (f := fun x : (Mat × Nat) × (Nat × Nat × Nat) × D => .bl (tru (IsHm x.1.1 x.1.2 x.2.1.1 x.2.1.2.1 x.2.1.2.2 x.2.2))) ((S, k), (x, d, y), hh) (ea_cons (ev_var rfl) (ea_cons (ev_fst (p := (x, y)) (ev_var rfl)) (ea_cons (ev_var rfl) (ea_cons (ev_snd (p := (x, y)) (ev_var rfl)) (ea_cons (ev_ixT (v1 rfl) (ev_var rfl) (at_nat hmem)) ea_nil))))) ⟨h, ⟨by show x ≤ 500; omega, hd1, hd2, by show y ≤ 500; omega⟩, pl_in (n := 6) p1 hh hin, hhl hh hin⟩)), fun hb => ?_, fun hb => ?_⟩⟩
            · exact ⟨nat i, by rw [ehz, ef]; exact if_pos hb, ev_var rfl⟩
            · rw [ehz]
              exact if_neg (by rw [hb]; decide)
          · show eqd (ln _) (ln []) = true ↔ _
            rw [eqd_ln, decide_eq_true_eq, List.filterMap_eq_nil_iff]
            constructor
            · intro hall
              refine ⟨cs, hs, rfl, hg, stc, hlen, fun j p hh hj hj2 => ?_⟩
              have hze : (enumD ((ctxL (uu S k) (vv S) cs).map tp))[j]? = some (.tup [nat j, tp p]) := by
                have hjl := (List.getElem?_eq_some_iff.mp hj).1
                unfold enumD
                rw [List.getElem?_zipWith, List.getElem?_range (by rw [List.length_map]; exact hjl), List.getElem?_map, hj]
                rfl
              have := hall _ (List.mem_of_getElem? hze)
              have ht : tru (hz S k d hs (.tup [nat j, tp p])) = true := by
                cases q : tru (hz S k d hs (.tup [nat j, tp p])) with
                | true => rfl
                | false => rw [q] at this; cases this
              obtain ⟨h', e1, e2⟩ : ∃ h, hs[((j : Int)).toNat]? = some h ∧ IsHm S k (pr (tp p)).1 d (pr (tp p)).2 h := tru_iff.mp ht
              rw [Int.toNat_natCast, hj2] at e1
              cases e1
              rw [pr_tp] at e2
              exact e2
            · rintro ⟨cs', hs', e1, _, _, _, p4⟩ z hz'
              injection e1 with e1
              injection e1 with e1 e2
              injection e2 with e2 _
              injection e2 with e2
              subst e2
              have ec := tps_inj (show tps cs = tps cs' from e1)
              subst ec
              obtain ⟨j, hj⟩ := List.mem_iff_getElem?.mp hz'
              obtain ⟨d1, h1, rfl⟩ := enumD_get hj
              obtain ⟨p, hp, rfl⟩ := tps_at h1
              have hjl : j < hs.length := by
                have := (List.getElem?_eq_some_iff.mp hp).1
                omega
              have ht : tru (hz S k d hs (.tup [nat j, tp p])) = true := tru_iff.mpr (show ∃ h, hs[((j : Int)).toNat]? = some h ∧ IsHm S k (pr (tp p)).1 d (pr (tp p)).2 h from ⟨hs[j], by rw [Int.toNat_natCast]; exact List.getElem?_eq_getElem hjl, by rw [pr_tp]; exact p4 j p _ hp (List.getElem?_eq_getElem hjl)⟩)
              exact if_neg (by rw [ht]; decide)
end
end DL
/-! Machine -/
namespace DL
open PySem L2 Mth

section
variable {C : Addr} {c : Cn} {K : PySem.W.Frag} {rho : List (Option D)} {mu : Mu} {ts : List (V × D)} {s : L2.St} {F H F' H' : Hp} {v : V} {d : D} {te tv ta tb : TE} {ds es : List D} {E : Ends} {u : TS} {a : Addr}
theorem s_fld (k : Nat) {f : Str} {p p' : Hp → HO → Prop} (hC : Cls K C) (hn : NoAttr K C f) (hv : EvD C tv rho mu d) (ho : EvD C ta rho mu (.ptr a)) (hk : mu[k]? = some (a, .any p))
    (hp : ∀ F0 F1 o v, p F0 o → Same F0 F1 → DR C F1 v d → ∃ dx fs, o = .ins C dx fs ∧ fs.length < 1000 ∧ p' F1 (.ins C dx (putF f v fs))) (S : Sat C c rho mu ts s H) (q : ∀ H', Sat C c rho (mu.set k (a, .any p')) ts s H' → E.nx s H') : sFld K ta tv f E s H := by
  refine hv.run S fun y H1 S1 => ho.run S1 fun x H2 S2 => ?_
  obtain ⟨F2, T⟩ := S2
  obtain ⟨_, _, o, ho, _, F0, k0, hp0⟩ := T.mu _ (List.mem_of_getElem? hk)
  have r := T.tmp (y, d) (by simp)
  obtain ⟨dx, fs, e, hl, hp1⟩ := hp F0 F2 o y hp0 k0 r
  subst e
  refine ⟨a, C, dx, fs, T.top.ptr_inv, ho, hC, hn, hl, q _ ⟨F2, (T.changeAt (m' := .any p') hk (fun z => z) ⟨_, upd_same, (by intro xs z; cases z), F2, Same.refl F2, hp1⟩).fewer fun p hp => by simp [hp]⟩⟩
theorem q_fld (k : Nat) {f : Str} {p p' : Hp → HO → Prop} (hC : Cls K C) (hn : NoAttr K C f) (hv : EvD C tv rho mu d) (ho : EvD C ta rho mu (.ptr a)) (hk : mu[k]? = some (a, .any p))
    (hp : ∀ F0 F1 o v, p F0 o → Same F0 F1 → DR C F1 v d → ∃ dx fs, o = .ins C dx fs ∧ fs.length < 1000 ∧ p' F1 (.ins C dx (putF f v fs))) (S : Sat C c rho mu ts s H) (q : ∀ H', Sat C c rho (mu.set k (a, .any p')) ts s H' → u E s H') : tSeq (sFld K ta tv f) u E s H :=
  s_fld (E := { E with nx := u E }) k hC hn hv ho hk hp S q
end
/-- what __init__ is asked, and what it promises -/
def sp_init (C : Addr) : Sp := fun vs H Q _ => ∃ (F : Hp) (S : Mat) (k : Nat) (x dx : Addr) (v1 v2 : V), vs = [.ref x, v1, v2] ∧ Same F H ∧ F x = none ∧ H x = some (.ins C dx []) ∧ DR C F v1 (nat k) ∧ DR C F v2 (matL S) ∧ Ok S k ∧
  ∀ (F' H' : Hp) (fs : List (Str × V)) (v : V), Same F F' → Same F' H' → (∀ a o, a ≠ x → H a = some o → H' a = some o) → (∀ a o, F' a = some o → F a = some o ∨ H a = none ∨ ∃ xs, o = .tup xs) → F' x = none → H' x = some (.ins C dx fs) →
    fs.lookup ("commands" : Str) = some (.int k) → fs.lookup ("states" : Str) = some (.int S.length) → fs.lookup ("steps" : Str) = some v → DR C F' v (matT S) → Q .non H'
structure Mch (P : Program) (w : World) (K : PySem.W.Frag) (mg : Str → Option Value) (base : Heap) (k : Nat) (C : Addr) : Prop where
  ex : ∃ f fd ps, Mk K C f ∧ FnOk P w K mg base CX0 k f fd ps (sp_init C) ∧ mg "Machine" = some (.ref C) ∧ Binds K fd ps []
theorem x_mk {X : Cx} {k : Nat} {C : Addr} {e : Expr} {es : List Expr} {t : TA} {p pos : Pos} (G : Mch X.prog X.w X.K X.mg X.base k C) (hr : Room (k + 1) X.A) (ha : PA X (e :: es) t) (hg : Gl X "Machine" := by rfl)
    (he : starEach (e :: es) X.env = (false, eval e X.env) :: starEach es X.env := by rfl) (hpl : (backTo pos (starEach es X.env)).any (·.1) = false := by rfl) (hdb : (("Machine" : Str) == ("__debug__" : Str)) = false := by decide) : PE X (.Call (.Name "Machine" p) (e :: es) [] pos) (tMake C (sp_init C) [] E0 t) := by
  obtain ⟨f, fd, ps, M, F, m, b⟩ := G.ex
  exact pe_make M F hr hg m b .nil pass0 ha hdb he hpl
section
variable {C : Addr} {rho : List (Option D)} {mu : Mu}
theorem ev_mk {S : Mat} {k : Nat} {ta : TA} {E : XK} (ha : EvA C ta rho mu [nat k, matL S]) (hS : Ok S k) : EvD C (tMake C (sp_init C) [] E ta) rho mu (.mach k S) := EvD.of fun c ts s H Q Z q => ha.run Z fun vs H1 l Z1 => by
  intro x dx hx hdx hne
  obtain ⟨F, T⟩ := Z1
  have z : DRs C F vs [nat k, matL S] := zip_drs l T.tmp
  match vs, z with
  | [v1, v2], z =>
    have kk : Same H1 (upd (upd H1 dx (.own x)) x (.ins C dx [])) := (Same.new hdx).trans (Same.new (by rw [upd_ne (fun e => hne e.symm)]; exact hx))
    refine ⟨F, S, k, x, dx, v1, v2, rfl, T.sub.trans kk, T.sub.free hx, upd_same, z.head, z.tail.head, hS, fun F' H' fs v k1 k2 keep new fx hx' h1 h2 h3 h4 => ⟨rfl, ?_⟩⟩
    have k3 : Same F' (upd F' x (.ins C dx fs)) := Same.new fx
    have g : Gr F H1 (upd F' x (.ins C dx fs)) H' := by
      refine ⟨k1.trans k3, fun a o e => ?_, fun a o e => keep a o (ne_of_none e hx) (kk a o e), fun a o e => ?_⟩
      · by_cases q : a = x
        · subst q
          rw [upd_same] at e
          cases e
          exact hx'
        · rw [upd_ne q] at e
          exact k2 a o e
      · by_cases q : a = x
        · subst q; exact .inr (.inl hx)
        · rw [upd_ne q] at e
          rcases new a o e with z | z | z
          · exact .inl z
          · exact .inr (.inl (kk.free z))
          · exact .inr (.inr z)
    exact q _ _ ⟨_, ((T.grow g).fewer fun p hp => List.mem_append_right _ hp).push (.mach upd_same h1 h2 h3 (h4.mono k3))⟩
  | [], z => exact absurd z.1 (by simp)
  | [_], z => exact absurd z.1 (by simp)
  | _ :: _ :: _ :: _, z => exact absurd z.1 (by simp)
end
section
variable {P : Program} {w : World} {K : PySem.W.Frag} {mg : Str → Option Value} {base : Heap} {C : Addr}
theorem pl_nats6 (l : List Nat) : pl 1 (.lst (nats l)) = true := pls_nats 0 l
theorem c_mk (T : Txt K mg C) : Mch P w K mg base 4 C := by
  have g_is_integer := c_is_integer (P := P) (w := w) (base := base) T
  have g_is_sequence := c_is_sequence (P := P) (w := w) (base := base) T
  have g_is_index := c_is_index (P := P) (w := w) (base := base) T
  obtain ⟨f, fd, M, Fn, b⟩ := T.mch
  refine ⟨f, fd, _, M, ?_, T.mgC, b⟩
  refine Fn.ok sc_Machine_init (fun vs H Q E h => ?_) (fun cdv A outer s H vs Q E hr h => ?_)
  · obtain ⟨F, S, k, x, dx, v1, v2, e, _⟩ := h
    rw [e]
    rfl
  · obtain ⟨F, S, k, x, dx, v1, v2, e, hs, fx, hx, r1, r2, h, q⟩ := h
    subst e
    have h10 := h.n10
    have h5 := h.k5
    have h0 := h.n0
    have k0 := h.k0
    refine ⟨_, (pss_cons (ps_if (PW.pt (pw_or (pt_not (pt_val (pe_cal g_is_integer (hr.mono (by decide)) (pa_cons (pv 1) pa_nil)))) (pw_or1 (pt_cmpR op_lt (pv 1) pe_int (nomark _)))))
  (pss_one ps_never)
  pss_nil)
  (pss_cons (ps_if (PW.pt (pw_or (pt_not (pt_val (pe_cal g_is_sequence (hr.mono (by decide)) (pa_cons (pv 2) pa_nil)))) (pw_or1 (pt_cmpR (k_eqD K hr.units) (k_len K T.b.len (pv 2)) pe_int (nomark _)))))
  (pss_one ps_never)
  pss_nil)
  (pss_cons (psn 3 sc_Machine_init.nd (k_len K T.b.len (pv 2)))
  (pss_cons (ps_for PassesOwn.never rfl (k_enumL K T.b.enumerate (pv 2)) (k_gtup K 2 (pgs_cons (pgn 4 sc_Machine_init.nd) (pgs_cons (pgn 5 sc_Machine_init.nd) pgs_nil)))
  (pss_one (ps_if (PW.pt (pw_or (pt_not (pt_val (pe_cal g_is_sequence (hr.mono (by decide)) (pa_cons (pv 5) pa_nil)))) (pw_or (pt_cmpR (k_neD K hr.units) (k_len K T.b.len (pv 5)) (pv 1) (nomark _)) (pw_or1 (pt_not (pt_val (k_all K T.b.all (pe_lc (own := [("state", 6)]) (by rfl) sc_Machine_init.nd (k_pil K (pv 5)) (bk (own := [("state", 6)]) (N := N_Machine_init) (sc := defScope s_Machine_init)) (fun _ _ _ _ _ => (pgn 6 sc_Machine_init.nd)) (fun _ _ _ _ _ => pts_nil) (fun _ _ _ _ _ => (pe_cal g_is_index (hr.mono (by decide)) (pa_cons (pv 6) (pa_cons (pv 3) pa_nil))))))))))))
  (pss_one ps_never)
  pss_nil)))
  (pss_cons (ps_fld (pv 0) (pv 1) rfl)
  (pss_cons (ps_fld (pv 0) (pv 3) rfl)
  (pss_one (ps_fld (pv 0) (k_tuple K T.b.tuple (pe_lc (own := [("row", 5)]) (by rfl) sc_Machine_init.nd (k_pil K (pv 2)) (bk (own := [("row", 5)]) (N := N_Machine_init) (sc := defScope s_Machine_init)) (fun _ _ _ _ _ => (pgn 5 sc_Machine_init.nd)) (fun _ _ _ _ _ => pts_nil) (fun _ _ _ _ _ => (k_tuple K T.b.tuple (pv 5))))) rfl)))))))), ?_⟩
    have Z : Sat C ⟨F, H, fun a => a = x⟩ [some (.ptr x), some (nat k), some (matL S), none, none, none, none] [(x, .any fun _ o => o = .ins C dx [])] [] (L2.start N_Machine_init [.ref x, v1, v2]) H := by
      obtain ⟨F1, T1⟩ := Sat.start (N := N_Machine_init) hs (.cons (.ptr x) (.cons r1 (.cons r2 .nil)))
      have f1 : F1 x = none := by
        cases e : F1 x with
        | none => rfl
        | some o =>
          have e1 := T1.sub _ _ e
          rcases T1.new _ _ e with z | z | ⟨xs, z⟩
          · rw [show F x = some o from z] at fx; cases fx
          · rw [show H x = none from z] at hx; cases hx
          · subst z; rw [hx] at e1; cases e1
      exact ⟨F1, T1.ex, T1.sub, fun a o _ e => T1.keep a o id e, T1.new, T1.dom, T1.slen, T1.slot, T1.tmp, by simp, fun p hp => by
        rw [List.mem_singleton.mp hp]
        exact ⟨f1, .inl rfl, _, hx, (by intro xs z; cases z), F1, Same.refl F1, rfl⟩⟩
    refine q_when (b := false) (EtD.to (et_or (a := false) (b := false) (EtD.to (et_not (et_B (ev_call (f := fun d : D => .bl (isInteger d)) (nat k) (ea_cons (ev_var rfl) ea_nil) rfl))) rfl) fun _ => EtD.to (et_test (ev_lt (ev_var rfl) ev_int)) (decide_eq_false (by omega))) rfl) Z (fun z => by cases z) fun _ H1 Z1 => ?_
    have hlen : ∀ {rho : List (Option D)} {mu : Mu}, rho[2]? = some (some (matL S)) → EvD C (tCB (rLen K) (tCons (tVar 2) tNil)) rho mu (nat S.length) := fun hh => EvD.to (ev_lenL (ds := S.map fun r => .lst (nats r)) (ev_var hh)) (by rw [List.length_map])
    refine q_when (b := false) (EtD.to (et_or (a := false) (b := false) (EtD.to (et_not (et_B (ev_call (f := fun d : D => .bl (isL d || isT d)) (matL S) (ea_cons (ev_var rfl) ea_nil) rfl))) rfl) fun _ => EtD.to (et_test (ev_eqI (hlen rfl) ev_int)) (decide_eq_false (by omega))) rfl) Z1 (fun z => by cases z) fun _ H2 Z2 => ?_
    refine q_asgD (hlen rfl) Z2 fun s3 H3 Z3 => ?_
    refine q_for (ds := enumD (S.map fun r => .lst (nats r))) (evi_enumL (ev_var rfl)) Z3 (fun _ (_ : Unit) => [some (.ptr x), some (nat k), some (matL S), some (nat S.length), none, none, none]) (fun _ _ => [(x, .any fun _ o => o = .ins C dx [])]) (fun _ _ => True) ⟨(), trivial, ⟨rfl, rfl, rfl, rfl, trivial⟩, rfl⟩ (fun i d _ tx hd _ => ?_) fun _ s4 H4 _ Z4 => ?_
    · obtain ⟨e, he, rfl⟩ := enumD_get hd
      rw [List.getElem?_map] at he
      cases hr : S[i]? with
      | none => rw [hr] at he; cases he
      | some r =>
        rw [hr] at he
        cases he
        have hrl := h.row r (List.mem_of_getElem? hr)
        have hv := h.val r (List.mem_of_getElem? hr)
        have lr : (nats r).length = k := by unfold nats; rw [List.length_map, hrl]
        refine ⟨_, _, bg_tup bg_name bg_name, fun s4 H4 Z4 => ?_⟩
        refine s_ifD (b := false) (EtD.to (et_or (a := false) (b := false) (EtD.to (et_not (et_B (ev_call (f := fun d : D => .bl (isL d || isT d)) (.lst (nats r)) (ea_cons (ev_var rfl) ea_nil) rfl))) rfl) fun _ => EtD.to (et_or (a := false) (b := false) (EtD.to (et_test (ev_neI (ev_lenL (ev_var rfl)) (ev_var rfl))) (by rw [lr, decide_eq_true rfl]; rfl)) fun _ => EtD.to (et_not (et_B (ev_all (bs := r.map fun t => isIndex (nat t) (S.length : Int)) (EvN.ev ((el_map (fun d => .bl (isIndex d (S.length : Int))) (evi_lst (ds := nats r) (ev_var rfl)) (by omega) fun j d hd => ?_).to ?_))))) ?_) rfl) rfl) Z4 (fun z => by cases z) fun _ H5 Z5 => ⟨(), trivial, Z5.weak ⟨rfl, rfl, rfl, rfl, trivial⟩⟩
        · obtain ⟨t, ht, rfl⟩ := nats_at hd
          exact ⟨_, _, bg_name, by simp, fun mu' => ev_call (f := fun x : D × Int => .bl (isIndex x.1 x.2)) (nat t, (S.length : Int)) (ea_cons (ev_var rfl) (ea_cons (ev_var rfl) ea_nil)) rfl⟩
        · unfold nats
          rw [List.map_map, List.map_map]
          rfl
        · have : (r.map fun t => isIndex (nat t) (S.length : Int)).all id = true := by
            rw [List.all_map, List.all_eq_true]
            intro t ht
            show isIndex (nat t) (S.length : Int) = true
            rw [isIndex_nat, decide_eq_true (hv t ht)]
          rw [this]
          rfl
    · refine q_fld 0 T.cl T.nC (d := nat k) (ev_var rfl) (ev_var rfl) rfl (p' := fun _ o => o = .ins C dx [("commands", .int k)]) (fun F0 F1 o v h0 _ r => ⟨dx, [], h0, by decide, by rw [r.int_inv]; rfl⟩) Z4 fun H5 Z5 => ?_
      refine q_fld 0 T.cl T.nS (d := nat S.length) (ev_var rfl) (ev_var rfl) rfl (p' := fun _ o => o = .ins C dx [("commands", .int k), ("states", .int S.length)]) (fun F0 F1 o v h0 _ r => ⟨dx, _, h0, by simp, by rw [r.int_inv]; rfl⟩) Z5 fun H6 Z6 => ?_
      refine s_fld 0 T.cl T.nT (d := matT S) (ev_tupleL (EvN.ev ((el_map (fun d => match d with | .lst l => .tup l | _ => .non) (evi_lst (ds := S.map fun r => .lst (nats r)) (ev_var rfl)) (by rw [List.length_map]; omega) fun i d hd => ?_).to (by rw [List.map_map]; rfl)))) (ev_var rfl) rfl (p' := fun F1 o => ∃ v, o = .ins C dx [("commands", .int k), ("states", .int S.length), ("steps", v)] ∧ DR C F1 v (matT S)) (fun F0 F1 o v h0 _ r => ⟨dx, _, h0, by simp, v, rfl, r⟩) Z6 fun H7 Z7 => ?_
      · rw [List.getElem?_map] at hd
        cases hr : S[i]? with
        | none => rw [hr] at hd; cases hd
        | some r =>
          rw [hr] at hd
          cases hd
          exact ⟨_, _, bg_name, by simp, fun mu' => ev_tupleL (ev_var rfl)⟩
      · obtain ⟨F7, T7⟩ := Z7
        obtain ⟨m1, _, o, m2, _, F0, m3, v, m4, m5⟩ := T7.mu _ List.mem_cons_self
        subst m4
        exact q F7 H7 _ v T7.ex T7.sub (fun a o ne e => T7.keep a o ne e) T7.new m1 m2 rfl rfl rfl (m5.mono m3)
end
end DL
/-! the deal: a list [list of numbers, number] that calls change -/
namespace DL
open PySem PySem.Spec PyProof.Rows L2

structure Deal (H : Hp) (dl da : Addr) : Prop where
  ne : dl ≠ da
  d : ∃ b : Int, H dl = some (.lst [.ref da, .int b])
  c : ∃ ns : List Int, H da = some (.lst (ns.map V.int)) ∧ ns.length ≤ 1000
def dealP (da : Addr) : Hp → HO → Prop := fun _ o => ∃ b : Int, o = .lst [.ref da, .int b]
def cellsP : Hp → HO → Prop := fun _ o => ∃ ns : List Int, o = .lst (ns.map V.int) ∧ ns.length ≤ 1000
abbrev dmu (dl da : Addr) : Mu := [(dl, .any (dealP da)), (da, .any cellsP)]
abbrev exm (ext : List (Addr × List D)) : Mu := ext.map fun p => (p.1, MO.lst p.2)
theorem exm_fst (ext : List (Addr × List D)) : (exm ext).map (·.1) = ext.map (·.1) := by
  rw [List.map_map]
  rfl
structure GrM (F H F' H' : Hp) (dl da : Addr) : Prop where
  ex : Same F F'
  sub : Same F' H'
  keep : ∀ a o, a ≠ dl → a ≠ da → H a = some o → H' a = some o
  new : ∀ a o, F' a = some o → F a = some o ∨ H a = none ∨ ∃ xs, o = .tup xs
def spG (C : Addr) {T : Type} (args : T → List D) (pre : T → Prop) (res : T → D → List (Addr × List D) → Prop) : Sp := fun vs H Q _ => ∃ (F : Hp) (x : T) (dl da : Addr) (vr : List V), vs = .ref dl :: vr ∧ DRs C F vr (args x) ∧ Same F H ∧ F dl = none ∧ F da = none ∧ Deal H dl da ∧ pre x ∧
  ∀ v d ext F' H', GrM F H F' H' dl da → F' dl = none → F' da = none → Deal H' dl da → (∀ p ∈ ext, F' p.1 = none ∧ H p.1 = none ∧ ∃ xs, H' p.1 = some (.lst xs) ∧ DRs C F' xs p.2) → (ext.map (·.1)).Nodup → res x d ext → DR C F' v d → Q v H'
section
variable {C : Addr} {c : Cn} {K : PySem.W.Frag} {rho : List (Option D)} {mu : Mu} {ts : List (V × D)} {s : L2.St} {F H F' H' : Hp} {v : V} {d : D} {te ta tb : TE} {ds es : List D} {dl da : Addr}
theorem SatF.deal (T : SatF C c rho mu ts s F H) (h1 : (dl, MO.any (dealP da)) ∈ mu) (h2 : (da, MO.any cellsP) ∈ mu) (hne : dl ≠ da) : F dl = none ∧ F da = none ∧ Deal H dl da := by
  obtain ⟨f1, _, o1, e1, _, _, _, b, e3⟩ := T.mu _ h1
  obtain ⟨f2, _, o2, e4, _, _, _, ns, e6, e7⟩ := T.mu _ h2
  exact ⟨f1, f2, hne, ⟨b, by rw [← e3]; exact e1⟩, ns, by rw [← e6]; exact e4, e7⟩
theorem SatF.grown {ext : List (Addr × List D)} (T : SatF C c rho mu ts s F H) (h1 : (dl, MO.any (dealP da)) ∈ mu) (h2 : (da, MO.any cellsP) ∈ mu) (g : GrM F H F' H' dl da) (f1 : F' dl = none) (f2 : F' da = none) (D' : Deal H' dl da)
    (he : ∀ p ∈ ext, F' p.1 = none ∧ H p.1 = none ∧ ∃ xs, H' p.1 = some (.lst xs) ∧ DRs C F' xs p.2) (hd : (ext.map (·.1)).Nodup) : SatF C c rho (exm ext ++ mu) ts s F' H' where
  ex := T.ex.trans g.ex
  sub := g.sub
  keep := fun a o n e => by
    have z : ∀ x m, (x, m) ∈ mu → a ≠ x := fun x m hx q => by
      obtain ⟨_, o1, _⟩ := T.mu _ hx
      subst q
      rcases o1.or with z | z
      · exact n z
      · rw [z] at e; cases e
    exact g.keep a o (z _ _ h1) (z _ _ h2) (T.keep a o n e)
  new := fun a o e => by
    rcases g.new a o e with q | q | q
    · exact T.new a o q
    · exact .inr (.inl (T.dom a q))
    · exact .inr (.inr q)
  dom := fun a e => T.dom a (by
    cases q : H a with
    | none => rfl
    | some o =>
      by_cases z1 : a = dl
      · subst z1
        obtain ⟨b, hb⟩ := D'.d
        rw [hb] at e; cases e
      · by_cases z2 : a = da
        · subst z2
          obtain ⟨b, hb, _⟩ := D'.c
          rw [hb] at e; cases e
        · rw [g.keep a o z1 z2 q] at e; cases e)
  slen := T.slen
  slot := fun i d e => by
    obtain ⟨v, a, b⟩ := T.slot i d e
    exact ⟨v, a, b.mono g.ex⟩
  tmp := fun p hp => (T.tmp p hp).mono g.ex
  nd := by
    rw [List.map_append, List.nodup_append]
    refine ⟨by rw [exm_fst]; exact hd, T.nd, fun x hx y hy e => ?_⟩
    subst e
    obtain ⟨p, hp, e⟩ := List.mem_map.mp hx
    obtain ⟨q, hq, e2⟩ := List.mem_map.mp hp
    subst e2
    obtain ⟨r, hr, e3⟩ := List.mem_map.mp hy
    obtain ⟨o, ho⟩ := (T.mu r hr).2.2.there
    have := (he q hq).2.1
    rw [e3, ← e] at ho
    rw [show H q.1 = some o from ho] at this
    cases this
  mu := fun p hp => by
    rcases List.mem_append.mp hp with hp | hp
    · obtain ⟨q, hq, e⟩ := List.mem_map.mp hp
      subst e
      obtain ⟨a1, a2, xs, a3, a4⟩ := he q hq
      exact ⟨a1, Own.of (T.dom _ a2), xs, a3, a4⟩
    · obtain ⟨b1, b2, b3⟩ := T.mu p hp
      by_cases z1 : p.1 = dl
      · have e := nodup_fst T.nd hp h1 z1
        subst e
        obtain ⟨b, hb⟩ := D'.d
        exact ⟨f1, b2, _, hb, (by intro xs z; cases z), F', Same.refl F', b, rfl⟩
      · by_cases z2 : p.1 = da
        · have e := nodup_fst T.nd hp h2 z2
          subst e
          obtain ⟨ns, hn, hl⟩ := D'.c
          exact ⟨f2, b2, _, hn, (by intro xs z; cases z), F', Same.refl F', ns, rfl, hl⟩
        · have m' := b3.mono (F' := F') (H' := H') g.ex fun o e => g.keep _ o z1 z2 e
          refine ⟨?_, b2, m'⟩
          cases q : F' p.1 with
          | none => rfl
          | some o =>
            obtain ⟨u, hu⟩ := b3.there
            rcases g.new _ o q with z | z | ⟨xs, z⟩
            · rw [b1] at z; cases z
            · rw [hu] at z; cases z
            · subst z
              exact (m'.notup (g.sub _ _ q)).elim
theorem ev_callG {T : Type} {args : T → List D} {pre : T → Prop} {res : T → D → List (Addr × List D) → Prop} {E : XK} {ta : TA} (x : T) (h : EvA C ta rho mu (.ptr dl :: args x)) (h1 : (dl, MO.any (dealP da)) ∈ mu) (h2 : (da, MO.any cellsP) ∈ mu) (hne : dl ≠ da) (hp : pre x) :
    Ev C (tCall (spG C args pre res) [] E ta) rho mu fun d mu' => ∃ ext, mu' = exm ext ++ mu ∧ res x d ext := fun c ts s H Q S q => by
  refine h.run S fun vs H1 l S1 => ?_
  obtain ⟨F, T⟩ := S1
  rw [List.append_nil]
  have z := zip_drs l T.tmp
  match vs, z with
  | [], z => exact absurd z.1 (by simp)
  | v0 :: vr, z =>
    obtain ⟨f1, f2, D1⟩ := T.deal h1 h2 hne
    refine ⟨F, x, dl, da, vr, by rw [z.head.ptr_inv], z.tail, T.sub, f1, f2, D1, hp, fun v d ext F' H' g a1 a2 D' he hn r rv => ?_⟩
    exact q v d _ H' ⟨ext, rfl, r⟩ ⟨F', ((T.grown h1 h2 g a1 a2 D' he hn).fewer fun p hp => List.mem_append_right _ hp).push rv⟩
/-- .. whose result holds no list of its own -/
theorem ev_callG0 {T : Type} {args : T → List D} {pre : T → Prop} {res : T → D → Prop} {E : XK} {ta : TA} (x : T) (h : EvA C ta rho mu (.ptr dl :: args x)) (h1 : (dl, MO.any (dealP da)) ∈ mu) (h2 : (da, MO.any cellsP) ∈ mu) (hne : dl ≠ da) (hp : pre x) :
    EvP C (tCall (spG C args pre fun x d ext => ext = [] ∧ res x d) [] E ta) rho mu (res x) := Ev.imp (ev_callG x h h1 h2 hne hp) fun d mu' ⟨ext, e, e2, r⟩ => ⟨r, by rw [e, e2]; rfl⟩
/-- any arguments -/
theorem ev_callR {T : Type} {args : T → List D} {pre : T → Prop} {res : T → D → Prop} {E : XK} {ta : TA} {Ra : List D → Mu → Prop} (h : EvR C ta rho mu Ra) (hx : ∀ ds mu', Ra ds mu' → ∃ x, ds = args x ∧ pre x) :
    Ev C (tCall (spF C args pre res) [] E ta) rho mu fun d mu' => ∃ ds, Ra ds mu' ∧ ∀ x, ds = args x → pre x → True ∧ (∃ x', ds = args x' ∧ pre x' ∧ res x' d) := fun c ts s H Q S q => by
  refine h c ts s H _ S fun vs ds mu' H1 r l S1 => ?_
  obtain ⟨F, S1⟩ := S1
  rw [List.append_nil]
  obtain ⟨x, e, hp⟩ := hx ds mu' r
  subst e
  exact ⟨F, x, S1.sub, zip_drs l S1.tmp, hp, fun v d F' H' g r' z => q v d mu' H' ⟨_, r, fun _ _ _ => ⟨trivial, x, rfl, hp, r'⟩⟩ ⟨F', ((S1.grow g).fewer fun p hp => by simp [hp]).push z⟩⟩
end
section
variable {P : Program} {w : World} {K : PySem.W.Frag} {mg : Str → Option Value} {base : Heap} {C : Addr}
def FinG (C : Addr) (c : Cn) (dl da : Addr) (res : D → List (Addr × List D) → Prop) (Q : VK) : Prop := ∀ v d ext F' H', GrM c.F0 c.H0 F' H' dl da → F' dl = none → F' da = none → Deal H' dl da → (∀ p ∈ ext, F' p.1 = none ∧ c.H0 p.1 = none ∧ ∃ xs, H' p.1 = some (.lst xs) ∧ DRs C F' xs p.2) → (ext.map (·.1)).Nodup → res d ext → DR C F' v d → Q v H'
theorem FinG.go {c : Cn} {dl da : Addr} {res : D → List (Addr × List D) → Prop} {Q : VK} {rho : List (Option D)} {mu : Mu} {ts : List (V × D)} {s : L2.St} {H : Hp} {v : V} {d : D} {ext : List (Addr × List D)} (h : FinG C c dl da res Q) (hM : c.M = fun a => a = dl ∨ a = da) (hne : dl ≠ da)
    (S : Sat C c rho (exm ext ++ mu) ((v, d) :: ts) s H) (h1 : (dl, MO.any (dealP da)) ∈ mu) (h2 : (da, MO.any cellsP) ∈ mu) (r : res d ext) : Q v H := by
  obtain ⟨F, T⟩ := S
  obtain ⟨f1, f2, D1⟩ := T.deal (List.mem_append_right _ h1) (List.mem_append_right _ h2) hne
  refine h v d ext F H ⟨T.ex, T.sub, fun a o n1 n2 e => T.keep a o (by rw [hM]; exact fun z => z.elim n1 n2) e, T.new⟩ f1 f2 D1 (fun p hp => ?_) ?_ r T.top
  · obtain ⟨a1, a2, xs, a3, a4⟩ := T.mu (p.1, .lst p.2) (List.mem_append_left _ (List.mem_map.mpr ⟨p, hp, rfl⟩))
    exact ⟨a1, a2, xs, a3, a4⟩
  · have := T.nd
    rw [List.map_append, List.nodup_append] at this
    rw [exm_fst] at this
    exact this.1
theorem Sat.startG {F H : Hp} {N : List Str} {vr : List V} {ds : List D} {dl da : Addr} (k : Same F H) (h : DRs C F vr ds) (f1 : F dl = none) (f2 : F da = none) (D0 : Deal H dl da) :
    Sat C ⟨F, H, fun a => a = dl ∨ a = da⟩ (some (.ptr dl) :: ds.map some ++ List.replicate (N.length - (ds.length + 1)) none) (dmu dl da) [] (L2.start N (.ref dl :: vr)) H := by
  obtain ⟨F1, T1⟩ := Sat.start (N := N) k (DRs.cons (.ptr dl) h)
  obtain ⟨b, hb⟩ := D0.d
  obtain ⟨ns, hn, hl⟩ := D0.c
  have free : ∀ a xs, F a = none → H a = some (.lst xs) → F1 a = none := fun a xs fa ha => by
    cases e : F1 a with
    | none => rfl
    | some o =>
      have e1 := T1.sub _ _ e
      rcases T1.new _ _ e with z | z | ⟨ys, z⟩
      · rw [show F a = some o from z] at fa; cases fa
      · rw [show H a = none from z] at ha; cases ha
      · subst z; rw [ha] at e1; cases e1
  refine ⟨F1, T1.ex, T1.sub, fun a o _ e => T1.keep a o id e, T1.new, T1.dom, T1.slen, T1.slot, T1.tmp, by simp [D0.ne], fun p hp => ?_⟩
  rcases List.mem_cons.mp hp with e | hp
  · subst e
    exact ⟨free _ _ f1 hb, .inl (.inl rfl), _, hb, (by intro xs z; cases z), F1, Same.refl F1, b, rfl⟩
  · rw [List.mem_singleton.mp hp]
    exact ⟨free _ _ f2 hn, .inl (.inr rfl), _, hn, (by intro xs z; cases z), F1, Same.refl F1, ns, rfl, hl⟩
theorem okG {x qual : Str} {st : Stmt} {f : Addr} {fd : FuncData} {N ps : List Str} {k : Nat} {T : Type} {args : T → List D} {pre : T → Prop} {res : T → D → List (Addr × List D) → Prop} (Fn : Fun K x qual st f fd) (S : FnScope N ps (defScope st)) (len : ∀ y, (args y).length + 1 = ps.length)
    (body : ∀ (y : T) (dl da : Addr) (cdv : Value) (A : Around) (outer : List Env) (s : Shared) (H : Hp) (E : XK), pre y → dl ≠ da → Room k (A.deeper (PyProof.Rows.envOfC qual (defScope st) s.heap.objs.size f cdv)) →
      ∃ t, PSs (cxOf CX0 P w K mg base N qual (defScope st) f cdv A outer s H E).nox (defBody st) t ∧ ∀ (c : Cn) (Q : VK) (s0 : L2.St) (H0 : Hp), (c.M = fun a => a = dl ∨ a = da) → FinG C c dl da (res y) Q → Sat C c (some (.ptr dl) :: (args y).map some ++ List.replicate (N.length - ((args y).length + 1)) none) (dmu dl da) [] s0 H0 → t { nx := fun _ H' => Q .non H', rt := Q } s0 H0) :
    FnOk P w K mg base CX0 (k + 1) f fd ps (spG C args pre res) := by
  refine Fn.ok S (fun vs H Q E h => ?_) (fun cdv A outer s H vs Q E hr h => ?_)
  · obtain ⟨F, y, dl, da, vr, e, hd, _⟩ := h
    rw [e, List.length_cons, hd.1, len]
  · obtain ⟨F, y, dl, da, vr, e, hd, k, f1, f2, D0, hp, q⟩ := h
    subst e
    obtain ⟨t, h1, h2⟩ := body y dl da cdv A outer s H E hp D0.ne hr
    exact ⟨t, h1, h2 ⟨F, H, fun a => a = dl ∨ a = da⟩ Q _ H rfl q (Sat.startG k hd f1 f2 D0)⟩
end
end DL
/-! lists that a caller lent -/
namespace DL
open PySem PySem.Spec PyProof.Rows L2

/-- the object is a list of such data -/
def asL (C : Addr) (ds : List D) : Hp → HO → Prop := fun F o => ∃ xs, o = .lst xs ∧ DRs C F xs ds
section
variable {C : Addr} {c : Cn} {K : PySem.W.Frag} {rho : List (Option D)} {mu : Mu} {ts : List (V × D)} {s : L2.St} {F H F' H' : Hp} {v : V} {d d2 : D} {te ta tb : TE} {ds es : List D} {a dl da : Addr} {E : Ends} {u : TS}
/-- a list of one's own, or lent -/
def OwnL (C : Addr) (mu : Mu) (a : Addr) (ds : List D) : Prop := (a, MO.lst ds) ∈ mu ∨ (a, MO.any (asL C ds)) ∈ mu
theorem OwnL.at (h : OwnL C mu a ds) (T : SatF C c rho mu ts s F H) : F a = none ∧ ∃ xs, H a = some (.lst xs) ∧ DRs C F xs ds := by
  rcases h with h | h
  · obtain ⟨f, _, xs, hx, hs⟩ := T.mu _ h
    exact ⟨f, xs, hx, hs⟩
  · obtain ⟨f, _, o, ho, _, F0, k, xs, e, hs⟩ := T.mu _ h
    exact ⟨f, xs, by rw [← e]; exact ho, hs.mono k⟩
theorem ev_ixA {i : Int} (ha : EvD C ta rho mu (.ptr a)) (hb : EvD C tb rho mu (.int i)) (hm : OwnL C mu a ds) (hd : atI ds i = some d) : EvD C (tOp (rIx K) ta tb) rho mu d := EvD.of fun c ts s H Q S q => by
  refine ha.run S fun x H1 S1 => hb.run S1 fun y H2 S2 => ?_
  obtain ⟨F, S2⟩ := S2
  obtain ⟨_, xs, hx, hs⟩ := hm.at S2
  obtain ⟨v, e1, r⟩ := hs.at hd
  exact .inl ⟨a, xs, i, v, (S2.tmp (x, .ptr a) (by simp)).ptr_inv, (S2.tmp (y, .int i) (by simp)).int_inv, SqL.of hx, e1, q v H2 ⟨F, (S2.fewer fun p hp => by simp [hp]).push r⟩⟩
theorem ev_neA (n : Nat) (ha : EvD C ta rho mu (.ptr a)) (hb : EvD C tb rho mu d2) (hm : OwnL C mu a ds) (h1 : pl n (.lst ds) = true) (h2 : pl n d2 = true) (hn : n ≤ 64 := by decide) : EvD C (tOp (rNeD K) ta tb) rho mu (.bl (!eqd (.lst ds) d2)) := EvD.of fun c ts s H Q S q => by
  refine ha.run S fun x H1 S1 => hb.run S1 fun y H2 S2 => ?_
  obtain ⟨F, T⟩ := S2
  obtain ⟨f, xs, hx, hs⟩ := hm.at T
  have k1 : Same F (upd F a (.lst xs)) := Same.new f
  have k2 : Same (upd F a (.lst xs)) H2 := fun b o e => by
    by_cases z : b = a
    · subst z; rw [upd_same] at e; cases e; exact hx
    · rw [upd_ne z] at e; exact T.sub b o e
  have r1 : DR C (upd F a (.lst xs)) x (.lst ds) := by
    have ex : x = .ref a := (T.tmp (x, .ptr a) (by simp)).ptr_inv
    rw [ex]
    exact .lst upd_same hs.1 (hs.mono k1).2
  refine ⟨_, _, r1.dp k2 h1, T.top.dp T.sub h2, shaped_of hn h1, shaped_of hn h2, q _ _ ⟨F, (T.fewer fun p hp => by simp [hp]).push (.bl _)⟩⟩
theorem ev_lenA (ha : EvD C ta rho mu (.ptr a)) (hm : OwnL C mu a ds) : EvD C (tCB (rLen K) (tCons ta tNil)) rho mu (nat ds.length) := EvD.of fun c ts s H Q S q => ha.run S fun v H1 S1 => by
  obtain ⟨F, T⟩ := S1
  obtain ⟨_, xs, hx, hs⟩ := hm.at T
  exact ⟨a, xs, by rw [T.top.ptr_inv], .inl (SqL.of hx), q _ H1 ⟨F, (T.fewer fun p hp => by simp [hp]).push (by rw [hs.1]; exact .int _)⟩⟩
theorem SatF.lend {k : Nat} {xs : List V} {es : List D} (T : SatF C c rho mu ts s F H) (hk : mu[k]? = some (a, .any (asL C ds))) (h : DRs C F xs es) : SatF C c rho (mu.set k (a, .any (asL C es))) ts s F (upd H a (.lst xs)) :=
  T.changeAt (m' := .any (asL C es)) hk (fun z => z) ⟨_, upd_same, (by intro ys z; cases z), F, Same.refl F, xs, rfl, h⟩
/-- xs.pop() of a lent list -/
theorem ev_popA (k : Nat) (ha : EvD C ta rho mu (.ptr a)) (hk : mu[k]? = some (a, .any (asL C (ds ++ [d])))) : Ev C (tBM0 K "list" rPop ta) rho mu fun d' mu' => d' = d ∧ mu' = mu.set k (a, .any (asL C ds)) := fun c ts s H Q S q => ha.run S fun v H1 S1 => by
  obtain ⟨F, T⟩ := S1
  have ex := T.top.ptr_inv
  subst ex
  obtain ⟨_, xs, hx, hs⟩ := OwnL.at (.inr (List.mem_of_getElem? hk)) T
  have hl : xs.length = ds.length + 1 := by rw [hs.1]; simp
  have hxl : xs.length - 1 < xs.length := by omega
  have r := hs.2 (xs.length - 1) _ d (List.getElem?_eq_getElem hxl) (by rw [hl, Nat.add_sub_cancel, List.getElem?_append_right (Nat.le_refl _), Nat.sub_self]; rfl)
  have dr : DRs C F xs.dropLast ds := by
    have := hs.take (n := ds.length)
    rw [List.take_left] at this
    rw [List.dropLast_eq_take, hl, Nat.add_sub_cancel]
    exact this
  refine ⟨.inl ⟨rfl, xs, SqL.of hx⟩, a, xs, _, rfl, rfl, hx, List.getElem?_eq_getElem hxl, ?_⟩
  exact q _ d _ _ ⟨rfl, rfl⟩ ⟨F, ((T.lend hk dr).fewer fun p hp => by simp [hp]).push r⟩
/-- xs.append(e) of a lent list -/
theorem q_appA (k : Nat) (ho : EvD C ta rho mu (.ptr a)) (h : EvD C te rho mu d) (hk : mu[k]? = some (a, .any (asL C ds))) (hl : ds.length < 100000) (S : Sat C c rho mu ts s H)
    (q : ∀ H', Sat C c rho (mu.set k (a, .any (asL C (ds ++ [d])))) ts s H' → u E s H') : tSeq (tDrop (tBM K "list" rAppend ta (tCons te tNil))) u E s H := by
  refine ho.run S fun x H1 S1 => ?_
  obtain ⟨F1, T1⟩ := id S1
  have ex := T1.top.ptr_inv
  subst ex
  obtain ⟨_, xs0, hx0, _⟩ := OwnL.at (.inr (List.mem_of_getElem? hk)) T1
  refine ⟨.inl ⟨rfl, xs0, SqL.of hx0⟩, h.run S1 fun v H2 S2 => ?_⟩
  obtain ⟨F2, T2⟩ := S2
  obtain ⟨_, xs, hx, hs⟩ := OwnL.at (.inr (List.mem_of_getElem? hk)) T2
  exact ⟨a, xs, v, rfl, rfl, hx, by rw [hs.1]; exact small hl, q _ ⟨F2, (T2.lend hk (hs.app (.one T2.top))).fewer fun p hp => by simp [hp]⟩⟩
/-- xs[i] = e of a lent list -/
theorem q_setA (k : Nat) {i : Int} {j : Nat} (h : EvD C te rho mu d) (ho : EvD C ta rho mu (.ptr a)) (hi : EvD C tb rho mu (.int i)) (hk : mu[k]? = some (a, .any (asL C ds))) (hj : ixN ds.length i = some j) (S : Sat C c rho mu ts s H)
    (q : ∀ H', Sat C c rho (mu.set k (a, .any (asL C (ds.set j d)))) ts s H' → u E s H') : tSeq (tAsg te (gSub ta tb rSetL)) u E s H := by
  refine h.run S fun v H1 S1 => ho.run S1 fun x H2 S2 => hi.run S2 fun y H3 S3 => ?_
  obtain ⟨F, T⟩ := S3
  obtain ⟨_, xs, hx, hs⟩ := OwnL.at (.inr (List.mem_of_getElem? hk)) T
  have r := T.tmp (v, d) (by simp)
  exact ⟨a, xs, i, j, (T.tmp (x, .ptr a) (by simp)).ptr_inv, (T.tmp (y, .int i) (by simp)).int_inv, hx, by rw [hs.1]; exact hj, q _ ⟨F, (T.lend hk (hs.set r)).fewer fun p hp => by simp [hp]⟩⟩
/-- the deal, opened: what stands in it now -/
theorem Sat.open (S : Sat C c rho (dmu dl da) ts s H) : ∃ (b : Int) (ns : List Int), ns.length ≤ 1000 ∧ Sat C c rho [(dl, .any (asL C [.ptr da, .int b])), (da, .any (asL C (ns.map D.int)))] ts s H := by
  obtain ⟨F, T⟩ := S
  obtain ⟨f1, o1, u1, e1, n1, G1, k1, b, e2⟩ := T.mu (dl, .any (dealP da)) List.mem_cons_self
  obtain ⟨f2, o2, u2, e3, n2, G2, k2, ns, e4, hl⟩ := T.mu (da, .any cellsP) (List.mem_cons_of_mem _ List.mem_cons_self)
  refine ⟨b, ns, hl, F, T.ex, T.sub, T.keep, T.new, T.dom, T.slen, T.slot, T.tmp, T.nd, fun p hp => ?_⟩
  rcases List.mem_cons.mp hp with e | hp
  · subst e
    exact ⟨f1, o1, u1, e1, n1, F, Same.refl F, _, e2, .cons (.ptr da) (.one (.int b))⟩
  · rw [List.mem_singleton.mp hp]
    exact ⟨f2, o2, u2, e3, n2, F, Same.refl F, _, e4, DRs.ints ns⟩
theorem Sat.shut {b : Int} {ns : List Int} (S : Sat C c rho [(dl, .any (asL C [.ptr da, .int b])), (da, .any (asL C (ns.map D.int)))] ts s H) (hl : ns.length ≤ 1000) : Sat C c rho (dmu dl da) ts s H := by
  obtain ⟨F, T⟩ := S
  obtain ⟨f1, o1, u1, e1, n1, G1, k1, xs, e2, r⟩ := T.mu (dl, .any (asL C [.ptr da, .int b])) List.mem_cons_self
  obtain ⟨f2, o2, u2, e3, n2, G2, k2, ys, e4, r2⟩ := T.mu (da, .any (asL C (ns.map D.int))) (List.mem_cons_of_mem _ List.mem_cons_self)
  refine ⟨F, T.ex, T.sub, T.keep, T.new, T.dom, T.slen, T.slot, T.tmp, T.nd, fun p hp => ?_⟩
  rcases List.mem_cons.mp hp with e | hp
  · subst e
    refine ⟨f1, o1, u1, e1, n1, F, Same.refl F, b, ?_⟩
    match xs, r with
    | [x, y], r => rw [e2, r.head.ptr_inv, r.tail.head.int_inv]
    | [], r => exact absurd r.1 (by simp)
    | [_], r => exact absurd r.1 (by simp)
    | _ :: _ :: _ :: _, r => exact absurd r.1 (by simp)
  · rw [List.mem_singleton.mp hp]
    exact ⟨f2, o2, u2, e3, n2, F, Same.refl F, ns, by rw [e4, r2.ints_inv], hl⟩
end
end DL
/-! _law_any, _law_of, _law_mixed -/
namespace DL
open PySem L2 Mth

theorem pl_ints (ns : List Int) : pl 1 (.lst (ns.map D.int)) = true := pls_ints ns
theorem eqd_intsNil (ns : List Int) : eqd (.lst (ns.map D.int)) (.lst []) = decide (ns = []) := by
  cases ns with
  | nil => rfl
  | cons n ns => rfl
section
variable {C : Addr} {rho : List (Option D)} {mu mu1 : Mu} {ta : TE}
theorem ev_int1R {z : Int} (h : Ev C ta rho mu fun d mu' => d = .int z ∧ mu' = mu1) : Ev C (tCB rInt1 (tCons ta tNil)) rho mu fun d mu' => d = .int z ∧ mu' = mu1 := fun c ts s H Q S q => h c ts s H _ S fun v d mu' H' ⟨e, e2⟩ S' => by
  subst e
  obtain ⟨F, T⟩ := id S'
  exact .inl ⟨z, by rw [T.top.int_inv], by rw [← T.top.int_inv]; exact q v _ mu' H' ⟨rfl, e2⟩ S'⟩
end
section
variable {P : Program} {w : World} {K : PySem.W.Frag} {mg : Str → Option Value} {base : Heap} {C : Addr}
abbrev sp_l_any (C : Addr) : Sp := spG C (fun n : Nat => [nat n]) (fun n => 0 < n ∧ n < 1073741824) fun n d ext => ext = [] ∧ ∃ j : Nat, d = nat j ∧ j < n
theorem c_l_any (T : Txt K mg C) : Cal P w K mg base 1 "_law_any" ["_law_deal", "_law_bound"] (sp_l_any C) := T.d.l_any.cal fun f fd Fn => okG Fn sc_l_any (fun _ => rfl) fun n dl da cdv A outer s H E hp hne hr => by
  obtain ⟨hn, hn2⟩ := hp
  refine ⟨_, (pss_cons (ps_while PassesOwn.never (PW.pt (pw_and (pt_cmpR (k_neD K hr.units) (k_ix K (pv 0) pe_int) (pe_lst pa_nil) (nomark _)) (pw_and1 (pt_cmpR (k_eqD K hr.units) (k_ix K (k_ix K (pv 0) pe_int) (pe_un un_neg pe_int)) pe_int (nomark _)))))
  (pss_one (ps_expr (pe_bm0 PySem.F.plainAttrs_list PySem.F.slot_list_pop PySem.F.type_list_pop mt_pop (k_ix K (pv 0) pe_int)))))
  (pss_cons (ps_if (pt_cmpR (k_neD K hr.units) (k_ix K (pv 0) pe_int) (pe_lst pa_nil) (nomark _))
  (pss_cons (psn 2 sc_l_any.nd (x_int T.b.int (pe_bm0 PySem.F.plainAttrs_list PySem.F.slot_list_pop PySem.F.type_list_pop mt_pop (k_ix K (pv 0) pe_int))))
  (pss_cons (ps_expr (pe_bm PySem.F.plainAttrs_list PySem.F.slot_list_append PySem.F.type_list_append mt_append (k_ix K (pv 0) pe_int) (pa_cons (pe_op op_fdiv (pv 2) (pv 1)) pa_nil)))
  (pss_one (ps_ret (pe_op op_mod (pv 2) (pv 1))))))
  pss_nil)
  (pss_cons (ps_asg (pe_op op_mod (x_int T.b.int (pe_op op_add (pe_op op_mul (k_ix K (pv 0) pe_int) pe_int) pe_int)) pe_int) (pg_sub (pv 0) pe_int set_list))
  (pss_one (ps_ret (pe_op op_mod (x_int T.b.int (pe_op op_fdiv (k_ix K (pv 0) pe_int) pe_int)) (pv 1))))))), fun cn Q s0 H0 hM q Z => ?_⟩
  replace Z : Sat C cn [some (.ptr dl), some (nat n), none] (dmu dl da) [] s0 H0 := Z
  obtain ⟨b, ns, hl, Z⟩ := Z.open
  have m0 : ∀ {b : Int} {ns : List Int}, OwnL C [(dl, .any (asL C [.ptr da, .int b])), (da, .any (asL C (ns.map D.int)))] dl [.ptr da, .int b] := .inr List.mem_cons_self
  have m1 : ∀ {b : Int} {ns : List Int}, OwnL C [(dl, .any (asL C [.ptr da, .int b])), (da, .any (asL C (ns.map D.int)))] da (ns.map D.int) := .inr (List.mem_cons_of_mem _ List.mem_cons_self)
  have d0 : ∀ {b : Int} {ns : List Int} {rho : List (Option D)}, rho[0]? = some (some (.ptr dl)) → EvD C (tOp (rIx K) (tVar 0) (tC (.int 0))) rho [(dl, .any (asL C [.ptr da, .int b])), (da, .any (asL C (ns.map D.int)))] (.ptr da) := fun hh => ev_ixA (ev_var hh) ev_int m0 (at_nat (n := 0) rfl)
  have d1 : ∀ {b : Int} {ns : List Int} {rho : List (Option D)}, rho[0]? = some (some (.ptr dl)) → EvD C (tOp (rIx K) (tVar 0) (tC (.int 1))) rho [(dl, .any (asL C [.ptr da, .int b])), (da, .any (asL C (ns.map D.int)))] (.int b) := fun hh => ev_ixA (ev_var hh) ev_int m0 (at_nat (n := 1) rfl)
  have ne0 : ∀ {b : Int} {ns : List Int} {rho : List (Option D)}, rho[0]? = some (some (.ptr dl)) → EvD C (tOp (rNeD K) (tOp (rIx K) (tVar 0) (tC (.int 0))) (tLst tNil)) rho [(dl, .any (asL C [.ptr da, .int b])), (da, .any (asL C (ns.map D.int)))] (.bl (!decide (ns = []))) := fun {b ns _} hh => EvD.to (ev_neA 1 (d0 hh) (ev_lst (ds := []) ea_nil) m1 (pl_ints ns) rfl) (by rw [eqd_intsNil])
  have inr : ∀ i : Int, ∃ j : Nat, D.int (i % (n : Int)) = nat j ∧ j < n := fun i => by
    have h1 := Int.emod_nonneg i (show (n : Int) ≠ 0 by omega)
    have h2 := Int.emod_lt_of_pos i (show 0 < (n : Int) by omega)
    exact ⟨(i % (n : Int)).toNat, congrArg D.int (by omega), by omega⟩
  have lastC : ∀ l : List Int, l ≠ [] → ∃ r z, l = r ++ [z] := fun l hl => ⟨l.dropLast, l.getLast hl, (List.dropLast_concat_getLast hl).symm⟩
  have lst : ∀ (r : List Int) (z : Int), (r ++ [z]).map D.int = r.map D.int ++ [.int z] := fun r z => by rw [List.map_append]; rfl
  refine q_while Z (fun _ : List Int => [some (.ptr dl), some (nat n), none]) (fun ns => [(dl, .any (asL C [.ptr da, .int b])), (da, .any (asL C (ns.map D.int)))]) (fun m ns => m = ns.length ∧ ns.length ≤ 1000) ⟨ns, ns.length, ⟨rfl, hl⟩, ⟨rfl, rfl, trivial⟩, rfl⟩ fun m ns hI => ?_
  obtain ⟨rfl, hl⟩ := hI
  refine ⟨_, et_and (a := !decide (ns = [])) (b := decide (ns.getLast? = some 0)) (et_test (ne0 rfl)) fun hne0 => ?_, fun mu' s1 H1 hb Z1 => ?_, fun mu' s1 H1 hb Z1 => ?_⟩
  · obtain ⟨r, z, e⟩ := lastC ns (by simpa using hne0)
    subst e
    refine et_test (EvD.to (ev_eqI (ev_ixA (d := .int z) (d0 rfl) (ev_neg ev_int) m1 ?_) ev_int) ?_)
    · rw [lst]
      exact at_last (n := r.length) (by simp) (by simp)
    · rw [List.getLast?_append]
      simp
  · obtain ⟨hb, e⟩ := hb
    subst e
    have hb := hb.symm
    rw [Bool.and_eq_true] at hb
    obtain ⟨r, z, e⟩ := lastC ns (by simpa using hb.1)
    subst e
    rw [lst] at Z1
    refine s_drop (ev_popA 1 (ev_ixA (ev_var rfl) ev_int (.inr List.mem_cons_self) (at_nat (n := 0) rfl)) rfl) Z1 fun d mu' H2 ⟨_, e2⟩ Z2 => ?_
    subst e2
    refine ⟨r, r.length, by simp, ⟨rfl, by simp at hl; omega⟩, Z2.weak ⟨rfl, rfl, trivial⟩⟩
  · obtain ⟨_, e⟩ := hb
    subst e
    refine q_when (et_test (ne0 rfl)) Z1 (fun hb H2 Z2 => ?_) fun hb H2 Z2 => ?_
    · obtain ⟨r, z, e⟩ := lastC ns (by simpa using hb)
      subst e
      rw [lst] at Z2
      have hl' : r.length + 1 ≤ 1000 := by simpa using hl
      refine q_asg (ev_int1R (ev_popA 1 (ev_ixA (ev_var rfl) ev_int (.inr List.mem_cons_self) (at_nat (n := 0) rfl)) rfl)) Z2 fun d mu' s3 H3 ⟨e1, e2⟩ Z3 => ?_
      subst e1; subst e2
      refine q_appA 1 (d := .int (z / (n : Int))) (ds := r.map D.int) (ev_ixA (ev_var rfl) ev_int (.inr List.mem_cons_self) (at_nat (n := 0) rfl)) (ev_div (ev_var rfl) (ev_var rfl) ⟨by omega, by omega⟩) rfl (by rw [List.length_map]; omega) Z3 fun H4 Z4 => ?_
      obtain ⟨j, e1, e2⟩ := inr z
      refine s_ret (ev_mod (ev_var rfl) (ev_var rfl) (by omega)) Z4 fun v d' mu' H' ⟨e, e3⟩ S' => ?_
      subst e3
      have key : ∀ {rho : List (Option D)} {ts : List (V × D)} {s : L2.St} {H : Hp}, Sat C cn rho [(dl, .any (asL C [.ptr da, .int b])), (da, .any (asL C (r.map D.int ++ [.int (z / (n : Int))])))] ts s H → Sat C cn rho (dmu dl da) ts s H := fun S => Sat.shut (b := b) (ns := r ++ [z / (n : Int)]) (by rw [lst]; exact S) (by simp; omega)
      exact q.go (ext := []) hM hne (key S') List.mem_cons_self (List.mem_cons_of_mem _ List.mem_cons_self) ⟨rfl, j, e.trans e1, e2⟩
    · have e : ns = [] := by simpa using hb
      subst e
      refine q_setA 0 (d := .int ((b * 40693 + 71) % 2147483647)) (ev_mod (ev_int1 (ev_add (ev_mul (d1 rfl) ev_int (.inr ⟨by decide, by decide⟩)) ev_int)) ev_int (by decide)) (ev_var rfl) ev_int rfl (j := 1) rfl Z2 fun H3 Z3 => ?_
      obtain ⟨j, e1, e2⟩ := inr ((b * 40693 + 71) % 2147483647 / 64)
      refine s_ret (ev_mod (ev_int1 (ev_div (d1 rfl) ev_int ⟨by decide, by decide⟩)) (ev_var rfl) (by omega)) Z3 fun v d' mu' H' ⟨e, e3⟩ S' => ?_
      subst e3
      exact q.go (ext := []) hM hne (Sat.shut S' hl) List.mem_cons_self (List.mem_cons_of_mem _ List.mem_cons_self) ⟨rfl, j, e.trans e1, e2⟩
end
end DL
/-! _law_of, _law_mixed, _law_view -/
namespace DL
open PySem L2 Mth

section
variable {C : Addr} {c : Cn} {K : PySem.W.Frag} {rho : List (Option D)} {mu mu' : Mu} {ts : List (V × D)} {s : L2.St} {F H : Hp} {ds : List D} {d : D} {j : Nat}
theorem rd_ixL (hj : j < ds.length) : RD C (rIx K) (.lst ds) (nat j) fun d => ds[j]? = some d := fun F H x y Q k r1 r2 q => by
  obtain ⟨a, xs, e, hx, hs⟩ := r1.lst_inv
  obtain ⟨v, e1, r⟩ := hs.at (at_nat (List.getElem?_eq_getElem hj))
  exact .inl ⟨a, xs, j, v, e, r2.int_inv, SqL.of (k _ _ hx), e1, q v _ F H (List.getElem?_eq_getElem hj) (Gr.refl k) r⟩
theorem Sat.perm (S : Sat C c rho mu ts s H) (p : mu'.Perm mu) : Sat C c rho mu' ts s H := by
  obtain ⟨F, T⟩ := S
  exact ⟨F, T.ex, T.sub, T.keep, T.new, T.dom, T.slen, T.slot, T.tmp, (p.map (·.1)).nodup_iff.mpr T.nd, fun q hq => T.mu q (p.mem_iff.mp hq)⟩
end
section
variable {P : Program} {w : World} {K : PySem.W.Frag} {mg : Str → Option Value} {base : Heap} {C : Addr}
/-- a number from the deal, as a reading -/
theorem ev_any {rho : List (Option D)} {mu : Mu} {dl da : Addr} {t1 t2 : TE} {n : Nat} {E : XK} (h : EvD C t1 rho mu (.ptr dl)) (hn : EvD C t2 rho mu (nat n)) (h1 : (dl, MO.any (dealP da)) ∈ mu) (h2 : (da, MO.any cellsP) ∈ mu) (hne : dl ≠ da) (h0 : 0 < n) (hb : n < 1073741824) :
    EvP C (tCall (sp_l_any C) [] E (tCons t1 (tCons t2 tNil))) rho mu fun d => ∃ j : Nat, d = nat j ∧ j < n := ev_callG0 (args := fun n : Nat => [nat n]) (res := fun n d => ∃ j : Nat, d = nat j ∧ j < n) n (ea_cons h (ea_cons hn ea_nil)) h1 h2 hne ⟨h0, hb⟩
abbrev sp_l_of (C : Addr) : Sp := spG C (fun ds : List D => [.lst ds]) (fun ds => 0 < ds.length ∧ ds.length ≤ 1000) fun ds d ext => ext = [] ∧ d ∈ ds
theorem c_l_of (T : Txt K mg C) : Cal P w K mg base 2 "_law_of" ["_law_deal", "_law_some"] (sp_l_of C) := T.d.l_of.cal fun f fd Fn => okG Fn sc_l_of (fun _ => rfl) fun ds dl da cdv A outer s H E hp hne hr => by
  have g_l_any := c_l_any (P := P) (w := w) (base := base) T
  obtain ⟨h0, h1⟩ := hp
  refine ⟨_, (pss_one (ps_ret (k_ix K (pv 1) (pe_cal g_l_any (hr.mono (by decide)) (pa_cons (pv 0) (pa_cons (k_len K T.b.len (pv 1)) pa_nil)))))), fun cn Q s0 H0 hM q Z => ?_⟩
  replace Z : Sat C cn [some (.ptr dl), some (.lst ds)] (dmu dl da) [] s0 H0 := Z
  refine s_ret (ev_opR (P := fun d => d ∈ ds) (ev_var rfl) (ev_any (n := ds.length) (ev_var rfl) (ev_lenL (ev_var rfl)) List.mem_cons_self (List.mem_cons_of_mem _ List.mem_cons_self) hne h0 (by omega)) fun d2 hd2 => ?_) Z fun v d' mu' H' ⟨r, e⟩ S' => ?_
  · obtain ⟨j, e, hj⟩ := hd2
    subst e
    exact fun F H x y Q k r1 r2 q => rd_ixL hj F H x y Q k r1 r2 fun z d F' H' hd => q z d F' H' (List.mem_of_getElem? hd)
  · subst e
    exact q.go (ext := []) hM hne S' List.mem_cons_self (List.mem_cons_of_mem _ List.mem_cons_self) ⟨rfl, r⟩
abbrev sp_l_mixed (C : Addr) : Sp := spG C (fun l : List Nat => [.lst (nats l)]) (fun l => l.length ≤ 1000) fun l d ext => ∃ p out, ext = [(p, nats out)] ∧ d = .ptr p ∧ out.Perm l
theorem c_l_mixed (T : Txt K mg C) : Cal P w K mg base 2 "_law_mixed" ["_law_deal", "_law_some"] (sp_l_mixed C) := T.d.l_mixed.cal fun f fd Fn => okG Fn sc_l_mixed (fun _ => rfl) fun l dl da cdv A outer s H E hp hne hr => by
  have g_l_any := c_l_any (P := P) (w := w) (base := base) T
  have hl : l.length ≤ 1000 := hp
  refine ⟨_, (pss_cons (ps_par (i := 2) (j := 3) rfl sc_l_mixed.nd rfl rfl (by decide) rfl rfl (pa_cons (k_list K T.b.list (pv 1)) (pa_cons (pe_lst pa_nil) pa_nil)) (by rfl))
  (pss_cons (ps_while PassesOwn.never (pt_cmpR (k_neD K hr.units) (pv 2) (pe_lst pa_nil) (nomark _))
  (pss_one (ps_expr (pe_bm PySem.F.plainAttrs_list PySem.F.slot_list_append PySem.F.type_list_append mt_append (pv 3) (pa_cons (pe_bm PySem.F.plainAttrs_list PySem.F.slot_list_pop PySem.F.type_list_pop mt_popAt (pv 2) (pa_cons (pe_cal g_l_any (hr.mono (by decide)) (pa_cons (pv 0) (pa_cons (k_len K T.b.len (pv 2)) pa_nil))) pa_nil)) pa_nil)))))
  (pss_one (ps_ret (pv 3))))), fun cn Q s0 H0 hM q Z => ?_⟩
  replace Z : Sat C cn [some (.ptr dl), some (.lst (nats l)), none, none] (dmu dl da) [] s0 H0 := Z
  refine q_par2 (el_listL (ev_var rfl)) (R2 := fun _ mu1 e mu2 => ∃ p, e = .ptr p ∧ mu2 = (p, .lst []) :: mu1) (fun d mu1 _ => el_lst ea_nil) Z fun d1 e1 mu1 mu2 s1 H1 ⟨pl, e, e'⟩ ⟨pf, e2, e3⟩ Z1 => ?_
  subst e; subst e'; subst e2; subst e3
  refine q_while Z1 (fun _ : List Nat × List Nat => [some (.ptr dl), none, some (.ptr pl), some (.ptr pf)]) (fun y => [(pf, .lst (nats y.2)), (pl, .lst (nats y.1)), (dl, .any (dealP da)), (da, .any cellsP)]) (fun m y => m = y.1.length ∧ (y.2 ++ y.1).Perm l) ⟨(l, []), l.length, ⟨rfl, List.Perm.refl _⟩, ⟨rfl, rfl, rfl, trivial⟩, rfl⟩ fun m y hI => ?_
  obtain ⟨rest, found⟩ := y
  obtain ⟨em, hperm⟩ := hI
  dsimp only at em hperm
  have hlen := hperm.length_eq
  rw [List.length_append] at hlen
  refine ⟨_, et_test (EvD.to (ev_neA 1 (ds := nats rest) (ev_var rfl) (ev_lst (ds := []) ea_nil) (.inl (List.mem_cons_of_mem _ List.mem_cons_self)) (pls_nats 0 _) rfl) (show D.bl (!eqd (ln rest) (ln [])) = .bl (!decide (rest = [])) by rw [eqd_ln])), fun mu' s2 H2 hb Z2 => ?_, fun mu' s2 H2 hb Z2 => ?_⟩
  · obtain ⟨hb, e⟩ := hb
    subst e
    have hne0 : rest ≠ [] := by
      have := hb.symm
      simpa using this
    have h0 : 0 < rest.length := List.length_pos_iff.mpr hne0
    have ln1 : (nats rest).length = rest.length := by unfold nats; rw [List.length_map]
    refine s_appR (ds0 := nats found) 0 (ev_var rfl) List.mem_cons_self (ev_popAt 1 (ds := nats rest) (ev_var rfl) (ev_any (n := (nats rest).length) (da := da) (ev_var rfl) (ev_lenA (ev_var rfl) (.inl (List.mem_cons_of_mem _ List.mem_cons_self))) (List.mem_cons_of_mem _ (List.mem_cons_of_mem _ List.mem_cons_self)) (List.mem_cons_of_mem _ (List.mem_cons_of_mem _ (List.mem_cons_of_mem _ List.mem_cons_self))) hne (by omega) (by omega)) rfl (by omega)) Z2 (fun d mu' hR => ?_) fun d mu' ds H3 hR hds Z3 => ?_
    · obtain ⟨j, _, e⟩ := hR
      exact ⟨nats found, by rw [e]; rfl, by unfold nats; rw [List.length_map]; omega⟩
    · obtain ⟨j, hj, e⟩ := hR
      subst e
      obtain ⟨t, ht, rfl⟩ := nats_at hj
      have e2 : nats found = ds := by
        have := hds
        injection this with z
        injection z with _ z
        injection z
      subst e2
      have hjl := (List.getElem?_eq_some_iff.mp ht).1
      refine ⟨(rest.eraseIdx j, found ++ [t]), rest.length - 1, by show rest.length - 1 < m; omega, ⟨by show _ = (rest.eraseIdx j).length; rw [List.length_eraseIdx_of_lt hjl], ?_⟩, ?_⟩
      · have p1 : (t :: rest.eraseIdx j).Perm rest := by
          have hg : rest[j] = t := by rw [List.getElem?_eq_getElem hjl] at ht; exact Option.some.inj ht
          have e1 : rest.eraseIdx j = rest.take j ++ rest.drop (j + 1) := List.eraseIdx_eq_take_drop_succ ..
          have e2 : rest = rest.take j ++ t :: rest.drop (j + 1) := by
            conv => lhs; rw [← List.take_append_drop j rest, List.drop_eq_getElem_cons hjl, hg]
          rw [e1]
          conv => rhs; rw [e2]
          exact List.perm_middle.symm
        show (found ++ [t] ++ rest.eraseIdx j).Perm l
        rw [List.append_assoc]
        exact (p1.append_left found).trans hperm
      · have e3 : nats (found ++ [t]) = nats found ++ [nat t] := by unfold nats; rw [List.map_append]; rfl
        have e4 : nats (rest.eraseIdx j) = (nats rest).eraseIdx j := by
          unfold nats
          rw [List.eraseIdx_eq_take_drop_succ, List.eraseIdx_eq_take_drop_succ, List.map_append, List.map_take, List.map_drop]
        dsimp only
        rw [e3, e4]
        exact Z3.weak ⟨rfl, rfl, rfl, trivial⟩
  · obtain ⟨hb, e⟩ := hb
    subst e
    have e0 : rest = [] := by
      have := hb.symm
      simpa using this
    subst e0
    refine s_ret (ev_var rfl) Z2 fun v d' mu' H' ⟨e, e2⟩ S' => ?_
    subst e2
    exact q.go (ext := [(pf, nats found)]) (mu := [(pl, .lst (nats [])), (dl, .any (dealP da)), (da, .any cellsP)]) hM hne S' (List.mem_cons_of_mem _ List.mem_cons_self) (List.mem_cons_of_mem _ (List.mem_cons_of_mem _ List.mem_cons_self)) ⟨pf, found, rfl, e, by simpa using hperm⟩
end
end DL
/-! _law_view -/
namespace DL
open PySem L2 Mth

section
variable {C : Addr} {c : Cn} {K : PySem.W.Frag} {rho : List (Option D)} {mu mu' : Mu} {ts : List (V × D)} {s : L2.St} {F H : Hp} {ds : List D} {d : D} {te ta tb : TE} {a : Addr} {E : Ends} {u : TS}
theorem evP_minA {ns : List Int} (ha : EvD C ta rho mu (.ptr a)) (hm : OwnL C mu a (ns.map D.int)) (h0 : 0 < ns.length) : EvP C (tCB (rMin K) (tCons ta tNil)) rho mu fun d => ∃ m, d = .int m := fun c ts s H Q S q => ha.run S fun v H1 S1 => by
  obtain ⟨F, T⟩ := S1
  obtain ⟨_, xs, hx, hs⟩ := hm.at T
  refine ⟨a, ns, by rw [T.top.ptr_inv], SqL.of (by rw [← hs.ints_inv]; exact hx), h0, fun m _ _ => ?_⟩
  exact q (.int m) (.int m) mu H1 ⟨⟨m, rfl⟩, rfl⟩ ⟨F, (T.fewer fun p hp => by simp [hp]).push (.int m)⟩
theorem evP_maxA {ns : List Int} (ha : EvD C ta rho mu (.ptr a)) (hm : OwnL C mu a (ns.map D.int)) (h0 : 0 < ns.length) : EvP C (tCB (rMax K) (tCons ta tNil)) rho mu fun d => ∃ m, d = .int m := fun c ts s H Q S q => ha.run S fun v H1 S1 => by
  obtain ⟨F, T⟩ := S1
  obtain ⟨_, xs, hx, hs⟩ := hm.at T
  refine ⟨a, ns, by rw [T.top.ptr_inv], SqL.of (by rw [← hs.ints_inv]; exact hx), h0, fun m _ _ => ?_⟩
  exact q (.int m) (.int m) mu H1 ⟨⟨m, rfl⟩, rfl⟩ ⟨F, (T.fewer fun p hp => by simp [hp]).push (.int m)⟩
theorem et_eqP (ha : EvP C ta rho mu fun d => ∃ m, d = .int m) (hb : EvP C tb rho mu fun d => ∃ m, d = .int m) : Et C (tTest (tOp (rEqD K) ta tb)) rho mu fun _ mu' => mu' = mu := fun c ts s H Q S q => by
  refine ha.run S fun x d1 H1 h1 S1 => hb.run S1 fun y d2 H2 h2 S2 => ?_
  obtain ⟨i, rfl⟩ := h1
  obtain ⟨j, rfl⟩ := h2
  obtain ⟨F, T⟩ := id S2
  refine ⟨_, _, (T.tmp (x, .int i) (by simp)).dp (n := 1) T.sub rfl, T.top.dp (n := 1) T.sub rfl, shaped_of (n := 1) (d := .int i) (by decide) rfl, shaped_of (n := 1) (d := .int j) (by decide) rfl, ?_⟩
  exact ⟨_, rfl, q _ mu H2 rfl (S2.fewer fun p hp => by simp [hp])⟩
/-- xs[i] = e of an own list, i any of its places -/
theorem s_setLR (k : Nat) (h : EvD C te rho mu d) (ho : EvD C ta rho mu (.ptr a)) (hi : EvP C tb rho mu fun d => ∃ j : Nat, d = nat j ∧ j < ds.length) (hk : mu[k]? = some (a, .lst ds)) (S : Sat C c rho mu ts s H)
    (q : ∀ j H', j < ds.length → Sat C c rho (mu.set k (a, .lst (ds.set j d))) ts s H' → E.nx s H') : tAsg te (gSub ta tb rSetL) E s H := by
  refine h.run S fun v H1 S1 => ho.run S1 fun x H2 S2 => hi.run S2 fun y d3 H3 hd S3 => ?_
  obtain ⟨j, rfl, hj⟩ := hd
  obtain ⟨F, T⟩ := S3
  obtain ⟨_, _, xs, hx, hs⟩ := T.mu _ (List.mem_of_getElem? hk)
  have r := T.tmp (v, d) (by simp)
  have hn : ixN xs.length (j : Int) = some j := by
    have := hs.1
    unfold ixN
    rw [if_pos (by omega), Int.toNat_natCast, if_pos (by omega)]
  exact ⟨a, xs, (j : Int), j, (T.tmp (x, .ptr a) (by simp)).ptr_inv, T.top.int_inv, hx, hn, q j _ hj ⟨F, (T.changeAt (m' := .lst (ds.set j d)) hk id ⟨xs.set j v, upd_same, hs.set r⟩).fewer fun p hp => by simp [hp]⟩⟩
end
section
variable {P : Program} {w : World} {K : PySem.W.Frag} {mg : Str → Option Value} {base : Heap} {C : Addr}
abbrev sp_l_view (C : Addr) : Sp := spG C (fun k : Nat => [nat k]) (fun k => 0 < k ∧ k ≤ 10) fun k d ext => ∃ p bits, ext = [(p, nats bits)] ∧ d = .ptr p ∧ bits.length = k ∧ ∀ b ∈ bits, b < 2
theorem c_l_view (T : Txt K mg C) : Cal P w K mg base 2 "_law_view" ["_law_deal", "_law_commands"] (sp_l_view C) := T.d.l_view.cal fun f fd Fn => okG Fn sc_l_view (fun _ => rfl) fun k dl da cdv A outer s H E hp hne hr => by
  have g_l_any := c_l_any (P := P) (w := w) (base := base) T
  obtain ⟨h0, h10⟩ := hp
  refine ⟨_, (pss_cons (ps_setLc (i := 2) (own := [("_law_command", 3)]) rfl sc_l_view.nd rfl rfl (sw_true rfl rfl rfl (by decide +kernel)) (pi_range1 (by rfl) T.b.range (pa_cons (pv 1) pa_nil)) (bk (own := [("_law_command", 3)]) (N := N_l_view) (sc := defScope s_l_view)) (fun _ _ _ _ _ => (pgn 3 sc_l_view.nd)) (fun _ _ _ _ _ => pts_nil) (fun _ _ _ _ _ => (pe_cal g_l_any (hr.mono (by decide)) (pa_cons (pv 0) (pa_cons pe_int pa_nil)))))
  (pss_cons (ps_if (pt_cmpR (k_eqD K hr.units) (k_min K T.b.min (pv 2)) (k_max K T.b.max (pv 2)) (nomark _))
  (pss_one (ps_asg (pe_op op_sub pe_int (k_ix K (pv 2) pe_int)) (pg_sub (pv 2) (pe_cal g_l_any (hr.mono (by decide)) (pa_cons (pv 0) (pa_cons (pv 1) pa_nil))) set_list)))
  pss_nil)
  (pss_one (ps_ret (pv 2))))), fun cn Q s0 H0 hM q Z => ?_⟩
  replace Z : Sat C cn [some (.ptr dl), some (nat k), none, none] (dmu dl da) [] s0 H0 := Z
  refine q_asg (ev_lcA (ds := (List.range k).map nat) (fun i acc => ∃ bits : List Nat, acc = nats bits ∧ bits.length = i ∧ ∀ b ∈ bits, b < 2) (evi_rng (ev_var rfl) (by omega)) ⟨[], rfl, rfl, fun b z => by simp at z⟩ (by simp; omega) fun i e acc hd hA hl => ?_) Z fun d mu' s1 H1 hR Z1 => ?_
  · refine ⟨_, _, bg_name, by simp, fun p => ⟨true, EtD.of fun c ts s H Q S q => q H S, fun _ => ?_, fun z => by cases z⟩⟩
    refine Ev.imp (ev_any (n := 2) (da := da) (ev_var rfl) ev_int (List.mem_cons_of_mem _ List.mem_cons_self) (List.mem_cons_of_mem _ (List.mem_cons_of_mem _ List.mem_cons_self)) hne (by decide) (by decide)) fun d' mu' hr => ⟨hr.2, ?_⟩
    obtain ⟨bits, e1, e2, e3⟩ := hA
    obtain ⟨j, e4, hj⟩ := hr.1
    refine ⟨bits ++ [j], by rw [e1, e4]; unfold nats; rw [List.map_append]; rfl, by simp [e2], fun b hb => ?_⟩
    rcases List.mem_append.mp hb with z | z
    · exact e3 b z
    · rw [List.mem_singleton.mp z]; exact hj
  · obtain ⟨p, acc, e1, e2, bits, e3, e4, e5⟩ := hR
    subst e1; subst e2; subst e3
    rw [List.length_map, List.length_range] at e4
    have fin : ∀ {bits : List Nat} {rho : List (Option D)} {s : L2.St} {H : Hp}, bits.length = k → (∀ b ∈ bits, b < 2) → rho[2]? = some (some (.ptr p)) → Sat C cn rho [(p, .lst (nats bits)), (dl, .any (dealP da)), (da, .any cellsP)] [] s H → tRet (tVar 2) { nx := fun _ H' => Q .non H', rt := Q } s H := fun {bits rho s H} l1 l2 hh S => s_ret (ev_var hh) S fun v d' mu' H' ⟨e, e2⟩ S' => by
      subst e2
      exact q.go (ext := [(p, nats bits)]) hM hne S' List.mem_cons_self (List.mem_cons_of_mem _ List.mem_cons_self) ⟨p, bits, rfl, e, l1, l2⟩
    have own : OwnL C [(p, .lst (nats bits)), (dl, .any (dealP da)), (da, .any cellsP)] p ((bits.map fun (n : Nat) => (n : Int)).map D.int) := .inl (by rw [← nats_ints]; exact List.mem_cons_self)
    refine q_if (et_eqP (evP_minA (ev_var rfl) own (by rw [List.length_map]; omega)) (evP_maxA (ev_var rfl) own (by rw [List.length_map]; omega))) Z1 (fun mu' H2 e Z2 => ?_) fun mu' H2 e Z2 => ?_
    · subst e
      have lb : (nats bits).length = k := by unfold nats; rw [List.length_map, e4]
      obtain ⟨b0, hb0⟩ : ∃ b0, bits[0]? = some b0 := ⟨bits[0]'(by omega), List.getElem?_eq_getElem (by omega)⟩
      have hb2 := e5 b0 (List.mem_of_getElem? hb0)
      refine s_setLR 0 (ds := nats bits) (d := nat (1 - b0)) (EvD.to (ev_sub ev_int (ev_ixO (d := nat b0) (ev_var rfl) ev_int List.mem_cons_self (at_nat (n := 0) (nats_get hb0)))) (congrArg D.int (by omega))) (ev_var rfl) (Ev.imp (ev_any (n := k) (da := da) (ev_var rfl) (ev_var rfl) (List.mem_cons_of_mem _ List.mem_cons_self) (List.mem_cons_of_mem _ (List.mem_cons_of_mem _ List.mem_cons_self)) hne h0 (by omega)) fun d mu' ⟨⟨j, e, hj⟩, e2⟩ => ⟨⟨j, e, by omega⟩, e2⟩) rfl Z2 fun j H3 hj Z3 => ?_
      have es : (nats bits).set j (nat (1 - b0)) = nats (bits.set j (1 - b0)) := by unfold nats; rw [List.map_set]
      rw [es] at Z3
      refine fin (bits := bits.set j (1 - b0)) (by rw [List.length_set]; exact e4) (fun b hb => ?_) rfl Z3
      rcases List.mem_or_eq_of_mem_set hb with z | z
      · exact e5 b z
      · omega
    · subst e
      exact fin e4 e5 rfl Z2
end
end DL
/-! _law_first, _law_last, _law_wheel -/
namespace DL
open PySem L2 Mth

/-- rows of a part: so many, of so many commands, within the part -/
def Part (M : Mat) (k base cnt : Nat) : Prop := M.length = cnt ∧ ∀ r ∈ M, r.length = k ∧ ∀ t ∈ r, base ≤ t ∧ t < base + cnt
def matD (M : Mat) : D := .lst (M.map ln)
theorem map_nats (l : List Nat) (f : Nat → Nat) : (nats l).map (fun d => nat (f (nOf d))) = nats (l.map f) := by
  unfold nats
  rw [List.map_map, List.map_map]
  refine List.map_congr_left fun t _ => ?_
  show nat (f (nOf (nat t))) = _
  rw [nOf_nat]
  rfl
section
variable {P : Program} {w : World} {K : PySem.W.Frag} {mg : Str → Option Value} {base : Heap} {C : Addr}
abbrev sp_l_first (C : Addr) : Sp := spF C (fun x : List Nat × Nat × Nat => [ln x.1, nat x.2.1, nat x.2.2]) (fun x => x.1.length ≤ 10 ∧ (∀ b ∈ x.1, b < 2) ∧ 0 < x.2.1 ∧ x.2.1 ≤ 10) fun x r => ∃ M, r = matD M ∧ Part M x.1.length x.2.2 (x.2.1 + 2)
theorem c_l_first (T : Txt K mg C) : Cal P w K mg base 1 "_law_first" ["_law_bits", "_law_first_here", "_law_base"] (sp_l_first C) := T.d.l_first.cal fun f fd Fn => okF Fn sc_l_first (fun _ => rfl) fun x cdv A outer s H E hp hr => by
  obtain ⟨bits, fh, ba⟩ := x
  obtain ⟨hk, hb, h0, h10⟩ := hp
  dsimp only at hk hb h0 h10
  have lb : (nats bits).length = bits.length := by unfold nats; rw [List.length_map]
  refine ⟨_, (pss_cons (psn 3 sc_l_first.nd (pe_op op_cat (pe_lc (own := [("_law_at", 4)]) (by rfl) sc_l_first.nd (pi_range1 (by rfl) T.b.range (pa_cons (pe_op op_sub (pv 1) pe_int) pa_nil)) (bk (own := [("_law_at", 4)]) (N := N_l_first) (sc := defScope s_l_first)) (fun _ _ _ _ _ => (pgn 4 sc_l_first.nd)) (fun _ _ _ _ _ => pts_nil) (fun _ _ _ _ _ => (pe_lc (own := [("_law_bit", 5)]) (by rfl) sc_l_first.nd (k_pil K (pv 0)) (bk (own := [("_law_bit", 5)]) (N := N_l_first) (sc := { kind := .function, names := [(".0", .local), ("_law_at", .cell), ("_law_base", .cell), ("_law_bits", .cell)], isGenerator := false, isCoroutine := false })) (fun _ _ _ _ _ => (pgn 5 sc_l_first.nd)) (fun _ _ _ _ _ => pts_nil) (fun _ _ _ _ _ => (pe_op op_add (pe_op op_add (pv 2) (pv 4)) pe_int))))) (pe_lst (pa_cons (pe_lc (own := [("_law_bit", 5)]) (by rfl) sc_l_first.nd (k_pil K (pv 0)) (bk (own := [("_law_bit", 5)]) (N := N_l_first) (sc := defScope s_l_first)) (fun _ _ _ _ _ => (pgn 5 sc_l_first.nd)) (fun _ _ _ _ _ => pts_nil) (fun _ _ _ _ _ => (pe_op op_add (pe_op op_add (pv 2) (pv 1)) (pv 5)))) pa_nil))))
  (pss_one (ps_ret (pe_op op_cat (pv 3) (pe_lst (pa_cons (pe_op op_rep (pe_lst (pa_cons (pe_op op_add (pv 2) (pv 1)) pa_nil)) (k_len K T.b.len (pv 0))) (pa_cons (pe_op op_rep (pe_lst (pa_cons (pe_op op_add (pe_op op_add (pv 2) (pv 1)) pe_int) pa_nil)) (k_len K T.b.len (pv 0))) pa_nil))))))), fun cn Q s0 H0 hM q Z => ?_⟩
  replace Z : Sat C cn [some (ln bits), some (nat fh), some (nat ba), none, none, none] [] [] s0 H0 := Z
  have inner : ∀ {rho : List (Option D)} {mu : Mu} {v : Nat → Nat} {te : TE}, rho[0]? = some (some (ln bits)) → (∀ (b : Nat) mu', b ∈ bits → EvD C te ((wipeD rho [5]).set 5 (some (nat b))) mu' (nat (v b))) → EvD C (tLc (iList K (tVar 0)) (gName 5) tYes te [5]) rho mu (ln (bits.map v)) := fun {rho mu v te} hh hte => EvN.ev ((el_map (fun d => nat (v (nOf d))) (evi_lst (ds := nats bits) (ev_var hh)) (by omega) fun i d hd => by
    obtain ⟨b, hb, rfl⟩ := nats_at hd
    refine ⟨_, _, bg_name, by simp, fun mu' => ?_⟩
    rw [nOf_nat]
    exact hte b mu' (List.mem_of_getElem? hb)).to (map_nats bits v))
  refine q_asgD (d := .lst ((((List.range (fh - 1)).map fun a => bits.map fun _ => ba + a + 1) ++ [bits.map fun b => ba + fh + b]).map ln)) (EvN.ev ((el_cat (EvN.ev ((el_map (fun d => ln (bits.map fun _ => ba + nOf d + 1)) (evi_rng (n := fh - 1) (EvD.to (ev_sub (ev_var rfl) ev_int) (congrArg D.int (by omega))) (by omega)) (by simp; omega) fun i d hd => ?_).to (show _ = ((List.range (fh - 1)).map fun a => bits.map fun _ => ba + a + 1).map ln from ?_)))
    (ev_lst (ds := [ln (bits.map fun b => ba + fh + b)]) (ea_cons (inner rfl fun b mu' _ => EvD.to (ev_add (ev_add (ev_var rfl) (ev_var rfl)) (ev_var rfl)) (congrArg D.int (by omega))) ea_nil)) (by simp; omega)).to (by rw [List.map_append]; rfl))) Z fun s1 H1 Z1 => ?_
  · obtain ⟨hi, rfl⟩ := rng_at hd
    refine ⟨_, _, bg_name, by simp, fun mu' => ?_⟩
    rw [nOf_nat]
    exact inner rfl fun b mu' _ => EvD.to (ev_add (ev_add (ev_var rfl) (ev_var rfl)) ev_int) (congrArg D.int (by omega))
  · rw [List.map_map, List.map_map]
    refine List.map_congr_left fun a _ => ?_
    show ln (bits.map fun _ => ba + nOf (nat a) + 1) = _
    rw [nOf_nat]
    rfl
  · have rep : ∀ n v : Nat, List.replicate n (nat v) = nats (List.replicate n v) := fun n v => by unfold nats; rw [List.map_replicate]
    refine s_ret (EvN.ev (el_cat (es := [ln (List.replicate bits.length (ba + fh)), ln (List.replicate bits.length (ba + fh + 1))]) (ev_var rfl) (ev_lst (ea_cons (EvN.ev ((el_rep1 (n := bits.length) (d := nat (ba + fh)) (ev_lst (ea_cons (EvD.to (ev_add (ev_var rfl) (ev_var rfl)) (congrArg D.int (by omega))) ea_nil)) (EvD.to (ev_lenL (ds := nats bits) (ev_var rfl)) (by rw [lb])) (by omega)).to (rep _ _)))
      (ea_cons (EvN.ev ((el_rep1 (n := bits.length) (d := nat (ba + fh + 1)) (ev_lst (ea_cons (EvD.to (ev_add (ev_add (ev_var rfl) (ev_var rfl)) ev_int) (congrArg D.int (by omega))) ea_nil)) (EvD.to (ev_lenL (ds := nats bits) (ev_var rfl)) (by rw [lb])) (by omega)).to (rep _ _))) ea_nil))) (by simp; omega))) Z1 fun v d' mu' H' ⟨e, _⟩ S' => q.go hM S' ⟨((List.range (fh - 1)).map fun a => bits.map fun _ => ba + a + 1) ++ [bits.map fun b => ba + fh + b] ++ [List.replicate bits.length (ba + fh), List.replicate bits.length (ba + fh + 1)], e.trans ?_, ?_, fun r hr => ?_⟩
    · unfold matD
      rw [List.map_append (l₁ := _ ++ _)]
      rfl
    · simp
      omega
    · simp only [List.mem_append, List.mem_cons, List.mem_map, List.mem_range, List.not_mem_nil, or_false] at hr
      dsimp only
      rcases hr with (⟨a, ha, rfl⟩ | rfl) | (rfl | rfl)
      · refine ⟨by simp, fun t ht => ?_⟩
        obtain ⟨b, _, e⟩ := List.mem_map.mp ht
        omega
      · refine ⟨by simp, fun t ht => ?_⟩
        obtain ⟨b, hb', e⟩ := List.mem_map.mp ht
        have := hb b hb'
        omega
      · refine ⟨by simp, fun t ht => ?_⟩
        have := (List.mem_replicate.mp ht).2
        omega
      · refine ⟨by simp, fun t ht => ?_⟩
        have := (List.mem_replicate.mp ht).2
        omega
end
end DL
/-! _law_last, _law_wheel -/
namespace DL
open PySem L2 Mth

section
variable {P : Program} {w : World} {K : PySem.W.Frag} {mg : Str → Option Value} {base : Heap} {C : Addr}
abbrev sp_l_last (C : Addr) : Sp := spF C (fun x : List Nat × Nat × Nat => [ln x.1, nat x.2.1, nat x.2.2]) (fun x => x.1.length ≤ 10 ∧ 0 < x.2.1 ∧ x.2.1 ≤ 2) fun x r => ∃ M, r = matD M ∧ Part M x.1.length x.2.2 (2 * x.2.1)
theorem c_l_last (T : Txt K mg C) : Cal P w K mg base 1 "_law_last" ["_law_bits", "_law_last_here", "_law_base"] (sp_l_last C) := T.d.l_last.cal fun f fd Fn => okF Fn sc_l_last (fun _ => rfl) fun x cdv A outer s H E hp hr => by
  obtain ⟨bits, la, ba⟩ := x
  obtain ⟨hk, h0, h2⟩ := hp
  dsimp only at hk h0 h2
  have lb : (nats bits).length = bits.length := by unfold nats; rw [List.length_map]
  refine ⟨_, (pss_cons (psn 3 sc_l_last.nd pe_int)
  (pss_cons (ps_for PassesOwn.never rfl (pi_range1 (by rfl) T.b.range (pa_cons (pv 1) pa_nil)) (pgn 4 sc_l_last.nd)
  (pss_one (psn 3 sc_l_last.nd (pe_op op_mul (pv 3) pe_int))))
  (pss_one (ps_ret (pe_lc (own := [("_law_state", 5)]) (by rfl) sc_l_last.nd (pi_range1 (by rfl) T.b.range (pa_cons (pv 3) pa_nil)) (bk (own := [("_law_state", 5)]) (N := N_l_last) (sc := defScope s_l_last)) (fun _ _ _ _ _ => (pgn 5 sc_l_last.nd)) (fun _ _ _ _ _ => pts_nil) (fun _ _ _ _ _ => (pe_lc (own := [("_law_bit", 6)]) (by rfl) sc_l_last.nd (k_pil K (pv 0)) (bk (own := [("_law_bit", 6)]) (N := N_l_last) (sc := { kind := .function, names := [(".0", .local), ("_law_state", .cell), ("_law_base", .cell), ("_law_bits", .cell), ("_law_whole", .cell)], isGenerator := false, isCoroutine := false })) (fun _ _ _ _ _ => (pgn 6 sc_l_last.nd)) (fun _ _ _ _ _ => pts_nil) (fun _ _ _ _ _ => (pe_op op_add (pv 2) (pe_op op_mod (x_int T.b.int (pe_op op_add (pe_op op_mul pe_int (pv 5)) (pv 6))) (pv 3))))))))))), fun cn Q s0 H0 hM q Z => ?_⟩
  replace Z : Sat C cn [some (ln bits), some (nat la), some (nat ba), none, none, none, none] [] [] s0 H0 := Z
  refine q_asgD (d := nat (2 ^ 0)) ev_int Z fun s1 H1 Z1 => ?_
  refine q_for (evi_rng (n := la) (ev_var rfl) (by omega)) Z1 (fun i (_ : Unit) => [some (ln bits), some (nat la), some (nat ba), some (nat (2 ^ i)), none, none, none]) (fun _ _ => []) (fun _ _ => True) ⟨(), trivial, ⟨rfl, rfl, rfl, rfl, trivial⟩, rfl⟩ (fun i d _ tx hd _ => ?_) fun _ s2 H2 _ Z2 => ?_
  · obtain ⟨hi, rfl⟩ := rng_at hd
    refine ⟨_, _, bg_name, fun s2 H2 Z2 => ?_⟩
    refine s_asgD (EvD.to (d2 := nat (2 ^ (i + 1))) (ev_mul (ev_var rfl) ev_int (.inr ⟨by decide, by decide⟩)) (congrArg D.int ?_)) Z2 fun s3 H3 Z3 => ⟨(), trivial, Z3.weak ⟨rfl, rfl, rfl, rfl, trivial⟩⟩
    rw [Nat.pow_succ]
    omega
  · rw [List.length_map, List.length_range] at Z2
    have hw : 2 ^ la = 2 * la := by
      have : la = 1 ∨ la = 2 := by omega
      rcases this with z | z <;> subst z <;> rfl
    rw [hw] at Z2
    have inner : ∀ {rho : List (Option D)} {mu : Mu} {v : Nat → Nat} {te : TE}, rho[0]? = some (some (ln bits)) → (∀ (b : Nat) mu', b ∈ bits → EvD C te ((wipeD rho [6]).set 6 (some (nat b))) mu' (nat (v b))) → EvD C (tLc (iList K (tVar 0)) (gName 6) tYes te [6]) rho mu (ln (bits.map v)) := fun {rho mu v te} hh hte => EvN.ev ((el_map (fun d => nat (v (nOf d))) (evi_lst (ds := nats bits) (ev_var hh)) (by omega) fun i d hd => by
      obtain ⟨b, hb, rfl⟩ := nats_at hd
      refine ⟨_, _, bg_name, by simp, fun mu' => ?_⟩
      rw [nOf_nat]
      exact hte b mu' (List.mem_of_getElem? hb)).to (map_nats bits v))
    refine s_ret (EvN.ev ((el_map (fun d => ln (bits.map fun b => ba + (2 * nOf d + b) % (2 * la))) (evi_rng (n := 2 * la) (ev_var rfl) (by omega)) (by simp; omega) fun i d hd => ?_).to (show _ = ((List.range (2 * la)).map fun a => bits.map fun b => ba + (2 * a + b) % (2 * la)).map ln from ?_))) Z2 fun v d' mu' H' ⟨e, _⟩ S' => q.go hM S' ⟨_, e, by simp, fun r hr => ?_⟩
    · obtain ⟨hi, rfl⟩ := rng_at hd
      refine ⟨_, _, bg_name, by simp, fun mu' => ?_⟩
      rw [nOf_nat]
      exact inner rfl fun b mu' _ => EvD.to (ev_add (ev_var rfl) (ev_mod (ev_int1 (ev_add (ev_mul ev_int (ev_var rfl) (.inl ⟨by decide, by decide⟩)) (ev_var rfl))) (ev_var rfl) (by omega))) (congrArg D.int (by rw [Int.natCast_add, Int.natCast_emod, Int.natCast_add, Int.natCast_mul]; rfl))
    · rw [List.map_map, List.map_map]
      refine List.map_congr_left fun a _ => ?_
      show ln (bits.map fun b => ba + (2 * nOf (nat a) + b) % (2 * la)) = _
      rw [nOf_nat]
      rfl
    · obtain ⟨a, _, rfl⟩ := List.mem_map.mp hr
      refine ⟨by simp, fun t ht => ?_⟩
      obtain ⟨b, _, e⟩ := List.mem_map.mp ht
      have := Nat.mod_lt (2 * a + b) (show 0 < 2 * la by omega)
      dsimp only
      omega
abbrev sp_l_wheel (C : Addr) : Sp := spF C (fun x : List Nat × (Nat × Nat) × Nat => [ln x.1, nat x.2.1.1, nat x.2.1.2, nat x.2.2]) (fun x => x.1.length ≤ 10 ∧ (0 < x.2.1.1 ∧ x.2.1.1 ≤ 10) ∧ 0 < x.2.1.2 ∧ x.2.1.2 ≤ 10) fun x r => ∃ M, r = matD M ∧ Part M x.1.length x.2.2 (x.2.1.1 * x.2.1.2)
theorem c_l_wheel (T : Txt K mg C) : Cal P w K mg base 1 "_law_wheel" ["_law_sums", "_law_step", "_law_modulus", "_law_base"] (sp_l_wheel C) := T.d.l_wheel.cal fun f fd Fn => okF Fn sc_l_wheel (fun _ => rfl) fun x cdv A outer s H E hp hr => by
  obtain ⟨bits, ⟨st, md⟩, ba⟩ := x
  obtain ⟨hk, ⟨h0, h1⟩, h2, h3⟩ := hp
  dsimp only at hk h0 h1 h2 h3
  have lb : (nats bits).length = bits.length := by unfold nats; rw [List.length_map]
  have lim : st * md ≤ 10 * 10 := Nat.mul_le_mul h1 h3
  refine ⟨_, (pss_cons (psn 4 sc_l_wheel.nd (pe_lst pa_nil))
  (pss_cons (ps_for PassesOwn.never rfl (pi_range1 (by rfl) T.b.range (pa_cons (pv 1) pa_nil)) (pgn 5 sc_l_wheel.nd)
  (pss_one (ps_for PassesOwn.never rfl (pi_range1 (by rfl) T.b.range (pa_cons (pv 2) pa_nil)) (pgn 6 sc_l_wheel.nd)
  (pss_cons (ps_setLc (i := 7) (own := [("_law_one", 8)]) rfl sc_l_wheel.nd rfl rfl (sw_true rfl rfl rfl (by decide +kernel)) (k_pil K (pv 0)) (bk (own := [("_law_one", 8)]) (N := N_l_wheel) (sc := defScope s_l_wheel)) (fun _ _ _ _ _ => (pgn 8 sc_l_wheel.nd)) (fun _ _ _ _ _ => pts_nil) (fun _ _ _ _ _ => (pe_ifExp (pt_cmpR (k_eqD K hr.units) (pv 5) pe_int (nomark _)) (pv 8) pe_int)))
  (pss_one (ps_expr (pe_bm PySem.F.plainAttrs_list PySem.F.slot_list_append PySem.F.type_list_append mt_append (pv 4) (pa_cons (pe_lc (own := [("_law_one", 8)]) (by rfl) sc_l_wheel.nd (k_pil K (pv 7)) (bk (own := [("_law_one", 8)]) (N := N_l_wheel) (sc := defScope s_l_wheel)) (fun _ _ _ _ _ => (pgn 8 sc_l_wheel.nd)) (fun _ _ _ _ _ => pts_nil) (fun _ _ _ _ _ => (pe_op op_add (pe_op op_add (pv 3) (pe_op op_mul (pe_op op_mod (x_int T.b.int (pe_op op_add (pv 5) pe_int)) (pv 1)) (pv 2))) (pe_op op_mod (x_int T.b.int (pe_op op_add (pv 6) (pv 8))) (pv 2))))) pa_nil))))))))
  (pss_one (ps_ret (pv 4))))), fun cn Q s0 H0 hM q Z => ?_⟩
  replace Z : Sat C cn [some (ln bits), some (nat st), some (nat md), some (nat ba), none, none, none, none, none] [] [] s0 H0 := Z
  refine q_asgN (el_lst (ds := []) ea_nil) Z fun p s1 H1 Z1 => ?_
  have ok : ∀ i j b : Nat, ba ≤ ba + (i + 1) % st * md + (j + b) % md ∧ ba + (i + 1) % st * md + (j + b) % md < ba + st * md := fun i j b => by
    have e1 := Nat.mod_lt (i + 1) h0
    have e2 := Nat.mod_lt (j + b) h2
    have e3 : (i + 1) % st * md ≤ (st - 1) * md := Nat.mul_le_mul_right md (by omega)
    have e4 : (st - 1) * md + md = st * md := by rw [← Nat.succ_mul]; congr 1; omega
    omega
  refine q_for (evi_rng (n := st) (ev_var rfl) (by omega)) Z1 (fun _ (_ : Mat) => [some (ln bits), some (nat st), some (nat md), some (nat ba), some (.ptr p), none, none, none, none]) (fun _ M => [(p, .lst (M.map ln))]) (fun i M => M.length = i * md ∧ ∀ r ∈ M, r.length = bits.length ∧ ∀ t ∈ r, ba ≤ t ∧ t < ba + st * md)
    ⟨[], ⟨by simp, fun r z => by simp at z⟩, ⟨rfl, rfl, rfl, rfl, rfl, trivial⟩, rfl⟩ (fun i d M tx hd hi => ?_) fun M s2 H2 hM2 Z2 => ?_
  · obtain ⟨hil, rfl⟩ := rng_at hd
    refine ⟨_, _, bg_name, fun s2 H2 Z2 => ?_⟩
    refine s_for (evi_rng (n := md) (ev_var rfl) (by omega)) Z2 (fun _ (_ : Mat) => [some (ln bits), some (nat st), some (nat md), some (nat ba), some (.ptr p), some (nat i), none, none, none]) (fun _ M => [(p, .lst (M.map ln))]) (fun j M => M.length = i * md + j ∧ ∀ r ∈ M, r.length = bits.length ∧ ∀ t ∈ r, ba ≤ t ∧ t < ba + st * md)
      ⟨M, ⟨hi.1, hi.2⟩, ⟨rfl, rfl, rfl, rfl, rfl, rfl, trivial⟩, rfl⟩ (fun j d M tx2 hd2 hj => ?_) fun M s3 H3 hM3 Z3 => ?_
    · obtain ⟨hjl, rfl⟩ := rng_at hd2
      have lim2 : i * md ≤ 10 * 10 := Nat.mul_le_mul (by omega) h3
      refine ⟨_, _, bg_name, fun s3 H3 Z3 => ?_⟩
      refine q_asgD (d := ln (bits.map fun b => if i = 0 then b else 0)) (EvN.ev ((el_map (fun d => nat (if i = 0 then nOf d else 0)) (evi_lst (ds := nats bits) (ev_var rfl)) (by omega) fun x d hd => ?_).to (map_nats bits fun b => if i = 0 then b else 0))) Z3 fun s4 H4 Z4 => ?_
      · obtain ⟨b, hb, rfl⟩ := nats_at hd
        refine ⟨_, _, bg_name, by simp, fun mu' => ?_⟩
        rw [nOf_nat]
        refine ev_ifD (b := decide (i = 0)) (EtD.to (et_test (ev_eqI (ev_var rfl) ev_int)) (by rw [decide_eq_decide]; omega)) (fun hb => ?_) fun hb => ?_
        · rw [if_pos (of_decide_eq_true hb)]; exact ev_var rfl
        · rw [if_neg (of_decide_eq_false hb)]; exact ev_int
      · refine s_appD 0 (ev_var rfl) (d := ln ((bits.map fun b => if i = 0 then b else 0).map fun o => ba + (i + 1) % st * md + (j + o) % md)) (EvN.ev ((el_map (fun d => nat (ba + (i + 1) % st * md + (j + nOf d) % md)) (evi_lst (ds := nats (bits.map fun b => if i = 0 then b else 0)) (ev_var rfl)) (by unfold nats; rw [List.length_map, List.length_map]; omega) fun x d hd => ?_).to (map_nats _ fun o => ba + (i + 1) % st * md + (j + o) % md))) rfl (by rw [List.length_map, hj.1]; omega) Z4 fun H5 Z5 => ?_
        · obtain ⟨b, hb, rfl⟩ := nats_at hd
          refine ⟨_, _, bg_name, by simp, fun mu' => ?_⟩
          rw [nOf_nat]
          have hmul : CMul (((i : Int) + 1) % (st : Int)) (md : Int) := .inr ⟨by omega, by omega⟩
          exact EvD.to (ev_add (ev_add (ev_var rfl) (ev_mul (ev_mod (ev_int1 (ev_add (ev_var rfl) ev_int)) (ev_var rfl) (by omega)) (ev_var rfl) hmul)) (ev_mod (ev_int1 (ev_add (ev_var rfl) (ev_var rfl))) (ev_var rfl) (by omega))) (congrArg D.int (by rw [Int.natCast_add, Int.natCast_add, Int.natCast_mul, Int.natCast_emod, Int.natCast_emod, Int.natCast_add, Int.natCast_add]; rfl))
        · refine ⟨M ++ [(bits.map fun b => if i = 0 then b else 0).map fun o => ba + (i + 1) % st * md + (j + o) % md], ⟨by rw [List.length_append, hj.1]; rfl, fun r hr => ?_⟩, ?_⟩
          · rcases List.mem_append.mp hr with z | z
            · exact hj.2 r z
            · rw [List.mem_singleton.mp z]
              refine ⟨by simp, fun t ht => ?_⟩
              obtain ⟨o, _, e⟩ := List.mem_map.mp ht
              rw [← e]
              exact ok i j o
          · dsimp only
            rw [List.map_append]
            exact Z5.weak ⟨rfl, rfl, rfl, rfl, rfl, rfl, trivial⟩
    · rw [List.length_map, List.length_range] at hM3
      exact ⟨M, ⟨by rw [hM3.1, Nat.succ_mul], hM3.2⟩, Z3.weak ⟨rfl, rfl, rfl, rfl, rfl, trivial⟩⟩
  · rw [List.length_map, List.length_range] at hM2
    exact s_ret (ev_letgo (ev_var rfl)) Z2 fun v d' mu' H' ⟨e, _⟩ S' => q.go hM S' ⟨M, e, hM2.1, hM2.2⟩
end
end DL
/-! _law_named -/
namespace DL
open PySem L2 Mth

section
variable {C : Addr} {rho : List (Option D)} {mu : Mu} {te tl : TE} {ds : List D} {d : D} {R1 : D → Mu → Prop}
theorem er_pair (h : Ev C te rho mu R1) (hl : ∀ d mu1, R1 d mu1 → EvN C tl rho mu1 ds) : Ev C (tTup (tCons te (tCons tl tNil))) rho mu fun r mu' => ∃ d mu1 p, R1 d mu1 ∧ r = .tup [d, .ptr p] ∧ mu' = (p, .lst ds) :: mu1 := fun c ts s H Q S q => by
  refine h c ts s H _ S fun v d mu1 H1 r1 S1 => hl d mu1 r1 c _ s H1 _ S1 fun v2 e mu2 H2 hr S2 => ?_
  obtain ⟨p, e1, e2⟩ := hr
  subst e1; subst e2
  refine ⟨by rw [sizeLine_eq]; show 2 ≤ 16777216; decide, fun a ha => ?_⟩
  obtain ⟨F, T⟩ := S2
  have g := Gr.alloc (o := .tup [v, v2]) T.sub ha
  have z : DRs C F [v, v2] [d, .ptr p] := .cons (T.tmp (v, d) (by simp)) (.one T.top)
  have z2 := z.mono g.ex
  exact q _ (.tup [d, .ptr p]) _ _ ⟨d, mu1, p, r1, rfl, rfl⟩ ⟨_, ((T.grow g).fewer fun p hp => by simp [hp]).push (.tup upd_same z2.1 z2.2)⟩
end
def Named (S S' : Mat) : Prop := S'.length = S.length ∧ ∃ names : List Nat, names.Perm (List.range S.length) ∧ ∀ (s : Nat) r m, S[s]? = some r → names[s]? = some m → S'[m]? = some (r.map fun t => names.getD t 0)
theorem rows_of {ds : List D} (h : ∀ d ∈ ds, ∃ r : List Nat, d = ln r) : ∃ S : Mat, ds = S.map ln := by
  induction ds with
  | nil => exact ⟨[], rfl⟩
  | cons d ds ih =>
    obtain ⟨r, e⟩ := h d List.mem_cons_self
    obtain ⟨S, e2⟩ := ih fun x hx => h x (List.mem_cons_of_mem _ hx)
    exact ⟨r :: S, by rw [e, e2]; rfl⟩
theorem ln_inj {a b : List Nat} (h : ln a = ln b) : a = b := by
  unfold ln at h
  injection h with h
  exact nats_inj h
section
variable {P : Program} {w : World} {K : PySem.W.Frag} {mg : Str → Option Value} {base : Heap} {C : Addr}
abbrev sp_l_named (C : Addr) : Sp := spG C (fun S : Mat => [matL S]) (fun S => S.length ≤ 10 ∧ ∀ r ∈ S, r.length ≤ 10 ∧ ∀ t ∈ r, t < S.length) fun S d ext => ∃ p S', ext = [(p, S'.map ln)] ∧ d = .ptr p ∧ Named S S'
theorem c_l_named (T : Txt K mg C) : Cal P w K mg base 3 "_law_named" ["_law_deal", "_law_steps"] (sp_l_named C) := T.d.l_named.cal fun f fd Fn => okG Fn sc_l_named (fun _ => rfl) fun S dl da cdv A outer s H E hp hne hr => by
  have g_l_mixed := c_l_mixed (P := P) (w := w) (base := base) T
  obtain ⟨hn, hrow⟩ := hp
  refine ⟨_, (pss_cons (ps_asg (pe_tup (pa_cons (pe_cal g_l_mixed (hr.mono (by decide)) (pa_cons (pv 0) (pa_cons (pe_listRg rfl rfl T.b.list (prg_1 rfl T.b.range (k_len K T.b.len (pv 1)))) pa_nil))) (pa_cons (pe_lc (own := [("_law_row", 4)]) (by rfl) sc_l_named.nd (k_pil K (pv 1)) (bk (own := [("_law_row", 4)]) (N := N_l_named) (sc := defScope s_l_named)) (fun _ _ _ _ _ => (pgn 4 sc_l_named.nd)) (fun _ _ _ _ _ => pts_nil) (fun _ _ _ _ _ => (pe_lst pa_nil))) pa_nil))) (k_gtup K 2 (pgs_cons (pgn 2 sc_l_named.nd) (pgs_cons (pgn 3 sc_l_named.nd) pgs_nil))))
  (pss_cons (ps_for PassesOwn.never rfl (k_enumL K T.b.enumerate (pv 1)) (k_gtup K 2 (pgs_cons (pgn 5 sc_l_named.nd) (pgs_cons (pgn 4 sc_l_named.nd) pgs_nil)))
  (pss_one (ps_asg (pe_lc (own := [("_law_to", 6)]) (by rfl) sc_l_named.nd (k_pil K (pv 4)) (bk (own := [("_law_to", 6)]) (N := N_l_named) (sc := defScope s_l_named)) (fun _ _ _ _ _ => (pgn 6 sc_l_named.nd)) (fun _ _ _ _ _ => pts_nil) (fun _ _ _ _ _ => (k_ix K (pv 2) (pv 6)))) (pg_sub (pv 3) (k_ix K (pv 2) (pv 5)) set_list))))
  (pss_one (ps_ret (pv 3))))), fun cn Q s0 H0 hM q Z => ?_⟩
  replace Z : Sat C cn [some (.ptr dl), some (matL S), none, none, none, none, none] (dmu dl da) [] s0 H0 := Z
  have hlen : ∀ {rho : List (Option D)} {mu : Mu}, rho[1]? = some (some (matL S)) → EvD C (tCB (rLen K) (tCons (tVar 1) tNil)) rho mu (nat S.length) := fun hh => EvD.to (ev_lenL (ds := S.map fun r => .lst (nats r)) (ev_var hh)) (by rw [List.length_map])
  refine q_bindR (er_pair (ds := List.replicate S.length (ln [])) (ev_callG (da := da) (List.range S.length) (ea_cons (ev_var rfl) (ea_cons (EvN.ev (el_listRg (hlen rfl) (by omega))) ea_nil)) List.mem_cons_self (List.mem_cons_of_mem _ List.mem_cons_self) hne (by simp; omega)) fun d mu1 hR => ?_) Z fun d mu' hR => ?_
  · refine (el_map (fun _ => ln []) (evi_lst (ds := S.map fun r => .lst (nats r)) (ev_var rfl)) (by rw [List.length_map]; omega) fun i d hd => ⟨_, _, bg_name, by simp, fun mu' => ev_lst (ds := []) ea_nil⟩).to ?_
    rw [List.map_map]
    exact (List.eq_replicate_of_mem fun b hb => by obtain ⟨_, _, e⟩ := List.mem_map.mp hb; exact e.symm).trans (by rw [List.length_map]; rfl)
  · obtain ⟨d1, mu1, pf, ⟨ext, e1, pn, names, e2, e3, hperm⟩, e4, e5⟩ := hR
    subst e4; subst e5; subst e3; subst e2; subst e1
    have nl : names.length = S.length := by rw [hperm.length_eq, List.length_range]
    have nlt : ∀ m ∈ names, m < S.length := fun m hm => List.mem_range.mp (hperm.mem_iff.mp hm)
    have nnd : names.Nodup := hperm.nodup_iff.mpr List.nodup_range
    refine ⟨_, _, bg_tup bg_name bg_name, fun s1 H1 Z0 => ?_⟩
    have Z1 := (Z0.perm (mu' := (pn, .lst (nats names)) :: (pf, .lst (List.replicate S.length (ln []))) :: dmu dl da) (List.Perm.swap _ _ _)).letgo (i := 2) rfl
    refine q_for (ds := enumD (S.map fun r => .lst (nats r))) (evi_enumL (ev_var rfl)) Z1 (fun _ (_ : List D) => [some (.ptr dl), some (matL S), some (.lst (nats names)), some (.ptr pf), none, none, none]) (fun _ ds => [(pf, .lst ds), (dl, .any (dealP da)), (da, .any cellsP)])
      (fun i ds => ds.length = S.length ∧ ∀ (j m : Nat) r, j < i → S[j]? = some r → names[j]? = some m → ds[m]? = some (ln (r.map fun t => names.getD t 0))) ⟨_, ⟨by simp, fun j m r z => absurd z (Nat.not_lt_zero _)⟩, ⟨rfl, rfl, rfl, rfl, trivial⟩, rfl⟩ (fun i d ds tx hd hi => ?_) fun ds s2 H2 hds Z2 => ?_
    · obtain ⟨e, he, rfl⟩ := enumD_get hd
      rw [List.getElem?_map] at he
      cases hr : S[i]? with
      | none => rw [hr] at he; cases he
      | some r =>
        rw [hr] at he
        cases he
        have hil := (List.getElem?_eq_some_iff.mp hr).1
        obtain ⟨hr10, hrv⟩ := hrow r (List.mem_of_getElem? hr)
        obtain ⟨m, hm⟩ : ∃ m, names[i]? = some m := ⟨names[i]'(by omega), List.getElem?_eq_getElem (by omega)⟩
        have hml := nlt m (List.mem_of_getElem? hm)
        refine ⟨_, _, bg_tup bg_name bg_name, fun s2 H2 Z2 => ?_⟩
        refine s_setL 0 (P := fun d => d = ln (r.map fun t => names.getD t 0)) (i := (m : Int)) (j := m) (EvN.ev ((el_map (fun d => nat (names.getD (nOf d) 0)) (evi_lst (ds := nats r) (ev_var rfl)) (by unfold nats; rw [List.length_map]; omega) fun x d hd => ?_).to (map_nats r fun t => names.getD t 0))) (ev_var rfl) (ev_ixL (ev_var rfl) (ev_var rfl) (at_nat (nats_get hm))) rfl ?_ Z2 fun d H3 hd Z3 => ?_
        · obtain ⟨t, ht, rfl⟩ := nats_at hd
          have htl := hrv t (List.mem_of_getElem? ht)
          refine ⟨_, _, bg_name, by simp, fun mu' => ?_⟩
          rw [nOf_nat]
          exact ev_ixL (ev_var rfl) (ev_var rfl) (at_nat (nats_get (by rw [List.getD_eq_getElem?_getD, List.getElem?_eq_getElem (by omega)]; rfl)))
        · have := hi.1
          unfold ixN
          rw [if_pos (by omega), Int.toNat_natCast, if_pos (by omega)]
        · subst hd
          refine ⟨ds.set m (ln (r.map fun t => names.getD t 0)), ⟨by rw [List.length_set]; exact hi.1, fun j m' r' hj hr' hm' => ?_⟩, Z3.weak ⟨rfl, rfl, rfl, rfl, trivial⟩⟩
          by_cases z : j = i
          · subst z
            rw [hr] at hr'
            rw [hm] at hm'
            cases hr'; cases hm'
            rw [List.getElem?_set_self (by rw [hi.1]; exact hml)]
          · have hne' : m ≠ m' := fun e => by
              subst e
              have a1 := (List.getElem?_eq_some_iff.mp hm).1
              have a2 := (List.getElem?_eq_some_iff.mp hm').1
              exact z ((List.getElem?_inj a1 nnd).mp (hm.trans hm'.symm)).symm
            rw [List.getElem?_set_ne hne']
            exact hi.2 j m' r' (by omega) hr' hm'
    · rw [enumD_len, List.length_map] at hds
      obtain ⟨d1, d2⟩ := hds
      have all : ∀ m, m < S.length → ∃ j r, S[j]? = some r ∧ names[j]? = some m := fun m hm => by
        obtain ⟨j, hj⟩ := List.mem_iff_getElem?.mp (hperm.mem_iff.mpr (List.mem_range.mpr hm))
        have hjl := (List.getElem?_eq_some_iff.mp hj).1
        exact ⟨j, S[j]'(by omega), List.getElem?_eq_getElem _, hj⟩
      obtain ⟨S', hS'⟩ : ∃ S' : Mat, ds = S'.map ln := rows_of fun d hd => by
        obtain ⟨m, hm⟩ := List.mem_iff_getElem?.mp hd
        have hml := (List.getElem?_eq_some_iff.mp hm).1
        obtain ⟨j, r, hj, hn'⟩ := all m (by omega)
        have := d2 j m r (List.getElem?_eq_some_iff.mp hj).1 hj hn'
        rw [hm] at this
        exact ⟨_, Option.some.inj this⟩
      subst hS'
      refine s_ret (ev_var rfl) Z2 fun v d' mu' H' ⟨e, e2⟩ S2 => ?_
      subst e2
      refine q.go (ext := [(pf, S'.map ln)]) (mu := dmu dl da) hM hne S2 List.mem_cons_self (List.mem_cons_of_mem _ List.mem_cons_self) ⟨pf, S', rfl, e, by rw [List.length_map] at d1; exact d1, names, hperm, fun j r m hj hm => ?_⟩
      have := d2 j m r (List.getElem?_eq_some_iff.mp hj).1 hj hm
      rw [List.getElem?_map] at this
      cases e : S'[m]? with
      | none => rw [e] at this; cases this
      | some r' =>
        rw [e] at this
        rw [ln_inj (Option.some.inj this)]
end
end DL
/-! _law_draw -/
namespace DL
open PySem L2 Mth

/-- a promise whose result holds lists of its own -/
def spE (C : Addr) {T : Type} (args : T → List D) (pre : T → Prop) (res : T → D → List (Addr × List D) → Prop) : Sp := fun vs H Q _ => ∃ (F : Hp) (x : T), Same F H ∧ DRs C F vs (args x) ∧ pre x ∧
  ∀ v d ext F' H', Gr F H F' H' → (∀ p ∈ ext, F' p.1 = none ∧ H p.1 = none ∧ ∃ xs, H' p.1 = some (.lst xs) ∧ DRs C F' xs p.2) → (ext.map (·.1)).Nodup → res x d ext → DR C F' v d → Q v H'
section
variable {C : Addr} {c : Cn} {rho : List (Option D)} {mu : Mu} {ts : List (V × D)} {s : L2.St} {F H F' H' : Hp}
theorem SatF.grownE {ext : List (Addr × List D)} (T : SatF C c rho mu ts s F H) (g : Gr F H F' H') (he : ∀ p ∈ ext, F' p.1 = none ∧ H p.1 = none ∧ ∃ xs, H' p.1 = some (.lst xs) ∧ DRs C F' xs p.2) (hd : (ext.map (·.1)).Nodup) : SatF C c rho (exm ext ++ mu) ts s F' H' := by
  have T2 := T.grow g
  refine ⟨T2.ex, T2.sub, T2.keep, T2.new, T2.dom, T2.slen, T2.slot, T2.tmp, ?_, fun p hp => ?_⟩
  · rw [List.map_append, List.nodup_append]
    refine ⟨by rw [exm_fst]; exact hd, T.nd, fun x hx y hy e => ?_⟩
    subst e
    obtain ⟨p, hp, e⟩ := List.mem_map.mp hx
    obtain ⟨q, hq, e2⟩ := List.mem_map.mp hp
    subst e2
    obtain ⟨r, hr, e3⟩ := List.mem_map.mp hy
    obtain ⟨o, ho⟩ := (T.mu r hr).2.2.there
    have := (he q hq).2.1
    rw [e3, ← e] at ho
    rw [show H q.1 = some o from ho] at this
    cases this
  · rcases List.mem_append.mp hp with hp | hp
    · obtain ⟨q, hq, e⟩ := List.mem_map.mp hp
      subst e
      obtain ⟨a1, a2, xs, a3, a4⟩ := he q hq
      exact ⟨a1, Own.of (T.dom _ a2), xs, a3, a4⟩
    · exact T2.mu p hp
theorem ev_callE {T : Type} {args : T → List D} {pre : T → Prop} {res : T → D → List (Addr × List D) → Prop} {E : XK} {ta : TA} (x : T) (h : EvA C ta rho mu (args x)) (hp : pre x) :
    Ev C (tCall (spE C args pre res) [] E ta) rho mu fun d mu' => ∃ ext, mu' = exm ext ++ mu ∧ res x d ext := fun c ts s H Q S q => by
  refine h.run S fun vs H1 l S1 => ?_
  obtain ⟨F, T⟩ := S1
  rw [List.append_nil]
  exact ⟨F, x, T.sub, zip_drs l T.tmp, hp, fun v d ext F' H' g he hn r rv => q v d _ H' ⟨ext, rfl, r⟩ ⟨F', ((T.grownE g he hn).fewer fun p hp => List.mem_append_right _ hp).push rv⟩⟩
end
section
variable {P : Program} {w : World} {K : PySem.W.Frag} {mg : Str → Option Value} {base : Heap} {C : Addr}
def FinE (C : Addr) (c : Cn) (res : D → List (Addr × List D) → Prop) (Q : VK) : Prop := ∀ v d ext F' H', Gr c.F0 c.H0 F' H' → (∀ p ∈ ext, F' p.1 = none ∧ c.H0 p.1 = none ∧ ∃ xs, H' p.1 = some (.lst xs) ∧ DRs C F' xs p.2) → (ext.map (·.1)).Nodup → res d ext → DR C F' v d → Q v H'
theorem FinE.go {c : Cn} {res : D → List (Addr × List D) → Prop} {Q : VK} {rho : List (Option D)} {mu : Mu} {ts : List (V × D)} {s : L2.St} {H : Hp} {v : V} {d : D} {ext : List (Addr × List D)} (h : FinE C c res Q) (hM : c.M = no)
    (S : Sat C c rho (exm ext ++ mu) ((v, d) :: ts) s H) (r : res d ext) : Q v H := by
  obtain ⟨F, T⟩ := S
  refine h v d ext F H ⟨T.ex, T.sub, fun a o e => T.keep a o (by rw [hM]; exact id) e, T.new⟩ (fun p hp => ?_) ?_ r T.top
  · obtain ⟨a1, a2, xs, a3, a4⟩ := T.mu (p.1, .lst p.2) (List.mem_append_left _ (List.mem_map.mpr ⟨p, hp, rfl⟩))
    exact ⟨a1, a2, xs, a3, a4⟩
  · have := T.nd
    rw [List.map_append, List.nodup_append] at this
    rw [exm_fst] at this
    exact this.1
theorem okE {x qual : Str} {st : Stmt} {f : Addr} {fd : FuncData} {N ps : List Str} {k : Nat} {T : Type} {args : T → List D} {pre : T → Prop} {res : T → D → List (Addr × List D) → Prop} (Fn : Fun K x qual st f fd) (S : FnScope N ps (defScope st)) (len : ∀ y, (args y).length = ps.length)
    (body : ∀ (y : T) (cdv : Value) (A : Around) (outer : List Env) (s : Shared) (H : Hp) (E : XK), pre y → Room k (A.deeper (PyProof.Rows.envOfC qual (defScope st) s.heap.objs.size f cdv)) →
      ∃ t, PSs (cxOf CX0 P w K mg base N qual (defScope st) f cdv A outer s H E).nox (defBody st) t ∧ ∀ (c : Cn) (Q : VK) (s0 : L2.St) (H0 : Hp), c.M = no → FinE C c (res y) Q → Sat C c ((args y).map some ++ List.replicate (N.length - (args y).length) none) [] [] s0 H0 → t { nx := fun _ H' => Q .non H', rt := Q } s0 H0) :
    FnOk P w K mg base CX0 (k + 1) f fd ps (spE C args pre res) := by
  refine Fn.ok S (fun vs H Q E h => ?_) (fun cdv A outer s H vs Q E hr h => ?_)
  · obtain ⟨F, y, _, hd, _⟩ := h
    rw [hd.1, len]
  · obtain ⟨F, y, k, hd, hp, q⟩ := h
    obtain ⟨t, h1, h2⟩ := body y cdv A outer s H E hp hr
    exact ⟨t, h1, h2 ⟨F, H, no⟩ Q _ H rfl q (Sat.start k hd)⟩
end
section
variable {C : Addr} {rho : List (Option D)} {mu : Mu} {te tf : TE} {ds : List D} {d : D}
/-- [xs, y] with a list xs of one's own -/
theorem er_pairL (h : EvN C te rho mu ds) (hf : ∀ mu', EvD C tf rho mu' d) : Ev C (tLst (tCons te (tCons tf tNil))) rho mu fun r mu' => ∃ a p, r = .ptr p ∧ mu' = (p, .lst [.ptr a, d]) :: (a, .lst ds) :: mu := fun c ts s H Q S q => by
  refine h c ts s H _ S fun v e mu1 H1 hr S1 => ?_
  obtain ⟨a, e1, e2⟩ := hr
  subst e1; subst e2
  refine (hf _).run S1 fun v2 H2 S2 => ⟨by rw [sizeLine_eq]; show 2 ≤ 16777216; decide, fun p hp => ?_⟩
  obtain ⟨F, T⟩ := S2
  have z : DRs C F [v, v2] [.ptr a, d] := .cons (T.tmp (v, .ptr a) (by simp)) (.one T.top)
  exact q _ (.ptr p) _ _ ⟨a, p, rfl, rfl⟩ ((T.newL hp z).fewer fun x hx => by
    simp only [List.mem_cons] at hx ⊢
    rcases hx with h | h
    · exact .inl h
    · exact .inr (.inr (.inr h)))
end
section
variable {P : Program} {w : World} {K : PySem.W.Frag} {mg : Str → Option Value} {base : Heap} {C : Addr}
def fInt (q : Int → Bool) : D → Option D
  | .int i => if q i then some (.int i) else none
  | _ => none
theorem filt_int (q : Int → Bool) (cs : List Int) : (cs.map D.int).filterMap (fInt q) = (cs.filter q).map D.int := by
  induction cs with
  | nil => rfl
  | cons n cs ih =>
    rw [List.map_cons, List.filter_cons]
    by_cases z : q n = true
    · have e : fInt q (.int n) = some (.int n) := if_pos z
      rw [List.filterMap_cons_some e, if_pos z, List.map_cons, ih]
    · have e : fInt q (.int n) = none := if_neg z
      rw [List.filterMap_cons_none e, if_neg z, ih]
def absI : D → Int
  | .int i => if i < 0 then -i else i
  | _ => 0
/-- what stands for a list that nobody changes, as the law's script -/
def Scr (C : Addr) (K : PySem.W.Frag) (d : D) (xs : List V) : Prop := ∀ F H v, Same F H → DR C F v d → ∃ a, v = .ref a ∧ SqL K H a xs
theorem el_cutS {rho : List (Option D)} {mu : Mu} {ta : TE} {d : D} {ns : List Int} {lo hi : Option Int} {tl th : TO} (ha : EvD C ta rho mu d) (hs : Scr C K d (ns.map V.int)) (hl : EvO C tl rho mu lo) (hh : EvO C th rho mu hi) : EvN C (tSl (rSlL K) ta tl th) rho mu (cutD (ns.map D.int) lo hi) := EvN.of fun c ts s H Q S q => ha.run S fun v H1 S1 => hl c _ s H1 _ S1 fun H2 S2 => hh c _ s H2 _ S2 fun H3 S3 => by
  obtain ⟨F, T⟩ := S3
  obtain ⟨a, e, hq⟩ := hs F H3 v T.sub T.top
  refine ⟨a, ns.map V.int, e, hq, fun p hp => q p _ ((T.newL hp (DRs.ints ns).cut).fewer fun x hx => ?_)⟩
  simp only [List.mem_cons] at hx ⊢
  rcases hx with h | h
  · exact .inl h
  · exact .inr (.inr h)
abbrev sp_l_draw (C : Addr) (K : PySem.W.Frag) : Sp := spE C (fun x : D × List Int × Nat => [x.1, nat x.2.2]) (fun x => Scr C K x.1 (x.2.1.map V.int) ∧ x.2.1.length ≤ 100 ∧ x.2.2 < 1000) fun x d ext => ∃ (dl da : Addr) (b : Int) (ns : List Int), ext = [(dl, [.ptr da, .int b]), (da, ns.map D.int)] ∧ d = .ptr dl ∧ ns.length ≤ 100
theorem c_l_draw (T : Txt K mg C) : Cal P w K mg base 1 "_law_draw" ["_law_script", "_law_salt"] (sp_l_draw C K) := T.d.l_draw.cal fun f fd Fn => okE Fn sc_l_draw (fun _ => rfl) fun x cdv A outer s H E hp hr => by
  obtain ⟨d0, ns, salt⟩ := x
  obtain ⟨hsc, hl, hs⟩ := hp
  dsimp only at hsc hl hs
  refine ⟨_, (pss_cons (ps_setLc (i := 2) (own := [("_law_cell", 3)]) rfl sc_l_draw.nd rfl rfl (sw_true rfl rfl rfl (by decide +kernel)) (k_pil K (pe_slice (k_slL K) (pv 0) po_none (po_some pe_int))) (bk (own := [("_law_cell", 3)]) (N := N_l_draw) (sc := defScope s_l_draw)) (fun _ _ _ _ _ => (pgn 3 sc_l_draw.nd)) (fun _ _ _ _ _ => pts_nil) (fun _ _ _ _ _ => (x_abs T.b.abs (x_int T.b.int (pv 3)))))
  (pss_cons (psn 4 sc_l_draw.nd (pe_op op_add pe_int (pe_op op_mul pe_int (pv 1))))
  (pss_cons (ps_for PassesOwn.never rfl (k_pil K (pv 2)) (pgn 3 sc_l_draw.nd)
  (pss_one (psn 4 sc_l_draw.nd (pe_op op_mod (x_int T.b.int (pe_op op_add (pe_op op_add (pe_op op_mul (pv 4) pe_int) (pe_op op_mod (pv 3) pe_int)) pe_int)) pe_int))))
  (pss_one (ps_ret (pe_lst (pa_cons (k_revL K (pe_lc (own := [("_law_cell", 3)]) (by rfl) sc_l_draw.nd (k_pil K (pv 2)) (bk (own := [("_law_cell", 3)]) (N := N_l_draw) (sc := defScope s_l_draw)) (fun _ _ _ _ _ => (pgn 3 sc_l_draw.nd)) (fun _ _ _ _ _ => (pts_one (pt_cmpR op_ge (pv 3) (pe_op op_pow pe_int pe_int) (nomark _)))) (fun _ _ _ _ _ => (pv 3)))) (pa_cons (pv 4) pa_nil)))))))), fun cn Q s0 H0 hM q Z => ?_⟩
  replace Z : Sat C cn [some d0, some (nat salt), none, none, none] [] [] s0 H0 := Z
  obtain ⟨cs, hcs⟩ : ∃ cs, cs = (ns.take 48).map fun i => if i < 0 then -i else i := ⟨_, rfl⟩
  have lc : cs.length ≤ 100 := by rw [hcs, List.length_map, List.length_take]; omega
  refine q_asgD (d := .lst (cs.map D.int)) (EvN.ev ((el_map (fun d => .int (absI d)) (evi_lst (ds := (ns.take 48).map D.int) (EvN.ev ((el_cutS (lo := none) (hi := some (48 : Nat)) (ev_var rfl) hsc eo_none (eo_some ev_int)).to (by rw [cut_to, List.map_take])))) (by rw [List.length_map, List.length_take]; omega) fun i d hd => ?_).to ?_)) Z fun s1 H1 Z1 => ?_
  · rw [List.getElem?_map] at hd
    cases e : (ns.take 48)[i]? with
    | none => rw [e] at hd; cases hd
    | some n =>
      rw [e] at hd
      cases hd
      exact ⟨_, _, bg_name, by simp, fun mu' => ev_abs1 (ev_int1 (ev_var rfl))⟩
  · rw [hcs, List.map_map, List.map_map]
    rfl
  · refine q_asgD (ev_add ev_int (ev_mul ev_int (ev_var rfl) (.inl ⟨by decide, by decide⟩))) Z1 fun s2 H2 Z2 => ?_
    refine q_for (ds := cs.map D.int) (evi_lst (ev_var rfl)) Z2 (fun _ (b : Int) => [some d0, some (nat salt), some (.lst (cs.map D.int)), none, some (.int b)]) (fun _ _ => []) (fun _ _ => True) ⟨_, trivial, ⟨rfl, rfl, rfl, rfl, trivial⟩, rfl⟩ (fun i d b tx hd _ => ?_) fun b s3 H3 _ Z3 => ?_
    · rw [List.getElem?_map] at hd
      cases e : cs[i]? with
      | none => rw [e] at hd; cases hd
      | some n =>
        rw [e] at hd
        cases hd
        refine ⟨_, _, bg_name, fun s3 H3 Z3 => ?_⟩
        exact s_asgD (ev_mod (ev_int1 (ev_add (ev_add (ev_mul (ev_var rfl) ev_int (.inr ⟨by decide, by decide⟩)) (ev_mod (ev_var rfl) ev_int (by decide))) ev_int)) ev_int (by decide)) Z3 fun s4 H4 Z4 => ⟨_, trivial, Z4.weak ⟨rfl, rfl, rfl, rfl, trivial⟩⟩
    · refine s_ret (er_pairL (ds := ((cs.filter fun i => decide (10 ^ 18 ≤ i)).reverse).map D.int) ((el_rev (EvN.ev ((el_lc (fInt fun i => decide ((10 : Int) ^ 18 ≤ i)) (evi_lst (ds := cs.map D.int) (ev_var rfl)) (by rw [List.length_map]; omega) fun i d hd => ?_).to (show _ = (cs.filter fun i => decide (10 ^ 18 ≤ i)).map D.int from ?_)))).to (by rw [List.map_reverse])) fun mu' => ev_var rfl) Z3 fun v d' mu' H' hR S' => ?_
      · rw [List.getElem?_map] at hd
        cases e : cs[i]? with
        | none => rw [e] at hd; cases hd
        | some n =>
          rw [e] at hd
          cases hd
          exact ⟨_, _, bg_name, by simp, fun mu' => ⟨decide ((10 : Int) ^ 18 ≤ n), et_test (ev_ge (ev_var rfl) (ev_pow ev_int ev_int ⟨by decide, by decide, by decide⟩)), fun hb => ⟨.int n, if_pos hb, ev_var rfl⟩, fun hb => if_neg (by show ¬ decide ((10 : Int) ^ 18 ≤ n) = true; rw [hb]; decide)⟩⟩
      · exact filt_int _ cs
      · obtain ⟨a, p, e1, e2⟩ := hR
        subst e2
        exact q.go (ext := [(p, [.ptr a, .int b]), (a, ((cs.filter fun i => decide (10 ^ 18 ≤ i)).reverse).map D.int)]) hM S' ⟨p, a, b, _, rfl, e1, by have := List.length_filter_le (fun i => decide ((10 : Int) ^ 18 ≤ i)) cs; rw [List.length_reverse]; omega⟩
end
end DL
/-! readings of any data, joined -/
namespace DL
open PySem L2 Mth

section
variable {C : Addr} {c : Cn} {K : PySem.W.Frag} {rho : List (Option D)} {mu mu' : Mu} {ts : List (V × D)} {s : L2.St} {F H : Hp} {te ta tb : TE} {t : TA} {ds es : List D} {d d1 : D} {R : D → Mu → Prop} {P : D → Prop}
/-- a fresh list of one's own, given up -/
theorem ev_freezeP {Pl : List D → Prop} (h : Ev C te rho mu fun d mu' => ∃ p ds, d = .ptr p ∧ mu' = (p, .lst ds) :: mu ∧ Pl ds) : EvP C te rho mu fun d => ∃ ds, d = .lst ds ∧ Pl ds := fun c ts s H Q S q => h c ts s H _ S fun v d mu' H' hr S' => by
  obtain ⟨p, ds, e1, e2, hp⟩ := hr
  subst e1; subst e2
  obtain ⟨F, T⟩ := S'
  have e := T.top.ptr_inv
  subst e
  exact q _ (.lst ds) mu H' ⟨⟨ds, rfl, hp⟩, rfl⟩ T.letgo
theorem er_consP (h : EvP C te rho mu P) (hr : ∀ d, P d → EvA C t rho mu ds) : EvR C (tCons te t) rho mu fun es mu' => mu' = mu ∧ ∃ d, P d ∧ es = d :: ds := fun c ts s H Q S q =>
  er_cons (R2 := fun _ es mu' => es = ds ∧ mu' = mu) h (fun d mu1 hd => by
    obtain ⟨hp, e⟩ := hd
    subst e
    exact hr d hp) c ts s H Q S fun vs es mu' H' hh l S' => q vs es mu' H' (by
      obtain ⟨d, ds', mu1, e, ⟨hp, _⟩, e2, e3⟩ := hh
      exact ⟨e3, d, hp, by rw [e, e2]⟩) l S'
theorem ev_callRP {T : Type} {args : T → List D} {pre : T → Prop} {res : T → D → Prop} {G : T → Prop} {E : XK} (h : EvR C t rho mu fun ds mu' => mu' = mu ∧ ∃ x, ds = args x ∧ pre x ∧ G x) : EvP C (tCall (spF C args pre res) [] E t) rho mu fun d => ∃ x, G x ∧ res x d := fun c ts s H Q S q => by
  refine h c ts s H _ S fun vs ds mu' H1 r l S1 => ?_
  obtain ⟨F, T⟩ := S1
  rw [List.append_nil]
  obtain ⟨e, x, e2, hp, hg⟩ := r
  subst e; subst e2
  exact ⟨F, x, T.sub, zip_drs l T.tmp, hp, fun v d F' H' g r' z => q v d _ H' ⟨⟨x, hg, r'⟩, rfl⟩ ⟨F', ((T.grow g).fewer fun p hp => by simp [hp]).push z⟩⟩
theorem er_imp {R R' : List D → Mu → Prop} (h : EvR C t rho mu R) (k : ∀ ds mu', R ds mu' → R' ds mu') : EvR C t rho mu R' := fun c ts s H Q S q => h c ts s H Q S fun vs ds mu' H' r l S' => q vs ds mu' H' (k ds mu' r) l S'
theorem rd_cat (hl : ds.length + es.length ≤ 100000) : RD C rCat (.lst ds) (.lst es) fun e => e = .lst (ds ++ es) := fun F H x y Q k r1 r2 q => by
  obtain ⟨a, xs, e, hx, hs⟩ := r1.lst_inv
  obtain ⟨b, ys, e2, hy, hs2⟩ := r2.lst_inv
  refine ⟨a, b, xs, ys, e, e2, k _ _ hx, k _ _ hy, by rw [hs.1, hs2.1]; exact Nat.le_trans hl (by rw [sizeLine_eq]; decide), fun p hp => ?_⟩
  have g := Gr.alloc (o := .lst (xs ++ ys)) k hp
  have z := (hs.app hs2).mono g.ex
  exact q _ _ _ _ rfl g (.lst upd_same z.1 z.2)
/-- xs + ys, ys any -/
theorem ev_catP {Pl : List D → Prop} (ha : EvD C ta rho mu (.lst ds)) (hb : EvP C tb rho mu fun d => ∃ es, d = .lst es ∧ Pl es) (hl : ∀ es, Pl es → ds.length + es.length ≤ 100000) : EvP C (tOp rCat ta tb) rho mu fun d => ∃ es, d = .lst (ds ++ es) ∧ Pl es :=
  ev_opR ha hb fun d2 hd => by
    obtain ⟨es, e, hp⟩ := hd
    subst e
    exact fun F H x y Q k r1 r2 q => rd_cat (hl es hp) F H x y Q k r1 r2 fun z d F' H' e => q z d F' H' ⟨es, e, hp⟩
end
end DL
/-! _law_built -/
namespace DL
open PySem L2 Mth

/-- rows of so many commands, whose states stand below n -/
def Rows (M : Mat) (k n : Nat) : Prop := ∀ r ∈ M, r.length = k ∧ ∀ t ∈ r, t < n
theorem Rows.part {M N : Mat} {k cnt : Nat} (h : Rows M k M.length) (p : Part N k M.length cnt) : Rows (M ++ N) k (M ++ N).length := by
  obtain ⟨p1, p2⟩ := p
  intro r hr
  rw [List.length_append, p1]
  rcases List.mem_append.mp hr with z | z
  · exact ⟨(h r z).1, fun t ht => by have := (h r z).2 t ht; omega⟩
  · exact ⟨(p2 r z).1, fun t ht => ((p2 r z).2 t ht).2⟩
section
variable {C : Addr} {c : Cn} {K : PySem.W.Frag} {rho : List (Option D)} {mu mu' : Mu} {ts : List (V × D)} {s : L2.St} {F H : Hp} {tt : TT} {t w u : TS} {E : Ends}
theorem q_ifK {b : Bool} {J : L2.St → Hp → Prop} (k : ∀ s' H', J s' H' → u E s' H') (h : EtD C tt rho mu b) (S : Sat C c rho mu ts s H) (k1 : (∀ s' H', J s' H' → u E s' H') → b = true → ∀ H', Sat C c rho mu ts s H' → t { E with nx := u E } s H')
    (k2 : (∀ s' H', J s' H' → u E s' H') → b = false → ∀ H', Sat C c rho mu ts s H' → w { E with nx := u E } s H') : tSeq (tIfS tt t w) u E s H := q_ifD h S (k1 k) (k2 k)
end
/-- what a drawn machine of parts is -/
def Bt (S : Mat) (k most : Nat) : Prop := (k = 2 ∨ k = 3) ∧ 0 < S.length ∧ S.length ≤ most ∧ Rows S k S.length
theorem Bt.named {S S' : Mat} {k most : Nat} (h : Bt S k most) (n : Named S S') : Bt S' k most := by
  obtain ⟨h1, h2, h3, h4⟩ := h
  obtain ⟨n1, names, n2, n3⟩ := n
  refine ⟨h1, by omega, by omega, fun r hr => ?_⟩
  obtain ⟨m, hm⟩ := List.mem_iff_getElem?.mp hr
  have hml := (List.getElem?_eq_some_iff.mp hm).1
  obtain ⟨s, hs⟩ := List.mem_iff_getElem?.mp (n2.mem_iff.mpr (List.mem_range.mpr (show m < S.length by omega)))
  have nl : names.length = S.length := by rw [n2.length_eq, List.length_range]
  have hsl := (List.getElem?_eq_some_iff.mp hs).1
  have hr0 : S[s]? = some (S[s]'(by omega)) := List.getElem?_eq_getElem _
  have e := n3 s _ m hr0 hs
  rw [hm] at e
  have e := Option.some.inj e
  obtain ⟨a1, a2⟩ := h4 _ (List.mem_of_getElem? hr0)
  rw [e]
  refine ⟨by rw [List.length_map]; exact a1, fun t ht => ?_⟩
  obtain ⟨x, hx, e2⟩ := List.mem_map.mp ht
  have hx2 := a2 x hx
  have hxn : x < names.length := by omega
  rw [← e2, List.getD_eq_getElem?_getD, List.getElem?_eq_getElem hxn, n1]
  exact List.mem_range.mp (n2.mem_iff.mp (List.getElem_mem hxn))
end DL
/-! _law_built -/
namespace DL
open PySem L2 Mth

theorem mat_app (M N : Mat) : matD (M ++ N) = .lst (M.map ln ++ N.map ln) := by unfold matD; rw [List.map_append]
theorem pl_mat (M : Mat) : pl 3 (matD M) = true := by
  show pls 2 (M.map ln) = true
  rw [pls_all, List.all_map, List.all_eq_true]
  intro r _
  exact pl_ln r
theorem eqd_mat (M : Mat) : eqd (matD M) (.lst []) = decide (M = []) := by
  cases M with
  | nil => rfl
  | cons r M => rfl
section
variable {C : Addr} {K : PySem.W.Frag} {rho : List (Option D)} {mu : Mu} {ta tb : TE} {i j : Nat}
theorem et_eqN (ha : EvD C ta rho mu (nat i)) (hb : EvD C tb rho mu (nat j)) : EtD C (tTest (tOp (rEqD K) ta tb)) rho mu (decide (i = j)) := EtD.to (et_test (ev_eqI ha hb)) (by rw [decide_eq_decide]; omega)
theorem et_gtN (ha : EvD C ta rho mu (nat i)) (hb : EvD C tb rho mu (nat j)) : EtD C (tTest (tOp rGtI ta tb)) rho mu (decide (j < i)) := EtD.to (et_test (ev_gt ha hb)) (by rw [decide_eq_decide]; omega)
theorem et_ltN (ha : EvD C ta rho mu (nat i)) (hb : EvD C tb rho mu (nat j)) : EtD C (tTest (tOp rLtI ta tb)) rho mu (decide (i < j)) := EtD.to (et_test (ev_lt ha hb)) (by rw [decide_eq_decide]; omega)
theorem et_leN (ha : EvD C ta rho mu (nat i)) (hb : EvD C tb rho mu (nat j)) : EtD C (tTest (tOp rLeI ta tb)) rho mu (decide (i ≤ j)) := EtD.to (et_test (ev_le ha hb)) (by rw [decide_eq_decide]; omega)
theorem ev_addN (ha : EvD C ta rho mu (nat i)) (hb : EvD C tb rho mu (nat j)) : EvD C (tOp rAddI ta tb) rho mu (nat (i + j)) := EvD.to (ev_add ha hb) (congrArg D.int (by omega))
theorem ev_mulN (ha : EvD C ta rho mu (nat i)) (hb : EvD C tb rho mu (nat j)) (hi : i ≤ 1000) (hj : j ≤ 1000) : EvD C (tOp rMulI ta tb) rho mu (nat (i * j)) := EvD.to (ev_mul ha hb (.inl ⟨by omega, by omega⟩)) (congrArg D.int (by rw [Int.natCast_mul]))
theorem er_consD {t : TA} {d : D} {R2 : List D → Mu → Prop} (h : EvD C ta rho mu d) (hr : EvR C t rho mu R2) : EvR C (tCons ta t) rho mu fun es mu' => ∃ ds, es = d :: ds ∧ R2 ds mu' := fun c ts s H Q S q =>
  er_cons (R2 := fun _ es mu' => R2 es mu') h (fun d mu1 hd => by
    obtain ⟨_, e⟩ := hd
    subst e
    exact hr) c ts s H Q S fun vs es mu' H' hh l S' => q vs es mu' H' (by
      obtain ⟨d', ds', mu1, e, ⟨e1, _⟩, e2⟩ := hh
      exact ⟨ds', by rw [e, e1], e2⟩) l S'
theorem er_consR {t : TA} {ds : List D} {R1 : D → Mu → Prop} (h : Ev C ta rho mu R1) (hr : ∀ d mu1, R1 d mu1 → EvA C t rho mu1 ds) : EvR C (tCons ta t) rho mu fun es mu' => ∃ d, es = d :: ds ∧ R1 d mu' := fun c ts s H Q S q =>
  er_cons (R2 := fun d es mu' => es = ds ∧ R1 d mu') h (fun d mu1 hd => er_imp (hr d mu1 hd) fun ds' mu' ⟨e, e2⟩ => ⟨e, by rw [e2]; exact hd⟩) c ts s H Q S fun vs es mu' H' hh l S' => q vs es mu' H' (by
      obtain ⟨d', ds', mu1, e, _, e1, e2⟩ := hh
      exact ⟨d', by rw [e, e1], e2⟩) l S'
/-- rows of a matrix and rows of a part -/
theorem ev_part {M : Mat} {k cnt : Nat} (ha : EvD C ta rho mu (matD M)) (hb : EvP C tb rho mu fun d => ∃ N, d = matD N ∧ Part N k M.length cnt) (h1 : M.length ≤ 1000) (h2 : cnt ≤ 1000) : EvP C (tOp rCat ta tb) rho mu fun d => ∃ N, d = matD (M ++ N) ∧ Part N k M.length cnt :=
  ev_opR ha hb fun d2 hd => by
    obtain ⟨N, e, hp⟩ := hd
    subst e
    exact fun F H x y Q k r1 r2 q => rd_cat (by rw [List.length_map, List.length_map, hp.1]; omega) F H x y Q k r1 r2 fun z d F' H' e => q z d F' H' ⟨N, by rw [e, mat_app], hp⟩
theorem ev_lenM {M : Mat} (ha : EvD C ta rho mu (matD M)) : EvD C (tCB (rLen K) (tCons ta tNil)) rho mu (nat M.length) := EvD.to (ev_lenL (ds := M.map ln) ha) (by rw [List.length_map])
end
section
variable {P : Program} {w : World} {K : PySem.W.Frag} {mg : Str → Option Value} {base : Heap} {C : Addr}
section
variable {rho : List (Option D)} {mu : Mu} {dl da : Addr} {t1 t2 : TE} {E : XK}
theorem ev_of {ds : List D} (h : EvD C t1 rho mu (.ptr dl)) (hn : EvD C t2 rho mu (.lst ds)) (h1 : (dl, MO.any (dealP da)) ∈ mu) (h2 : (da, MO.any cellsP) ∈ mu) (hne : dl ≠ da) (h0 : 0 < ds.length) (hb : ds.length ≤ 1000) :
    EvP C (tCall (sp_l_of C) [] E (tCons t1 (tCons t2 tNil))) rho mu fun d => d ∈ ds := ev_callG0 (args := fun ds : List D => [.lst ds]) (res := fun ds d => d ∈ ds) ds (ea_cons h (ea_cons hn ea_nil)) h1 h2 hne ⟨h0, hb⟩
theorem ev_view {k : Nat} (h : EvD C t1 rho mu (.ptr dl)) (hn : EvD C t2 rho mu (nat k)) (h1 : (dl, MO.any (dealP da)) ∈ mu) (h2 : (da, MO.any cellsP) ∈ mu) (hne : dl ≠ da) (h0 : 0 < k) (hb : k ≤ 10) :
    EvP C (tCall (sp_l_view C) [] E (tCons t1 (tCons t2 tNil))) rho mu fun d => ∃ bits : List Nat, d = ln bits ∧ bits.length = k ∧ ∀ b ∈ bits, b < 2 :=
  Ev.imp (ev_freezeP (Pl := fun ds => ∃ bits : List Nat, ds = nats bits ∧ bits.length = k ∧ ∀ b ∈ bits, b < 2) (Ev.imp (ev_callG k (ea_cons h (ea_cons hn ea_nil)) h1 h2 hne ⟨h0, hb⟩) fun d mu' hr => by
    obtain ⟨ext, e, p, bits, e2, e3, e4⟩ := hr
    subst e2
    exact ⟨p, nats bits, e3, e, bits, rfl, e4⟩)) fun d mu' hr => ⟨by
      obtain ⟨ds, e, bits, e2, e3⟩ := hr.1
      exact ⟨bits, by rw [e, e2]; rfl, e3⟩, hr.2⟩
end
abbrev sp_l_built (C : Addr) : Sp := spG C (fun m : Nat => [nat m]) (fun m => 1 ≤ m ∧ m ≤ 10) fun m d ext => ∃ (p : Addr) (S : Mat) (k x y z : Nat), ext = [(p, S.map ln)] ∧ d = .tup [nat k, .ptr p, .tup [nat x, nat y, nat z]] ∧ Bt S k m
theorem c_l_built (T : Txt K mg C) : Cal P w K mg base 4 "_law_built" ["_law_deal", "_law_most"] (sp_l_built C) := T.d.l_built.cal fun f fd Fn => okG Fn sc_l_built (fun _ => rfl) fun most dl da cdv A outer s H E hp hne hr => by
  have g_l_any := c_l_any (P := P) (w := w) (base := base) T
  have g_l_of := c_l_of (P := P) (w := w) (base := base) T
  have g_l_mixed := c_l_mixed (P := P) (w := w) (base := base) T
  have g_l_view := c_l_view (P := P) (w := w) (base := base) T
  have g_l_first := c_l_first (P := P) (w := w) (base := base) T
  have g_l_last := c_l_last (P := P) (w := w) (base := base) T
  have g_l_wheel := c_l_wheel (P := P) (w := w) (base := base) T
  have g_l_named := c_l_named (P := P) (w := w) (base := base) T
  obtain ⟨hm1, hm10⟩ := hp
  have q1 : (dl, MO.any (dealP da)) ∈ dmu dl da := List.mem_cons_self
  have q2 : (da, MO.any cellsP) ∈ dmu dl da := List.mem_cons_of_mem _ List.mem_cons_self
  refine ⟨_, (pss_cons (ps_par (i := 2) (j := 3) rfl sc_l_built.nd rfl rfl (by decide) rfl rfl (pa_cons (pe_cal g_l_of (hr.mono (by decide)) (pa_cons (pv 0) (pa_cons (pe_lst (pa_cons pe_int (pa_cons pe_int (pa_cons pe_int (pa_cons pe_int pa_nil))))) pa_nil))) (pa_cons (pe_lst pa_nil) pa_nil)) (by rfl))
  (pss_cons (ps_par3 (i := 4) (j := 5) (l := 6) rfl sc_l_built.nd rfl rfl rfl (by decide) (by decide) (by decide) rfl rfl rfl (pa_cons (pe_cal g_l_any (hr.mono (by decide)) (pa_cons (pv 0) (pa_cons pe_int pa_nil))) (pa_cons (pe_cal g_l_any (hr.mono (by decide)) (pa_cons (pv 0) (pa_cons pe_int pa_nil))) (pa_cons (pe_cal g_l_of (hr.mono (by decide)) (pa_cons (pv 0) (pa_cons (pe_lst (pa_cons pe_int (pa_cons pe_int (pa_cons pe_int (pa_cons pe_int (pa_cons pe_int (pa_cons pe_int pa_nil))))))) pa_nil))) pa_nil))) (by rfl))
  (pss_cons (psn 7 sc_l_built.nd (pe_cal g_l_of (hr.mono (by decide)) (pa_cons (pv 0) (pa_cons (pe_ifExp (pt_cmpR op_lt (pv 6) pe_int (nomark _)) (pe_lst (pa_cons pe_int (pa_cons pe_int (pa_cons pe_int pa_nil)))) (pe_lst (pa_cons pe_int pa_nil))) pa_nil))))
  (pss_cons (psn 8 sc_l_built.nd (pe_cal g_l_mixed (hr.mono (by decide)) (pa_cons (pv 0) (pa_cons (pe_lst (pa_cons pe_int (pa_cons pe_int (pa_cons pe_int pa_nil)))) pa_nil))))
  (pss_cons (ps_for PassesOwn.never rfl (k_pil K (pv 8)) (pgn 9 sc_l_built.nd)
  (pss_cons (ps_if (PW.pt (pw_and (pt_cmpR (k_eqD K hr.units) (pv 9) pe_int (nomark _)) (pw_and (pt_cmpR op_gt (pv 4) pe_int (nomark _)) (pw_and1 (pt_cmpR op_le (pe_op op_add (pe_op op_add (k_len K T.b.len (pv 3)) (pv 4)) pe_int) (pv 1) (nomark _))))))
  (pss_one (psn 3 sc_l_built.nd (pe_op op_cat (pv 3) (pe_cal g_l_first (hr.mono (by decide)) (pa_cons (pe_cal g_l_view (hr.mono (by decide)) (pa_cons (pv 0) (pa_cons (pv 2) pa_nil))) (pa_cons (pv 4) (pa_cons (k_len K T.b.len (pv 3)) pa_nil)))))))
  (pss_one (ps_if (pt_cmpR (k_eqD K hr.units) (pv 9) pe_int (nomark _))
  (pss_one (psn 4 sc_l_built.nd pe_int))
  pss_nil)))
  (pss_cons (ps_if (PW.pt (pw_and (pt_cmpR (k_eqD K hr.units) (pv 9) pe_int (nomark _)) (pw_and (pt_cmpR op_gt (pv 5) pe_int (nomark _)) (pw_and1 (pt_cmpR op_le (pe_op op_add (k_len K T.b.len (pv 3)) (pe_op op_mul pe_int (pv 5))) (pv 1) (nomark _))))))
  (pss_one (psn 3 sc_l_built.nd (pe_op op_cat (pv 3) (pe_cal g_l_last (hr.mono (by decide)) (pa_cons (pe_cal g_l_view (hr.mono (by decide)) (pa_cons (pv 0) (pa_cons (pv 2) pa_nil))) (pa_cons (pv 5) (pa_cons (k_len K T.b.len (pv 3)) pa_nil)))))))
  (pss_one (ps_if (pt_cmpR (k_eqD K hr.units) (pv 9) pe_int (nomark _))
  (pss_one (psn 5 sc_l_built.nd pe_int))
  pss_nil)))
  (pss_one (ps_if (PW.pt (pw_and (pt_cmpR (k_eqD K hr.units) (pv 9) pe_int (nomark _)) (pw_and1 (pt_cmpR op_le (pe_op op_add (k_len K T.b.len (pv 3)) (pe_op op_mul (pv 6) (pv 7))) (pv 1) (nomark _)))))
  (pss_one (psn 3 sc_l_built.nd (pe_op op_cat (pv 3) (pe_cal g_l_wheel (hr.mono (by decide)) (pa_cons (pe_cal g_l_view (hr.mono (by decide)) (pa_cons (pv 0) (pa_cons (pv 2) pa_nil))) (pa_cons (pv 6) (pa_cons (pv 7) (pa_cons (k_len K T.b.len (pv 3)) pa_nil))))))))
  (pss_one (ps_if (pt_cmpR (k_eqD K hr.units) (pv 9) pe_int (nomark _))
  (pss_one (psn 6 sc_l_built.nd pe_int))
  pss_nil)))))))
  (pss_cons (ps_if (pt_cmpR (k_eqD K hr.units) (pv 3) (pe_lst pa_nil) (nomark _))
  (pss_one (psn 3 sc_l_built.nd (pe_lst (pa_cons (pe_op op_rep (pe_lst (pa_cons pe_int pa_nil)) (pv 2)) pa_nil))))
  pss_nil)
  (pss_one (ps_ret (pe_tup (pa_cons (pv 2) (pa_cons (pe_cal g_l_named (hr.mono (by decide)) (pa_cons (pv 0) (pa_cons (pv 3) pa_nil))) (pa_cons (pe_tup (pa_cons (pv 4) (pa_cons (pv 5) (pa_cons (pv 6) pa_nil)))) pa_nil)))))))))))), fun cn Q s0 H0 hM q Z => ?_⟩
  replace Z : Sat C cn [some (.ptr dl), some (nat most), none, none, none, none, none, none, none, none] (dmu dl da) [] s0 H0 := Z
  refine q_par2 (ev_of (ds := [nat 2, nat 2, nat 2, nat 3]) (ev_var rfl) (ev_lst (ea_cons ev_int (ea_cons ev_int (ea_cons ev_int (ea_cons ev_int ea_nil))))) q1 q2 hne (by decide) (by decide)) (R2 := fun _ mu1 e mu2 => e = matD [] ∧ mu2 = mu1) (fun d mu1 _ => ev_lst (ds := []) ea_nil) Z fun d1 e1 mu1 mu2 s1 H1 hR hR2 Z1 => ?_
  obtain ⟨hd1, e⟩ := hR
  obtain ⟨e2, e3⟩ := hR2
  subst e; subst e2; subst e3
  obtain ⟨k, e, hk⟩ : ∃ k : Nat, d1 = nat k ∧ (k = 2 ∨ k = 3) := by
    simp only [List.mem_cons, List.not_mem_nil, or_false] at hd1
    rcases hd1 with e | e | e | e
    · exact ⟨2, e, .inl rfl⟩
    · exact ⟨2, e, .inl rfl⟩
    · exact ⟨2, e, .inl rfl⟩
    · exact ⟨3, e, .inr rfl⟩
  subst e
  refine q_par3' (ev_any (n := 4) (ev_var rfl) ev_int q1 q2 hne (by decide) (by decide)) (R2 := fun _ _ e mu2 => (∃ j : Nat, e = nat j ∧ j < 3) ∧ mu2 = dmu dl da) (fun d mu1 hd => ?_) (R3 := fun _ _ _ f mu3 => (f ∈ [nat 1, nat 1, nat 2, nat 2, nat 3, nat 4]) ∧ mu3 = dmu dl da) (fun d e mu1 mu2 _ he => ?_) Z1 fun d e f mu1 mu2 mu3 s2 H2 h1 h2 h3 Z2 => ?_
  · rw [hd.2]
    exact ev_any (n := 3) (ev_var rfl) ev_int q1 q2 hne (by decide) (by decide)
  · rw [he.2]
    exact ev_of (ds := [nat 1, nat 1, nat 2, nat 2, nat 3, nat 4]) (ev_var rfl) (ev_lst (ea_cons ev_int (ea_cons ev_int (ea_cons ev_int (ea_cons ev_int (ea_cons ev_int (ea_cons ev_int ea_nil))))))) q1 q2 hne (by decide) (by decide)
  obtain ⟨⟨x0, e1, hx0⟩, _⟩ := h1
  obtain ⟨⟨y0, e2, hy0⟩, _⟩ := h2
  obtain ⟨hf, e3⟩ := h3
  subst e1; subst e2; subst e3
  obtain ⟨z0, e, hz1, hz4⟩ : ∃ z0 : Nat, f = nat z0 ∧ 0 < z0 ∧ z0 ≤ 4 := by
    simp only [List.mem_cons, List.not_mem_nil, or_false] at hf
    rcases hf with e | e | e | e | e | e
    · exact ⟨1, e, by decide, by decide⟩
    · exact ⟨1, e, by decide, by decide⟩
    · exact ⟨2, e, by decide, by decide⟩
    · exact ⟨2, e, by decide, by decide⟩
    · exact ⟨3, e, by decide, by decide⟩
    · exact ⟨4, e, by decide, by decide⟩
  subst e
  refine q_asgP (P := fun d => ∃ md : Nat, d = nat md ∧ 0 < md ∧ md ≤ 3) (Ev.imp (ev_of (ds := if z0 < 3 then [nat 2, nat 2, nat 3] else [nat 2]) (ev_var rfl) (ev_ifD (b := decide (z0 < 3)) (et_ltN (ev_var rfl) ev_int) (fun hb => ?_) fun hb => ?_) q1 q2 hne (by split <;> decide) (by split <;> decide)) fun d mu' hd => ⟨?_, hd.2⟩) Z2 fun d s3 H3 hd Z3 => ?_
  · rw [if_pos (of_decide_eq_true hb)]
    exact ev_lst (ea_cons ev_int (ea_cons ev_int (ea_cons ev_int ea_nil)))
  · rw [if_neg (of_decide_eq_false hb)]
    exact ev_lst (ea_cons ev_int ea_nil)
  · have hd := hd.1
    split at hd
    · simp only [List.mem_cons, List.not_mem_nil, or_false] at hd
      rcases hd with e | e | e
      · exact ⟨2, e, by decide, by decide⟩
      · exact ⟨2, e, by decide, by decide⟩
      · exact ⟨3, e, by decide, by decide⟩
    · simp only [List.mem_cons, List.not_mem_nil, or_false] at hd
      exact ⟨2, hd, by decide, by decide⟩
  obtain ⟨md, e, hmd1, hmd3⟩ := hd
  subst e
  refine q_asg (ev_callG [0, 1, 2] (ea_cons (ev_var rfl) (ea_cons (ev_lst (ds := nats [0, 1, 2]) (ea_cons ev_int (ea_cons ev_int (ea_cons ev_int ea_nil)))) ea_nil)) q1 q2 hne (by show ([0, 1, 2] : List Nat).length ≤ 1000; decide)) Z3 fun d mu' s4 H4 hR Z4 => ?_
  obtain ⟨ext, e1, po, out, e2, e3, _⟩ := hR
  subst e2; subst e3; subst e1
  replace Z4 : Sat C cn [some (.ptr dl), some (nat most), some (nat k), some (matD []), some (nat x0), some (nat y0), some (nat z0), some (nat md), some (.ptr po), none] ((po, .lst (nats out)) :: dmu dl da) [] s4 H4 := Z4
  replace Z4 := Z4.letgo (i := 8) rfl
  refine q_for (Y := Mat × Nat × Nat × Nat) (ds := nats out) (evi_lst (ev_var rfl)) Z4 (fun _ y => [some (.ptr dl), some (nat most), some (nat k), some (matD y.1), some (nat y.2.1), some (nat y.2.2.1), some (nat y.2.2.2), some (nat md), some (ln out), none]) (fun _ _ => dmu dl da)
    (fun _ y => Rows y.1 k y.1.length ∧ y.1.length ≤ most ∧ y.2.1 ≤ 3 ∧ y.2.2.1 ≤ 2 ∧ 0 < y.2.2.2 ∧ y.2.2.2 ≤ 4) ⟨([], x0, y0, z0), ⟨fun r hr => by simp at hr, Nat.zero_le _, Nat.le_of_lt_succ hx0, Nat.le_of_lt_succ hy0, hz1, hz4⟩, ⟨rfl, rfl, rfl, rfl, rfl, rfl, rfl, rfl, rfl, trivial⟩, rfl⟩ (fun i d y tx hd hI => ?_) fun y s5 H5 hI Z5 => ?_
  · obtain ⟨t, _, rfl⟩ := nats_at hd
    refine ⟨_, _, bg_name, fun s5 H5 Z5 => ?_⟩
    let J : L2.St → Hp → Prop := fun s H => ∃ (M : Mat) (x y z : Nat), (Rows M k M.length ∧ M.length ≤ most ∧ x ≤ 3 ∧ y ≤ 2 ∧ 0 < z ∧ z ≤ 4) ∧ Sat C cn [some (.ptr dl), some (nat most), some (nat k), some (matD M), some (nat x), some (nat y), some (nat z), some (nat md), some (ln out), some (nat t)] (dmu dl da) (tx ++ []) s H
    have vw : ∀ {rho : List (Option D)} {E : XK}, rho[0]? = some (some (.ptr dl)) → rho[2]? = some (some (nat k)) → EvP C (tCall (sp_l_view C) [] E (tCons (tVar 0) (tCons (tVar 2) tNil))) rho (dmu dl da) fun d => ∃ bits : List Nat, d = ln bits ∧ bits.length = k ∧ ∀ b ∈ bits, b < 2 := fun h0 h2 => ev_view (ev_var h0) (ev_var h2) q1 q2 hne (by omega) (by omega)
    have hJ : J s5 H5 := by
      obtain ⟨M, x, y, z⟩ := y
      exact ⟨M, x, y, z, hI, Z5⟩
    clear Z5 hI y
    obtain ⟨M, x, y, z, hI, Z5⟩ := hJ
    refine q_ifK (J := J) (fun s6 H6 hJ => ?_) (et_and (a := decide (t = 0)) (b := decide (0 < x) && decide (M.length + x + 2 ≤ most)) (et_eqN (ev_var rfl) ev_int) fun _ => et_and (et_gtN (ev_var rfl) ev_int) fun _ => et_leN (ev_addN (ev_addN (ev_lenM (ev_var rfl)) (ev_var rfl)) ev_int) (ev_var rfl)) Z5 (fun k1 hb H6 Z6 => ?_) fun k1 hb H6 Z6 => ?_
    · clear hI Z5 M x y z
      obtain ⟨M, x, y, z, hI, Z5⟩ := hJ
      refine q_ifK (J := J) (fun s6 H6 hJ => ?_) (et_and (a := decide (t = 1)) (b := decide (0 < y) && decide (M.length + 2 * y ≤ most)) (et_eqN (j := 1) (ev_var rfl) ev_int) fun _ => et_and (et_gtN (ev_var rfl) ev_int) fun _ => et_leN (ev_addN (ev_lenM (ev_var rfl)) (EvD.to (d2 := nat (2 * y)) (ev_mul ev_int (ev_var rfl) (.inl ⟨by decide, by decide⟩)) (congrArg D.int (by rw [Int.natCast_mul]; rfl)))) (ev_var rfl)) Z5 (fun k1 hb H6 Z6 => ?_) fun k1 hb H6 Z6 => ?_
      · clear hI Z5 M x y z
        obtain ⟨M, x, y, z, hI, Z5⟩ := hJ
        have k1 : ∀ s H, J s H → Nx C cn (fun _ y => [some (.ptr dl), some (nat most), some (nat k), some (matD y.1), some (nat y.2.1), some (nat y.2.2.1), some (nat y.2.2.2), some (nat md), some (ln out), none]) (fun _ _ => dmu dl da)
            (fun _ (y : Mat × Nat × Nat × Nat) => Rows y.1 k y.1.length ∧ y.1.length ≤ most ∧ y.2.1 ≤ 3 ∧ y.2.2.1 ≤ 2 ∧ 0 < y.2.2.2 ∧ y.2.2.2 ≤ 4) (tx ++ []) (i + 1) s H := fun s H ⟨M, x, y, z, hI, Z⟩ => ⟨(M, x, y, z), hI, Z.weak ⟨rfl, rfl, rfl, rfl, rfl, rfl, rfl, rfl, rfl, trivial⟩⟩
        have lim : z * md ≤ 4 * 3 := Nat.mul_le_mul hI.2.2.2.2.2 hmd3
        refine s_ifD (et_and (a := decide (t = 2)) (b := decide (M.length + z * md ≤ most)) (et_eqN (j := 2) (ev_var rfl) ev_int) fun _ => et_leN (ev_addN (ev_lenM (ev_var rfl)) (ev_mulN (ev_var rfl) (ev_var rfl) (by omega) (by omega))) (ev_var rfl)) Z5 (fun hb H6 Z6 => ?_) fun hb H6 Z6 => ?_
        · simp only [Bool.and_eq_true, decide_eq_true_eq] at hb
          obtain ⟨h1, h2, h3, h4, h5, h6⟩ := hI
          refine s_asgP (ev_part (M := M) (k := k) (cnt := z * md) (ev_var rfl) (Ev.imp (ev_callRP (G := fun w : List Nat × (Nat × Nat) × Nat => w.1.length = k ∧ w.2.1 = (z, md) ∧ w.2.2 = M.length) (er_imp (er_consP (vw rfl rfl) fun d hd => ea_cons (ev_var rfl) (ea_cons (ev_var rfl) (ea_cons (ev_lenM (ev_var rfl)) ea_nil))) fun ds mu' hr => ?_)) fun d mu' hd => ⟨?_, hd.2⟩) (by omega) (by omega)) Z6 fun d s7 H7 hd Z7 => k1 _ _ ?_
          · obtain ⟨e, d, ⟨bits, e1, e2, e3⟩, e4⟩ := hr
            exact ⟨e, (bits, (z, md), M.length), by rw [e4, e1], ⟨by show bits.length ≤ 10; omega, ⟨h5, by show z ≤ 10; omega⟩, hmd1, by show md ≤ 10; omega⟩, e2, rfl, rfl⟩
          · obtain ⟨w, ⟨e1, e2, e3⟩, N, e4, e5⟩ := hd.1
            rw [e1, e2, e3] at e5
            exact ⟨N, e4, e5⟩
          · obtain ⟨N, e, hN⟩ := hd
            subst e
            exact ⟨M ++ N, x, y, z, ⟨h1.part hN, by rw [List.length_append, hN.1]; omega, h3, h4, h5, h6⟩, Z7⟩
        · refine s_ifD (et_eqN (j := 2) (ev_var rfl) ev_int) Z6 (fun _ H7 Z7 => s_asgD (d := nat 1) ev_int Z7 fun s8 H8 Z8 => k1 _ _ ⟨M, x, y, 1, ⟨hI.1, hI.2.1, hI.2.2.1, hI.2.2.2.1, by decide, by decide⟩, Z8⟩) fun _ H7 Z7 => k1 _ _ ⟨M, x, y, z, hI, Z7⟩
      · simp only [Bool.and_eq_true, decide_eq_true_eq] at hb
        obtain ⟨h1, h2, h3, h4, h5, h6⟩ := hI
        refine s_asgP (ev_part (M := M) (k := k) (cnt := 2 * y) (ev_var rfl) (Ev.imp (ev_callRP (G := fun w : List Nat × Nat × Nat => w.1.length = k ∧ w.2.1 = y ∧ w.2.2 = M.length) (er_imp (er_consP (vw rfl rfl) fun d hd => ea_cons (ev_var rfl) (ea_cons (ev_lenM (ev_var rfl)) ea_nil)) fun ds mu' hr => ?_)) fun d mu' hd => ⟨?_, hd.2⟩) (by omega) (by omega)) Z6 fun d s7 H7 hd Z7 => k1 _ _ ?_
        · obtain ⟨e, d, ⟨bits, e1, e2, e3⟩, e4⟩ := hr
          exact ⟨e, (bits, y, M.length), by rw [e4, e1], ⟨by show bits.length ≤ 10; omega, hb.2.1, h4⟩, e2, rfl, rfl⟩
        · obtain ⟨w, ⟨e1, e2, e3⟩, N, e4, e5⟩ := hd.1
          rw [e1, e2, e3] at e5
          exact ⟨N, e4, e5⟩
        · obtain ⟨N, e, hN⟩ := hd
          subst e
          exact ⟨M ++ N, x, y, z, ⟨h1.part hN, by rw [List.length_append, hN.1]; omega, h3, h4, h5, h6⟩, Z7⟩
      · refine s_ifD (et_eqN (j := 1) (ev_var rfl) ev_int) Z6 (fun _ H7 Z7 => s_asgD (d := nat 0) ev_int Z7 fun s8 H8 Z8 => k1 _ _ ⟨M, x, 0, z, ⟨hI.1, hI.2.1, hI.2.2.1, by decide, hI.2.2.2.2⟩, Z8⟩) fun _ H7 Z7 => k1 _ _ ⟨M, x, y, z, hI, Z7⟩
    · simp only [Bool.and_eq_true, decide_eq_true_eq] at hb
      obtain ⟨h1, h2, h3, h4, h5, h6⟩ := hI
      refine s_asgP (ev_part (M := M) (k := k) (cnt := x + 2) (ev_var rfl) (Ev.imp (ev_callRP (G := fun w : List Nat × Nat × Nat => w.1.length = k ∧ w.2.1 = x ∧ w.2.2 = M.length) (er_imp (er_consP (vw rfl rfl) fun d hd => ea_cons (ev_var rfl) (ea_cons (ev_lenM (ev_var rfl)) ea_nil)) fun ds mu' hr => ?_)) fun d mu' hd => ⟨?_, hd.2⟩) (by omega) (by omega)) Z6 fun d s7 H7 hd Z7 => k1 _ _ ?_
      · obtain ⟨e, d, ⟨bits, e1, e2, e3⟩, e4⟩ := hr
        exact ⟨e, (bits, x, M.length), by rw [e4, e1], ⟨by show bits.length ≤ 10; omega, e3, hb.2.1, by show x ≤ 10; omega⟩, e2, rfl, rfl⟩
      · obtain ⟨w, ⟨e1, e2, e3⟩, N, e4, e5⟩ := hd.1
        rw [e1, e2, e3] at e5
        exact ⟨N, e4, e5⟩
      · obtain ⟨N, e, hN⟩ := hd
        subst e
        exact ⟨M ++ N, x, y, z, ⟨h1.part hN, by rw [List.length_append, hN.1]; omega, h3, h4, h5, h6⟩, Z7⟩
    · refine s_ifD (et_eqN (j := 0) (ev_var rfl) ev_int) Z6 (fun _ H7 Z7 => s_asgD (d := nat 0) ev_int Z7 fun s8 H8 Z8 => k1 _ _ ⟨M, 0, y, z, ⟨hI.1, hI.2.1, by decide, hI.2.2.2⟩, Z8⟩) fun _ H7 Z7 => k1 _ _ ⟨M, x, y, z, hI, Z7⟩
  · obtain ⟨M, x, y, z⟩ := y
    obtain ⟨h1, h2, h3, h4, h5, h6⟩ := hI
    dsimp only at h1 h2 h3 h4 h5 h6 Z5
    let J : L2.St → Hp → Prop := fun s H => ∃ (M : Mat), (Rows M k M.length ∧ 0 < M.length ∧ M.length ≤ most) ∧ Sat C cn [some (.ptr dl), some (nat most), some (nat k), some (matD M), some (nat x), some (nat y), some (nat z), some (nat md), some (ln out), none] (dmu dl da) [] s H
    refine q_ifK (J := J) (fun s6 H6 hJ => ?_) (EtD.to (b := decide (M = [])) (et_test (ev_eq 3 (ev_var rfl) (ev_lst (ds := []) ea_nil) (pl_mat M) rfl)) (by rw [eqd_mat])) Z5 (fun k1 hb H6 Z6 => ?_) fun k1 hb H6 Z6 => ?_
    · obtain ⟨M, ⟨g1, g2, g3⟩, Z6⟩ := hJ
      have lt10 : ∀ r ∈ M, r.length ≤ 10 ∧ ∀ t ∈ r, t < M.length := fun r hr => ⟨by rw [(g1 r hr).1]; omega, (g1 r hr).2⟩
      refine s_ret (er_tup (er_consD (ev_var rfl) (er_consR (ev_callG M (ea_cons (ev_var rfl) (ea_cons (ev_var rfl) ea_nil)) q1 q2 hne ⟨by omega, lt10⟩) fun d mu1 hd => ea_cons (ev_tup (ea_cons (ev_var rfl) (ea_cons (ev_var rfl) (ea_cons (ev_var rfl) ea_nil)))) ea_nil)) fun ds mu' hr => ?_) Z6 fun v d' mu' H' hR S' => ?_
      · obtain ⟨ds1, e1, d, e2, _⟩ := hr
        rw [e1, e2]
        show 3 ≤ 100000
        decide
      · obtain ⟨ds, e, ds1, e1, d, e2, ext, e4, p, M', e5, e6, hN⟩ := hR
        subst e4; subst e5
        exact q.go (ext := [(p, M'.map ln)]) hM hne S' q1 q2 ⟨p, M', k, x, y, z, rfl, by rw [e, e1, e2, e6], Bt.named ⟨hk, g2, g3, g1⟩ hN⟩
    · refine s_asgD (d := matD [List.replicate k 0]) (ev_lst (ds := [ln (List.replicate k 0)]) (ea_cons (EvN.ev ((el_rep1 (n := k) (d := nat 0) (ev_lst (ea_cons ev_int ea_nil)) (ev_var rfl) (by omega)).to (by unfold nats; rw [List.map_replicate]))) ea_nil)) Z6 fun s7 H7 Z7 => k1 _ _ ⟨[List.replicate k 0], ⟨fun r hr => ?_, Nat.zero_lt_one, hm1⟩, Z7⟩
      rw [List.mem_singleton.mp hr]
      refine ⟨List.length_replicate, fun t ht => ?_⟩
      rw [(List.mem_replicate.mp ht).2]
      exact Nat.zero_lt_one
    · refine k1 _ _ ⟨M, ⟨h1, ?_, h2⟩, Z6⟩
      exact List.length_pos_iff.mpr (of_decide_eq_false hb)
end
end DL
/-! _law_machine -/
namespace DL
open PySem L2 Mth

section
variable {C : Addr} {c : Cn} {K : PySem.W.Frag} {rho : List (Option D)} {mu mu' : Mu} {ts : List (V × D)} {s : L2.St} {F H : Hp} {ta tb : TE} {tt tu : TT} {t w u : TS} {E : Ends} {i j : Nat}
theorem et_andR (h : Et C tt rho mu fun _ mu' => mu' = mu) (k : Et C tu rho mu fun _ mu' => mu' = mu) : Et C (tAnd tt tu) rho mu fun _ mu' => mu' = mu := fun c ts s H Q S q => h c ts s H _ S fun b mu' H' e S' => by
  subst e
  cases b with
  | true =>
    rw [if_pos rfl]
    exact k c ts s H' Q S' q
  | false =>
    rw [if_neg Bool.false_ne_true]
    exact q false _ H' rfl S'
theorem EtD.R {b : Bool} (h : EtD C tt rho mu b) : Et C tt rho mu fun _ mu' => mu' = mu := fun c ts s H Q S q => h c ts s H Q S fun b mu' H' e S' => q b mu' H' e.2 S'
theorem q_ifKR {J : L2.St → Hp → Prop} (k : ∀ s' H', J s' H' → u E s' H') (h : Et C tt rho mu fun _ mu' => mu' = mu) (S : Sat C c rho mu ts s H) (k1 : (∀ s' H', J s' H' → u E s' H') → ∀ H', Sat C c rho mu ts s H' → t { E with nx := u E } s H')
    (k2 : (∀ s' H', J s' H' → u E s' H') → ∀ H', Sat C c rho mu ts s H' → w { E with nx := u E } s H') : tSeq (tIfS tt t w) u E s H := q_if h S (fun mu' H' e S' => by subst e; exact k1 k H' S') fun mu' H' e S' => by subst e; exact k2 k H' S'
theorem EvD.eP (h : EvD C ta rho mu (nat i)) : EvP C ta rho mu fun d => ∃ m, d = .int m := Ev.imp h fun d mu' hd => ⟨⟨_, hd.1⟩, hd.2⟩
theorem ev_modN (ha : EvD C ta rho mu (nat i)) (hb : EvD C tb rho mu (nat j)) (h0 : 0 < j) : EvD C (tOp rModI ta tb) rho mu (nat (i % j)) := EvD.to (ev_mod ha hb (by omega)) (congrArg D.int (by rw [Int.natCast_emod]))
theorem ev_subN (ha : EvD C ta rho mu (nat i)) (hb : EvD C tb rho mu (nat j)) (h0 : j ≤ i) : EvD C (tOp rSubI ta tb) rho mu (nat (i - j)) := EvD.to (ev_sub ha hb) (congrArg D.int (by omega))
/-- n + what is any number below m -/
theorem ev_addP {m : Nat} (ha : EvD C ta rho mu (nat i)) (hb : EvP C tb rho mu fun d => ∃ j : Nat, d = nat j ∧ j < m) : EvP C (tOp rAddI ta tb) rho mu fun d => ∃ j : Nat, d = nat (i + j) ∧ j < m :=
  ev_opR ha hb fun d2 hd => by
    obtain ⟨j, e, hj⟩ := hd
    subst e
    exact fun F H x y Q k r1 r2 q => ⟨_, _, r1.int_inv, r2.int_inv, q _ _ F H ⟨j, rfl, hj⟩ (Gr.refl k) (by show DR C F (.int ((i : Int) + (j : Int))) (.int ((i + j : Nat) : Int)); rw [Int.natCast_add]; exact .int _)⟩
end
section
variable {P : Program} {w : World} {K : PySem.W.Frag} {mg : Str → Option Value} {base : Heap} {C : Addr}
abbrev sp_l_machine (C : Addr) : Sp := spG C (fun m : Nat => [nat m]) (fun m => 1 ≤ m ∧ m ≤ 10) fun m d ext => ∃ (p : Addr) (S : Mat) (k : Nat), ext = [(p, S.map ln)] ∧ d = .tup [nat k, .ptr p] ∧ (0 < k ∧ k ≤ 5) ∧ 0 < S.length ∧ S.length ≤ m ∧ Rows S k S.length
theorem c_l_machine (T : Txt K mg C) : Cal P w K mg base 5 "_law_machine" ["_law_deal", "_law_most"] (sp_l_machine C) := T.d.l_machine.cal fun f fd Fn => okG Fn sc_l_machine (fun _ => rfl) fun most dl da cdv A outer s H E hp hne hr => by
  have g_l_any := c_l_any (P := P) (w := w) (base := base) T
  have g_l_of := c_l_of (P := P) (w := w) (base := base) T
  have g_l_mixed := c_l_mixed (P := P) (w := w) (base := base) T
  have g_l_built := c_l_built (P := P) (w := w) (base := base) T
  obtain ⟨hm1, hm10⟩ := hp
  have q1 : (dl, MO.any (dealP da)) ∈ dmu dl da := List.mem_cons_self
  have q2 : (da, MO.any cellsP) ∈ dmu dl da := List.mem_cons_of_mem _ List.mem_cons_self
  refine ⟨_, (pss_cons (psn 2 sc_l_machine.nd (pe_cal g_l_any (hr.mono (by decide)) (pa_cons (pv 0) (pa_cons pe_int pa_nil))))
  (pss_cons (ps_if (PW.pt (pw_and (pt_cmpR op_lt (pv 2) pe_int (nomark _)) (pw_and1 (pt_cmpR op_gt (pv 1) pe_int (nomark _)))))
  (pss_cons (ps_asg (pe_cal g_l_built (hr.mono (by decide)) (pa_cons (pv 0) (pa_cons (pv 1) pa_nil))) (k_gtup K 3 (pgs_cons (pgn 3 sc_l_machine.nd) (pgs_cons (pgn 4 sc_l_machine.nd) (pgs_cons (pgn 5 sc_l_machine.nd) pgs_nil)))))
  (pss_one (ps_ret (pe_tup (pa_cons (pv 3) (pa_cons (pv 4) pa_nil))))))
  pss_nil)
  (pss_cons (ps_asg (pe_tup (pa_cons (pe_cal g_l_of (hr.mono (by decide)) (pa_cons (pv 0) (pa_cons (pe_lst (pa_cons pe_int (pa_cons pe_int (pa_cons pe_int (pa_cons pe_int (pa_cons pe_int (pa_cons pe_int (pa_cons pe_int pa_nil)))))))) pa_nil))) (pa_cons (pe_op op_add pe_int (pe_cal g_l_any (hr.mono (by decide)) (pa_cons (pv 0) (pa_cons (pv 1) pa_nil)))) (pa_cons (pe_lst pa_nil) pa_nil)))) (k_gtup K 3 (pgs_cons (pgn 3 sc_l_machine.nd) (pgs_cons (pgn 6 sc_l_machine.nd) (pgs_cons (pgn 7 sc_l_machine.nd) pgs_nil)))))
  (pss_cons (ps_for PassesOwn.never rfl (pi_range1 (by rfl) T.b.range (pa_cons (pv 3) pa_nil)) (pgn 8 sc_l_machine.nd)
  (pss_cons (ps_setLc (i := 9) (own := [("_law_state", 11)]) rfl sc_l_machine.nd rfl rfl (sw_true rfl rfl rfl (by decide +kernel)) (pi_range1 (by rfl) T.b.range (pa_cons (pv 6) pa_nil)) (bk (own := [("_law_state", 11)]) (N := N_l_machine) (sc := defScope s_l_machine)) (fun _ _ _ _ _ => (pgn 11 sc_l_machine.nd)) (fun _ _ _ _ _ => pts_nil) (fun _ _ _ _ _ => (pe_cal g_l_any (hr.mono (by decide)) (pa_cons (pv 0) (pa_cons (pv 6) pa_nil)))))
  (pss_cons (ps_if (pt_cmpR (k_eqD K hr.units) (pv 2) pe_int (nomark _))
  (pss_one (psn 9 sc_l_machine.nd (pe_cal g_l_mixed (hr.mono (by decide)) (pa_cons (pv 0) (pa_cons (pe_listRg rfl rfl T.b.list (prg_1 rfl T.b.range (pv 6))) pa_nil)))))
  pss_nil)
  (pss_cons (ps_if (pt_cmpR (k_eqD K hr.units) (pv 2) pe_int (nomark _))
  (pss_cons (psn 10 sc_l_machine.nd (pe_cal g_l_any (hr.mono (by decide)) (pa_cons (pv 0) (pa_cons (pv 6) pa_nil))))
  (pss_one (ps_setLc (i := 9) (own := [("_law_state", 11)]) rfl sc_l_machine.nd rfl rfl (sw_true rfl rfl rfl (by decide +kernel)) (pi_range1 (by rfl) T.b.range (pa_cons (pv 6) pa_nil)) (bk (own := [("_law_state", 11)]) (N := N_l_machine) (sc := defScope s_l_machine)) (fun _ _ _ _ _ => (pgn 11 sc_l_machine.nd)) (fun _ _ _ _ _ => pts_nil) (fun _ _ _ _ _ => (pe_op op_mod (x_int T.b.int (pe_op op_add (pv 11) (pv 10))) (pv 6))))))
  pss_nil)
  (pss_cons (ps_if (PW.pt (pw_and (pt_cmpR (k_eqD K hr.units) (pv 2) pe_int (nomark _)) (pw_and1 (pt_cmpR (k_eqD K hr.units) (pe_cal g_l_any (hr.mono (by decide)) (pa_cons (pv 0) (pa_cons pe_int pa_nil))) pe_int (nomark _)))))
  (pss_one (psn 9 sc_l_machine.nd (pe_op op_rep (pe_lst (pa_cons (k_ix K (pv 9) pe_int) pa_nil)) (pv 6))))
  pss_nil)
  (pss_one (ps_expr (pe_bm PySem.F.plainAttrs_list PySem.F.slot_list_append PySem.F.type_list_append mt_append (pv 7) (pa_cons (pv 9) pa_nil)))))))))
  (pss_one (ps_ret (pe_tup (pa_cons (pv 3) (pa_cons (pe_lc (own := [("_law_state", 11)]) (by rfl) sc_l_machine.nd (pi_range1 (by rfl) T.b.range (pa_cons (pv 6) pa_nil)) (bk (own := [("_law_state", 11)]) (N := N_l_machine) (sc := defScope s_l_machine)) (fun _ _ _ _ _ => (pgn 11 sc_l_machine.nd)) (fun _ _ _ _ _ => pts_nil) (fun _ _ _ _ _ => (pe_lc (own := [("_law_column", 9)]) (by rfl) sc_l_machine.nd (k_pil K (pv 7)) (bk (own := [("_law_column", 9)]) (N := N_l_machine) (sc := { kind := .function, names := [(".0", .local), ("_law_state", .cell), ("_law_columns", .cell)], isGenerator := false, isCoroutine := false })) (fun _ _ _ _ _ => (pgn 9 sc_l_machine.nd)) (fun _ _ _ _ _ => pts_nil) (fun _ _ _ _ _ => (k_ix K (pv 9) (pv 11)))))) pa_nil))))))))), fun cn Q s0 H0 hM q Z => ?_⟩
  replace Z : Sat C cn [some (.ptr dl), some (nat most), none, none, none, none, none, none, none, none, none, none] (dmu dl da) [] s0 H0 := Z
  refine q_asgP (ev_any (n := 7) (ev_var rfl) ev_int q1 q2 hne (by decide) (by decide)) Z fun d s1 H1 hd Z1 => ?_
  obtain ⟨fo, e, hfo⟩ := hd
  subst e
  refine q_when (et_and (a := decide (fo < 3)) (b := decide (3 < most)) (et_ltN (ev_var rfl) ev_int) fun _ => et_gtN (j := 3) (ev_var rfl) ev_int) Z1 (fun _ H2 Z2 => ?_) fun _ H2 Z2 => ?_
  · refine q_bindR (ev_callG most (ea_cons (ev_var rfl) (ea_cons (ev_var rfl) ea_nil)) q1 q2 hne ⟨hm1, hm10⟩) Z2 fun d mu' hR => ?_
    obtain ⟨ext, e1, p, S, k, x, y, z, e2, e3, hB⟩ := hR
    subst e2; subst e3; subst e1
    refine ⟨_, _, bg_tup3 bg_name bg_name bg_name, fun s3 H3 Z3 => ?_⟩
    refine s_ret (ev_tup (ea_cons (ev_var rfl) (ea_cons (ev_var rfl) ea_nil))) Z3 fun v d' mu' H' hR S' => ?_
    obtain ⟨e, e2⟩ := hR
    subst e2
    obtain ⟨h1, h2, h3, h4⟩ := hB
    exact q.go (ext := [(p, S.map ln)]) hM hne S' q1 q2 ⟨p, S, k, rfl, e, by omega, h2, h3, h4⟩
  · refine q_bindR (er_tup (er_cons (ev_of (ds := [nat 2, nat 2, nat 3, nat 1, nat 2, nat 4, nat 5]) (ev_var rfl) (ev_lst (ea_cons ev_int (ea_cons ev_int (ea_cons ev_int (ea_cons ev_int (ea_cons ev_int (ea_cons ev_int (ea_cons ev_int ea_nil)))))))) q1 q2 hne (by decide) (by decide))
        (R2 := fun _ ds mu' => ∃ (m : Nat) (p : Addr), ds = [nat (1 + m), .ptr p] ∧ m < most ∧ mu' = (p, .lst []) :: dmu dl da) fun d mu1 hd => ?_) fun ds mu' hr => ?_) Z2 fun d mu' hR => ?_
    · obtain ⟨_, e⟩ := hd
      subst e
      refine er_imp (er_cons (ev_addP (i := 1) ev_int (ev_any (n := most) (ev_var rfl) (ev_var rfl) q1 q2 hne (by omega) (by omega))) (R2 := fun _ ds mu' => ∃ p : Addr, ds = [.ptr p] ∧ mu' = (p, .lst []) :: dmu dl da) fun d mu1 hd => ?_) fun ds mu' hr => ?_
      · obtain ⟨_, e⟩ := hd
        subst e
        exact er_imp (er_consR (el_lst (ds := []) ea_nil) fun d mu1 _ => ea_nil) fun ds mu' ⟨d, e, p, e2, e3⟩ => ⟨p, by rw [e, e2], e3⟩
      · obtain ⟨d, ds', mu1, e1, ⟨⟨m, e2, hm⟩, _⟩, p, e4, e5⟩ := hr
        exact ⟨m, p, by rw [e1, e2, e4], hm, e5⟩
    · obtain ⟨d, ds', mu1, e1, _, m, p, e2, _⟩ := hr
      rw [e1, e2]
      show 3 ≤ 100000
      decide
    obtain ⟨ds, e, d1, ds', mu1, e1, ⟨hd1, _⟩, m, pc, e2, hm, e3⟩ := hR
    obtain ⟨k, e4, hk⟩ : ∃ k : Nat, d1 = nat k ∧ (0 < k ∧ k ≤ 5) := by
      simp only [List.mem_cons, List.not_mem_nil, or_false] at hd1
      rcases hd1 with e | e | e | e | e | e | e
      · exact ⟨2, e, by decide, by decide⟩
      · exact ⟨2, e, by decide, by decide⟩
      · exact ⟨3, e, by decide, by decide⟩
      · exact ⟨1, e, by decide, by decide⟩
      · exact ⟨2, e, by decide, by decide⟩
      · exact ⟨4, e, by decide, by decide⟩
      · exact ⟨5, e, by decide, by decide⟩
    obtain ⟨n, hn⟩ : ∃ n, n = 1 + m := ⟨_, rfl⟩
    rw [← hn] at e2
    subst e4; subst e2; subst e1; subst e; subst e3
    have hn0 : 0 < n := by omega
    have hn10 : n ≤ 10 := by omega
    have hnm : n ≤ most := by omega
    refine ⟨_, _, bg_tup3 bg_name bg_name bg_name, fun s3 H3 Z3 => ?_⟩
    have qq1 : ∀ {x : Addr × MO}, (dl, MO.any (dealP da)) ∈ x :: dmu dl da := List.mem_cons_of_mem _ q1
    have qq2 : ∀ {x : Addr × MO}, (da, MO.any cellsP) ∈ x :: dmu dl da := List.mem_cons_of_mem _ q2
    refine q_for (Y := Mat) (evi_rng (n := k) (ev_var rfl) (by omega)) Z3 (fun _ _ => [some (.ptr dl), some (nat most), some (nat fo), some (nat k), none, none, some (nat n), some (.ptr pc), none, none, none, none]) (fun _ M => (pc, .lst (M.map ln)) :: dmu dl da)
      (fun i M => M.length = i ∧ ∀ c ∈ M, c.length = n ∧ ∀ t ∈ c, t < n) ⟨[], ⟨rfl, fun c hc => by simp at hc⟩, ⟨rfl, rfl, rfl, rfl, rfl, rfl, trivial⟩, rfl⟩ (fun i d M tx hd hI => ?_) fun M s5 H5 hI Z5 => ?_
    · obtain ⟨hik, rfl⟩ := rng_at hd
      refine ⟨_, _, bg_name, fun s4 H4 Z4 => ?_⟩
      let J : L2.St → Hp → Prop := fun s H => ∃ col : List Nat, (col.length = n ∧ ∀ t ∈ col, t < n) ∧ Sat C cn [some (.ptr dl), some (nat most), some (nat fo), some (nat k), none, none, some (nat n), some (.ptr pc), some (nat i), some (ln col), none, none] ((pc, .lst (M.map ln)) :: dmu dl da) (tx ++ []) s H
      refine q_asg (ev_lcA (ds := (List.range n).map nat) (fun i acc => ∃ col : List Nat, acc = nats col ∧ col.length = i ∧ ∀ t ∈ col, t < n) (evi_rng (ev_var rfl) (by omega)) ⟨[], rfl, rfl, fun b z => by simp at z⟩ (by simp; omega) fun i e acc hd hA hl => ?_) Z4 fun d mu' s5 H5 hR Z5 => ?_
      · refine ⟨_, _, bg_name, by simp, fun p => ⟨true, EtD.of fun c ts s H Q S q => q H S, fun _ => ?_, fun z => by cases z⟩⟩
        refine Ev.imp (ev_any (n := n) (da := da) (ev_var rfl) (ev_var rfl) (List.mem_cons_of_mem _ qq1) (List.mem_cons_of_mem _ qq2) hne hn0 (by omega)) fun d' mu' hr => ⟨hr.2, ?_⟩
        obtain ⟨col, e1, e2, e3⟩ := hA
        obtain ⟨j, e4, hj⟩ := hr.1
        refine ⟨col ++ [j], by rw [e1, e4]; unfold nats; rw [List.map_append]; rfl, by simp [e2], fun b hb => ?_⟩
        rcases List.mem_append.mp hb with z | z
        · exact e3 b z
        · rw [List.mem_singleton.mp z]; exact hj
      obtain ⟨p, acc, e1, e2, col, e3, e4, e5⟩ := hR
      subst e1; subst e2; subst e3
      rw [List.length_map, List.length_range] at e4
      have hJ : J s5 H5 := ⟨col, ⟨e4, e5⟩, Sat.letgo (i := 9) (a := p) Z5 rfl⟩
      clear Z5 Z4 e4 e5 col
      obtain ⟨col, hc, Z5⟩ := hJ
      refine q_ifK (J := J) (fun s6 H6 hJ => ?_) (et_eqN (j := 3) (ev_var rfl) ev_int) Z5 (fun k1 hb H6 Z6 => ?_) fun k1 hb H6 Z6 => k1 _ _ ⟨col, hc, Z6⟩
      · clear Z5 hc col
        obtain ⟨col, hc, Z5⟩ := hJ
        refine q_ifK (J := J) (fun s6 H6 hJ => ?_) (et_eqN (j := 4) (ev_var rfl) ev_int) Z5 (fun k1 hb H6 Z6 => ?_) fun k1 hb H6 Z6 => k1 _ _ ⟨col, hc, Z6⟩
        · clear Z5 hc col
          obtain ⟨col, hc, Z5⟩ := hJ
          refine q_ifKR (J := J) (fun s6 H6 hJ => ?_) (et_andR (et_eqN (j := 5) (ev_var rfl) ev_int).R (et_eqP (Ev.imp (ev_any (n := 2) (ev_var rfl) ev_int qq1 qq2 hne (by decide) (by decide)) fun d mu' hd => ⟨⟨_, hd.1.choose_spec.1⟩, hd.2⟩) (EvD.eP (i := 0) ev_int))) Z5 (fun k1 H6 Z6 => ?_) fun k1 H6 Z6 => k1 _ _ ⟨col, hc, Z6⟩
          · clear Z5 hc col
            obtain ⟨col, hc, Z5⟩ := hJ
            refine s_appD 0 (ds := M.map ln) (ev_var rfl) (ev_var rfl) rfl (by rw [List.length_map]; omega) Z5 fun H6 Z6 => ⟨M ++ [col], ⟨by rw [List.length_append, hI.1]; rfl, fun c h => ?_⟩, ?_⟩
            · rcases List.mem_append.mp h with z | z
              · exact hI.2 c z
              · rw [List.mem_singleton.mp z]; exact hc
            · have e : (M ++ [col]).map ln = M.map ln ++ [ln col] := by rw [List.map_append]; rfl
              dsimp only
              rw [e]
              exact Z6.weak ⟨rfl, rfl, rfl, rfl, rfl, rfl, trivial⟩
          · obtain ⟨c0, hc0⟩ : ∃ c0, col[0]? = some c0 := ⟨col[0]'(by omega), List.getElem?_eq_getElem (by omega)⟩
            refine s_asgD (EvN.ev ((el_rep1 (n := n) (ev_lst (ds := [nat c0]) (ea_cons (ev_ixL (ds := nats col) (ev_var rfl) ev_int (at_nat (n := 0) (nats_get hc0))) ea_nil)) (ev_var rfl) (by omega)).to (show _ = nats (List.replicate n c0) from ?_))) Z6 fun s7 H7 Z7 => k1 _ _ ⟨List.replicate n c0, ⟨List.length_replicate, fun t ht => ?_⟩, Z7⟩
            · unfold nats; rw [List.map_replicate]
            · rw [(List.mem_replicate.mp ht).2]
              exact hc.2 c0 (List.mem_of_getElem? hc0)
        · refine q_asgP (ev_any (n := n) (ev_var rfl) (ev_var rfl) qq1 qq2 hne hn0 (by omega)) Z6 fun d s7 H7 hd Z7 => ?_
          obtain ⟨sh, e, hsh⟩ := hd
          subst e
          refine s_asgD (EvN.ev ((el_map (fun d => nat ((nOf d + sh) % n)) (evi_rng (n := n) (ev_var rfl) (by omega)) (by simp; omega) fun x d hd => ?_).to (show _ = nats ((List.range n).map fun x => (x + sh) % n) from ?_))) Z7 fun s8 H8 Z8 => k1 _ _ ⟨(List.range n).map fun x => (x + sh) % n, ⟨by simp, fun t ht => ?_⟩, Z8.weak ⟨rfl, rfl, rfl, rfl, rfl, rfl, rfl, rfl, trivial⟩⟩
          · obtain ⟨hx, rfl⟩ := rng_at hd
            refine ⟨_, _, bg_name, by simp, fun mu' => ?_⟩
            rw [nOf_nat]
            exact ev_modN (ev_int1 (ev_addN (ev_var rfl) (ev_var rfl))) (ev_var rfl) hn0
          · unfold nats
            rw [List.map_map, List.map_map]
            refine List.map_congr_left fun a _ => ?_
            show nat ((nOf (nat a) + sh) % n) = _
            rw [nOf_nat]
            rfl
          · obtain ⟨x, _, e⟩ := List.mem_map.mp ht
            rw [← e]
            exact Nat.mod_lt _ hn0
      · refine s_asg (ev_callG (List.range n) (ea_cons (ev_var rfl) (ea_cons (EvN.ev (el_listRg (ev_var rfl) (by omega))) ea_nil)) qq1 qq2 hne (by simp; omega)) Z6 fun d mu' s7 H7 hR Z7 => ?_
        obtain ⟨ext, e1, p, out, e2, e3, hpm⟩ := hR
        subst e2; subst e3; subst e1
        refine k1 _ _ ⟨out, ⟨by rw [hpm.length_eq, List.length_range], fun t ht => List.mem_range.mp (hpm.mem_iff.mp ht)⟩, Sat.letgo (i := 9) (a := p) Z7 rfl⟩
    · rw [List.length_map, List.length_range] at hI
      have Z6 := Sat.letgo (i := 7) (a := pc) Z5 rfl
      refine s_ret (er_tup (er_consD (ev_var rfl) (er_consR ((el_map (fun d => ln (M.map fun c => c.getD (nOf d) 0)) (evi_rng (n := n) (ev_var rfl) (by omega)) (by simp; omega) fun x d hd => ?_).to (show _ = ((List.range n).map fun x => M.map fun c => c.getD x 0).map ln from ?_)) fun d mu1 _ => ea_nil)) fun ds mu' hr => ?_) Z6 fun v d' mu' H' hR S' => ?_
      · obtain ⟨hx, rfl⟩ := rng_at hd
        refine ⟨_, _, bg_name, by simp, fun mu' => ?_⟩
        rw [nOf_nat]
        refine EvN.ev ((el_map (fun d => match d with | .lst l => l.getD x (nat 0) | _ => .non) (evi_lst (ds := M.map ln) (ev_var rfl)) (by rw [List.length_map]; omega) fun y d hd => ?_).to (show _ = nats (M.map fun c => c.getD x 0) from ?_))
        · rw [List.getElem?_map] at hd
          cases hc : M[y]? with
          | none => rw [hc] at hd; cases hd
          | some c =>
            rw [hc] at hd
            cases hd
            obtain ⟨c1, _⟩ := hI.2 c (List.mem_of_getElem? hc)
            have ex : (nats c)[x]? = some ((nats c).getD x (nat 0)) := by
              have : x < (nats c).length := by unfold nats; rw [List.length_map]; omega
              rw [List.getD_eq_getElem?_getD, List.getElem?_eq_getElem this]
              rfl
            exact ⟨_, _, bg_name, by simp, fun mu' => ev_ixL (ds := nats c) (ev_var rfl) (ev_var rfl) (at_nat ex)⟩
        · unfold nats
          rw [List.map_map, List.map_map]
          refine List.map_congr_left fun c _ => ?_
          show (nats c).getD x (nat 0) = nat (c.getD x 0)
          unfold nats
          rw [List.getD_eq_getElem?_getD, List.getD_eq_getElem?_getD, List.getElem?_map]
          cases c[x]? <;> rfl
      · rw [List.map_map, List.map_map]
        refine List.map_congr_left fun a _ => ?_
        show ln (M.map fun c => c.getD (nOf (nat a)) 0) = _
        rw [nOf_nat]
        rfl
      · obtain ⟨ds1, e1, d, e2, _⟩ := hr
        rw [e1, e2]
        show 2 ≤ 100000
        decide
      · obtain ⟨ds, e, ds1, e1, d, e2, p, e3, e4⟩ := hR
        subst e4
        refine q.go (ext := [(p, ((List.range n).map fun x => M.map fun c => c.getD x 0).map ln)]) hM hne S' q1 q2 ⟨p, (List.range n).map fun x => M.map fun c => c.getD x 0, k, rfl, by rw [e, e1, e2, e3], hk, by simp; omega, by simp; omega, fun r hr => ?_⟩
        obtain ⟨x, hx, e⟩ := List.mem_map.mp hr
        have hx := List.mem_range.mp hx
        subst e
        refine ⟨by rw [List.length_map, hI.1], fun t ht => ?_⟩
        obtain ⟨c, hc, e⟩ := List.mem_map.mp ht
        obtain ⟨c1, c2⟩ := hI.2 c hc
        rw [List.length_map, List.length_range, ← e, List.getD_eq_getElem?_getD, List.getElem?_eq_getElem (by omega)]
        exact c2 _ (List.getElem_mem _)
end
end DL
/-! few pairs; readings for _law_spot -/
namespace DL
open PySem L2 Mth

theorem Rows.nx_mem {S : Mat} {k n s c : Nat} (h : Rows S k n) (hs : s < S.length) (hc : c < k) : nx S s c ∈ S[s] := by
  have hr := (h S[s] (List.getElem_mem hs)).1
  unfold nx
  rw [List.getD_eq_getElem?_getD (l := S), List.getElem?_eq_getElem hs, Option.getD_some, List.getD_eq_getElem?_getD, List.getElem?_eq_getElem (by omega), Option.getD_some]
  exact List.getElem_mem _
theorem Rows.nx_lt {S : Mat} {k n s c : Nat} (h : Rows S k n) (hs : s < S.length) (hc : c < k) : nx S s c < n := (h S[s] (List.getElem_mem hs)).2 _ (h.nx_mem hs hc)
theorem few_small {S : Mat} {k : Nat} (h : Rows S k S.length) (hn : S.length ≤ 7) : Few S k := by
  refine ⟨prs S.length, ?_, fun s hs a c ha hc => mem_prs.mpr ⟨h.nx_lt hs ha, h.nx_lt hs hc⟩, fun p hp e he => mem_prs.mpr ?_⟩
  · rw [prs_len]
    exact Nat.lt_of_le_of_lt (Nat.mul_le_mul hn hn) (by decide)
  · obtain ⟨h1, h2⟩ := mem_prs.mp hp
    exact ⟨h.nx_lt h1 he, h.nx_lt h2 he⟩
theorem few_two {B N : Mat} {k cnt : Nat} (h : Rows B k B.length) (p : Part N k B.length cnt) (hl : B.length * B.length + cnt * cnt < 63) : Few (B ++ N) k := by
  have hR := h.part p
  have lo : ∀ s c, s < B.length → c < k → nx (B ++ N) s c < B.length := fun s c hs hc => by
    have m := hR.nx_mem (s := s) (c := c) (by rw [List.length_append]; omega) hc
    rw [List.getElem_append_left hs] at m
    exact (h _ (List.getElem_mem hs)).2 _ m
  have hi : ∀ s c, B.length ≤ s → s < B.length + cnt → c < k → B.length ≤ nx (B ++ N) s c ∧ nx (B ++ N) s c < B.length + cnt := fun s c h1 h2 hc => by
    have m := hR.nx_mem (s := s) (c := c) (by rw [List.length_append, p.1]; omega) hc
    rw [List.getElem_append_right h1] at m
    exact (p.2 _ (List.getElem_mem _)).2 _ m
  have key : ∀ x y : Nat, ((x < B.length ∧ y < B.length) ∨ ((B.length ≤ x ∧ x < B.length + cnt) ∧ (B.length ≤ y ∧ y < B.length + cnt))) ↔ (x, y) ∈ prs B.length ++ (prs cnt).map fun p => (B.length + p.1, B.length + p.2) := fun x y => by
    rw [List.mem_append, mem_prs, List.mem_map]
    constructor
    · rintro (z | ⟨z1, z2⟩)
      · exact .inl z
      · exact .inr ⟨(x - B.length, y - B.length), mem_prs.mpr ⟨by dsimp only; omega, by dsimp only; omega⟩, by dsimp only; rw [Nat.add_sub_cancel' z1.1, Nat.add_sub_cancel' z2.1]⟩
    · rintro (z | ⟨q, z1, z2⟩)
      · exact .inl z
      · obtain ⟨z3, z4⟩ := mem_prs.mp z1
        injection z2 with z5 z6
        exact .inr (by omega)
  refine ⟨prs B.length ++ (prs cnt).map fun p => (B.length + p.1, B.length + p.2), ?_, fun s hs a c ha hc => (key _ _).mp ?_, fun q hq e he => (key _ _).mp ?_⟩
  · rw [List.length_append, List.length_map, prs_len, prs_len]
    exact hl
  · rw [List.length_append, p.1] at hs
    by_cases z : s < B.length
    · exact .inl ⟨lo s a z ha, lo s c z hc⟩
    · exact .inr ⟨hi s a (by omega) hs ha, hi s c (by omega) hs hc⟩
  · rcases (key q.1 q.2).mpr hq with ⟨z1, z2⟩ | ⟨z1, z2⟩
    · exact .inl ⟨lo _ e z1 he, lo _ e z2 he⟩
    · exact .inr ⟨hi _ e z1.1 z1.2 he, hi _ e z2.1 z2.2 he⟩
theorem Named.at {S S' : Mat} {k : Nat} (h : Rows S k S.length) (n : Named S S') : ∃ nm : Nat → Nat, (∀ s, s < S.length → nm s < S.length) ∧ (∀ m, m < S.length → ∃ s, s < S.length ∧ nm s = m) ∧ ∀ s c, s < S.length → c < k → nx S' (nm s) c = nm (nx S s c) := by
  obtain ⟨n1, names, n2, n3⟩ := n
  have nl : names.length = S.length := by rw [n2.length_eq, List.length_range]
  have gd : ∀ s, s < S.length → names[s]? = some (names.getD s 0) := fun s hs => by rw [List.getD_eq_getElem?_getD, List.getElem?_eq_getElem (by omega)]; rfl
  refine ⟨fun s => names.getD s 0, fun s hs => List.mem_range.mp (n2.mem_iff.mp (List.mem_of_getElem? (gd s hs))), fun m hm => ?_, fun s c hs hc => ?_⟩
  · obtain ⟨s, hs⟩ := List.mem_iff_getElem?.mp (n2.mem_iff.mpr (List.mem_range.mpr hm))
    have hsl := (List.getElem?_eq_some_iff.mp hs).1
    refine ⟨s, by omega, ?_⟩
    have := gd s (by omega)
    rw [hs] at this
    exact (Option.some.inj this).symm
  · have e := n3 s _ _ (List.getElem?_eq_getElem hs) (gd s hs)
    have hr := (h S[s] (List.getElem_mem hs)).1
    show ((S'.getD (names.getD s 0) []).getD c 0) = names.getD ((S.getD s []).getD c 0) 0
    rw [List.getD_eq_getElem?_getD (l := S'), e, Option.getD_some, List.getD_eq_getElem?_getD (l := S), List.getElem?_eq_getElem hs, Option.getD_some, List.getD_eq_getElem?_getD, List.getElem?_map, List.getD_eq_getElem?_getD (l := S[s]), List.getElem?_eq_getElem (by omega)]
    rfl
theorem Few.named {S S' : Mat} {k : Nat} (h : Rows S k S.length) (f : Few S k) (n : Named S S') : Few S' k := by
  obtain ⟨nm, a1, a2, a3⟩ := Named.at h n
  obtain ⟨U, u1, u2, u3⟩ := f
  refine ⟨(U.filter fun p => decide (p.1 < S.length) && decide (p.2 < S.length)).map fun p => (nm p.1, nm p.2), ?_, fun s hs a c ha hc => ?_, fun p hp e he => ?_⟩
  · rw [List.length_map]
    exact Nat.lt_of_le_of_lt (List.length_filter_le _ _) u1
  · rw [n.1] at hs
    obtain ⟨s0, h0, e0⟩ := a2 s hs
    rw [← e0, a3 s0 a h0 ha, a3 s0 c h0 hc]
    refine List.mem_map.mpr ⟨(nx S s0 a, nx S s0 c), List.mem_filter.mpr ⟨u2 s0 h0 a c ha hc, ?_⟩, rfl⟩
    rw [Bool.and_eq_true]
    exact ⟨decide_eq_true (h.nx_lt h0 ha), decide_eq_true (h.nx_lt h0 hc)⟩
  · obtain ⟨q, hq, e1⟩ := List.mem_map.mp hp
    obtain ⟨hq, hq2⟩ := List.mem_filter.mp hq
    simp only [Bool.and_eq_true, decide_eq_true_eq] at hq2
    subst e1
    refine List.mem_map.mpr ⟨stp S q e, List.mem_filter.mpr ⟨u3 q hq e he, ?_⟩, ?_⟩
    · rw [Bool.and_eq_true]
      exact ⟨decide_eq_true (h.nx_lt hq2.1 he), decide_eq_true (h.nx_lt hq2.2 he)⟩
    · unfold stp
      rw [a3 _ _ hq2.1 he, a3 _ _ hq2.2 he]
theorem Rows.named {S S' : Mat} {k : Nat} (h : Rows S k S.length) (n : Named S S') : Rows S' k S'.length := by
  obtain ⟨n1, names, n2, n3⟩ := n
  intro r hr
  obtain ⟨m, hm⟩ := List.mem_iff_getElem?.mp hr
  have hml := (List.getElem?_eq_some_iff.mp hm).1
  obtain ⟨s, hs⟩ := List.mem_iff_getElem?.mp (n2.mem_iff.mpr (List.mem_range.mpr (show m < S.length by omega)))
  have nl : names.length = S.length := by rw [n2.length_eq, List.length_range]
  have hsl := (List.getElem?_eq_some_iff.mp hs).1
  have hr0 : S[s]? = some (S[s]'(by omega)) := List.getElem?_eq_getElem _
  have e := n3 s _ m hr0 hs
  rw [hm] at e
  have e := Option.some.inj e
  obtain ⟨b1, b2⟩ := h _ (List.mem_of_getElem? hr0)
  rw [e]
  refine ⟨by rw [List.length_map]; exact b1, fun t ht => ?_⟩
  obtain ⟨x, hx, e2⟩ := List.mem_map.mp ht
  have hx2 := b2 x hx
  have hxn : x < names.length := by omega
  rw [← e2, List.getD_eq_getElem?_getD, List.getElem?_eq_getElem hxn, n1]
  exact List.mem_range.mp (n2.mem_iff.mp (List.getElem_mem hxn))
theorem Rows.ok {S : Mat} {k : Nat} (h : Rows S k S.length) (h0 : 0 < S.length) (h10 : S.length ≤ 10) (k0 : 0 < k) (k5 : k ≤ 5) : Ok S k := ⟨h0, h10, k0, k5, fun r hr => (h r hr).1, fun r hr => (h r hr).2⟩
section
variable {C : Addr} {c : Cn} {K : PySem.W.Frag} {rho : List (Option D)} {mu mu' : Mu} {ts : List (V × D)} {s : L2.St} {F H : Hp} {ta tb : TE} {d d2 : D} {P P1 : D → Prop} {i : Nat}
theorem ev_opL {r : R2} (ha : EvP C ta rho mu P1) (hb : EvD C tb rho mu d2) (hr : ∀ d1, P1 d1 → RD C r d1 d2 P) : EvP C (tOp r ta tb) rho mu P := fun c ts s H Q S q => by
  refine ha.run S fun x d1 H1 p1 S1 => hb.run S1 fun y H2 S2 => ?_
  obtain ⟨F, S2⟩ := S2
  refine hr d1 p1 F H2 x y Q S2.sub (S2.tmp (x, d1) (by simp)) (S2.tmp (y, d2) (by simp)) fun z d F' H' p g z' => ?_
  exact q z d mu H' ⟨p, rfl⟩ ⟨F', ((S2.grow g).fewer fun p hp => by simp [hp]).push z'⟩
theorem ev_int1P (h : EvP C ta rho mu P) (hP : ∀ d, P d → ∃ i : Nat, d = nat i) : EvP C (tCB rInt1 (tCons ta tNil)) rho mu P := fun c ts s H Q S q => h.run S fun v d H' p S' => by
  obtain ⟨i, e⟩ := hP d p
  subst e
  obtain ⟨F, T⟩ := id S'
  exact .inl ⟨(i : Int), by rw [T.top.int_inv], by rw [← T.top.int_inv]; exact q v _ mu H' ⟨p, rfl⟩ S'⟩
theorem ev_modP {n : Nat} (ha : EvP C ta rho mu fun d => ∃ i : Nat, d = nat i) (hb : EvD C tb rho mu (nat n)) (h0 : 0 < n) : EvP C (tOp rModI ta tb) rho mu fun d => ∃ j : Nat, d = nat j ∧ j < n :=
  ev_opL ha hb fun d1 hd => by
    obtain ⟨i, e⟩ := hd
    subst e
    exact fun F H x y Q k r1 r2 q => ⟨_, _, r1.int_inv, r2.int_inv, by omega, q _ _ F H ⟨i % n, rfl, Nat.mod_lt _ h0⟩ (Gr.refl k) (by show DR C F (.int ((i : Int) % (n : Int))) (.int ((i % n : Nat) : Int)); rw [Int.natCast_emod]; exact .int _)⟩
theorem ev_min2P {m : Nat} (ha : EvD C ta rho mu (nat m)) (hb : EvP C tb rho mu fun d => ∃ j : Nat, d = nat j) : EvP C (tCB rMin2 (tCons ta (tCons tb tNil))) rho mu fun d => ∃ j : Nat, d = nat j ∧ j < m + 1 := fun c ts s H Q S q => ha.run S fun x H1 S1 => hb.run S1 fun y d H2 hd S2 => by
  obtain ⟨j, e⟩ := hd
  subst e
  obtain ⟨F, T⟩ := id S2
  refine ⟨(m : Int), (j : Int), ?_, ?_⟩
  · rw [show x = .int (m : Int) from (T.tmp (x, nat m) (by simp)).int_inv, show y = .int (j : Int) from T.top.int_inv]
  have e : (if (j : Int) < (m : Int) then (j : Int) else (m : Int)) = ((min j m : Nat) : Int) := by split <;> omega
  rw [e]
  exact q _ (nat (min j m)) mu H2 ⟨⟨_, rfl, by omega⟩, rfl⟩ ⟨F, (T.fewer fun p hp => by simp [hp]).push (.int _)⟩
end
end DL
/-! _law_spot -/
namespace DL
open PySem L2 Mth

section
variable {P : Program} {w : World} {K : PySem.W.Frag} {mg : Str → Option Value} {base : Heap} {C : Addr}
theorem rows_take {S : Mat} {k n m : Nat} (h : Rows S k n) : Rows (S.map (·.take m)) (min k m) n := by
  intro r hr
  obtain ⟨r0, h0, e⟩ := List.mem_map.mp hr
  subst e
  obtain ⟨h1, h2⟩ := h r0 h0
  exact ⟨by rw [List.length_take, h1, Nat.min_comm], fun t ht => h2 t (List.mem_of_mem_take ht)⟩
abbrev sp_l_spot (C : Addr) : Sp := spG C (fun _ : Unit => []) (fun _ => True) fun _ d ext => ∃ (p : Addr) (S : Mat) (k : Nat), ext = [(p, S.map ln)] ∧ d = .tup [nat k, .ptr p] ∧ Ok S k ∧ Few S k
theorem c_l_spot (T : Txt K mg C) : Cal P w K mg base 6 "_law_spot" ["_law_deal"] (sp_l_spot C) := T.d.l_spot.cal fun f fd Fn => okG Fn sc_l_spot (fun _ => rfl) fun _ dl da cdv A outer s H E hp hne hr => by
  have g_l_any := c_l_any (P := P) (w := w) (base := base) T
  have g_l_of := c_l_of (P := P) (w := w) (base := base) T
  have g_l_machine := c_l_machine (P := P) (w := w) (base := base) T
  have g_l_built := c_l_built (P := P) (w := w) (base := base) T
  have g_l_named := c_l_named (P := P) (w := w) (base := base) T
  have q1 : (dl, MO.any (dealP da)) ∈ dmu dl da := List.mem_cons_self
  have q2 : (da, MO.any cellsP) ∈ dmu dl da := List.mem_cons_of_mem _ List.mem_cons_self
  refine ⟨_, (pss_cons (psn 1 sc_l_spot.nd (pe_cal g_l_any (hr.mono (by decide)) (pa_cons (pv 0) (pa_cons pe_int pa_nil))))
  (pss_cons (ps_if (pt_cmpR (k_eqD K hr.units) (pv 1) pe_int (nomark _))
  (pss_cons (ps_asg (pe_cal g_l_machine (hr.mono (by decide)) (pa_cons (pv 0) (pa_cons pe_int pa_nil))) (k_gtup K 2 (pgs_cons (pgn 2 sc_l_spot.nd) (pgs_cons (pgn 3 sc_l_spot.nd) pgs_nil))))
  (pss_one (ps_ret (pe_tup (pa_cons (x_min2 T.b.min (pv 2) pe_int) (pa_cons (pe_lc (own := [("_law_row", 4)]) (by rfl) sc_l_spot.nd (k_pil K (pv 3)) (bk (own := [("_law_row", 4)]) (N := N_l_spot) (sc := defScope s_l_spot)) (fun _ _ _ _ _ => (pgn 4 sc_l_spot.nd)) (fun _ _ _ _ _ => pts_nil) (fun _ _ _ _ _ => (pe_slice (k_slL K) (pv 4) po_none (po_some pe_int)))) pa_nil))))))
  pss_nil)
  (pss_cons (ps_asg (pe_cal g_l_built (hr.mono (by decide)) (pa_cons (pv 0) (pa_cons (pe_ifExp (pt_cmpR op_gt (pv 1) pe_int (nomark _)) pe_int pe_int) pa_nil))) (k_gtup K 3 (pgs_cons (pgn 2 sc_l_spot.nd) (pgs_cons (pgn 3 sc_l_spot.nd) (pgs_cons (pgn 5 sc_l_spot.nd) pgs_nil)))))
  (pss_cons (ps_asg (pe_tup (pa_cons (k_len K T.b.len (pv 3)) (pa_cons (pe_ifExp (pt_cmpR op_gt (pv 1) pe_int (nomark _)) (pe_cal g_l_of (hr.mono (by decide)) (pa_cons (pv 0) (pa_cons (pe_lst (pa_cons pe_int (pa_cons pe_int (pa_cons pe_int pa_nil)))) pa_nil))) (pe_cal g_l_of (hr.mono (by decide)) (pa_cons (pv 0) (pa_cons (pe_lst (pa_cons pe_int (pa_cons pe_int (pa_cons pe_int (pa_cons pe_int (pa_cons pe_int pa_nil)))))) pa_nil)))) (pa_cons (pe_cal g_l_any (hr.mono (by decide)) (pa_cons (pv 0) (pa_cons pe_int pa_nil))) pa_nil)))) (k_gtup K 3 (pgs_cons (pgn 6 sc_l_spot.nd) (pgs_cons (pgn 7 sc_l_spot.nd) (pgs_cons (pgn 8 sc_l_spot.nd) pgs_nil)))))
  (pss_cons (ps_for PassesOwn.never rfl (pi_range1 (by rfl) T.b.range (pa_cons (pv 7) pa_nil)) (pgn 9 sc_l_spot.nd)
  (pss_cons (ps_setLc (i := 4) (own := [("_law_command", 10)]) rfl sc_l_spot.nd rfl rfl (sw_true rfl rfl rfl (by decide +kernel)) (pi_range1 (by rfl) T.b.range (pa_cons (pv 2) pa_nil)) (bk (own := [("_law_command", 10)]) (N := N_l_spot) (sc := defScope s_l_spot)) (fun _ _ _ _ _ => (pgn 10 sc_l_spot.nd)) (fun _ _ _ _ _ => pts_nil) (fun _ _ _ _ _ => (pe_op op_add (pv 6) (x_min2 T.b.min (pe_op op_sub (pv 7) pe_int) (pe_op op_add (pe_op op_add (pv 9) pe_int) (pe_cal g_l_any (hr.mono (by decide)) (pa_cons (pv 0) (pa_cons pe_int pa_nil))))))))
  (pss_cons (ps_if (pt_cmpR op_gt (pv 1) pe_int (nomark _))
  (pss_cons (psn 4 sc_l_spot.nd (pe_op op_rep (pe_lst (pa_cons (pe_op op_add (pe_op op_add (pv 6) (pv 7)) pe_int) pa_nil)) (pv 2)))
  (pss_one (ps_asg (pe_op op_add (pe_op op_add (pv 6) (pv 9)) pe_int) (pg_sub (pv 4) (pe_op op_mod (x_int T.b.int (pe_op op_add (pe_op op_add (pv 8) (pv 9)) (pe_cal g_l_of (hr.mono (by decide)) (pa_cons (pv 0) (pa_cons (pe_lst (pa_cons pe_int (pa_cons pe_int (pa_cons pe_int (pa_cons pe_int (pa_cons pe_int pa_nil)))))) pa_nil))))) (pv 2)) set_list))))
  pss_nil)
  (pss_one (ps_expr (pe_bm PySem.F.plainAttrs_list PySem.F.slot_list_append PySem.F.type_list_append mt_append (pv 3) (pa_cons (pv 4) pa_nil)))))))
  (pss_cons (ps_if (pt_cmpR op_gt (pv 1) pe_int (nomark _))
  (pss_one (psn 3 sc_l_spot.nd (pe_op op_cat (pv 3) (pe_lst (pa_cons (pe_op op_rep (pe_lst (pa_cons (pe_op op_add (pe_op op_add (pv 6) (pv 7)) pe_int) pa_nil)) (pv 2)) (pa_cons (pe_op op_rep (pe_lst (pa_cons (pe_op op_add (pe_op op_add (pv 6) (pv 7)) pe_int) pa_nil)) (pv 2)) pa_nil))))))
  pss_nil)
  (pss_one (ps_ret (pe_tup (pa_cons (pv 2) (pa_cons (pe_cal g_l_named (hr.mono (by decide)) (pa_cons (pv 0) (pa_cons (pv 3) pa_nil))) pa_nil))))))))))), fun cn Q s0 H0 hM q Z => ?_⟩
  replace Z : Sat C cn [some (.ptr dl), none, none, none, none, none, none, none, none, none, none] (dmu dl da) [] s0 H0 := Z
  refine q_asgP (ev_any (n := 6) (ev_var rfl) ev_int q1 q2 hne (by decide) (by decide)) Z fun d s1 H1 hd Z1 => ?_
  obtain ⟨fo, e, hfo⟩ := hd
  subst e
  refine q_when (et_eqN (j := 0) (ev_var rfl) ev_int) Z1 (fun _ H2 Z2 => ?_) fun hf0 H2 Z2 => ?_
  · refine q_bindR (ev_callG 4 (ea_cons (ev_var rfl) (ea_cons ev_int ea_nil)) q1 q2 hne ⟨by decide, by decide⟩) Z2 fun d mu' hR => ?_
    obtain ⟨ext, e1, p, S, k, e2, e3, ⟨k0, k5⟩, h0, h4, hB⟩ := hR
    subst e2; subst e3; subst e1
    refine ⟨_, _, bg_tup bg_name bg_name, fun s3 H3 Z3 => ?_⟩
    have Z3 := Sat.letgo (i := 3) (a := p) Z3 rfl
    refine s_ret (er_tup (er_consD (EvD.to (d2 := nat (min k 3)) (ev_min2 (ev_var rfl) ev_int) (congrArg D.int (by split <;> omega))) (er_consR ((el_map (fun d => match d with | .lst l => .lst (l.take 3) | _ => .non) (evi_lst (ds := S.map ln) (ev_var rfl)) (by rw [List.length_map]; omega) fun y d hd => ?_).to (show _ = (S.map (·.take 3)).map ln from ?_)) fun d mu1 _ => ea_nil)) fun ds mu' hr => ?_) Z3 fun v d' mu' H' hR S' => ?_
    · rw [List.getElem?_map] at hd
      cases hc : S[y]? with
      | none => rw [hc] at hd; cases hd
      | some c =>
        rw [hc] at hd
        cases hd
        exact ⟨_, _, bg_name, by simp, fun mu' => EvN.ev ((el_cut (lo := none) (hi := some (3 : Nat)) (ds := nats c) (ev_var rfl) eo_none (eo_some ev_int)).to (cut_to _ 3))⟩
    · rw [List.map_map, List.map_map]
      refine List.map_congr_left fun c _ => ?_
      show D.lst ((nats c).take 3) = ln (c.take 3)
      unfold ln nats
      rw [List.map_take]
    · obtain ⟨ds1, e1, d, e2, _⟩ := hr
      rw [e1, e2]
      show 2 ≤ 100000
      decide
    · obtain ⟨ds, e, ds1, e1, d, e2, p, e3, e4⟩ := hR
      subst e4
      have hB2 : Rows (S.map (·.take 3)) (min k 3) (S.map (·.take 3)).length := by
        rw [List.length_map]
        exact rows_take hB
      exact q.go (ext := [(p, (S.map (·.take 3)).map ln)]) hM hne S' q1 q2 ⟨p, S.map (·.take 3), min k 3, rfl, by rw [e, e1, e2, e3], hB2.ok (by rw [List.length_map]; exact h0) (by rw [List.length_map]; omega) (by omega) (by omega), few_small hB2 (by rw [List.length_map]; omega)⟩
  · obtain ⟨bm, hbm⟩ : ∃ bm, bm = if 2 < fo then 4 else 5 := ⟨_, rfl⟩
    have hbm2 : 4 ≤ bm ∧ bm ≤ 5 := by rw [hbm]; split <;> omega
    refine q_bindR (ev_callG bm (ea_cons (ev_var rfl) (ea_cons (ev_ifD (b := decide (2 < fo)) (et_gtN (j := 2) (ev_var rfl) ev_int) (fun hb => EvD.to (d1 := nat 4) ev_int (by rw [hbm, if_pos (of_decide_eq_true hb)])) fun hb => EvD.to (d1 := nat 5) ev_int (by rw [hbm, if_neg (of_decide_eq_false hb)])) ea_nil)) q1 q2 hne ⟨by omega, by omega⟩) Z2 fun d mu' hR => ?_
    obtain ⟨ext, e1, p, B, k, x, y, z, e2, e3, hk, hB0, hB4, hB⟩ := hR
    subst e2; subst e3; subst e1
    refine ⟨_, _, bg_tup3 bg_name bg_name bg_name, fun s3 H3 Z3 => ?_⟩
    have k0 : 0 < k := by omega
    have k5 : k ≤ 5 := by omega
    have qq1 : ∀ {x : Addr × MO}, (dl, MO.any (dealP da)) ∈ x :: dmu dl da := List.mem_cons_of_mem _ q1
    have qq2 : ∀ {x : Addr × MO}, (da, MO.any cellsP) ∈ x :: dmu dl da := List.mem_cons_of_mem _ q2
    have lB : (B.map ln).length = B.length := by rw [List.length_map]
    refine q_bindR (R := fun d mu' => ∃ many sh : Nat, d = .tup [nat B.length, nat many, nat sh] ∧ (2 < fo → many ≤ 4) ∧ many ≤ 5 ∧ mu' = (p, .lst (B.map ln)) :: dmu dl da) (Ev.imp (er_tup (er_consD (EvD.to (ev_lenO (ds := B.map ln) (ev_var rfl) List.mem_cons_self) (by rw [lB])) (er_cons (R1 := fun d mu' => (∃ many : Nat, d = nat many ∧ (2 < fo → many ≤ 4) ∧ many ≤ 5) ∧ mu' = (p, .lst (B.map ln)) :: dmu dl da) (ev_if (b := decide (2 < fo)) (et_gtN (j := 2) (ev_var rfl) ev_int) (fun hb => Ev.imp (ev_of (ds := [nat 3, nat 4, nat 2]) (ev_var rfl) (ev_lst (ea_cons ev_int (ea_cons ev_int (ea_cons ev_int ea_nil)))) qq1 qq2 hne (by decide) (by decide)) fun d mu' hd => ⟨?_, hd.2⟩)
        fun hb => Ev.imp (ev_of (ds := [nat 0, nat 3, nat 4, nat 4, nat 5]) (ev_var rfl) (ev_lst (ea_cons ev_int (ea_cons ev_int (ea_cons ev_int (ea_cons ev_int (ea_cons ev_int ea_nil)))))) qq1 qq2 hne (by decide) (by decide)) fun d mu' hd => ⟨?_, hd.2⟩)
        (R2 := fun _ ds mu' => ∃ sh : Nat, ds = [nat sh] ∧ mu' = (p, .lst (B.map ln)) :: dmu dl da) fun d mu1 hd => ?_)) fun ds mu' hr => ?_) fun d mu' hr => ?_) Z3 fun d mu' hR => ?_
    · have hd := hd.1
      simp only [List.mem_cons, List.not_mem_nil, or_false] at hd
      rcases hd with e | e | e
      · exact ⟨3, e, fun _ => by decide, by decide⟩
      · exact ⟨4, e, fun _ => by decide, by decide⟩
      · exact ⟨2, e, fun _ => by decide, by decide⟩
    · have hd := hd.1
      have nb := of_decide_eq_false hb
      simp only [List.mem_cons, List.not_mem_nil, or_false] at hd
      rcases hd with e | e | e | e | e
      · exact ⟨0, e, fun z => absurd z nb, by decide⟩
      · exact ⟨3, e, fun z => absurd z nb, by decide⟩
      · exact ⟨4, e, fun z => absurd z nb, by decide⟩
      · exact ⟨4, e, fun z => absurd z nb, by decide⟩
      · exact ⟨5, e, fun z => absurd z nb, by decide⟩
    · rw [hd.2]
      refine er_imp (er_consR (ev_any (n := 2) (ev_var rfl) ev_int qq1 qq2 hne (by decide) (by decide)) fun d mu1 _ => ea_nil) fun ds mu' hr => ?_
      obtain ⟨d, e, ⟨j, e2, _⟩, e3⟩ := hr
      exact ⟨j, by rw [e, e2], e3⟩
    · obtain ⟨ds1, e1, d, ds2, mu1, e2, _, sh, e3, _⟩ := hr
      rw [e1, e2, e3]
      show 3 ≤ 100000
      decide
    · obtain ⟨ds, e, ds1, e1, d, ds2, mu1, e2, ⟨⟨many, e4, h1, h2⟩, _⟩, sh, e3, e5⟩ := hr
      exact ⟨many, sh, by rw [e, e1, e2, e3, e4], h1, h2, e5⟩
    obtain ⟨many, sh, e, hm4, hm5, e2⟩ := hR
    subst e; subst e2
    refine ⟨_, _, bg_tup3 bg_name bg_name bg_name, fun s4 H4 Z4 => ?_⟩
    obtain ⟨cnt, hcnt⟩ : ∃ cnt, cnt = if 2 < fo then many + 2 else many := ⟨_, rfl⟩
    have hcm : many ≤ cnt := by rw [hcnt]; split <;> omega
    have hc2 : 2 < fo → cnt = many + 2 := fun z => by rw [hcnt, if_pos z]
    have hB5 : B.length ≤ 5 := by omega
    refine q_for (Y := Mat) (evi_rng (n := many) (ev_var rfl) (by omega)) Z4 (fun _ _ => [some (.ptr dl), some (nat fo), some (nat k), some (.ptr p), none, none, some (nat B.length), some (nat many), some (nat sh), none, none]) (fun _ M => (p, .lst (B.map ln ++ M.map ln)) :: dmu dl da)
      (fun i M => M.length = i ∧ ∀ r ∈ M, r.length = k ∧ ∀ t ∈ r, B.length ≤ t ∧ t < B.length + cnt) ⟨[], ⟨rfl, fun c hc => by simp at hc⟩, ⟨rfl, rfl, rfl, rfl, rfl, rfl, rfl, trivial⟩, by simp⟩ (fun i d M tx hd hI => ?_) fun M s5 H5 hI Z5 => ?_
    · obtain ⟨him, rfl⟩ := rng_at hd
      refine ⟨_, _, bg_name, fun s5 H5 Z5 => ?_⟩
      let J : L2.St → Hp → Prop := fun s H => ∃ row : List Nat, (row.length = k ∧ ∀ t ∈ row, B.length ≤ t ∧ t < B.length + cnt) ∧ Sat C cn [some (.ptr dl), some (nat fo), some (nat k), some (.ptr p), some (ln row), none, some (nat B.length), some (nat many), some (nat sh), none, none] ((p, .lst (B.map ln ++ M.map ln)) :: dmu dl da) (tx ++ []) s H
      refine q_asg (ev_lcA (ds := (List.range k).map nat) (fun i acc => ∃ row : List Nat, acc = nats row ∧ row.length = i ∧ ∀ t ∈ row, B.length ≤ t ∧ t < B.length + cnt) (evi_rng (ev_var rfl) (by omega)) ⟨[], rfl, rfl, fun b z => by simp at z⟩ (by simp; omega) fun j e acc hd hA hl => ?_) Z5 fun d mu' s6 H6 hR Z6 => ?_
      · refine ⟨_, _, bg_name, by simp, fun p => ⟨true, EtD.of fun c ts s H Q S q => q H S, fun _ => ?_, fun z => by cases z⟩⟩
        refine Ev.imp (ev_addP (m := many - 1 + 1) (ev_var rfl) (ev_min2P (m := many - 1) (ev_subN (j := 1) (ev_var rfl) ev_int (by omega)) (Ev.imp (ev_addP (m := 3) (ev_addN (j := 1) (ev_var rfl) ev_int) (ev_any (n := 3) (da := da) (ev_var rfl) ev_int (List.mem_cons_of_mem _ qq1) (List.mem_cons_of_mem _ qq2) hne (by decide) (by decide))) fun d mu' hd => ⟨?_, hd.2⟩))) fun d' mu' hr => ⟨hr.2, ?_⟩
        · obtain ⟨j, e, _⟩ := hd.1
          exact ⟨_, e⟩
        · obtain ⟨row, e1, e2, e3⟩ := hA
          obtain ⟨j, e4, hj⟩ := hr.1
          refine ⟨row ++ [B.length + j], by rw [e1, e4]; unfold nats; rw [List.map_append]; rfl, by simp [e2], fun b hb => ?_⟩
          rcases List.mem_append.mp hb with z | z
          · exact e3 b z
          · rw [List.mem_singleton.mp z]; omega
      · obtain ⟨p2, acc, e1, e2, row, e3, e4, e5⟩ := hR
        subst e1; subst e2; subst e3
        rw [List.length_map, List.length_range] at e4
        have Z6 := Sat.letgo (i := 4) (a := p2) Z6 rfl
        refine q_ifK (J := J) (fun s6 H6 hJ => ?_) (et_gtN (j := 2) (ev_var rfl) ev_int) Z6 (fun k1 hb H7 Z7 => ?_) fun k1 hb H7 Z7 => k1 _ _ ⟨row, ⟨e4, e5⟩, Z7.weak ⟨rfl, rfl, rfl, rfl, rfl, rfl, rfl, rfl, trivial⟩⟩
        · obtain ⟨row, hrow, Z7⟩ := hJ
          refine s_appD 0 (ds := B.map ln ++ M.map ln) (ev_var rfl) (ev_var rfl) rfl (by rw [List.length_append, List.length_map, List.length_map]; omega) Z7 fun H6 Z6 => ⟨M ++ [row], ⟨by rw [List.length_append, hI.1]; rfl, fun c h => ?_⟩, ?_⟩
          · rcases List.mem_append.mp h with z | z
            · exact hI.2 c z
            · rw [List.mem_singleton.mp z]; exact hrow
          · have e : B.map ln ++ (M ++ [row]).map ln = B.map ln ++ M.map ln ++ [ln row] := by rw [List.map_append, List.append_assoc]; rfl
            dsimp only
            rw [e]
            exact Z6.weak ⟨rfl, rfl, rfl, rfl, rfl, rfl, rfl, trivial⟩
        · have hc := hc2 (of_decide_eq_true hb)
          refine q_asgN (ds := nats (List.replicate k (B.length + many + 1))) ((el_rep1 (n := k) (ev_lst (ds := [nat (B.length + many + 1)]) (ea_cons (ev_addN (j := 1) (ev_addN (ev_var rfl) (ev_var rfl)) ev_int) ea_nil)) (ev_var rfl) (by omega)).to (by unfold nats; rw [List.map_replicate])) Z7 fun pr s8 H8 Z8 => ?_
          have lr : (nats (List.replicate k (B.length + many + 1))).length = k := by unfold nats; rw [List.length_map, List.length_replicate]
          refine s_setLR 0 (ds := nats (List.replicate k (B.length + many + 1))) (d := nat (B.length + i + 1)) (ev_addN (j := 1) (ev_addN (ev_var rfl) (ev_var rfl)) ev_int) (ev_var rfl) (Ev.imp (ev_modP (n := k) (ev_int1P (Ev.imp (ev_addP (m := 2) (ev_addN (ev_var rfl) (ev_var rfl)) (Ev.imp (ev_of (ds := [nat 0, nat 0, nat 0, nat 0, nat 1]) (ev_var rfl) (ev_lst (ea_cons ev_int (ea_cons ev_int (ea_cons ev_int (ea_cons ev_int (ea_cons ev_int ea_nil)))))) (List.mem_cons_of_mem _ qq1) (List.mem_cons_of_mem _ qq2) hne (by decide) (by decide)) fun d mu' hd => ⟨?_, hd.2⟩)) fun d mu' hd => ⟨?_, hd.2⟩) fun d hd => hd) (ev_var rfl) k0) fun d mu' hd => ⟨?_, hd.2⟩) rfl Z8 fun j H9 hj Z9 => ?_
          · have hd := hd.1
            simp only [List.mem_cons, List.not_mem_nil, or_false] at hd
            rcases hd with e | e | e | e | e
            · exact ⟨0, e, by decide⟩
            · exact ⟨0, e, by decide⟩
            · exact ⟨0, e, by decide⟩
            · exact ⟨0, e, by decide⟩
            · exact ⟨1, e, by decide⟩
          · obtain ⟨j, e, _⟩ := hd.1
            exact ⟨_, e⟩
          · obtain ⟨j, e, hj⟩ := hd.1
            exact ⟨j, e, by rw [lr]; exact hj⟩
          · have es : (nats (List.replicate k (B.length + many + 1))).set j (nat (B.length + i + 1)) = nats ((List.replicate k (B.length + many + 1)).set j (B.length + i + 1)) := by unfold nats; rw [List.map_set]
            rw [es] at Z9
            refine k1 _ _ ⟨(List.replicate k (B.length + many + 1)).set j (B.length + i + 1), ⟨by rw [List.length_set, List.length_replicate], fun t ht => ?_⟩, (Sat.letgo (i := 4) (a := pr) Z9 rfl).weak ⟨rfl, rfl, rfl, rfl, rfl, rfl, rfl, rfl, trivial⟩⟩
            rcases List.mem_or_eq_of_mem_set ht with z | z
            · have := (List.mem_replicate.mp z).2
              omega
            · omega
    · rw [List.length_map, List.length_range] at hI
      have Z6 := Sat.letgo (i := 3) (a := p) Z5 rfl
      let J : L2.St → Hp → Prop := fun s H => ∃ N : Mat, Part N k B.length cnt ∧ Sat C cn [some (.ptr dl), some (nat fo), some (nat k), some (matD (B ++ N)), none, none, some (nat B.length), some (nat many), some (nat sh), none, none] (dmu dl da) [] s H
      have Z6 : Sat C cn [some (.ptr dl), some (nat fo), some (nat k), some (matD (B ++ M)), none, none, some (nat B.length), some (nat many), some (nat sh), none, none] (dmu dl da) [] s5 H5 := by rw [mat_app]; exact Z6
      refine q_ifK (J := J) (fun s6 H6 hJ => ?_) (et_gtN (j := 2) (ev_var rfl) ev_int) Z6 (fun k1 hb H7 Z7 => ?_) fun k1 hb H7 Z7 => k1 _ _ ⟨M, ⟨?_, hI.2⟩, Z7⟩
      · obtain ⟨N, hN, Z7⟩ := hJ
        have lN : (B ++ N).length ≤ 10 := by
          rw [List.length_append, hN.1, hcnt]
          split
          · rename_i z; have := hm4 z; rw [if_pos z] at hbm; omega
          · omega
        have hR := hB.part hN
        refine s_ret (er_tup (er_consD (ev_var rfl) (er_consR (ev_callG (B ++ N) (ea_cons (ev_var rfl) (ea_cons (ev_var rfl) ea_nil)) q1 q2 hne ⟨lN, fun r hr => ⟨by rw [(hR r hr).1]; omega, (hR r hr).2⟩⟩) fun d mu1 _ => ea_nil)) fun ds mu' hr => ?_) Z7 fun v d' mu' H' hRs S' => ?_
        · obtain ⟨ds1, e1, d, e2, _⟩ := hr
          rw [e1, e2]
          show 2 ≤ 100000
          decide
        · obtain ⟨ds, e, ds1, e1, d, e2, ext, e3, p2, W, e4, e5, hNm⟩ := hRs
          subst e3; subst e4
          have few : Few (B ++ N) k := few_two hB hN (by
            rw [hcnt]
            split
            · rename_i z
              have := hm4 z
              rw [if_pos z] at hbm
              have a1 : B.length * B.length ≤ 4 * 4 := Nat.mul_le_mul (by omega) (by omega)
              have a2 : (many + 2) * (many + 2) ≤ 6 * 6 := Nat.mul_le_mul (by omega) (by omega)
              omega
            · have a1 : B.length * B.length ≤ 5 * 5 := Nat.mul_le_mul hB5 hB5
              have a2 : many * many ≤ 5 * 5 := Nat.mul_le_mul hm5 hm5
              omega)
          exact q.go (ext := [(p2, W.map ln)]) hM hne S' q1 q2 ⟨p2, W, k, rfl, by rw [e, e1, e2, e5], (hR.named hNm).ok (by rw [hNm.1, List.length_append]; omega) (by rw [hNm.1]; exact lN) k0 k5, few.named hR hNm⟩
      · have hc := hc2 (of_decide_eq_true hb)
        have rp : ∀ {rho : List (Option D)}, rho[2]? = some (some (nat k)) → rho[6]? = some (some (nat B.length)) → rho[7]? = some (some (nat many)) → EvD C (tOp rRep (tLst (tCons (tOp rAddI (tOp rAddI (tVar 6) (tVar 7)) (tC (.int 1))) tNil)) (tVar 2)) rho (dmu dl da) (ln (List.replicate k (B.length + many + 1))) := fun a1 a2 a3 => EvN.ev ((el_rep1 (n := k) (ev_lst (ds := [nat (B.length + many + 1)]) (ea_cons (ev_addN (j := 1) (ev_addN (ev_var a2) (ev_var a3)) ev_int) ea_nil)) (ev_var a1) (by omega)).to (by unfold nats; rw [List.map_replicate]))
        refine s_asgD (EvN.ev ((el_cat (ds := (B ++ M).map ln) (es := [ln (List.replicate k (B.length + many + 1)), ln (List.replicate k (B.length + many + 1))]) (ev_var rfl) (ev_lst (ea_cons (rp rfl rfl rfl) (ea_cons (rp rfl rfl rfl) ea_nil))) (by rw [List.length_map, List.length_append]; simp; omega)).to (show _ = (B ++ (M ++ [List.replicate k (B.length + many + 1), List.replicate k (B.length + many + 1)])).map ln from ?_))) Z7 fun s8 H8 Z8 => k1 _ _ ⟨M ++ [List.replicate k (B.length + many + 1), List.replicate k (B.length + many + 1)], ⟨?_, fun r hr => ?_⟩, Z8⟩
        · rw [← List.append_assoc, List.map_append (l₁ := B ++ M)]
          rfl
        · rw [List.length_append, hI.1, hc]
          rfl
        · rcases List.mem_append.mp hr with z | z
          · exact hI.2 r z
          · have e : r = List.replicate k (B.length + many + 1) := by simpa using z
            subst e
            refine ⟨List.length_replicate, fun t ht => ?_⟩
            have := (List.mem_replicate.mp ht).2
            omega
      · rw [hI.1, hcnt, if_neg (of_decide_eq_false hb)]
end
end DL
/-! t[::-1] of a tuple, t * n -/
namespace HT2
open PySem PySem.Spec PyProof.Rows L2 HT
section
variable {prog : Program} {w : World} {A : Around} {E : Value → Shared → Prop} {s : Shared}
theorem fm_congr {α β : Type} {f g : α → Option β} : ∀ {l : List α}, (∀ x ∈ l, f x = g x) → l.filterMap f = l.filterMap g
  | [], _ => rfl
  | a :: l, h => by
    rw [List.filterMap_cons, List.filterMap_cons, h a List.mem_cons_self, fm_congr fun x hx => h x (List.mem_cons_of_mem _ hx)]
theorem adjust_back (n : Nat) : Builtin.Slice.sliceAdjust none none (-1) (n : Int) = ((n : Int) - 1, -1) := by
  unfold Builtin.Slice.sliceAdjust
  simp
theorem places_back (n : Nat) : Builtin.Slice.slicePlaces ((n : Int) - 1) (-1) (-1) = n := by
  unfold Builtin.Slice.slicePlaces
  have h1 : ¬ ((-1 : Int) > 0) := by decide
  simp only [h1, if_false]
  rw [show (- -1 : Int) = 1 by decide, Int.ediv_one]
  split <;> omega
theorem sliceApplied_back {sl : Addr} {vl vu vs : Value} {n : Nat} {Q : Int × Int × Nat → Shared → Prop} (hs : s.heap.IsSliceOf sl vl vu vs) (pl : IsPart vl none) (pu : IsPart vu none) (ps : IsPart vs (some (-1)))
    (h : Q ((n : Int) - 1, -1, n) s) : wpAny (model prog w) A (Builtin.Slice.sliceApplied (.ref sl) (pure (n : Int))) Q E s := by
  obtain ⟨os, hos, hcs, hds⟩ := id hs
  unfold Builtin.Slice.sliceApplied Builtin.Slice.sliceFields
  refine wpAny_bind (wpAny_bind (wpAny_field hos hds (x := vl) rfl (wpAny_bind (wpAny_field hos hds (x := vu) rfl (wpAny_bind (wpAny_field hos hds (x := vs) rfl (wpAny_pure ?_)))))))
  refine wpAny_bind (slicePart_ ps ?_)
  show wpAny _ _ (if ((-1 : Int) == 0) = true then _ else _) _ _ s
  rw [if_neg (by decide)]
  refine wpAny_bind (slicePart_ pl (wpAny_bind (slicePart_ pu (wpAny_bind (wpAny_pure ?_)))))
  show wpAny _ _ (match Builtin.Slice.sliceAdjust none none (-1) (n : Int) with | (lo, hi) => pure (lo, (-1 : Int), Builtin.Slice.slicePlaces lo hi (-1))) _ _ s
  rw [adjust_back n]
  show wpAny _ _ (pure ((n : Int) - 1, (-1 : Int), Builtin.Slice.slicePlaces ((n : Int) - 1) (-1) (-1))) _ _ s
  rw [places_back]
  exact wpAny_pure h
theorem pick_back (xs : Array Value) : ((List.range xs.size).filterMap fun (k : Nat) => xs[((xs.size : Int) - 1 + (k : Int) * -1).toNat]?).toArray = xs.toList.reverse.toArray := by
  have e : ((List.range xs.size).filterMap fun (k : Nat) => xs[((xs.size : Int) - 1 + (k : Int) * -1).toNat]?) = (((List.range xs.size).map fun k => xs.size - 1 - k).filterMap fun k => xs[k]?) := by
    rw [List.filterMap_map]
    refine fm_congr fun k hk => ?_
    have := List.mem_range.mp hk
    show xs[((xs.size : Int) - 1 + (k : Int) * -1).toNat]? = xs[xs.size - 1 - k]?
    congr 1
    omega
  rw [e, PySem.W.krv_range, List.filterMap_reverse, PySem.W.krv_all]
theorem getItem_tuple_back {t sl : Addr} {items : Array Value} {vl vu vs : Value} {Q : Value → Shared → Prop} (ht : IsTup s.heap t items) (hs : s.heap.IsSliceOf sl vl vu vs) (pl : IsPart vl none) (pu : IsPart vu none) (ps : IsPart vs (some (-1)))
    (h : Q (.ref s.heap.objs.size) { s with heap := s.heap.push { cls := .type "tuple", data := .seq items.toList.reverse.toArray } })
    (hsz : items.size ≤ sizeLine) : wpAny (model prog w) A (getItem (.ref t) (.ref sl)) Q E s := by
  have htake : sizeOk (.seq items.toList.reverse.toArray) := by
    show items.toList.reverse.toArray.size ≤ sizeLine
    rw [List.size_toArray, List.length_reverse, Array.length_toList]
    exact hsz
  obtain ⟨os, hos, hcs, hds⟩ := id hs
  have hTs : s.TypeIs (.ref sl) "slice" := ⟨os, hos, hcs⟩
  unfold getItem
  try with_reducible refine wpAny_holding ?_
  first | refine wpAny_bind (wpAny_pure ?_) | skip
  refine wpAny_bind (wpAny_sequenceKey ht.typeIs (by decide) ?_)
  refine wpAny_bind (wpAny_callSpecial?_slot (name := Str.ofString "__getitem__") ht.typeIs PyProof.Rows.slot_tuple_getitem
    (wpAny_call_entry PyProof.Rows.slot_tuple_getitem ht.typeIs entry_tuple_getitem ?_ (args_tuple_getitem _ _)))
  show wpAny _ _ (Builtin.Tuple.tupleItemsOf (.ref t) >>= _) _ _ s
  refine wpAny_bind (tupleItemsOf_ ht ?_)
  refine wpAny_bind (wpAny_typeOf hTs ?_)
  rw [if_pos (by decide)]
  refine wpAny_bind (sliceApplied_back hs pl pu ps ?_)
  have hno : ¬ ((((items.size : Int) - 1) == 0 && (-1 : Int) == 1 && items.size == items.size) = true) := by
    rw [show ((-1 : Int) == 1) = false by decide, Bool.and_false, Bool.false_and]
    exact Bool.false_ne_true
  show wpAny _ _ (if (((items.size : Int) - 1) == 0 && (-1 : Int) == 1 && items.size == items.size) = true then _ else _) _ _ s
  rw [if_neg hno, pick_back]
  first
    | exact wpAny_bind (m := Builtin.Tuple.tupleExact _) (wpAny_newObj_type (wpAny_pure ⟨_, rfl, wpAny_pure h⟩) htake)
    | exact wpAny_bind (m := Builtin.Tuple.tupleExact _) (wpAny_newObj_type (wpAny_bind (wpAny_pure (wpAny_pure ⟨_, rfl, wpAny_pure h⟩))) htake)
    | exact wpAny_bind (wpAny_bind (m := Builtin.Tuple.tupleExact _) (wpAny_newObj_type (wpAny_pure (wpAny_pure ⟨_, rfl, wpAny_pure h⟩)) htake))
    | exact wpAny_bind (wpAny_bind (m := Builtin.Tuple.tupleExact _) (wpAny_newObj_type (wpAny_pure ⟨_, rfl, wpAny_pure h⟩) htake))
end
end HT2
namespace DL
open PySem PySem.Spec PyProof.Rows L2
section
variable {X : Cx}
def tRevT (K : PySem.W.Frag) (te : TE) : TE := fun σ H Q => te σ H fun x H1 => ∃ a xs, x = .ref a ∧ SqT K H1 a xs ∧ ∀ p, H1 p = none → Q (.ref p) (upd H1 p (.tup xs.reverse))
theorem x_revT {e : Expr} {te : TE} {k : Nat} {p1 p2 p3 pos : Pos} (K : PySem.W.Frag) (he : PE X e te) (hK : X.K = K := by rfl) : PE X (.Subscript e (.Slice none none (some (.UnaryOp .USub (.Constant (.int 1) k p1) p2)) p3) pos) (tRevT K te) := by
  subst hK
  refine ⟨fun pins s σ H Q I h => ?_⟩
  refine Subscript_ (thn (he.run pins s σ H _ I h) fun v s1 ⟨x, H1, I1, r1, q1⟩ => ?_)
  obtain ⟨a, xs, ex, hx, q⟩ := q1
  subst ex
  cases r1
  have hst : PO X (some (.UnaryOp .USub (.Constant (.int 1) k p1) p2)) (tPart (tUn (rU fun i => .int (-i)) (tC (.int 1)))) := po_some (pe_un un_neg pe_int)
  refine wpAny_Slice (thn (po_none.run pins s1 σ H1 (fun o H2 => o = none ∧ H2 = H1) I1 ⟨rfl, rfl⟩) fun vl s2 ⟨l, H2, I2, pl, el, e2⟩ => ?_)
  subst el e2
  refine thn (po_none.run pins s2 σ H2 (fun o H3 => o = none ∧ H3 = H2) I2 ⟨rfl, rfl⟩) fun vu s3 ⟨u, H3, I3, pu, eu, e3⟩ => ?_
  subst eu e3
  refine thn (hst.run pins s3 σ H3 (fun o H4 => o = some (-1) ∧ H4 = H3) I3 ⟨1, rfl, -1, rfl, rfl, rfl⟩) fun vs s4 ⟨o, H4, I4, ps, eo, e4⟩ => ?_
  subst eo e4
  have I5 : Inv X pins σ H4 { s4 with heap := s4.heap.push { cls := .type "slice", data := .fields #[vl, vu, vs] } } := I4.kept (t' := s4.toks) fun b ob q => Heap.get?_push_of_some _ q
  obtain ⟨its, r, ht, hz⟩ := I5.tuple hx
  have hlen := r.length
  show wpAny (model X.prog X.w) X.A (subscriptTail e (.Slice none none (some (.UnaryOp .USub (.Constant (.int 1) k p1) p2)) p3) (.ref a) (.ref s4.heap.objs.size)) (EP X pins σ Q) X.xe { s4 with heap := s4.heap.push { cls := .type "slice", data := .fields #[vl, vu, vs] } }
  refine tail_any (ops := [.ref a, .ref s4.heap.objs.size]) ht.typeIs (PyProof.Rows.slot_tuple_getitem.lookup) ?_ (by with_unfolding_all rfl)
  refine HT2.getItem_tuple_back ht (Heap.IsSliceOf.new _ vl vu vs) pl pu ps ?_ (by rw [List.size_toArray]; omega)
  refine ⟨.ref _, _, I5.laid (t' := s4.toks) (o := .tup xs.reverse) (fun b ob q => Heap.get?_push_of_some _ q) (Nat.le_refl _) ?_, rfl, q _ (I5.hok.fresh (Nat.le_refl _))⟩
  exact ⟨by rw [List.length_reverse]; exact hz, _, r.reverse, IsTup.new _ _⟩
end
end DL
/-! t * n of a tuple, n = 0 and n = 1 too -/
namespace L2
open PySem PySem.Spec PyProof.Rows
theorem tuple_mulW1 (l : Addr) (items : Array Value) (n : Nat) (dd : Option Addr) (sl : Array (Option Value)) (u : Tok) :
    Meets (Builtin.«tuple.__mul__» ⟨[.ref l, .int 1 u], []⟩) (fun _ R s => s.heap.get? l = some { cls := .type "tuple", dict := dd, data := .seq items n, slots := sl } ∧ R (.ok (.ret (Value.ref l))) s) :=
  .of_wp fun prog w A R s h => by
    obtain ⟨hp, g, d, tk, os⟩ := s
    obtain ⟨hl, h⟩ := h
    have f1 := AutoSeq1.idx_int
    have c0 : (decide ((1 : Int) < -(2 ^ 63)) || decide ((1 : Int) ≥ 2 ^ 63)) = false := by decide
    have c1 : (items.isEmpty || (1 : Int) == 1) = true := by simp
    wp_walk using wpAny_loadPart' hl
    repeat (first
      | (refine wpAny_ite_false (decide_eq_false (by rw [c0]; exact Bool.false_ne_true)) ?_; wp_walk using wpAny_loadPart' hl)
      | (refine wpAny_ite_true (decide_eq_true c1) ?_; wp_walk using wpAny_loadPart' hl))
    exact ⟨_, rfl, h⟩
theorem tuple_mulW0 (l : Addr) (items : Array Value) (n : Nat) (dd : Option Addr) (sl : Array (Option Value)) (u : Tok) (hne : items.isEmpty = false) :
    Meets (Builtin.«tuple.__mul__» ⟨[.ref l, .int 0 u], []⟩) (fun _ R s => s.heap.get? l = some { cls := .type "tuple", dict := dd, data := .seq items n, slots := sl } ∧
      R (.ok (.ret (Value.ref s.heap.objs.size))) { s with heap := s.heap.push { cls := Value.type "tuple", data := Data.seq #[] }, toks := s.toks }) :=
  .of_wp fun prog w A R s h => by
    obtain ⟨hp, g, d, tk, os⟩ := s
    obtain ⟨hl, h⟩ := h
    have f1 := AutoSeq1.idx_int
    have c0 : (decide ((0 : Int) < -(2 ^ 63)) || decide ((0 : Int) ≥ 2 ^ 63)) = false := by decide
    have c1 : (items.isEmpty || (0 : Int) == 1) = false := by rw [hne]; rfl
    have c2 : (decide ((0 : Int) ≤ 0) || items.isEmpty) = true := by simp
    wp_walk using wpAny_loadPart' hl
    repeat (first
      | (refine wpAny_ite_false (decide_eq_false (by rw [c0]; exact Bool.false_ne_true)) ?_; wp_walk using wpAny_loadPart' hl)
      | (refine wpAny_ite_false (decide_eq_false (by rw [c1]; exact Bool.false_ne_true)) ?_; wp_walk using wpAny_loadPart' hl)
      | (refine wpAny_ite_true (decide_eq_true c2) ?_; wp_walk using wpAny_loadPart' hl))
    exact ⟨_, rfl, h⟩
def rMulT (K : PySem.W.Frag) : R2 := fun x y H Q => ∃ l k xs, x = .ref l ∧ y = .int k ∧ SqT K H l xs ∧ xs ≠ [] ∧ 0 ≤ k ∧ k ≤ 1000 ∧ xs.length ≤ 1000 ∧ (k = 1 → Q (.ref l) H) ∧ (k ≠ 1 → ∀ p, H p = none → Q (.ref p) (upd H p (.tup (List.replicate k.toNat xs).flatten)))
section
variable {X : Cx}
theorem op_mulT (K : PySem.W.Frag) (hK : X.K = K := by rfl) : OpR X (binaryOp .Mult) (rMulT K) := by
  subst hK
  intro pins s σ H x y v u Q I rx ry h
  obtain ⟨l, k, xs, rfl, rfl, hT, hne, h0, h2, hz, q1, q2⟩ := h
  by_cases hk2 : 2 ≤ k
  · exact op_repT pins s σ H _ _ v u Q I rx ry ⟨l, k, xs, rfl, rfl, hT, hne, hk2, h2, hz, q2 (by omega)⟩
  cases rx
  obtain ⟨t, rfl⟩ := ry
  obtain ⟨its, r, ⟨⟨cls, dd, data, sl⟩, ho, hc, n, hd⟩, hs⟩ := I.tuple hT
  simp only at hc hd
  subst hc hd
  have hle : its.length = xs.length := r.length.symm
  have hn : its ≠ [] := fun e => hne (by
    rw [e] at hle
    exact List.eq_nil_of_length_eq_zero hle.symm)
  have hi : its.toArray.isEmpty = false := by
    cases its with
    | nil => exact absurd rfl hn
    | cons a b => rfl
  by_cases hk1 : k = 1
  · subst hk1
    refine wpAny_binaryOp_repeat_ref (T := "tuple") (U := "int") (by decide) ⟨_, ho, rfl⟩ (fun s' => typeIs_int s' 1 t) noFill_tuple_mul F.fills_int_mul F.slot_int_rmul repeat_tuple F.slot_int_index.lookup
      (call_meets F.slot_int_rmul (typeIs_int s 1 t) F.entry_int_rmul (F.args_int_rmul_2 _ _) (int_rmul_tuple 1 t l its.toArray n dd sl)
        ⟨ho, rfl, ⟨_, ho, rfl⟩, call_meets F.slot_tuple_mul ⟨_, ho, rfl⟩ F.entry_tuple_mul (F.args_tuple_mul_2 _ _) (tuple_mulW1 l its.toArray n dd sl t) ⟨ho, ?_⟩⟩)
    exact ⟨.ref l, H, I, rfl, q1 rfl⟩
  · have e : k = 0 := by omega
    subst e
    refine wpAny_binaryOp_repeat_ref (T := "tuple") (U := "int") (by decide) ⟨_, ho, rfl⟩ (fun s' => typeIs_int s' 0 t) noFill_tuple_mul F.fills_int_mul F.slot_int_rmul repeat_tuple F.slot_int_index.lookup
      (call_meets F.slot_int_rmul (typeIs_int s 0 t) F.entry_int_rmul (F.args_int_rmul_2 _ _) (int_rmul_tuple 0 t l its.toArray n dd sl)
        ⟨ho, rfl, ⟨_, ho, rfl⟩, call_meets F.slot_tuple_mul ⟨_, ho, rfl⟩ F.entry_tuple_mul (F.args_tuple_mul_2 _ _) (tuple_mulW0 l its.toArray n dd sl t hi) ⟨ho, ?_⟩⟩)
    refine ⟨.ref s.heap.objs.size, _, I.laid (t' := s.toks) (o := .tup []) (fun b ob q => Heap.get?_push_of_some _ q) (Nat.le_refl _) ?_, rfl, q2 hk1 _ (I.hok.fresh (Nat.le_refl _))⟩
    exact ⟨Nat.zero_le _, [], .nil, IsTup.new _ _⟩
end
end L2
namespace DL
open PySem PySem.Spec PyProof.Rows L2
section
variable {C : Addr} {c : Cn} {K : PySem.W.Frag} {rho : List (Option D)} {mu : Mu} {ts : List (V × D)} {s : L2.St} {F H F' H' : Hp} {v : V} {d : D} {te ta tb : TE} {ds es : List D} {a : Addr} {i j : Nat}
theorem ev_revT (ha : EvD C ta rho mu (.tup ds)) : EvD C (tRevT K ta) rho mu (.tup ds.reverse) := EvD.of fun c ts s H Q S q => ha.run S fun v H1 S1 => by
  obtain ⟨F, T⟩ := S1
  obtain ⟨a, xs, e, hx, hs⟩ := T.top.tup_inv
  refine ⟨a, xs, by rw [e], SqT.of (T.sub _ _ hx), fun p hp => ?_⟩
  have g := Gr.alloc (o := .tup xs.reverse) T.sub hp
  have z := hs.rev.mono g.ex
  exact q _ _ ⟨_, ((T.grow g).fewer fun p hp => by simp [hp]).push (.tup upd_same z.1 z.2)⟩
theorem ev_mulT {n : Nat} (ha : EvD C ta rho mu (.tup [d])) (hb : EvD C tb rho mu (nat n)) (hn : n ≤ 1000) : EvD C (tOp (rMulT K) ta tb) rho mu (.tup (List.replicate n d)) :=
  ev_op ha hb fun F H x y Q k r1 r2 q => by
    obtain ⟨a, xs, e, hx, hs⟩ := id r1.tup_inv
    match xs, hs with
    | [v], hs =>
      refine ⟨a, (n : Int), [v], e, r2.int_inv, SqT.of (k _ _ hx), by simp, by omega, by omega, by simp, fun e1 => ?_, fun _ p hp => ?_⟩
      · have e1 : n = 1 := by omega
        subst e1
        rw [← e]
        exact q _ _ F H rfl (Gr.refl k) r1
      · have g := Gr.alloc (o := .tup (List.replicate n [v]).flatten) k hp
        have z := (drs_rep hs n).mono g.ex
        exact q _ _ _ _ rfl g (.tup upd_same z.1 z.2)
    | [], hs => exact absurd hs.1 (by simp)
    | _ :: _ :: _, hs => exact absurd hs.1 (by simp)
end
end DL
/-! calls by keywords alone, repr, is not -/
namespace DL
open PySem PySem.Spec PyProof.Rows L2

/-- a def, all of whose arguments are told by keywords in the order ks, the last parameter first -/
structure CalK (P : Program) (w : World) (K : PySem.W.Frag) (mg : Str → Option Value) (base : Heap) (k : Nat) (x : Str) (ps ks : List Str) (sp : Sp) : Prop where
  ex : ∃ f fd, FnOk P w K mg base CX0 k f fd ps sp ∧ mg x = some (.ref f) ∧ PySem.W.keepIn K (.ref f) = true ∧ KBn K fd ps 0 ks (fun _ ws => ws.reverse) (fun _ zs => zs.reverse)
section
variable {P : Program} {w : World} {K : PySem.W.Frag} {mg : Str → Option Value} {base : Heap} {C : Addr}
theorem Cal.kw {x : Str} {st : Stmt} {ps ks : List Str} {k : Nat} {sp : Sp} (G : Cal P w K mg base k x ps sp) (h : Def K mg x st ps)
    (hb : ∀ (kV doc pm : Value) (an : Option Addr) (cdv ct : Value) (ws : List Value), ws.length = ks.length → bindArgs (PySem.W.fnOf x x (defArgs st) (defBody st) (defScope st) .none kV doc pm an cdv ct) ⟨[], ks.zip ws⟩ = pure (ps.zip ws.reverse)) : CalK P w K mg base k x ps ks sp := by
  obtain ⟨f, fd, F, m, kp, b, st', Fn'⟩ := G.ex
  obtain ⟨g, fd2, Fn, m2, b2⟩ := h.ex
  obtain rfl : f = g := by
    rw [m] at m2
    injection m2 with m2
    injection m2
  obtain ⟨oc1, od1, kV1, doc1, pm1, an1, cdv1, ct1, osl1, e1, l1, c1⟩ := Fn'.ex
  obtain ⟨oc2, od2, kV2, doc2, pm2, an2, cdv2, ct2, osl2, e2, l2, c2⟩ := Fn.ex
  rw [l1] at l2
  have e : fd = fd2 := by
    injection l2 with z
    injection z with _ _ z _
    injection z
  subst e
  refine ⟨f, fd, F, m, kp, fun s us ws X l1 l2 => ?_, fun r1 r2 => r2.reverse⟩
  have e0 : us = [] := List.eq_nil_of_length_eq_zero l1
  subst e0
  rw [e2]
  exact .of_eq (hb _ _ _ _ _ _ ws l2)
def tKw (m : Nat) (sp : Sp) (E : XK) (tk : TA) : TE := fun σ H Q => tk σ H fun zs H2 => zs.length = m ∧ sp zs.reverse H2 Q E
theorem x_callK {X : Cx} {x : Str} {ps ks : List Str} {k : Nat} {sp : Sp} {kws : List Keyword} {t : TA} {p pos : Pos} (G : CalK X.prog X.w X.K X.mg X.base k x ps ks sp) (hr : Room k X.A) (hk : PK X kws t) (hg : Gl X x := by rfl)
    (hall : (backToKw pos (keywordEach kws X.env)).all (·.1.isSome) = true := by rfl) (hks : (backToKw pos (keywordEach kws X.env)).filterMap (·.1) = ks := by rfl) (hdb : (x == ("__debug__" : Str)) = false := by decide)
    (hpl : ((backTo pos (starEach [] X.env)).any (·.1) || (backToKw pos (keywordEach kws X.env)).any (·.1.isNone)) = false := by rfl) : PE X (.Call (.Name x p) [] kws pos) (tKw ks.length sp E0 t) := by
  obtain ⟨f, fd, F, m, kp, b⟩ := G.ex
  refine ⟨fun pins s σ H Q I h => wpAny_Call_Name_kw (ld_glob I hg m ?_ hdb)⟩
  refine PySem.W.callWith_KW0 (h₀ := X.base) I.ok.mod.kin kp hall (thn (hk.run pos pins s σ H _ I h) fun ws s2 ⟨zs, H2, I2, rz, l2, q2⟩ => ⟨I2.kIn, ?_⟩) hpl
  rw [hks]
  exact run_fnN (us := []) (vs := []) F hr b pass0 I2 .nil rz rfl l2 q2
end
section
variable {X : Cx}
/-- repr of nested data -/
def rRepr (K : PySem.W.Frag) : List V → Hp → VK → Prop := fun xs H Q => (∃ a d, xs = [.ref a] ∧ Dp K H (.ref a) d ∧ d.showable = true ∧ d.hasDict = false ∧ d.depth ≤ 60 ∧ d.shown.length ≤ sizeLine ∧ Q (.str d.shown) H) ∨
  ∃ b : Bool, xs = [.bl b] ∧ Q (.str (if b then "True" else "False" : String)) H
theorem call_repr (hu : X.A.units + 64 < cLine) (hgd : X.A.guards = some []) : CallR X (.builtin "repr") (rRepr X.K) := by
  intro pins s σ H xs us Q I r h
  rcases h with ⟨a, d, rfl, hd, h1, h2, h3, h4, q⟩ | ⟨b, rfl, q⟩
  · obtain ⟨u, rfl, hu'⟩ := vals1 r
    cases hu'
    obtain ⟨as, rd⟩ := Dp.reads I d (.ref a) (.ref a) hd rfl
    exact repr_of_reads' rd h1 (PyData.noDict_hsm h2) hgd (by omega) (fun _ _ e => e) (fun h' u tk hk => ⟨.str d.shown, H, I.kept hk, ⟨u, rfl⟩, q⟩) h4
  · obtain ⟨u, rfl, hu'⟩ := vals1 r
    cases hu'
    exact PySem.P.repr_of_bool ⟨.str _, H, I.tok _, ⟨_, rfl⟩, by cases b <;> exact q⟩
end
end DL
/-! readings for _law_other and law -/
namespace DL
open PySem PySem.Spec PyProof.Rows L2 Mth
section
variable {X : Cx} {a : Expr} {ta : TE} {pos p : Pos}
theorem k_repr (K : PySem.W.Frag) (hu : X.A.units + 64 < cLine) (hgd : X.A.guards = some []) (hm : X.mg "repr" = none) (ha : PE X a ta) (hK : X.K = K := by rfl) (hg : Gl X "repr" := by rfl) (he : starEach [a] X.env = (false, eval a X.env) :: starEach [] X.env := by rfl) :
    PE X (.Call (.Name "repr" p) [a] [] pos) (tCB (rRepr K) (tCons ta tNil)) := by
  subst hK
  exact x1 (id := "repr") (call_repr hu hgd) hm (by decide +kernel) ha hg (he := he)
end
/-- small data: of a depth, its tuples and lists not long -/
inductive Wf : Nat → D → Prop
  | non {n : Nat} : Wf n .non
  | bl {n : Nat} (b : Bool) : Wf n (.bl b)
  | int {n : Nat} (i : Int) : Wf n (.int i)
  | tup {n : Nat} {ds : List D} (l : ds.length ≤ 1000) (h : ∀ d ∈ ds, Wf n d) : Wf (n + 1) (.tup ds)
  | lst {n : Nat} {ds : List D} (l : ds.length ≤ 1000) (h : ∀ d ∈ ds, Wf n d) : Wf (n + 1) (.lst ds)
theorem Wf.up {n : Nat} {d : D} (h : Wf n d) : Wf (n + 1) d := by
  induction h with
  | non => exact .non
  | bl b => exact .bl b
  | int i => exact .int i
  | tup l _ ih => exact .tup l ih
  | lst l _ ih => exact .lst l ih
theorem Wf.pl {n : Nat} {d : D} (h : Wf n d) : pl n d = true := by
  induction h with
  | @non n => cases n <;> rfl
  | @bl n b => cases n <;> rfl
  | @int n i => cases n <;> rfl
  | @tup n ds l _ ih =>
    show pls n ds = true
    rw [pls_all, List.all_eq_true]
    exact ih
  | @lst n ds l _ ih =>
    show pls n ds = true
    rw [pls_all, List.all_eq_true]
    exact ih
theorem Wf.tup_inv {n : Nat} {ds : List D} (h : Wf n (.tup ds)) : ds.length ≤ 1000 ∧ ∃ m, n = m + 1 ∧ ∀ d ∈ ds, Wf m d := by
  cases h with
  | tup l h => exact ⟨l, _, rfl, h⟩
theorem wf_tps {cs : List (Nat × Nat)} (h : cs.length ≤ 1000) : Wf 2 (tps cs) := by
  refine .tup (by rw [List.length_map]; exact h) fun d hd => ?_
  obtain ⟨c, _, rfl⟩ := List.mem_map.mp hd
  refine .tup (by show 2 ≤ 1000; decide) fun d hd => ?_
  simp only [List.mem_cons, List.not_mem_nil, or_false] at hd
  rcases hd with rfl | rfl <;> exact .int _
theorem wf_nats {l : List Nat} (h : l.length ≤ 1000) : Wf 1 (.tup (nats l)) := by
  refine .tup (by unfold nats; rw [List.length_map]; exact h) fun d hd => ?_
  obtain ⟨c, _, rfl⟩ := List.mem_map.mp hd
  exact .int _
theorem wf_hD {r : List Nat × Nat} (h : r.1.length ≤ 1000) : Wf 2 (hD r) := by
  refine .tup (by show 2 ≤ 1000; decide) fun d hd => ?_
  simp only [List.mem_cons, List.not_mem_nil, or_false] at hd
  rcases hd with rfl | rfl
  · exact wf_nats h
  · exact .int _
theorem wf_hs {hs : List (List Nat × Nat)} (l : hs.length ≤ 1000) (h : ∀ r ∈ hs, r.1.length ≤ 1000) : Wf 3 (.tup (hs.map hD)) := by
  refine .tup (by rw [List.length_map]; exact l) fun d hd => ?_
  obtain ⟨r, hr, rfl⟩ := List.mem_map.mp hd
  exact wf_hD (h r hr)
/-- what the two questions of the paper ask of a value -/
theorem Wf.asked {d : D} (h : Wf 8 d) : DL.pl 8 d = true ∧ (∀ ds e, d = .tup [.tup ds, e] → ds.length ≤ 1000) ∧ ∀ ds hs, d = .tup [.tup ds, .tup hs] → ds.length ≤ 1000 ∧ ∀ x ∈ hs, ∀ rs st, x = .tup [.tup rs, st] → rs.length ≤ 5000 := by
  have one : ∀ ds e, d = .tup [.tup ds, e] → ds.length ≤ 1000 := fun ds e z => by
    subst z
    obtain ⟨_, m, _, h2⟩ := h.tup_inv
    exact (h2 (.tup ds) List.mem_cons_self).tup_inv.1
  refine ⟨h.pl, one, fun ds hs z => ⟨one ds _ z, fun x hx rs st e => ?_⟩⟩
  subst z; subst e
  obtain ⟨_, m, _, h2⟩ := h.tup_inv
  obtain ⟨_, m2, _, h3⟩ := (h2 (.tup hs) (List.mem_cons_of_mem _ List.mem_cons_self)).tup_inv
  obtain ⟨_, m3, _, h4⟩ := (h3 _ hx).tup_inv
  have := (h4 (.tup rs) List.mem_cons_self).tup_inv.1
  omega
section
variable {C : Addr} {c : Cn} {K : PySem.W.Frag} {rho : List (Option D)} {mu : Mu} {ts : List (V × D)} {s : L2.St} {F H F' H' : Hp} {v : V} {d : D} {te ta tb : TE} {t tk : TA} {ds es : List D} {a : Addr} {i j : Nat} {P : D → Prop}
/-- arguments, each of which keeps P -/
def EvG (C : Addr) (t : TA) (rho : List (Option D)) (mu : Mu) (n : Nat) (P : D → Prop) : Prop := EvR C t rho mu fun ds mu' => mu' = mu ∧ ds.length = n ∧ ∀ d ∈ ds, P d
theorem eg_nil : EvG C tNil rho mu 0 P := er_imp ea_nil fun ds mu' ⟨e, e2⟩ => ⟨e2, by rw [e]; rfl, fun d hd => by rw [e] at hd; simp at hd⟩
theorem eg_consP {n : Nat} (h : EvP C ta rho mu P) (hr : EvG C t rho mu n P) : EvG C (tCons ta t) rho mu (n + 1) P := er_imp (er_cons (R2 := fun _ ds mu' => mu' = mu ∧ ds.length = n ∧ ∀ d ∈ ds, P d) h fun d mu1 hd => by
    obtain ⟨_, e⟩ := hd
    subst e
    exact hr) fun ds mu' hh => by
  obtain ⟨d, ds', mu1, e, ⟨hp, _⟩, e2, hl, ha⟩ := hh
  subst e
  refine ⟨e2, by rw [List.length_cons, hl], fun x hx => ?_⟩
  rcases List.mem_cons.mp hx with z | z
  · rw [z]; exact hp
  · exact ha x z
theorem eg_cons {n : Nat} (h : EvD C ta rho mu d) (hp : P d) (hr : EvG C t rho mu n P) : EvG C (tCons ta t) rho mu (n + 1) P := eg_consP (h.p hp) hr
theorem EvG.lst {n : Nat} (h : EvG C t rho mu n P) (hn : n ≤ 1000) : EvP C (tLst t) rho mu fun d => ∃ ds, d = .lst ds ∧ (ds.length = n ∧ ∀ d ∈ ds, P d) :=
  ev_freezeP fun c ts s H Q S q => h c ts s H _ S fun vs ds mu' H' hr l S' => by
    obtain ⟨e, hl, ha⟩ := hr
    subst e
    refine ⟨by rw [l, hl]; exact Nat.le_of_lt (small (by omega)), fun p hp => ?_⟩
    obtain ⟨F, T⟩ := S'
    have z : DRs C F vs ds := zip_drs l T.tmp
    exact q _ (.ptr p) _ _ ⟨p, ds, rfl, rfl, hl, ha⟩ ((T.newL hp z).fewer fun q hq => by
      simp only [List.mem_cons, List.mem_append] at hq ⊢
      rcases hq with h | h
      · exact .inl h
      · exact .inr (.inr h))
theorem EvG.tup {n : Nat} (h : EvG C t rho mu n P) (hn : n ≤ 1000) : EvP C (tTup t) rho mu fun d => ∃ ds, d = .tup ds ∧ ds.length = n ∧ ∀ d ∈ ds, P d :=
  Ev.imp (er_tup h fun ds mu' hr => by rw [hr.2.1]; omega) fun d mu' hr => by
    obtain ⟨ds, e, e2, hl, ha⟩ := hr
    exact ⟨⟨ds, e, hl, ha⟩, e2⟩
theorem ev_reprD (n : Nat) (ha : EvD C ta rho mu (.tup ds)) (h1 : pl n (.tup ds) = true) (hn : n ≤ 50) (h2 : (toPy (.tup ds)).showable = true) (h3 : (toPy (.tup ds)).shown.length ≤ sizeLine) : EvD C (tCB (rRepr K) (tCons ta tNil)) rho mu (.str (toPy (.tup ds)).shown) := EvD.of fun c ts s H Q S q => ha.run S fun v H1 S1 => by
  obtain ⟨F, T⟩ := S1
  obtain ⟨a, xs, e, _, _⟩ := id T.top.tup_inv
  have r := T.top
  rw [e] at r
  have lay := lay_of n (.tup ds) h1
  exact .inl ⟨a, toPy (.tup ds), by rw [e], r.dp T.sub h1, h2, PyData.hasDict_of_canLay _ lay.1, by have := lay.2; omega, h3, q _ H1 ⟨F, (T.fewer fun p hp => by simp [hp]).push (.str _)⟩⟩
theorem ev_reprB {b : Bool} (ha : EvD C ta rho mu (.bl b)) : EvD C (tCB (rRepr K) (tCons ta tNil)) rho mu (.str (if b then "True" else "False" : String)) := EvD.of fun c ts s H Q S q => ha.run S fun v H1 S1 => by
  obtain ⟨F, T⟩ := S1
  exact .inr ⟨b, by rw [T.top.bl_inv], q _ H1 ⟨F, (T.fewer fun p hp => by simp [hp]).push (.str _)⟩⟩
theorem ev_neS {x : Str} (ha : EvD C ta rho mu (.str x)) (hb : EvD C tb rho mu (.str x)) : EvD C (tOp rNe ta tb) rho mu (.bl false) :=
  ev_op ha hb fun F H v w Q k r1 r2 q => by
    cases r1
    cases r2
    refine ⟨rfl, ?_⟩
    rw [decide_eq_true rfl]
    exact q _ _ F H rfl (Gr.refl k) (.bl _)
theorem ev_notBl {x y : Bool} (ha : EvD C ta rho mu (.bl x)) (hb : EvD C tb rho mu (.bl y)) : EvD C (tOp rNotB ta tb) rho mu (.bl (!decide (x = y))) :=
  ev_op ha hb fun F H v w Q k r1 r2 q => ⟨x, y, r1.bl_inv, r2.bl_inv, q _ _ F H rfl (Gr.refl k) (.bl _)⟩
/-- a call by keywords -/
theorem ev_kwP {T : Type} {args : T → List D} {pre : T → Prop} {res : T → D → Prop} {E : XK} {m : Nat} (x : T) (h : EvA C tk rho mu (args x).reverse) (hm : (args x).length = m) (hp : pre x) : EvP C (tKw m (spF C args pre res) E tk) rho mu (res x) := fun c ts s H Q S q => by
  refine h.run S fun vs H1 l S1 => ?_
  obtain ⟨F, T⟩ := S1
  have z := (zip_drs l T.tmp).rev
  rw [List.reverse_reverse] at z
  exact ⟨by rw [l, List.length_reverse, hm], F, x, T.sub, z, hp, fun v d F' H' g r rv => q v d mu H' ⟨r, rfl⟩ ⟨F', ((T.grow g).fewer fun p hp => List.mem_append_right _ hp).push rv⟩⟩
end
/-! the corners' text -/
theorem toPy_tps (cs : List (Nat × Nat)) : toPy (tps cs) = .tuple (cs.map fun c => .tuple [.int (c.1 : Int), .int (c.2 : Int)]) := by
  show PyData.tuple (toPys (cs.map tp)) = _
  rw [toPys_map, List.map_map]
  rfl
theorem show_tps {cs : List (Nat × Nat)} (hl : cs.length ≤ 20) (h : ∀ c ∈ cs, c.1 < 12 ∧ c.2 < 12) : (toPy (tps cs)).showable = true ∧ (toPy (tps cs)).shown.length ≤ sizeLine := by
  have nat1 : ∀ n : Nat, n < 12 → (PyData.int (n : Int)).showable = true ∧ (PyData.int (n : Int)).intsShort 13 = true ∧ (PyData.int (n : Int)).weight ≤ 4 := by decide +kernel
  rw [toPy_tps]
  have key : ∀ l : List (Nat × Nat), (∀ c ∈ l, c.1 < 12 ∧ c.2 < 12) → PyData.showableAll (l.map fun c => .tuple [.int (c.1 : Int), .int (c.2 : Int)]) = true ∧ PyData.intsShortAll 13 (l.map fun c => .tuple [.int (c.1 : Int), .int (c.2 : Int)]) = true ∧
      PyData.weightAll (l.map fun c => .tuple [.int (c.1 : Int), .int (c.2 : Int)]) ≤ 11 * l.length ∧ PyData.canLayAll0 (l.map fun c => .tuple [.int (c.1 : Int), .int (c.2 : Int)]) = true := by
    intro l
    induction l with
    | nil => intro _; exact ⟨rfl, rfl, Nat.le_refl _, rfl⟩
    | cons c l ih =>
      intro h
      obtain ⟨i1, i2, i3, i4⟩ := ih fun x hx => h x (List.mem_cons_of_mem _ hx)
      obtain ⟨h1, h2⟩ := h c List.mem_cons_self
      obtain ⟨a1, a2, a3⟩ := nat1 _ h1
      obtain ⟨b1, b2, b3⟩ := nat1 _ h2
      rw [List.map_cons, List.length_cons]
      refine ⟨?_, ?_, ?_, ?_⟩
      · simp only [PyData.showableAll, PyData.showable, Bool.and_eq_true] at a1 b1 i1 ⊢
        exact ⟨⟨a1, b1, trivial⟩, i1⟩
      · simp only [PyData.intsShortAll, PyData.intsShort, Bool.and_eq_true] at a2 b2 i2 ⊢
        exact ⟨⟨a2, b2, trivial⟩, i2⟩
      · simp only [PyData.weightAll, PyData.weight] at a3 b3 i3 ⊢
        omega
      · simp only [PyData.canLayAll0, PyData.canLay0, Bool.and_eq_true] at i4 ⊢
        exact ⟨⟨trivial, trivial, trivial⟩, i4⟩
  obtain ⟨k1, k2, k3, k4⟩ := key cs h
  refine ⟨?_, ?_⟩
  · simp only [PyData.showable]; exact k1
  · have lay : PyData.layable0 (.tuple (cs.map fun c => .tuple [.int (c.1 : Int), .int (c.2 : Int)])) = true := by
      have dp := (lay_of 2 (tps cs) (by
        show pls 1 (cs.map tp) = true
        rw [pls_all, List.all_map, List.all_eq_true]
        intro c _
        exact pls_nats 0 [c.1, c.2])).2
      rw [toPy_tps] at dp
      unfold PyData.layable0
      simp only [Bool.and_eq_true, decide_eq_true_eq]
      refine ⟨⟨?_, by omega⟩, ?_⟩
      · simp only [PyData.canLay0]; exact k4
      · simp only [PyData.weight]
        have : (2 : Nat) ^ 20 = 1048576 := by decide
        omega
    have := shown_le13 lay (by simp only [PyData.intsShort]; exact k2)
    rw [sizeLine_eq]
    omega
end DL
/-! _law_other -/
namespace DL
open PySem L2 Mth

theorem Wf.le {m n : Nat} {d : D} (h : Wf m d) (l : m ≤ n) : Wf n d := by
  induction l with
  | refl => exact h
  | step _ ih => exact ih.up
theorem wf_all {n : Nat} {ds : List D} (l : ds.length ≤ 1000) (h : ∀ d ∈ ds, Wf n d) : Wf (n + 1) (.tup ds) := .tup l h
theorem wf_t0 {n : Nat} : Wf (n + 1) (.tup []) := .tup (by decide) fun d hd => by simp at hd
theorem wf_t1 {n : Nat} {a : D} (ha : Wf n a) : Wf (n + 1) (.tup [a]) := .tup (by simp) fun d hd => by rw [List.mem_singleton.mp hd]; exact ha
theorem wf_2 {n : Nat} {a b : D} (ha : Wf n a) (hb : Wf n b) : ∀ d ∈ [a, b], Wf n d := fun d hd => by
  simp only [List.mem_cons, List.not_mem_nil, or_false] at hd
  rcases hd with rfl | rfl
  · exact ha
  · exact hb
theorem wf_t2 {n : Nat} {a b : D} (ha : Wf n a) (hb : Wf n b) : Wf (n + 1) (.tup [a, b]) := .tup (by simp) (wf_2 ha hb)
theorem wf_l2 {n : Nat} {a b : D} (ha : Wf n a) (hb : Wf n b) : Wf (n + 1) (.lst [a, b]) := .lst (by simp) (wf_2 ha hb)
theorem wf_t3 {n : Nat} {a b c : D} (ha : Wf n a) (hb : Wf n b) (hc : Wf n c) : Wf (n + 1) (.tup [a, b, c]) := .tup (by simp) fun d hd => by
  simp only [List.mem_cons, List.not_mem_nil, or_false] at hd
  rcases hd with rfl | rfl | rfl
  · exact ha
  · exact hb
  · exact hc
theorem mem_cutD {ds : List D} {lo hi : Option Int} {d : D} (h : d ∈ cutD ds lo hi) : d ∈ ds := List.mem_of_mem_drop (List.mem_of_mem_take h)
theorem len_cutD (ds : List D) (lo hi : Option Int) : (cutD ds lo hi).length ≤ ds.length := by
  unfold cutD
  rw [List.length_take, List.length_drop]
  omega
theorem eqd_tnil (ds : List D) : eqd (.tup ds) (.tup []) = decide (ds = []) := by
  cases ds with
  | nil => rfl
  | cons d ds => rfl
section
variable {P : Program} {w : World} {K : PySem.W.Frag} {mg : Str → Option Value} {base : Heap} {C : Addr}
section
variable {rho : List (Option D)} {mu : Mu} {dl da : Addr} {t1 t2 : TE} {ta : TA} {E : XK} {n : Nat} {G : D → Prop}
theorem ev_callGR {T : Type} {args : T → List D} {pre : T → Prop} {res : T → D → Prop} {Gx : T → Prop} (h : EvR C ta rho mu fun es mu' => mu' = mu ∧ ∃ x, es = .ptr dl :: args x ∧ pre x ∧ Gx x) (h1 : (dl, MO.any (dealP da)) ∈ mu) (h2 : (da, MO.any cellsP) ∈ mu) (hne : dl ≠ da) :
    EvP C (tCall (spG C args pre fun x d ext => ext = [] ∧ res x d) [] E ta) rho mu fun d => ∃ x, Gx x ∧ res x d := fun c ts s H Q S q => by
  refine h c ts s H _ S fun vs ds mu' H1 r l S1 => ?_
  obtain ⟨e, x, e2, hp, hg⟩ := r
  subst e; subst e2
  obtain ⟨F, T⟩ := S1
  rw [List.append_nil]
  have z := zip_drs l T.tmp
  match vs, z with
  | [], z => exact absurd z.1 (by simp)
  | v0 :: vr, z =>
    obtain ⟨f1, f2, D1⟩ := T.deal h1 h2 hne
    refine ⟨F, x, dl, da, vr, by rw [z.head.ptr_inv], z.tail, T.sub, f1, f2, D1, hp, fun v d ext F' H' g a1 a2 D' he hn r rv => ?_⟩
    obtain ⟨e, r⟩ := r
    subst e
    exact q v d _ H' ⟨⟨x, hg, r⟩, rfl⟩ ⟨F', ((T.grown h1 h2 g a1 a2 D' he hn).fewer fun p hp => List.mem_append_right _ hp).push rv⟩
/-- one of some things, all of which keep G -/
theorem ev_ofP (h : EvD C t1 rho mu (.ptr dl)) (hn : EvP C t2 rho mu fun d => ∃ ds, d = .lst ds ∧ (ds.length = n ∧ ∀ d ∈ ds, G d)) (h1 : (dl, MO.any (dealP da)) ∈ mu) (h2 : (da, MO.any cellsP) ∈ mu) (hne : dl ≠ da) (h0 : 0 < n) (hb : n ≤ 1000) :
    EvP C (tCall (sp_l_of C) [] E (tCons t1 (tCons t2 tNil))) rho mu G :=
  Ev.imp (ev_callGR (args := fun ds : List D => [.lst ds]) (res := fun ds d => d ∈ ds) (Gx := fun ds => ∀ d ∈ ds, G d) (er_imp (er_consD h (er_consP hn fun d _ => ea_nil)) fun es mu' hr => by
    obtain ⟨ds, e, e2, d, ⟨xs, e3, e4, e5⟩, e6⟩ := hr
    exact ⟨e2, xs, by rw [e, e6, e3], ⟨by rw [e4]; exact h0, by rw [e4]; exact hb⟩, e5⟩) h1 h2 hne) fun d mu' hd => by
    obtain ⟨⟨ds, e, e2⟩, e3⟩ := hd
    exact ⟨e d e2, e3⟩
end
abbrev sp_l_other (C : Addr) : Sp := spG C (fun x : (Mat × Nat) × Nat × List (Nat × Nat) × List (List Nat × Nat) => [.mach x.1.2 x.1.1, nat x.2.1, nat (uu x.1.1 x.1.2), nat (vv x.1.1), .tup [tps x.2.2.1, .tup (x.2.2.2.map hD)]])
  (fun x => Ok x.1.1 x.1.2 ∧ (1 ≤ x.2.1 ∧ x.2.1 ≤ 20) ∧ x.2.2.1.length ≤ 20 ∧ x.2.2.2.length ≤ 20 ∧ ∀ h ∈ x.2.2.2, h.1.length ≤ 100) fun x d ext => ext = [] ∧ Wf 8 d
theorem c_l_other (T : Txt K mg C) : Cal P w K mg base 6 "_law_other" ["_law_deal", "_law_machine_here", "_law_distance", "_law_u", "_law_v", "_law_told"] (sp_l_other C) := T.d.l_other.cal fun f fd Fn => okG Fn sc_l_other (fun _ => rfl) fun x dl da cdv A outer s H E hp hne hr => by
  have g_l_any := c_l_any (P := P) (w := w) (base := base) T
  have g_l_of := c_l_of (P := P) (w := w) (base := base) T
  have g_exchange_harm := c_exchange_harm (P := P) (w := w) (base := base) T
  obtain ⟨⟨S, k⟩, d, cs, hs⟩ := x
  obtain ⟨ok, ⟨hd1, hd2⟩, hc, hh, hrow⟩ := hp
  dsimp only at ok hd1 hd2 hc hh hrow
  have hu := (uu_spec ok).2.2
  have hv := (vv_spec ok).2.2
  have h10 := ok.n10
  obtain ⟨u, eu⟩ : ∃ u, u = uu S k := ⟨_, rfl⟩
  obtain ⟨v, ev⟩ : ∃ v, v = vv S := ⟨_, rfl⟩
  have q1 : (dl, MO.any (dealP da)) ∈ dmu dl da := List.mem_cons_self
  have q2 : (da, MO.any cellsP) ∈ dmu dl da := List.mem_cons_of_mem _ List.mem_cons_self
  have wc : Wf 2 (tps cs) := wf_tps (by omega)
  have wh : Wf 3 (.tup (hs.map hD)) := wf_hs (by omega) fun r hr => by have := hrow r hr; omega
  have wce : ∀ d ∈ cs.map tp, Wf 1 d := fun d hd => by
    cases wc with
    | tup _ h => exact h d hd
  have whe : ∀ d ∈ hs.map hD, Wf 2 d := fun d hd => by
    cases wh with
    | tup _ h => exact h d hd
  have lc : (cs.map tp).length = cs.length := List.length_map ..
  have lh : (hs.map hD).length = hs.length := List.length_map ..
  refine ⟨_, (pss_cons (ps_asg (pv 5) (k_gtup K 2 (pgs_cons (pgn 6 sc_l_other.nd) (pgs_cons (pgn 7 sc_l_other.nd) pgs_nil))))
  (pss_cons (ps_par3 (i := 8) (j := 9) (l := 10) rfl sc_l_other.nd rfl rfl rfl (by decide) (by decide) (by decide) rfl rfl rfl (pa_cons (pe_cal g_l_any (hr.mono (by decide)) (pa_cons (pv 0) (pa_cons pe_int pa_nil))) (pa_cons (pe_cal g_l_any (hr.mono (by decide)) (pa_cons (pv 0) (pa_cons (pe_op op_add (pv 3) pe_int) pa_nil))) (pa_cons (pe_cal g_l_any (hr.mono (by decide)) (pa_cons (pv 0) (pa_cons (pe_op op_add (pv 4) pe_int) pa_nil))) pa_nil))) (by rfl))
  (pss_cons (ps_if (pt_cmpR (k_eqD K hr.units) (pv 8) pe_int (nomark _))
  (pss_one (ps_ret (pe_cal g_l_of (hr.mono (by decide)) (pa_cons (pv 0) (pa_cons (pe_lst (pa_cons pe_non (pa_cons (k_list K T.b.list (pv 5)) (pa_cons (pe_tup (pa_cons (pv 6) pa_nil)) (pa_cons (pe_tup (pa_cons (pv 6) (pa_cons (pv 7) (pa_cons (pe_tup pa_nil) pa_nil)))) (pa_cons (pe_tup (pa_cons (pv 7) (pa_cons (pv 6) pa_nil))) (pa_cons (pe_tup (pa_cons (k_list K T.b.list (pv 6)) (pa_cons (pv 7) pa_nil))) (pa_cons (pe_tup (pa_cons (pv 6) (pa_cons (k_list K T.b.list (pv 7)) pa_nil))) (pa_cons (pe_tup pa_nil) pa_nil))))))))) pa_nil)))))
  pss_nil)
  (pss_cons (ps_if (pt_cmpR (k_eqD K hr.units) (pv 8) pe_int (nomark _))
  (pss_one (ps_ret (pe_tup (pa_cons (pv 6) (pa_cons (pe_cal g_l_of (hr.mono (by decide)) (pa_cons (pv 0) (pa_cons (pe_lst (pa_cons (pe_slice (k_slT K) (pv 7) (po_some pe_int) po_none) (pa_cons (pe_op (k_catA K) (pv 7) (pe_slice (k_slT K) (pv 7) po_none (po_some pe_int))) (pa_cons (x_revT K (pv 7)) (pa_cons (pe_op (k_catA K) (pv 7) (pe_tup (pa_cons pe_non pa_nil))) (pa_cons (pe_op (op_mulT K) (pe_tup (pa_cons pe_non pa_nil)) (k_len K T.b.len (pv 7))) pa_nil)))))) pa_nil))) pa_nil)))))
  pss_nil)
  (pss_cons (ps_if (pt_cmpR (k_eqD K hr.units) (pv 8) pe_int (nomark _))
  (pss_cons (psn 11 sc_l_other.nd (pe_cal g_l_of (hr.mono (by decide)) (pa_cons (pv 0) (pa_cons (pe_lst (pa_cons (pe_tup (pa_cons (pv 9) (pa_cons (pv 10) pa_nil))) (pa_cons (pe_tup (pa_cons (pv 9) (pa_cons (pv 10) (pa_cons pe_int pa_nil)))) (pa_cons (pe_lst (pa_cons (pv 9) (pa_cons (pv 10) pa_nil))) (pa_cons (pe_tup (pa_cons (pv 9) pa_nil)) (pa_cons (pe_tup (pa_cons pe_bl (pa_cons (pv 10) pa_nil))) (pa_cons (pe_tup (pa_cons (pv 9) (pa_cons (pe_un un_neg pe_int) pa_nil))) (pa_cons (pe_tup (pa_cons (pe_op op_add (pv 3) pe_int) (pa_cons (pv 10) pa_nil))) (pa_cons (pe_tup (pa_cons (pv 9) (pa_cons (pe_op op_add (pv 4) pe_int) pa_nil))) pa_nil))))))))) pa_nil))))
  (pss_one (ps_ret (pe_tup (pa_cons (pe_op (k_catA K) (pv 6) (pe_tup (pa_cons (pv 11) pa_nil))) (pa_cons (pv 7) pa_nil))))))
  pss_nil)
  (pss_cons (ps_if (PW.pt (pw_or (pt_cmpR (k_eqD K hr.units) (pv 6) (pe_tup pa_nil) (nomark _)) (pw_or1 (pt_cmpR (k_eqD K hr.units) (pv 8) pe_int (nomark _)))))
  (pss_one (ps_ret (pe_tup (pa_cons (pe_tup (pa_cons (pe_tup (pa_cons (pv 3) (pa_cons (pv 4) pa_nil))) pa_nil)) (pa_cons (pe_cal g_l_of (hr.mono (by decide)) (pa_cons (pv 0) (pa_cons (pe_lst (pa_cons (pv 7) (pa_cons (pe_tup (pa_cons (pe_cal g_exchange_harm (hr.mono (by decide)) (pa_cons (pv 1) (pa_cons (pv 3) (pa_cons (pv 2) (pa_cons (pe_ifExp (pt_cmpR op_gt (pv 4) pe_int (nomark _)) (pe_op op_sub (pv 4) pe_int) pe_int) pa_nil))))) pa_nil)) pa_nil))) pa_nil))) pa_nil)))))
  pss_nil)
  (pss_cons (psn 12 sc_l_other.nd (pe_cal g_l_any (hr.mono (by decide)) (pa_cons (pv 0) (pa_cons (k_len K T.b.len (pv 6)) pa_nil))))
  (pss_cons (ps_if (pt_cmpR (k_eqD K hr.units) (pv 8) pe_int (nomark _))
  (pss_one (ps_ret (pe_tup (pa_cons (pe_op (k_catA K) (pe_slice (k_slT K) (pv 6) po_none (po_some (pv 12))) (pe_slice (k_slT K) (pv 6) (po_some (pe_op op_add (pv 12) pe_int)) po_none)) (pa_cons (pv 7) pa_nil)))))
  pss_nil)
  (pss_cons (ps_if (pt_cmpR (k_eqD K hr.units) (pv 8) pe_int (nomark _))
  (pss_one (ps_ret (pe_tup (pa_cons (pe_op (k_catA K) (pe_op (k_catA K) (pe_slice (k_slT K) (pv 6) po_none (po_some (pv 12))) (pe_tup (pa_cons (pe_tup (pa_cons (pe_op op_add (k_ix K (k_ix K (pv 6) (pv 12)) pe_int) pe_int) (pa_cons (k_ix K (k_ix K (pv 6) (pv 12)) pe_int) pa_nil))) pa_nil))) (pe_slice (k_slT K) (pv 6) (po_some (pe_op op_add (pv 12) pe_int)) po_none)) (pa_cons (pv 7) pa_nil)))))
  pss_nil)
  (pss_cons (ps_if (pt_cmpR (k_eqD K hr.units) (pv 7) (pe_tup pa_nil) (nomark _))
  (pss_one (ps_ret (pe_tup (pa_cons (pv 6) (pa_cons (pe_tup (pa_cons (pe_tup (pa_cons (pe_op (op_mulT K) (pe_tup (pa_cons pe_int pa_nil)) (pe_op op_add (pe_op op_add (pe_op op_add (pv 3) (pv 4)) (pv 2)) pe_int)) (pa_cons pe_int pa_nil))) pa_nil)) pa_nil)))))
  pss_nil)
  (pss_cons (psn 13 sc_l_other.nd (pe_cal g_l_any (hr.mono (by decide)) (pa_cons (pv 0) (pa_cons (k_len K T.b.len (pv 7)) pa_nil))))
  (pss_cons (ps_asg (k_ix K (pv 7) (pv 13)) (k_gtup K 2 (pgs_cons (pgn 14 sc_l_other.nd) (pgs_cons (pgn 15 sc_l_other.nd) pgs_nil))))
  (pss_cons (psn 11 sc_l_other.nd (pe_cal g_l_of (hr.mono (by decide)) (pa_cons (pv 0) (pa_cons (pe_lst (pa_cons (pe_tup (pa_cons (pv 14) (pa_cons (pe_cal g_l_any (hr.mono (by decide)) (pa_cons (pv 0) (pa_cons (k_fld K (pv 1)) pa_nil))) pa_nil))) (pa_cons (pe_tup (pa_cons (pe_slice (k_slT K) (pv 14) (po_some pe_int) po_none) (pa_cons (pv 15) pa_nil))) (pa_cons (pe_tup (pa_cons (pe_op (k_catA K) (pv 14) (pe_tup (pa_cons pe_int pa_nil))) (pa_cons (pv 15) pa_nil))) (pa_cons (pe_tup (pa_cons (x_revT K (pv 14)) (pa_cons (pv 15) pa_nil))) (pa_cons (pe_tup (pa_cons (k_list K T.b.list (pv 14)) (pa_cons (pv 15) pa_nil))) pa_nil)))))) pa_nil))))
  (pss_one (ps_ret (pe_tup (pa_cons (pv 6) (pa_cons (pe_op (k_catA K) (pe_op (k_catA K) (pe_slice (k_slT K) (pv 7) po_none (po_some (pv 13))) (pe_tup (pa_cons (pv 11) pa_nil))) (pe_slice (k_slT K) (pv 7) (po_some (pe_op op_add (pv 13) pe_int)) po_none)) pa_nil)))))))))))))))))), fun cn Q s0 H0 hM q Z => ?_⟩
  replace Z : Sat C cn [some (.ptr dl), some (.mach k S), some (nat d), some (nat (uu S k)), some (nat (vv S)), some (.tup [tps cs, .tup (hs.map hD)]), none, none, none, none, none, none, none, none, none, none] (dmu dl da) [] s0 H0 := Z
  rw [← eu, ← ev] at Z
  have fin : ∀ {te : TE} {rho : List (Option D)} {s : L2.St} {H : Hp} {E : Ends}, EvP C te rho (dmu dl da) (Wf 8) → (∀ v H, Q v H → E.rt v H) → Sat C cn rho (dmu dl da) [] s H → tRet te E s H := fun h hE S => s_ret h S fun v d' mu' H' hR S' => by
    obtain ⟨hw, e⟩ := hR
    subst e
    exact hE _ _ (q.go (ext := []) hM hne S' q1 q2 ⟨rfl, hw⟩)
  refine q_bind (ev_var rfl) (bg_tup bg_name bg_name) Z fun s1 H1 Z1 => ?_
  refine q_par3' (ev_any (n := 8) (ev_var rfl) ev_int q1 q2 hne (by decide) (by decide)) (R2 := fun _ _ e mu2 => (∃ j : Nat, e = nat j ∧ j < u + 1) ∧ mu2 = dmu dl da) (fun d mu1 hd => ?_) (R3 := fun _ _ _ f mu3 => (∃ j : Nat, f = nat j ∧ j < v + 1) ∧ mu3 = dmu dl da) (fun d e mu1 mu2 _ he => ?_) Z1 fun d1 e f mu1 mu2 mu3 s2 H2 h1 h2 h3 Z2 => ?_
  · rw [hd.2]
    exact ev_any (n := u + 1) (ev_var rfl) (ev_addN (j := 1) (ev_var rfl) ev_int) q1 q2 hne (by omega) (by omega)
  · rw [he.2]
    exact ev_any (n := v + 1) (ev_var rfl) (ev_addN (j := 1) (ev_var rfl) ev_int) q1 q2 hne (by omega) (by omega)
  obtain ⟨⟨fo, e1, hfo⟩, _⟩ := h1
  obtain ⟨⟨x, e2, hx⟩, _⟩ := h2
  obtain ⟨⟨y, e3, hy⟩, e4⟩ := h3
  subst e1; subst e2; subst e3; subst e4
  refine q_when (et_eqN (j := 0) (ev_var rfl) ev_int) Z2 (fun _ H3 Z3 => ?_) fun _ H3 Z3 => ?_
  · refine fin (ev_ofP (n := 8) (ev_var rfl) (EvG.lst (eg_cons ev_non .non (eg_cons (EvN.ev (el_listT (ev_var rfl))) (wf_l2 (wc.le (by decide)) (wh.le (by decide))) (eg_cons (ev_tup (ea_cons (ev_var rfl) ea_nil)) (wf_t1 (wc.le (by decide)))
      (eg_cons (ev_tup (ea_cons (ev_var rfl) (ea_cons (ev_var rfl) (ea_cons (ev_tup ea_nil) ea_nil)))) (wf_t3 (wc.le (by decide)) (wh.le (by decide)) wf_t0) (eg_cons (ev_tup (ea_cons (ev_var rfl) (ea_cons (ev_var rfl) ea_nil))) (wf_t2 (wh.le (by decide)) (wc.le (by decide)))
      (eg_cons (ev_tup (ea_cons (EvN.ev (el_listT (ds := cs.map tp) (ev_var rfl))) (ea_cons (ev_var rfl) ea_nil))) (wf_t2 (Wf.le (.lst (by rw [lc]; omega) wce) (by decide)) (wh.le (by decide))) (eg_cons (ev_tup (ea_cons (ev_var rfl) (ea_cons (EvN.ev (el_listT (ds := hs.map hD) (ev_var rfl))) ea_nil))) (wf_t2 (wc.le (by decide)) (Wf.le (.lst (by rw [lh]; omega) whe) (by decide)))
      (eg_cons (ev_tup ea_nil) wf_t0 eg_nil)))))))) (by decide)) q1 q2 hne (by decide) (by decide)) (fun _ _ h => h) Z3
  refine q_when (et_eqN (j := 1) (ev_var rfl) ev_int) Z3 (fun _ H4 Z4 => ?_) fun _ H4 Z4 => ?_
  · have hcut : ∀ {rho : List (Option D)} {mu : Mu} {lo hi : Option Int} {tl th : TO}, rho[7]? = some (some (.tup (hs.map hD))) → EvO C tl rho mu lo → EvO C th rho mu hi → EvD C (tSl (rSlA K) (tVar 7) tl th) rho mu (.tup (cutD (hs.map hD) lo hi)) := fun hh a b => ev_cutT (ev_var hh) a b
    have wcut : ∀ lo hi, Wf 3 (.tup (cutD (hs.map hD) lo hi)) := fun lo hi => .tup (by have := len_cutD (hs.map hD) lo hi; omega) fun d hd => whe d (mem_cutD hd)
    refine fin (Ev.imp (EvG.tup (P := Wf 7) (n := 2) (eg_cons (ev_var rfl) (wc.le (by decide)) (eg_consP (ev_ofP (n := 5) (ev_var rfl) (EvG.lst (eg_cons (hcut rfl (eo_some ev_int) eo_none) ((wcut _ _).le (by decide)) (eg_cons (ev_catT (ev_var rfl) (hcut rfl eo_none (eo_some ev_int)) (by have := len_cutD (hs.map hD) none (some 1); omega)) (Wf.le (m := 3) (.tup (by have := len_cutD (hs.map hD) none (some 1); rw [List.length_append]; omega) fun d hd => (List.mem_append.mp hd).elim (whe d) fun z => whe d (mem_cutD z)) (by decide))
      (eg_cons (ev_revT (ev_var rfl)) (Wf.le (m := 3) (.tup (by rw [List.length_reverse]; omega) fun d hd => whe d (List.mem_reverse.mp hd)) (by decide)) (eg_cons (ev_catT (ev_var rfl) (ev_tup (ds := [.non]) (ea_cons ev_non ea_nil)) (by rw [lh]; simp; omega)) (Wf.le (m := 3) (.tup (by rw [List.length_append]; simp; omega) fun d hd => (List.mem_append.mp hd).elim (whe d) fun z => by rw [List.mem_singleton.mp z]; exact .non) (by decide))
      (eg_cons (ev_mulT (n := hs.length) (ev_tup (ds := [.non]) (ea_cons ev_non ea_nil)) (EvD.to (ev_lenT (ds := hs.map hD) (ev_var rfl)) (by rw [lh])) (by omega)) (Wf.le (m := 3) (.tup (by rw [List.length_replicate]; omega) fun d hd => by rw [(List.mem_replicate.mp hd).2]; exact .non) (by decide)) eg_nil))))) (by decide)) q1 q2 hne (by decide) (by decide)) eg_nil)) (by decide)) fun d mu' hr => ⟨by
        obtain ⟨⟨ds, e, hl, ha⟩, _⟩ := hr
        rw [e]
        exact .tup (by omega) ha, hr.2⟩) (fun _ _ h => h) Z4
  refine q_when (et_eqN (j := 2) (ev_var rfl) ev_int) Z4 (fun _ H5 Z5 => ?_) fun _ H5 Z5 => ?_
  · have wi : ∀ {n : Nat} (i j : Int), Wf (n + 1) (.tup [.int i, .int j]) := fun i j => wf_t2 (.int i) (.int j)
    refine q_asgP (P := Wf 5) (ev_ofP (n := 8) (ev_var rfl) (EvG.lst (eg_cons (ev_tup (ea_cons (ev_var rfl) (ea_cons (ev_var rfl) ea_nil))) (wi _ _) (eg_cons (ev_tup (ea_cons (ev_var rfl) (ea_cons (ev_var rfl) (ea_cons ev_int ea_nil)))) (wf_t3 (.int _) (.int _) (.int _)) (eg_cons (ev_lst (ea_cons (ev_var rfl) (ea_cons (ev_var rfl) ea_nil))) (wf_l2 (.int _) (.int _))
      (eg_cons (ev_tup (ea_cons (ev_var rfl) ea_nil)) (wf_t1 (.int _)) (eg_cons (ev_tup (ea_cons ev_bl (ea_cons (ev_var rfl) ea_nil))) (wf_t2 (.bl _) (.int _)) (eg_cons (ev_tup (ea_cons (ev_var rfl) (ea_cons (ev_neg ev_int) ea_nil))) (wi _ _)
      (eg_cons (ev_tup (ea_cons (ev_add (ev_var rfl) ev_int) (ea_cons (ev_var rfl) ea_nil))) (wi _ _) (eg_cons (ev_tup (ea_cons (ev_var rfl) (ea_cons (ev_add (ev_var rfl) ev_int) ea_nil))) (wi _ _) eg_nil)))))))) (by decide)) q1 q2 hne (by decide) (by decide)) Z5 fun d s6 H6 hd Z6 => ?_
    refine fin ((ev_tup (ea_cons (ev_catT (ds := cs.map tp) (es := [d]) (ev_var rfl) (ev_tup (ea_cons (ev_var rfl) ea_nil)) (by rw [lc]; simp; omega)) (ea_cons (ev_var rfl) ea_nil))).p (wf_t2 (n := 7) (Wf.le (m := 6) (.tup (by rw [List.length_append, lc]; simp; omega) fun e he => (List.mem_append.mp he).elim (fun z => (wce e z).le (by decide)) fun z => by rw [List.mem_singleton.mp z]; exact hd) (by decide)) (wh.le (by decide)))) (fun _ _ h => h) Z6
  refine q_when (et_or (a := decide (cs = [])) (b := decide (fo = 3)) (EtD.to (et_test (ev_eq 2 (ev_var rfl) (ev_tup ea_nil) wc.pl rfl)) (by rw [show tps cs = .tup (cs.map tp) from rfl, eqd_tnil]; simp)) fun _ => et_eqN (j := 3) (ev_var rfl) ev_int) Z5 (fun _ H6 Z6 => ?_) fun hb H6 Z6 => ?_
  · refine fin (Ev.imp (EvG.tup (P := Wf 7) (n := 2) (eg_cons (ev_tup (ea_cons (ev_tup (ea_cons (ev_var rfl) (ea_cons (ev_var rfl) ea_nil))) ea_nil)) (wf_t1 (wf_t2 (.int _) (.int _))) (eg_consP (ev_ofP (n := 2) (G := Wf 7) (ev_var rfl) (EvG.lst (eg_cons (ev_var rfl) (wh.le (by decide)) (eg_consP (Ev.imp (EvG.tup (P := Wf 6) (n := 1) (eg_consP (Ev.imp (ev_callP ((S, k), (u, d, (if 0 < v then v - 1 else 0))) (ea_cons (ev_var rfl) (ea_cons (ev_var rfl) (ea_cons (ev_var rfl) (ea_cons (ev_ifD (b := decide (0 < v)) (et_gtN (j := 0) (ev_var rfl) ev_int) (fun hb => EvD.to (ev_subN (j := 1) (ev_var rfl) ev_int (of_decide_eq_true hb)) (by rw [if_pos (of_decide_eq_true hb)])) fun hb => EvD.to (d1 := nat 0) ev_int (by rw [if_neg (of_decide_eq_false hb)])) ea_nil)))) ⟨ok, by dsimp only; omega, hd1, by dsimp only; omega, by dsimp only; split <;> omega⟩) fun r mu' hr => ⟨?_, hr.2⟩) eg_nil) (by decide)) fun d mu' hr => ⟨by
        obtain ⟨⟨ds, e, hl, ha⟩, _⟩ := hr
        rw [e]
        exact .tup (by omega) ha, hr.2⟩) eg_nil)) (by decide)) q1 q2 hne (by decide) (by decide)) eg_nil)) (by decide)) fun d mu' hr => ⟨by
        obtain ⟨⟨ds, e, hl, ha⟩, _⟩ := hr
        rw [e]
        exact .tup (by omega) ha, hr.2⟩) (fun _ _ h => h) Z6
    rcases hr.1 with ⟨_, e⟩ | ⟨_, h, e, hm⟩
    · rw [e]; exact .non
    · rw [e]
      exact (wf_hD (by have := hm.1; dsimp only at this; split at this <;> omega)).le (by decide)
  rw [Bool.or_eq_false_iff] at hb
  have hcs : 0 < cs.length := List.length_pos_iff.mpr (of_decide_eq_false hb.1)
  refine q_asgP (ev_any (n := (cs.map tp).length) (ev_var rfl) (ev_lenT (ds := cs.map tp) (ev_var rfl)) q1 q2 hne (by omega) (by omega)) Z6 fun d7 s7 H7 hd Z7 => ?_
  obtain ⟨at', e, hat⟩ := hd
  subst e
  rw [lc] at hat
  have ccut : ∀ {rho : List (Option D)} {mu : Mu} {lo hi : Option Int} {tl th : TO}, rho[6]? = some (some (tps cs)) → EvO C tl rho mu lo → EvO C th rho mu hi → EvD C (tSl (rSlA K) (tVar 6) tl th) rho mu (.tup (cutD (cs.map tp) lo hi)) := fun hh a b => ev_cutT (ev_var hh) a b
  have lcc : ∀ lo hi, (cutD (cs.map tp) lo hi).length ≤ 20 := fun lo hi => by have := len_cutD (cs.map tp) lo hi; omega
  have hcutH : ∀ {rho : List (Option D)} {mu : Mu} {lo hi : Option Int} {tl th : TO}, rho[7]? = some (some (.tup (hs.map hD))) → EvO C tl rho mu lo → EvO C th rho mu hi → EvD C (tSl (rSlA K) (tVar 7) tl th) rho mu (.tup (cutD (hs.map hD) lo hi)) := fun hh a b => ev_cutT (ev_var hh) a b
  have lch : ∀ lo hi, (cutD (hs.map hD) lo hi).length ≤ 20 := fun lo hi => by have := len_cutD (hs.map hD) lo hi; omega
  refine q_when (et_eqN (j := 4) (ev_var rfl) ev_int) Z7 (fun _ H8 Z8 => ?_) fun _ H8 Z8 => ?_
  · refine fin ((ev_tup (ea_cons (ev_catT (ccut rfl eo_none (eo_some (ev_var rfl))) (ccut rfl (eo_some (ev_add (ev_var rfl) ev_int)) eo_none) (by have := lcc none (some (at' : Int)); have := lcc (some ((at' : Int) + 1)) none; omega)) (ea_cons (ev_var rfl) ea_nil))).p (wf_t2 (n := 7) (Wf.le (m := 2) (.tup ?_ fun d hd => ?_) (by decide)) (wh.le (by decide)))) (fun _ _ h => h) Z8
    · rw [List.length_append]
      have := lcc none (some (at' : Int)); have := lcc (some ((at' : Int) + 1)) none; omega
    · rcases List.mem_append.mp hd with z | z <;> exact wce d (mem_cutD z)
  refine q_when (et_eqN (j := 5) (ev_var rfl) ev_int) Z8 (fun _ H9 Z9 => ?_) fun _ H9 Z9 => ?_
  · have ex : (cs.map tp)[at']? = some (tp cs[at']) := by rw [List.getElem?_map, List.getElem?_eq_getElem hat]; rfl
    have ix : ∀ {rho : List (Option D)} {mu : Mu}, rho[6]? = some (some (tps cs)) → rho[12]? = some (some (nat at')) → EvD C (tOp (rIx K) (tVar 6) (tVar 12)) rho mu (.tup [nat cs[at'].1, nat cs[at'].2]) := fun a b => ev_ixT (ds := cs.map tp) (ev_var a) (ev_var b) (at_nat ex)
    refine fin ((ev_tup (ea_cons (ev_catT (ev_catT (ccut rfl eo_none (eo_some (ev_var rfl))) (ev_tup (ea_cons (ev_tup (ea_cons (ev_add (ev_ixT (ix rfl rfl) ev_int (at_nat (n := 0) rfl)) ev_int) (ea_cons (ev_ixT (ix rfl rfl) ev_int (at_nat (n := 1) rfl)) ea_nil))) ea_nil)) ?_) (ccut rfl (eo_some (ev_add (ev_var rfl) ev_int)) eo_none) ?_) (ea_cons (ev_var rfl) ea_nil))).p (wf_t2 (n := 7) (Wf.le (m := 2) (.tup ?_ fun d hd => ?_) (by decide)) (wh.le (by decide)))) (fun _ _ h => h) Z9
    · have := lcc none (some (at' : Int)); simp; omega
    · rw [List.length_append]
      have := lcc none (some (at' : Int)); have := lcc (some ((at' : Int) + 1)) none; simp; omega
    · rw [List.length_append, List.length_append]
      have := lcc none (some (at' : Int)); have := lcc (some ((at' : Int) + 1)) none; simp; omega
    · rcases List.mem_append.mp hd with z | z
      · rcases List.mem_append.mp z with z | z
        · exact wce d (mem_cutD z)
        · rw [List.mem_singleton.mp z]
          exact wf_t2 (.int _) (.int _)
      · exact wce d (mem_cutD z)
  refine q_when (EtD.to (b := decide (hs = [])) (et_test (ev_eq 3 (ev_var rfl) (ev_tup ea_nil) wh.pl rfl)) (by rw [eqd_tnil]; simp)) Z9 (fun _ H10 Z10 => ?_) fun hb2 H10 Z10 => ?_
  · refine fin ((ev_tup (ea_cons (ev_var rfl) (ea_cons (ev_tup (ea_cons (ev_tup (ea_cons (ev_mulT (n := u + v + d + 1) (d := .int 0) (ev_tup (ea_cons ev_int ea_nil)) (ev_addN (j := 1) (ev_addN (ev_addN (ev_var rfl) (ev_var rfl)) (ev_var rfl)) ev_int) (by omega)) (ea_cons ev_int ea_nil))) ea_nil)) ea_nil))).p (wf_t2 (n := 7) (wc.le (by decide)) (wf_t1 (wf_t2 (n := 5) (Wf.le (m := 1) (.tup (by rw [List.length_replicate]; omega) fun d hd => by rw [(List.mem_replicate.mp hd).2]; exact .int 0) (by decide)) (.int _))))) (fun _ _ h => h) Z10
  have hhs : 0 < hs.length := List.length_pos_iff.mpr (of_decide_eq_false hb2)
  refine q_asgP (ev_any (n := (hs.map hD).length) (ev_var rfl) (ev_lenT (ds := hs.map hD) (ev_var rfl)) q1 q2 hne (by omega) (by omega)) Z10 fun d11 s11 H11 hd Z11 => ?_
  obtain ⟨sp, e, hsp⟩ := hd
  subst e
  rw [lh] at hsp
  have ex : (hs.map hD)[sp]? = some (hD hs[sp]) := by rw [List.getElem?_map, List.getElem?_eq_getElem hsp]; rfl
  have hrw := hrow _ (List.getElem_mem hsp)
  obtain ⟨⟨row, st⟩, er⟩ : ∃ r, r = hs[sp] := ⟨_, rfl⟩
  rw [← er] at ex hrw
  dsimp only at hrw
  have lr : (nats row).length = row.length := by unfold nats; rw [List.length_map]
  have wr : Wf 1 (.tup (nats row)) := wf_nats (by omega)
  have wre : ∀ {n : Nat}, ∀ d ∈ nats row, Wf n d := fun d hd => by
    obtain ⟨c, _, rfl⟩ := List.mem_map.mp hd
    exact .int _
  refine q_bind (ev_ixT (ds := hs.map hD) (ev_var rfl) (ev_var rfl) (at_nat ex)) (bg_tup bg_name bg_name) Z11 fun s12 H12 Z12 => ?_
  refine q_asgP (P := Wf 4) (ev_ofP (n := 5) (ev_var rfl) (EvG.lst (eg_consP (Ev.imp (EvG.tup (P := Wf 1) (n := 2) (eg_cons (ev_var rfl) wr (eg_consP (Ev.imp (ev_any (n := S.length) (ev_var rfl) (ev_states T.cl T.nS (ev_var rfl)) q1 q2 hne ok.n0 (by omega)) fun d mu' hr => ⟨by
        obtain ⟨j, e, _⟩ := hr.1
        rw [e]; exact .int _, hr.2⟩) eg_nil)) (by decide)) fun d mu' hr => ⟨by
        obtain ⟨⟨ds, e, hl, ha⟩, _⟩ := hr
        rw [e]
        exact Wf.le (m := 2) (.tup (by omega) ha) (by decide), hr.2⟩) (eg_cons (ev_tup (ea_cons (ev_cutT (ds := nats row) (ev_var rfl) (eo_some ev_int) eo_none) (ea_cons (ev_var rfl) ea_nil))) (wf_t2 (n := 3) (Wf.le (m := 1) (.tup (by have := len_cutD (nats row) (some 1) none; omega) fun d hd => wre d (mem_cutD hd)) (by decide)) (.int _))
      (eg_cons (ev_tup (ea_cons (ev_catT (ds := nats row) (es := [nat 0]) (ev_var rfl) (ev_tup (ea_cons ev_int ea_nil)) (by rw [lr]; simp; omega)) (ea_cons (ev_var rfl) ea_nil))) (wf_t2 (n := 3) (Wf.le (m := 1) (.tup (by rw [List.length_append, lr]; simp; omega) fun d hd => (List.mem_append.mp hd).elim (wre d) fun z => by rw [List.mem_singleton.mp z]; exact .int _) (by decide)) (.int _))
      (eg_cons (ev_tup (ea_cons (ev_revT (ds := nats row) (ev_var rfl)) (ea_cons (ev_var rfl) ea_nil))) (wf_t2 (n := 3) (Wf.le (m := 1) (.tup (by rw [List.length_reverse, lr]; omega) fun d hd => wre d (List.mem_reverse.mp hd)) (by decide)) (.int _))
      (eg_cons (ev_tup (ea_cons (EvN.ev (el_listT (ds := nats row) (ev_var rfl))) (ea_cons (ev_var rfl) ea_nil))) (wf_t2 (n := 3) (Wf.le (m := 1) (.lst (by rw [lr]; omega) wre) (by decide)) (.int _)) eg_nil))))) (by decide)) q1 q2 hne (by decide) (by decide)) Z12 fun d13 s13 H13 hd Z13 => ?_
  refine fin ((ev_tup (ea_cons (ev_var rfl) (ea_cons (ev_catT (ev_catT (es := [d13]) (hcutH rfl eo_none (eo_some (ev_var rfl))) (ev_tup (ea_cons (ev_var rfl) ea_nil)) ?_) (hcutH rfl (eo_some (ev_add (ev_var rfl) ev_int)) eo_none) ?_) ea_nil))).p (wf_t2 (n := 7) (wc.le (by decide)) (Wf.le (m := 5) (.tup ?_ fun d hd => ?_) (by decide)))) (fun _ _ h => h) Z13
  · have := lch none (some (sp : Int)); simp; omega
  · rw [List.length_append]
    have := lch none (some (sp : Int)); have := lch (some ((sp : Int) + 1)) none; simp; omega
  · rw [List.length_append, List.length_append]
    have := lch none (some (sp : Int)); have := lch (some ((sp : Int) + 1)) none; simp; omega
  · rcases List.mem_append.mp hd with z | z
    · rcases List.mem_append.mp z with z | z
      · exact (whe d (mem_cutD z)).le (by decide)
      · rw [List.mem_singleton.mp z]
        exact Wf.le (m := 4) (by assumption) (by decide)
    · exact (whe d (mem_cutD z)).le (by decide)
end
end DL
/-! law -/
namespace DL
open PySem L2 Mth

section
variable {C : Addr} {c : Cn} {K : PySem.W.Frag} {rho : List (Option D)} {mu : Mu} {ts : List (V × D)} {s : L2.St} {H : Hp} {te : TE} {E : Ends}
/-- a loop over a list of which not all is known -/
theorem q_forP {Y : Type} {g : TG} {tb u : TS} {G : List D → Prop} (h : EvP C te rho mu fun d => ∃ ds, d = .lst ds ∧ G ds) (S : Sat C c rho mu ts s H) (r : Nat → Y → List (Option D)) (m : Nat → Y → Mu) (I : Nat → Y → Prop)
    (h0 : ∃ y, I 0 y ∧ Le (r 0 y) rho ∧ m 0 y = mu)
    (step : ∀ ds, G ds → ∀ (i : Nat) d y tx, ds[i]? = some d → I i y → ∃ rho2 js, BindG C g d (r i y) rho2 js ∧ ∀ s1 H1, Sat C c rho2 (m i y) (tx ++ ts) s1 H1 →
      tb { E with nx := Nx C c r m I (tx ++ ts) (i + 1), ct := Nx C c r m I (tx ++ ts) (i + 1), bk := u E } s1 H1)
    (done : ∀ ds, G ds → ∀ y s1 H1, I ds.length y → Sat C c (r ds.length y) (m ds.length y) ts s1 H1 → u E s1 H1) : tSeq (tFor (iList K te) g tb) u E s H := by
  refine h.run S fun v d H1 hd S1 => ?_
  obtain ⟨ds, e, hg⟩ := hd
  subst e
  obtain ⟨F, T⟩ := id S1
  obtain ⟨a, xs, e, hx, hs⟩ := T.top.lst_inv
  subst e
  refine ⟨a, rfl, ⟨xs, SqL.of (T.sub _ _ hx)⟩, ?_⟩
  obtain ⟨w1, w2, w3⟩ := walks_lst (C := C) (c := c) (K := K) (a := a) (ds := ds) (ts := ts)
  refine ⟨fun i n s H => n = ds.length - i ∧ i ≤ ds.length ∧ Nx C c r m I ([(.ref a, .lst ds)] ++ ts) i s H, ⟨ds.length, by simp, Nat.zero_le _, ?_⟩, ?_⟩
  · obtain ⟨y, a, b, e⟩ := h0
    subst e
    exact ⟨y, a, S1.weak b⟩
  · rintro i n s2 H2 ⟨rfl, hi, y, hy, S2⟩
    rcases Nat.lt_or_ge i ds.length with hlt | hge
    · refine .inr ⟨w1 i _ _ s2 H2 S2 hlt, Nx C c r m I ([(.ref a, .lst ds)] ++ ts) (i + 1), fun s' H' p => ⟨ds.length - (i + 1), by omega, rfl, hlt, p⟩, fun x H' yl => ?_⟩
      have hd : ds[i]? = some ds[i] := List.getElem?_eq_getElem hlt
      obtain ⟨rho2, js, b, st⟩ := step ds hg i _ y _ hd hy
      exact b c _ _ s2 H' x _ (w3 i _ _ _ s2 H2 x H' hd S2 yl) fun s3 H3 _ _ S3 => st s3 H3 S3
    · have e : i = ds.length := by omega
      subst e
      exact .inl ⟨w2 _ _ s2 H2 S2, done ds hg y s2 H2 hy S2.left⟩
/-- the new deal, given to the calls that change it -/
theorem Sat.toDeal {dl da : Addr} {b : Int} {ns : List Int} (S : Sat C c rho [(dl, .lst [.ptr da, .int b]), (da, .lst (ns.map D.int))] ts s H) (hl : ns.length ≤ 1000) : dl ≠ da ∧ Sat C c rho (dmu dl da) ts s H := by
  obtain ⟨F, T⟩ := S
  obtain ⟨f1, o1, xs, e1, r1⟩ := T.mu (dl, .lst [.ptr da, .int b]) List.mem_cons_self
  obtain ⟨f2, o2, ys, e2, r2⟩ := T.mu (da, .lst (ns.map D.int)) (List.mem_cons_of_mem _ List.mem_cons_self)
  have nd := T.nd
  refine ⟨fun e => by subst e; simp at nd, F, T.ex, T.sub, T.keep, T.new, T.dom, T.slen, T.slot, T.tmp, T.nd, fun p hp => ?_⟩
  rcases List.mem_cons.mp hp with e | hp
  · subst e
    refine ⟨f1, .inr o1, _, e1, (by intro zs z; cases z), F, Same.refl F, b, ?_⟩
    match xs, r1 with
    | [x, y], r1 => rw [r1.head.ptr_inv, r1.tail.head.int_inv]
    | [], r1 => exact absurd r1.1 (by simp)
    | [_], r1 => exact absurd r1.1 (by simp)
    | _ :: _ :: _ :: _, r1 => exact absurd r1.1 (by simp)
  · rw [List.mem_singleton.mp hp]
    exact ⟨f2, .inr o2, _, e2, (by intro zs z; cases z), F, Same.refl F, ns, by rw [r2.ints_inv], hl⟩
end
theorem mids_len : ∀ cs : List (Nat × Nat), (mids cs).length ≤ cs.length
  | [] => Nat.le_refl _
  | [_] => Nat.zero_le _
  | _ :: b :: r => Nat.succ_le_succ (mids_len (b :: r))
theorem ctxL_len (u v : Nat) (cs : List (Nat × Nat)) : (ctxL u v cs).length ≤ cs.length + 2 := by
  cases cs with
  | nil => exact Nat.le_succ _
  | cons a r =>
    have h := mids_len (a :: r)
    unfold ctxL
    rw [List.length_append, List.length_append]
    split <;> split <;> simp only [List.length_nil, List.length_singleton] <;> omega
theorem pap_paper {S : Mat} {k n : Nat} {hs : List (List Nat × Nat)} (h1 : hs.length = (ctxL (uu S k) (vv S) (cornersM S k n)).length) (h2 : ∀ (j : Nat) p h, (ctxL (uu S k) (vv S) (cornersM S k n))[j]? = some p → hs[j]? = some h → Hm S k p.1 n p.2 h.1 h.2) : Pap S k n (.tup [tps (cornersM S k n), .tup (hs.map hD)]) := by
  obtain ⟨c1, c2, _⟩ := corners_ok S k n
  refine ⟨_, _, rfl, c1, c2, by rw [List.length_map, h1], fun j p h hp hh => ?_⟩
  rw [List.getElem?_map] at hh
  cases e : hs[j]? with
  | none => rw [e] at hh; cases hh
  | some r =>
    rw [e] at hh
    cases hh
    exact ⟨r.1, r.2, rfl, h2 j p r hp e⟩
theorem paper_small {S : Mat} {k n : Nat} (ok : Ok S k) (hn : n ≤ 20) {hs : List (List Nat × Nat)} (h1 : hs.length = (ctxL (uu S k) (vv S) (cornersM S k n)).length) (h2 : ∀ (j : Nat) p h, (ctxL (uu S k) (vv S) (cornersM S k n))[j]? = some p → hs[j]? = some h → Hm S k p.1 n p.2 h.1 h.2) :
    (cornersM S k n).length ≤ 10 ∧ hs.length ≤ 12 ∧ ∀ h ∈ hs, h.1.length ≤ 100 := by
  have lc := corners_len (d := n) ok
  have hu := (uu_spec ok).2.2
  have hv := (vv_spec ok).2.2
  have h10 := ok.n10
  have lx := ctxL_len (uu S k) (vv S) (cornersM S k n)
  refine ⟨lc, by omega, fun h hh => ?_⟩
  obtain ⟨j, hj⟩ := List.mem_iff_getElem?.mp hh
  have hjl := (List.getElem?_eq_some_iff.mp hj).1
  obtain ⟨p, hp⟩ : ∃ p, (ctxL (uu S k) (vv S) (cornersM S k n))[j]? = some p := ⟨_, List.getElem?_eq_getElem (by omega)⟩
  have hl := (h2 j p h hp hj).1
  have hb := ctxL_le (fun c hc => ⟨((corners_ok S k n).1 c hc).1, ((corners_ok S k n).1 c hc).2.1⟩) p (List.mem_of_getElem? hp)
  omega
section
variable {P : Program} {w : World} {K : PySem.W.Frag} {mg : Str → Option Value} {base : Heap} {C : Addr}
theorem law_body (T : Txt K mg C) (ns : List Int) (hn : ns.length ≤ 100) (d0 : D) (hsc : Scr C K d0 (ns.map V.int)) (qual : Str) (f : Addr) (cdv : Value) (A : Around) (outer : List Env) (s : Shared) (H : Hp) (E : XK)
    (hgd : (A.deeper (PyProof.Rows.envOfC qual (defScope s_law) s.heap.objs.size f cdv)).guards = some []) (hr : Room 7 (A.deeper (PyProof.Rows.envOfC qual (defScope s_law) s.heap.objs.size f cdv))) :
    ∃ t, PSs (cxOf CX0 P w K mg base N_law qual (defScope s_law) f cdv A outer s H E).nox (defBody s_law) t ∧ ∀ (c : Cn) (Q : VK) (s0 : L2.St) (H0 : Hp), c.M = no → (∀ H', Q (.bl true) H') → Sat C c [some d0, none, none, none, none, none, none, none, none, none, none] [] [] s0 H0 → t { nx := fun _ H' => Q .non H', rt := Q } s0 H0 := by
  have g_l_draw := c_l_draw (P := P) (w := w) (base := base) T
  have g_l_any := c_l_any (P := P) (w := w) (base := base) T
  have g_l_spot := c_l_spot (P := P) (w := w) (base := base) T
  have g_mk := c_mk (P := P) (w := w) (base := base) T
  have g_l_lots := c_l_lots (P := P) (w := w) (base := base) T
  have g_l_classes := c_l_classes (P := P) (w := w) (base := base) T
  have g_corner_paper := c_corner_paper (P := P) (w := w) (base := base) T
  have g_l_is_paper := c_l_is_paper (P := P) (w := w) (base := base) T
  have g_corners := c_corners (P := P) (w := w) (base := base) T
  have g_is_corner_paper := c_is_corner_paper (P := P) (w := w) (base := base) T
  have g_l_other := c_l_other (P := P) (w := w) (base := base) T
  have gk_is_corner_paper : CalK P w K mg base 7 "is_corner_paper" ["machine", "distance", "value"] ["value", "distance", "machine"] _ := g_is_corner_paper.kw T.d.is_corner_paper fun _ _ _ _ _ _ ws hl => match ws, hl with | [_, _, _], _ => rfl
  have gk_corner_paper : CalK P w K mg base 6 "corner_paper" ["machine", "distance"] ["distance", "machine"] _ := g_corner_paper.kw T.d.corner_paper fun _ _ _ _ _ _ ws hl => match ws, hl with | [_, _], _ => rfl
  refine ⟨_, (pss_cons (psn 1 sc_law.nd (pe_cal g_l_draw (hr.mono (by decide)) (pa_cons (pv 0) (pa_cons pe_int pa_nil))))
  (pss_cons (ps_asg (pe_cal g_l_spot (hr.mono (by decide)) (pa_cons (pv 1) pa_nil)) (k_gtup K 2 (pgs_cons (pgn 2 sc_law.nd) (pgs_cons (pgn 3 sc_law.nd) pgs_nil))))
  (pss_cons (ps_par3 (i := 4) (j := 5) (l := 6) rfl sc_law.nd rfl rfl rfl (by decide) (by decide) (by decide) rfl rfl rfl (pa_cons (x_mk g_mk (hr.mono (by decide)) (pa_cons (pv 2) (pa_cons (pv 3) pa_nil))) (pa_cons (pe_op op_sub (k_len K T.b.len (pe_cal g_l_lots (hr.mono (by decide)) (pa_cons (pv 3) pa_nil))) pe_int) (pa_cons (pe_op op_sub (k_len K T.b.len (pe_cal g_l_classes (hr.mono (by decide)) (pa_cons (pv 3) pa_nil))) pe_int) pa_nil))) (by rfl))
  (pss_cons (ps_for PassesOwn.never rfl (k_pil K (pe_lst (pa_cons pe_int (pa_cons (pe_op op_add pe_int (pe_cal g_l_any (hr.mono (by decide)) (pa_cons (pv 1) (pa_cons pe_int pa_nil)))) pa_nil)))) (pgn 7 sc_law.nd)
  (pss_cons (psn 8 sc_law.nd (pe_cal g_corner_paper (hr.mono (by decide)) (pa_cons (pv 4) (pa_cons (pv 7) pa_nil))))
  (pss_cons (ps_if (PW.pt (pw_or (pt_not (pt_val (pe_cal g_l_is_paper (hr.mono (by decide)) (pa_cons (pv 3) (pa_cons (pv 7) (pa_cons (pv 8) pa_nil)))))) (pw_or1 (pt_cmpR op_ne (k_repr K hr.units hgd T.b.repr (k_ix K (pv 8) pe_int)) (k_repr K hr.units hgd T.b.repr (pe_cal g_corners (hr.mono (by decide)) (pa_cons (pv 4) (pa_cons (pv 7) pa_nil)))) (nomark _)))))
  (pss_one (ps_ret pe_bl))
  pss_nil)
  (pss_cons (ps_if (pt_cmpR op_notBl (pe_cal g_is_corner_paper (hr.mono (by decide)) (pa_cons (pv 4) (pa_cons (pv 7) (pa_cons (pv 8) pa_nil)))) pe_bl (nomark _))
  (pss_one (ps_ret pe_bl))
  pss_nil)
  (pss_cons (ps_for PassesOwn.never rfl (pi_range1 (by rfl) T.b.range (pa_cons pe_int pa_nil)) (pgn 9 sc_law.nd)
  (pss_cons (psn 10 sc_law.nd (pe_cal g_l_other (hr.mono (by decide)) (pa_cons (pv 1) (pa_cons (pv 4) (pa_cons (pv 7) (pa_cons (pv 5) (pa_cons (pv 6) (pa_cons (pv 8) pa_nil))))))))
  (pss_one (ps_if (pt_cmpR op_ne (k_repr K hr.units hgd T.b.repr (x_callK gk_is_corner_paper (hr.mono (by decide)) (pk_cons (pv 10) (pk_cons (pv 7) (pk_cons (pv 4) pk_nil))))) (k_repr K hr.units hgd T.b.repr (pe_cal g_l_is_paper (hr.mono (by decide)) (pa_cons (pv 3) (pa_cons (pv 7) (pa_cons (pv 10) pa_nil))))) (nomark _))
  (pss_one (ps_ret pe_bl))
  pss_nil))))
  (pss_one (ps_if (pt_not (pt_val (pe_cal g_l_is_paper (hr.mono (by decide)) (pa_cons (pv 3) (pa_cons (pv 7) (pa_cons (x_callK gk_corner_paper (hr.mono (by decide)) (pk_cons (pv 7) (pk_cons (pv 4) pk_nil))) pa_nil))))))
  (pss_one (ps_ret pe_bl))
  pss_nil)))))))
  (pss_one (ps_ret pe_bl)))))), fun cn Q s0 H0 hM q Z => ?_⟩
  refine q_asg (ev_callE (d0, ns, 16) (ea_cons (ev_var rfl) (ea_cons ev_int ea_nil)) ⟨hsc, hn, by show 16 < 1000; decide⟩) Z fun d mu' s1 H1 hR Z1 => ?_
  obtain ⟨ext, e1, dl, da, b, cells, e2, e3, hl⟩ := hR
  subst e2; subst e3; subst e1
  obtain ⟨hne, Z2⟩ := Sat.toDeal (dl := dl) (da := da) (b := b) (ns := cells) Z1 (by omega)
  have q1 : (dl, MO.any (dealP da)) ∈ dmu dl da := List.mem_cons_self
  have q2 : (da, MO.any cellsP) ∈ dmu dl da := List.mem_cons_of_mem _ List.mem_cons_self
  refine q_bindR (ev_callG () (ea_cons (ev_var rfl) ea_nil) q1 q2 hne trivial) Z2 fun d mu' hR => ?_
  obtain ⟨ext, e1, p, S, k, e2, e3, ok, few⟩ := hR
  subst e2; subst e3; subst e1
  refine ⟨_, _, bg_tup bg_name bg_name, fun s3 H3 Z3 => ?_⟩
  replace Z3 : Sat C cn [some d0, some (.ptr dl), some (nat k), some (matL S), none, none, none, none, none, none, none] (dmu dl da) [] s3 H3 := Sat.letgo (i := 3) (a := p) Z3 rfl
  have h10 := ok.n10
  have hu := (uu_spec ok).2.2
  have hv := (vv_spec ok).2.2
  refine q_par3' (ev_mk (S := S) (k := k) (ea_cons (ev_var rfl) (ea_cons (ev_var rfl) ea_nil)) ok) (R2 := fun _ _ e mu2 => e = nat (uu S k) ∧ mu2 = dmu dl da) (fun d mu1 hd => ?_) (R3 := fun _ _ _ f mu3 => f = nat (vv S) ∧ mu3 = dmu dl da) (fun d e mu1 mu2 _ he => ?_) Z3 fun d1 e f mu1 mu2 mu3 s4 H4 h1 h2 h3 Z4 => ?_
  · rw [hd.2]
    exact EvD.to (ev_sub (ev_lenL (ev_call (f := fun x : Mat × Nat => .lst ((lots x.1 x.2).map ln)) (S, k) (ea_cons (ev_var rfl) ea_nil) ok)) ev_int) (congrArg D.int (by rw [List.length_map, lots_len]; dsimp only; omega))
  · rw [he.2]
    exact EvD.to (ev_sub (ev_lenL (ev_call (f := fun x : Mat × Nat => .lst ((clss x.1).map ln)) (S, k) (ea_cons (ev_var rfl) ea_nil) ok)) ev_int) (congrArg D.int (by rw [List.length_map, clss_len]; dsimp only; omega))
  obtain ⟨e1, _⟩ := h1
  obtain ⟨e2, _⟩ := h2
  obtain ⟨e3, e4⟩ := h3
  subst e1; subst e2; subst e3; subst e4
  refine q_forP (G := fun ds => ∀ d ∈ ds, ∃ n : Nat, d = nat n ∧ 1 ≤ n ∧ n ≤ 6) (Ev.imp (EvG.lst (P := fun d => ∃ n : Nat, d = nat n ∧ 1 ≤ n ∧ n ≤ 6) (n := 2) (eg_cons (d := nat 1) ev_int ⟨1, rfl, by decide, by decide⟩ (eg_consP (Ev.imp (ev_addP (i := 2) ev_int (ev_any (n := 5) (ev_var rfl) ev_int q1 q2 hne (by decide) (by decide))) fun d mu' hd => ⟨?_, hd.2⟩) eg_nil)) (by decide)) fun d mu' hd => ⟨?_, hd.2⟩) Z4
    (fun _ (_ : Unit) => [some d0, some (.ptr dl), some (nat k), some (matL S), some (.mach k S), some (nat (uu S k)), some (nat (vv S)), none, none, none, none]) (fun _ _ => dmu dl da) (fun _ _ => True) ⟨(), trivial, ⟨rfl, rfl, rfl, rfl, rfl, rfl, rfl, trivial⟩, rfl⟩ (fun ds hG i d _ tx hd _ => ?_) fun ds hG _ s5 H5 _ Z5 => ?_
  · obtain ⟨j, e, hj⟩ := hd.1
    exact ⟨2 + j, e, by omega, by omega⟩
  · obtain ⟨ds, e, _, ha⟩ := hd.1
    exact ⟨ds, e, ha⟩
  · obtain ⟨n, e, hn1, hn6⟩ := hG d (List.mem_of_getElem? hd)
    subst e
    refine ⟨_, _, bg_name, fun s5 H5 Z5 => ?_⟩
    refine q_asgP (ev_callP ((S, k), n) (ea_cons (ev_var rfl) (ea_cons (ev_var rfl) ea_nil)) ⟨ok, hn1, by show n ≤ 500; omega⟩) Z5 fun d s6 H6 hd Z6 => ?_
    obtain ⟨hs, e, hs1, hs2⟩ := hd
    subst e
    dsimp only at hs1 hs2 Z6
    have isP := pap_paper hs1 hs2
    obtain ⟨lc, lh, lr⟩ := paper_small ok (by omega) hs1 hs2
    have wf : Wf 8 (.tup [tps (cornersM S k n), .tup (hs.map hD)]) := wf_t2 ((wf_tps (by omega)).le (by decide)) ((wf_hs (by omega) fun r hr => by have := lr r hr; omega).le (by decide))
    have e12 : ∀ c ∈ cornersM S k n, c.1 < 12 ∧ c.2 < 12 := fun c hc => by
      have := (corners_ok S k n).1 c hc
      omega
    obtain ⟨sh1, sh2⟩ := show_tps (by omega) e12
    have paper : ∀ {t1 t2 t3 : TE} {E : XK} {rho : List (Option D)} {v : D}, Wf 8 v → EvD C t1 rho (dmu dl da) (matL S) → EvD C t2 rho (dmu dl da) (nat n) → EvD C t3 rho (dmu dl da) v → EvD C (tCall (sp_l_is_paper C) [] E (tCons t1 (tCons t2 (tCons t3 tNil)))) rho (dmu dl da) (.bl (tru (Pap S k n v))) := fun {_ _ _ _ _ v} wv a1 a2 a3 => ev_call (f := fun x : (Mat × Nat) × Nat × D => .bl (tru (Pap x.1.1 x.1.2 x.2.1 x.2.2))) ((S, k), n, v) (ea_cons a1 (ea_cons a2 (ea_cons a3 ea_nil))) ⟨ok, few, ⟨hn1, by show n ≤ 500; omega⟩, wv.asked.1, wv.asked.2.2⟩
    have yes : tru (Pap S k n (.tup [tps (cornersM S k n), .tup (hs.map hD)])) = true := tru_iff.mpr isP
    have isit : ∀ {t1 t2 t3 : TE} {E : XK} {rho : List (Option D)} {v : D}, Wf 8 v → EvD C t1 rho (dmu dl da) (.mach k S) → EvD C t2 rho (dmu dl da) (nat n) → EvD C t3 rho (dmu dl da) v → EvD C (tCall (sp_is_corner_paper C) [] E (tCons t1 (tCons t2 (tCons t3 tNil)))) rho (dmu dl da) (.bl (tru (Pap S k n v))) := fun {_ _ _ _ _ v} wv a1 a2 a3 => ev_call (f := fun x : (Mat × Nat) × Nat × D => .bl (tru (Pap x.1.1 x.1.2 x.2.1 x.2.2))) ((S, k), n, v) (ea_cons a1 (ea_cons a2 (ea_cons a3 ea_nil))) ⟨ok, ⟨hn1, by show n ≤ 500; omega⟩, wv.asked.1, wv.asked.2.1⟩
    have rep : ∀ {te : TE} {rho : List (Option D)}, EvD C te rho (dmu dl da) (tps (cornersM S k n)) → EvD C (tCB (rRepr K) (tCons te tNil)) rho (dmu dl da) (.str (toPy (tps (cornersM S k n))).shown) := fun h => ev_reprD 2 (ds := (cornersM S k n).map tp) h (wf_tps (by omega)).pl (by decide) sh1 sh2
    refine q_when (b := false) (EtD.to (et_or (a := false) (b := false) (EtD.to (et_not (et_B (EvD.to (paper wf (ev_var rfl) (ev_var rfl) (ev_var rfl)) (by rw [yes])))) rfl) fun _ => et_test (ev_neS (rep (ev_ixT (ev_var rfl) ev_int (at_nat (n := 0) rfl))) (rep (ev_call (f := fun x : (Mat × Nat) × Nat => tps (cornersM x.1.1 x.1.2 x.2)) ((S, k), n) (ea_cons (ev_var rfl) (ea_cons (ev_var rfl) ea_nil)) ⟨ok, hn1, by show n ≤ 500; omega⟩)))) rfl) Z6 (fun z => by cases z) fun _ H7 Z7 => ?_
    refine q_when (b := false) (EtD.to (et_test (ev_notBl (EvD.to (isit wf (ev_var rfl) (ev_var rfl) (ev_var rfl)) (by rw [yes])) ev_bl)) rfl) Z7 (fun z => by cases z) fun _ H8 Z8 => ?_
    refine q_for (Y := Unit) (evi_rng (n := 3) ev_int (by decide)) Z8 (fun _ _ => [some d0, some (.ptr dl), some (nat k), some (matL S), some (.mach k S), some (nat (uu S k)), some (nat (vv S)), some (nat n), some (.tup [tps (cornersM S k n), .tup (hs.map hD)]), none, none]) (fun _ _ => dmu dl da) (fun _ _ => True) ⟨(), trivial, ⟨rfl, rfl, rfl, rfl, rfl, rfl, rfl, rfl, rfl, trivial⟩, rfl⟩ (fun i2 d _ tx2 hd2 _ => ?_) fun _ s9 H9 _ Z9 => ?_
    · refine ⟨_, _, bg_name, fun s9 H9 Z9 => ?_⟩
      refine q_asgP (ev_callG0 (res := fun _ d => Wf 8 d) ((S, k), n, cornersM S k n, hs) (ea_cons (ev_var rfl) (ea_cons (ev_var rfl) (ea_cons (ev_var rfl) (ea_cons (ev_var rfl) (ea_cons (ev_var rfl) (ea_cons (ev_var rfl) ea_nil)))))) q1 q2 hne ⟨ok, ⟨hn1, by show n ≤ 20; omega⟩, by show (cornersM S k n).length ≤ 20; omega, by show hs.length ≤ 20; omega, lr⟩) Z9 fun v s10 H10 wv Z10 => ?_
      refine s_ifD (b := false) (et_test (ev_neS (x := (if tru (Pap S k n v) then "True" else "False" : String)) (ev_reprB (Ev.imp (ev_kwP ((S, k), n, v) (ea_cons (ev_var rfl) (ea_cons (ev_var rfl) (ea_cons (ev_var rfl) ea_nil))) rfl ⟨ok, ⟨hn1, by show n ≤ 500; omega⟩, wv.asked.1, wv.asked.2.1⟩) fun d mu' hd => ⟨hd.1, hd.2⟩)) (ev_reprB (paper wv (ev_var rfl) (ev_var rfl) (ev_var rfl))))) Z10 (fun z => by cases z) fun _ H11 Z11 => ⟨(), trivial, Z11.weak ⟨rfl, rfl, rfl, rfl, rfl, rfl, rfl, rfl, rfl, trivial⟩⟩
    · have last : ∀ {rho : List (Option D)}, rho[3]? = some (some (matL S)) → rho[4]? = some (some (.mach k S)) → rho[7]? = some (some (nat n)) → EvD C (tCall (sp_l_is_paper C) [] E0 (tCons (tVar 3) (tCons (tVar 7) (tCons (tKw 2 (sp_corner_paper C) E0 (tCons (tVar 7) (tCons (tVar 4) tNil))) tNil)))) rho (dmu dl da) (.bl true) := fun a1 a2 a3 =>
        Ev.imp (ev_callRP (G := fun x : (Mat × Nat) × Nat × D => tru (Pap x.1.1 x.1.2 x.2.1 x.2.2) = true) (er_imp (er_consD (ev_var a1) (er_consD (ev_var a3) (er_consP (ev_kwP ((S, k), n) (ea_cons (ev_var a3) (ea_cons (ev_var a2) ea_nil)) rfl ⟨ok, hn1, by show n ≤ 500; omega⟩) fun d _ => ea_nil))) fun ds mu' hr => by
          obtain ⟨ds1, e1, ds2, e2, e3, d, ⟨hs', e4, g1, g2⟩, e5⟩ := hr
          dsimp only at e4 g1 g2
          obtain ⟨lc', lh', lr'⟩ := paper_small ok (by omega) g1 g2
          have wf' : Wf 8 (.tup [tps (cornersM S k n), .tup (hs'.map hD)]) := wf_t2 ((wf_tps (by omega)).le (by decide)) ((wf_hs (by omega) fun r hr => by have := lr' r hr; omega).le (by decide))
          refine ⟨e3, ((S, k), n, .tup [tps (cornersM S k n), .tup (hs'.map hD)]), by rw [e1, e2, e5, e4], ⟨ok, few, ⟨hn1, by show n ≤ 500; omega⟩, wf'.asked.1, wf'.asked.2.2⟩, tru_iff.mpr (pap_paper g1 g2)⟩)) fun d mu' hd => by
          obtain ⟨⟨x, hx, e⟩, e2⟩ := hd
          rw [hx] at e
          exact ⟨e, e2⟩
      refine s_ifD (b := false) (EtD.to (et_not (b := true) (et_B (last rfl rfl rfl))) rfl) Z9 (fun z => by cases z) fun _ H11 Z11 => ⟨(), trivial, Z11.weak ⟨rfl, rfl, rfl, rfl, rfl, rfl, rfl, trivial⟩⟩
  · exact s_ret ev_bl Z5 fun v d' mu' H' hR S' => by
      obtain ⟨F, T⟩ := S'
      rw [hR.1] at T
      rw [T.top.bl_inv]
      exact q H'
end
end DL
/-! the law's call from outside: what stands on the stack is known there -/
namespace DL
open PySem PySem.Spec PyProof.Rows L2 Mth

section
variable {P : Program} {w : World} {K : PySem.W.Frag} {mg : Str → Option Value} {base : Heap} {C : Addr}
/-- the script as data: an object that the heap knows, or one of the module's -/
theorem script_data {H : Hp} {a : Addr} {xs : List V} (h : SqL K H a xs) : ∃ d0, DR C H (.ref a) d0 ∧ Scr C K d0 xs := by
  rcases h with (h | ⟨o, h⟩) | h
  · exact ⟨.obj (.lst xs), .obj h, fun F H' v k r => by
      obtain ⟨b, e, hb⟩ := r.obj_inv
      exact ⟨b, e, .inl (.inl (k _ _ hb))⟩⟩
  · exact ⟨.obj (.frz o (.lst xs)), .obj h, fun F H' v k r => by
      obtain ⟨b, e, hb⟩ := r.obj_inv
      exact ⟨b, e, .inl (.inr ⟨o, k _ _ hb⟩)⟩⟩
  · exact ⟨.ptr a, .ptr a, fun F H' v k r => ⟨a, r.ptr_inv, .inr h⟩⟩
/-- the law, called with the script, ends with True -/
theorem law_run (T : Txt K mg C) {f : Addr} {fd : FuncData} (Fn : Fun K "law" "law" s_law f fd) (hb : ∀ (s : Shared) (u : Value), BindsTo s fd ⟨[u], []⟩ [("_law_script", u)]) {s : Shared} {H : Hp} {a : Addr} {ns : List Int} (hn : ns.length ≤ 100)
    (e0 : Env0 P w K mg base callerA [] s H) (hS : SqL K H a (ns.map V.int)) : codeAny (model P w) callerA (.call (.ref f) ⟨[.ref a], []⟩) (CR CX0 [] P w H s (fun v _ => v = .bl true) E0) s := by
  obtain ⟨oc, od, kV, doc, pm, an, cdv, ct, osl, e, lk, hcd⟩ := Fn.ex
  obtain ⟨d0, hd0, hsc⟩ := script_data (C := C) hS
  have room : Room 8 callerA := ⟨rfl, by decide, by decide⟩
  have S := sc_law
  have KX : K.In s.heap := e0.mod.kin.keeps fun b o z => (e0.bs b o z).1
  have lim : s.heap.NoLimit := e0.mod.nolimit.keeps fun b o z => (e0.bs b o z).1
  obtain ⟨t, ht, hq⟩ := law_body (P := P) (w := w) (mg := mg) (base := base) T ns hn d0 hsc "law" f cdv callerA [] s H E0 rfl (room.deeper _)
  have ready : t { nx := fun _ _ => V.non = .bl true, rt := fun v _ => v = .bl true } (L2.start N_law [.ref a]) H := hq ⟨H, H, no⟩ (fun v _ => v = .bl true) _ H rfl (fun _ => rfl) (Sat.start (N := N_law) (Same.refl H) (.one hd0))
  have kinds : ∀ y ∈ ([("_law_script", Value.ref a)] : List (Str × Value)), (defScope s_law).names.lookup y.1 = some .local ∨ ((defScope s_law).names.lookup y.1 = some .cell ∧ ((cellsFrom (s.heap.objs.size + 1) (defScope s_law).names []).lookup y.1).isSome = true) := fun y hy => by
    have e1 : y.1 = "_law_script" := by rw [List.mem_singleton.mp hy]
    rw [e1]
    rcases S.par "_law_script" List.mem_cons_self with z | z
    · exact .inl z
    · exact .inr ⟨z, PySem.W.cellsFrom_some _ _ _ (.inl z)⟩
  subst e
  refine codeAny_call_function room.depth (KX _ _ lk) rfl S.co S.gen rfl (PySem.W.codeRec_of KX hcd) (hb s (.ref a) _ _ _ _ (wpAny_newFunctionEnv_cells S.kind kinds fun env he s1 x => ?_))
  subst he
  have I := inv_start (CX := CX0) (P := P) (w := w) (E := E0) (cd := cdv) (f := f) (qual := "law") (ps := ["_law_script"]) (us := [.ref a]) (vs := [V.ref a]) S room.hd e0 rfl (.cons rfl .nil) x
  refine ⟨lim.keeps x.toInCall.keep, codeAny_func (wpAny_mono (ht.nox.run [] s1 _ H _ I ready) (fun fl s2 h2 => ?_) fun _ _ h2 => h2)⟩
  rcases fl with _ | _ | _ | u
  · obtain ⟨σ, H2, J, z⟩ := h2
    cases (show V.non = .bl true from z)
  · exact (h2.choose_spec.choose_spec.2).elim
  · exact (h2.choose_spec.choose_spec.2).elim
  · obtain ⟨v, σ, H2, J, rv, z⟩ := h2
    exact ⟨v, H2, J.os, J.bare, J.base, J.hok, rv, z⟩
end
end DL
/-! from the call to the row's walk -/
namespace DL
open PySem PySem.Spec PyProof.Rows L2 Mth

section
variable {P : Program} {w : World} {K : PySem.W.Frag} {mg mb : Str → Option Value} {s : Shared} {a : Addr} {vs : List Value} {ns : List Int}
abbrev scriptO (vs : List Value) : Obj := { cls := .type "list", data := .seq vs.toArray }
/-- what is tracked at the start: the script alone, or nothing where the module itself holds it -/
theorem start_heap (KX : K.In s.heap) (ha : s.heap.get? a = some (scriptO vs)) (hi : IntsAre vs ns) (hl : ns.length ≤ sizeLine) :
    ∃ H : Hp, SqL K H a (ns.map V.int) ∧ HOk P w H s.heap ∧ ∀ b u, H b = some u → b = a ∧ K.lookup a = none ∧ u = .frz (scriptO vs) (.lst (ns.map V.int)) := by
  have rv := vals_ints hi
  cases hk : K.lookup a with
  | some o =>
    have e := (KX a o hk).symm.trans ha
    cases e
    exact ⟨fun _ => none, .inr ⟨_, vs.toArray, _, hk, rfl, rfl, rfl, by rw [List.size_toArray, hi.length]; exact hl, by simpa using rv⟩, fun b u z => (by cases (show (none : Option HO) = some u from z)), fun b u z => (by cases (show (none : Option HO) = some u from z))⟩
  | none =>
    have inv : ∀ b u, (if b = a then some (HO.frz (scriptO vs) (.lst (ns.map V.int))) else none) = some u → b = a ∧ u = .frz (scriptO vs) (.lst (ns.map V.int)) := fun b u z => by
      by_cases e : b = a
      · rw [if_pos e] at z
        exact ⟨e, (Option.some.inj z).symm⟩
      · rw [if_neg e] at z
        cases z
    refine ⟨fun b => if b = a then some (.frz (scriptO vs) (.lst (ns.map V.int))) else none, .inl (.inr ⟨scriptO vs, if_pos rfl⟩), fun b u z => ?_, fun b u z => ⟨(inv b u z).1, rfl, (inv b u z).2⟩⟩
    obtain ⟨e1, e2⟩ := inv b u z
    subst e1; subst e2
    exact ⟨ha, by rw [List.length_map]; exact hl, vs, _, rv, ha⟩
theorem law_ends {C f : Addr} {fd : FuncData} (T : Txt K mg C) (Fn : Fun K "law" "law" s_law f fd) (hbi : ∀ (s : Shared) (u : Value), BindsTo s fd ⟨[u], []⟩ [("_law_script", u)]) (KX : K.In s.heap) (hns : s.heap.Ns mainGlobals mg) (hb : s.heap.Ns builtinsNs mb)
    (hbb : ∀ x : Str, x ≠ "__name__" → mb x = bootBuiltins x) (hlim : s.heap.NoLimit) (hg : s.gens = #[]) (ha : s.heap.get? a = some (scriptO vs)) (hi : IntsAre vs ns) (hl : ns.length ≤ 100) :
    codeAny (model P w) callerA (.call (.ref f) ⟨[.ref a], []⟩) (fun r s' => r = .ok (.ret (.bool true)) ∧ OldK s.heap s'.heap ∧ s'.os = s.os ∧ AllBare s'.gens) s := by
  obtain ⟨H, hS, hok, only⟩ := start_heap (P := P) (w := w) KX ha hi (Nat.le_of_lt (small (by omega)))
  have none_of : ∀ {b : Addr} {o : Obj}, s.heap.get? b = some o → (b = a → o ≠ scriptO vs ∨ K.lookup a ≠ none) → H b = none := fun {b o} hb0 hne => by
    cases q : H b with
    | none => rfl
    | some u =>
      obtain ⟨e1, e2, _⟩ := only b u q
      subst e1
      rcases hne rfl with z | z
      · rw [hb0] at ha
        exact absurd (Option.some.inj ha) z
      · exact absurd e2 z
  have dicts : ∀ {b : Addr} {m : Str → Option Value}, s.heap.Ns b m → (hidT s.heap H).Ns b m := fun {b m} ⟨o, es, ep, e, d, r⟩ => ⟨o, es, ep, hidT_get e (none_of e fun _ => .inl fun z => by
    rw [z] at d
    cases (show Data.seq vs.toArray _ = Data.dict es ep from d)), d, r⟩
  have kin : K.In (hidT s.heap H) := fun b o e => hidT_get (KX b o e) (none_of (KX b o e) fun z => .inr (by rw [← z, e]; simp))
  have md : Mod K mg (hidT s.heap H) := ⟨kin, dicts hns, ⟨mb, dicts hb, hbb⟩, hlim.elim fun mc h => ⟨mc, dicts h.1, h.2⟩⟩
  have no0 : ∀ b : Addr, b ∉ ([] : List Addr) := fun b => by simp
  have e0 : Env0 P w K mg (hidT s.heap H) callerA [] s H := ⟨rfl, md, fun b o e => of_hidT e, Nat.le_of_eq (hidT_size _ _), trivial, fun b z => absurd z (no0 b), hok, .of_eq hg⟩
  refine codeAny_mono (law_run T Fn hbi hl e0 hS) fun r s2 h2 => ?_
  rcases r with e | (_ | _ | _ | u)
  · exact False.elim h2
  · exact False.elim h2
  · exact False.elim h2
  · exact False.elim h2
  · obtain ⟨v, H2, os, bare, un, hok2, rv, e⟩ := h2
    subst e
    cases rv
    refine ⟨rfl, OldK.of_keep fun b o hb0 => ?_, os, bare⟩
    cases q : H b with
    | none => exact un.keep b o hb0 q (fun z => no0 b z) (fun z => no0 b z)
    | some u =>
      obtain ⟨_, _, e2⟩ := only b u q
      subst e2
      have x1 := (hok b _ q).1
      have x2 := (hok2 b _ (un.frzs b _ _ q)).1
      rw [hb0] at x1
      rw [Option.some.inj x1]
      exact x2
end
/-- the row's walk, from facts of what the top has left -/
theorem walk_law {l : PySem.W.OpenLaw} {q : Program} {loose : List Str} {XP : (Str → Option Value) → Heap → Prop} {YP : World → Heap → Prop} {d : DefRec} (hn : l.most = some 63) (hdf : d.params.defaults = [])
    (F : ∀ (w : World) (mg : Str → Option Value) (fa : Addr) (h : Heap), YP w h → h.Ns mainGlobals mg → mg d.name = some (.ref fa) →
      ∃ (K : PySem.W.Frag) (C : Addr) (fd : FuncData), K.In h ∧ Txt K mg C ∧ Fun K "law" "law" s_law fa fd ∧ ∀ (s : Shared) (u : Value), BindsTo s fd ⟨[u], []⟩ [("_law_script", u)]) :
    PySem.W.WalkO q loose XP YP l.row.toRowW d [] (fun f vs => PySem.call f vs) := by
  refine Att.attach_call hn hdf fun w s0 s1 mg mb fa o pm cd doc a vs ns G Y _ _ _ hmg hobj hints hlen hg => ?_
  obtain ⟨K, C, fd, KX, T, Fn, hb⟩ := F w mg fa _ Y G.T.g hmg
  exact law_ends T Fn hb KX G.T.g G.T.b G.T.builtins G.T.nolimit hg hobj hints (by omega)
end DL
set_option maxHeartbeats 0
/-! what the walks lean on, from what the top has left (printed by mkhead.py) -/
namespace DL
open PySem PySem.Spec PyProof.Rows L2 TopRun
theorem fun_of {K : PySem.W.Frag} {x qual : Str} {st : Stmt} {f : Addr} {fd : FuncData} (F : FunD K x qual (defArgs st) (defBody st) (defScope st) [] [] f fd) : Fun K x qual st f fd := by
  obtain ⟨oc, od, dV, kV, doc, pm, an, cdv, ct, osl, e1, e2, e3, hd, _⟩ := F.ex
  rcases hd with ⟨_, hd⟩ | ⟨hd, _⟩
  · subst hd
    exact ⟨⟨oc, od, kV, doc, pm, an, cdv, ct, osl, e1, e2, e3⟩, F.kp⟩
  · exact absurd rfl hd
/-- a def of the top, all of whose arguments are given -/
theorem def_of {K : PySem.W.Frag} {mg : Str → Option Value} {x : Str} {st : Stmt} {ps : List Str} {f : Addr} (F : ∃ fd, FunD K x x (defArgs st) (defBody st) (defScope st) [] [] f fd) (g : mg x = some (.ref f))
    (hb : ∀ (kV doc pm : Value) (an : Option Addr) (cdv ct : Value) (us : List Value), us.length = ps.length → bindArgs (PySem.W.fnOf x x (defArgs st) (defBody st) (defScope st) .none kV doc pm an cdv ct) ⟨us, []⟩ = pure (ps.zip us)) : Def K mg x st ps := by
  obtain ⟨fd, F⟩ := F
  have Fn := fun_of F
  exact ⟨f, fd, Fn, g, Fn.binds hb⟩
theorem txt_of {K : PySem.W.Frag} {mg : Str → Option Value} {h : Heap} (X : K.In h) (G : h.Ns mainGlobals mg) (c : He.SaysD faL fnL K) : Txt K mg (He.ga K "Machine") := by
  obtain ⟨fd, Fi⟩ := c.def_ 59 rfl
  have Fi : Fun K "__init__" "Machine.__init__" s_Machine_init (He.ma K (He.ga K "Machine") "__init__") fd := fun_of (x := "__init__") (qual := "Machine.__init__") (st := s_Machine_init) Fi
  refine ⟨⟨He.free_ok X G (c.fact 59 rfl), He.free_ok X G (c.fact 60 rfl), He.free_ok X G (c.fact 61 rfl), He.free_ok X G (c.fact 62 rfl), He.free_ok X G (c.fact 63 rfl), He.free_ok X G (c.fact 64 rfl), He.free_ok X G (c.fact 65 rfl), He.free_ok X G (c.fact 66 rfl), He.free_ok X G (c.fact 67 rfl), He.free_ok X G (c.fact 68 rfl), He.free_ok X G (c.fact 69 rfl), He.free_ok X G (c.fact 70 rfl), He.free_ok X G (c.fact 71 rfl), He.free_ok X G (c.fact 72 rfl), He.free_ok X G (c.fact 73 rfl), He.free_ok X G (c.fact 74 rfl)⟩, ⟨def_of (c.def_ 0 rfl) (He.glo_ok X G (c.fact 0 rfl)) (fun _ _ _ _ _ _ us hl => match us, hl with | [_, _], _ => rfl),
    def_of (c.def_ 1 rfl) (He.glo_ok X G (c.fact 1 rfl)) (fun _ _ _ _ _ _ us hl => match us, hl with | [_], _ => rfl),
    def_of (c.def_ 2 rfl) (He.glo_ok X G (c.fact 2 rfl)) (fun _ _ _ _ _ _ us hl => match us, hl with | [_, _], _ => rfl),
    def_of (c.def_ 3 rfl) (He.glo_ok X G (c.fact 3 rfl)) (fun _ _ _ _ _ _ us hl => match us, hl with | [_, _], _ => rfl),
    def_of (c.def_ 4 rfl) (He.glo_ok X G (c.fact 4 rfl)) (fun _ _ _ _ _ _ us hl => match us, hl with | [_], _ => rfl),
    def_of (c.def_ 5 rfl) (He.glo_ok X G (c.fact 5 rfl)) (fun _ _ _ _ _ _ us hl => match us, hl with | [_, _], _ => rfl),
    def_of (c.def_ 6 rfl) (He.glo_ok X G (c.fact 6 rfl)) (fun _ _ _ _ _ _ us hl => match us, hl with | [_], _ => rfl),
    def_of (c.def_ 7 rfl) (He.glo_ok X G (c.fact 7 rfl)) (fun _ _ _ _ _ _ us hl => match us, hl with | [_, _], _ => rfl),
    def_of (c.def_ 8 rfl) (He.glo_ok X G (c.fact 8 rfl)) (fun _ _ _ _ _ _ us hl => match us, hl with | [_], _ => rfl),
    def_of (c.def_ 9 rfl) (He.glo_ok X G (c.fact 9 rfl)) (fun _ _ _ _ _ _ us hl => match us, hl with | [_], _ => rfl),
    def_of (c.def_ 10 rfl) (He.glo_ok X G (c.fact 10 rfl)) (fun _ _ _ _ _ _ us hl => match us, hl with | [_, _, _, _], _ => rfl),
    def_of (c.def_ 11 rfl) (He.glo_ok X G (c.fact 11 rfl)) (fun _ _ _ _ _ _ us hl => match us, hl with | [_, _, _, _], _ => rfl),
    def_of (c.def_ 12 rfl) (He.glo_ok X G (c.fact 12 rfl)) (fun _ _ _ _ _ _ us hl => match us, hl with | [_, _], _ => rfl),
    def_of (c.def_ 13 rfl) (He.glo_ok X G (c.fact 13 rfl)) (fun _ _ _ _ _ _ us hl => match us, hl with | [_, _, _, _, _], _ => rfl),
    def_of (c.def_ 14 rfl) (He.glo_ok X G (c.fact 14 rfl)) (fun _ _ _ _ _ _ us hl => match us, hl with | [_], _ => rfl),
    def_of (c.def_ 15 rfl) (He.glo_ok X G (c.fact 15 rfl)) (fun _ _ _ _ _ _ us hl => match us, hl with | [_], _ => rfl),
    def_of (c.def_ 16 rfl) (He.glo_ok X G (c.fact 16 rfl)) (fun _ _ _ _ _ _ us hl => match us, hl with | [_], _ => rfl),
    def_of (c.def_ 17 rfl) (He.glo_ok X G (c.fact 17 rfl)) (fun _ _ _ _ _ _ us hl => match us, hl with | [_], _ => rfl),
    def_of (c.def_ 18 rfl) (He.glo_ok X G (c.fact 18 rfl)) (fun _ _ _ _ _ _ us hl => match us, hl with | [_, _], _ => rfl),
    def_of (c.def_ 19 rfl) (He.glo_ok X G (c.fact 19 rfl)) (fun _ _ _ _ _ _ us hl => match us, hl with | [_, _], _ => rfl),
    def_of (c.def_ 20 rfl) (He.glo_ok X G (c.fact 20 rfl)) (fun _ _ _ _ _ _ us hl => match us, hl with | [_, _, _], _ => rfl),
    def_of (c.def_ 21 rfl) (He.glo_ok X G (c.fact 21 rfl)) (fun _ _ _ _ _ _ us hl => match us, hl with | [_, _, _], _ => rfl),
    def_of (c.def_ 22 rfl) (He.glo_ok X G (c.fact 22 rfl)) (fun _ _ _ _ _ _ us hl => match us, hl with | [_, _, _, _, _], _ => rfl),
    def_of (c.def_ 23 rfl) (He.glo_ok X G (c.fact 23 rfl)) (fun _ _ _ _ _ _ us hl => match us, hl with | [_, _, _, _, _], _ => rfl),
    def_of (c.def_ 24 rfl) (He.glo_ok X G (c.fact 24 rfl)) (fun _ _ _ _ _ _ us hl => match us, hl with | [_, _, _, _, _], _ => rfl),
    def_of (c.def_ 25 rfl) (He.glo_ok X G (c.fact 25 rfl)) (fun _ _ _ _ _ _ us hl => match us, hl with | [_, _], _ => rfl),
    def_of (c.def_ 26 rfl) (He.glo_ok X G (c.fact 26 rfl)) (fun _ _ _ _ _ _ us hl => match us, hl with | [_, _, _], _ => rfl),
    def_of (c.def_ 27 rfl) (He.glo_ok X G (c.fact 27 rfl)) (fun _ _ _ _ _ _ us hl => match us, hl with | [_, _, _, _, _, _], _ => rfl),
    def_of (c.def_ 28 rfl) (He.glo_ok X G (c.fact 28 rfl)) (fun _ _ _ _ _ _ us hl => match us, hl with | [_, _, _, _], _ => rfl),
    def_of (c.def_ 29 rfl) (He.glo_ok X G (c.fact 29 rfl)) (fun _ _ _ _ _ _ us hl => match us, hl with | [_, _, _, _, _], _ => rfl),
    def_of (c.def_ 30 rfl) (He.glo_ok X G (c.fact 30 rfl)) (fun _ _ _ _ _ _ us hl => match us, hl with | [_, _, _, _, _], _ => rfl),
    def_of (c.def_ 31 rfl) (He.glo_ok X G (c.fact 31 rfl)) (fun _ _ _ _ _ _ us hl => match us, hl with | [_, _], _ => rfl),
    def_of (c.def_ 32 rfl) (He.glo_ok X G (c.fact 32 rfl)) (fun _ _ _ _ _ _ us hl => match us, hl with | [_, _], _ => rfl),
    def_of (c.def_ 33 rfl) (He.glo_ok X G (c.fact 33 rfl)) (fun _ _ _ _ _ _ us hl => match us, hl with | [_, _], _ => rfl),
    def_of (c.def_ 34 rfl) (He.glo_ok X G (c.fact 34 rfl)) (fun _ _ _ _ _ _ us hl => match us, hl with | [_, _, _], _ => rfl),
    def_of (c.def_ 35 rfl) (He.glo_ok X G (c.fact 35 rfl)) (fun _ _ _ _ _ _ us hl => match us, hl with | [_, _, _], _ => rfl),
    def_of (c.def_ 36 rfl) (He.glo_ok X G (c.fact 36 rfl)) (fun _ _ _ _ _ _ us hl => match us, hl with | [_, _], _ => rfl),
    def_of (c.def_ 37 rfl) (He.glo_ok X G (c.fact 37 rfl)) (fun _ _ _ _ _ _ us hl => match us, hl with | [_, _], _ => rfl),
    def_of (c.def_ 38 rfl) (He.glo_ok X G (c.fact 38 rfl)) (fun _ _ _ _ _ _ us hl => match us, hl with | [_, _], _ => rfl),
    def_of (c.def_ 39 rfl) (He.glo_ok X G (c.fact 39 rfl)) (fun _ _ _ _ _ _ us hl => match us, hl with | [_, _], _ => rfl),
    def_of (c.def_ 40 rfl) (He.glo_ok X G (c.fact 40 rfl)) (fun _ _ _ _ _ _ us hl => match us, hl with | [_, _], _ => rfl),
    def_of (c.def_ 41 rfl) (He.glo_ok X G (c.fact 41 rfl)) (fun _ _ _ _ _ _ us hl => match us, hl with | [_, _, _], _ => rfl),
    def_of (c.def_ 42 rfl) (He.glo_ok X G (c.fact 42 rfl)) (fun _ _ _ _ _ _ us hl => match us, hl with | [_, _, _], _ => rfl),
    def_of (c.def_ 43 rfl) (He.glo_ok X G (c.fact 43 rfl)) (fun _ _ _ _ _ _ us hl => match us, hl with | [_, _, _, _], _ => rfl),
    def_of (c.def_ 44 rfl) (He.glo_ok X G (c.fact 44 rfl)) (fun _ _ _ _ _ _ us hl => match us, hl with | [_, _], _ => rfl),
    def_of (c.def_ 45 rfl) (He.glo_ok X G (c.fact 45 rfl)) (fun _ _ _ _ _ _ us hl => match us, hl with | [_, _], _ => rfl),
    def_of (c.def_ 46 rfl) (He.glo_ok X G (c.fact 46 rfl)) (fun _ _ _ _ _ _ us hl => match us, hl with | [_, _], _ => rfl),
    def_of (c.def_ 47 rfl) (He.glo_ok X G (c.fact 47 rfl)) (fun _ _ _ _ _ _ us hl => match us, hl with | [_], _ => rfl),
    def_of (c.def_ 48 rfl) (He.glo_ok X G (c.fact 48 rfl)) (fun _ _ _ _ _ _ us hl => match us, hl with | [_], _ => rfl),
    def_of (c.def_ 49 rfl) (He.glo_ok X G (c.fact 49 rfl)) (fun _ _ _ _ _ _ us hl => match us, hl with | [_], _ => rfl),
    def_of (c.def_ 50 rfl) (He.glo_ok X G (c.fact 50 rfl)) (fun _ _ _ _ _ _ us hl => match us, hl with | [_, _, _, _], _ => rfl),
    def_of (c.def_ 51 rfl) (He.glo_ok X G (c.fact 51 rfl)) (fun _ _ _ _ _ _ us hl => match us, hl with | [_, _], _ => rfl),
    def_of (c.def_ 52 rfl) (He.glo_ok X G (c.fact 52 rfl)) (fun _ _ _ _ _ _ us hl => match us, hl with | [_, _, _, _], _ => rfl),
    def_of (c.def_ 53 rfl) (He.glo_ok X G (c.fact 53 rfl)) (fun _ _ _ _ _ _ us hl => match us, hl with | [_, _, _], _ => rfl),
    def_of (c.def_ 54 rfl) (He.glo_ok X G (c.fact 54 rfl)) (fun _ _ _ _ _ _ us hl => match us, hl with | [_, _], _ => rfl),
    def_of (c.def_ 55 rfl) (He.glo_ok X G (c.fact 55 rfl)) (fun _ _ _ _ _ _ us hl => match us, hl with | [_, _, _, _, _], _ => rfl),
    def_of (c.def_ 56 rfl) (He.glo_ok X G (c.fact 56 rfl)) (fun _ _ _ _ _ _ us hl => match us, hl with | [_, _, _], _ => rfl),
    def_of (c.def_ 57 rfl) (He.glo_ok X G (c.fact 57 rfl)) (fun _ _ _ _ _ _ us hl => match us, hl with | [_, _, _, _, _, _], _ => rfl),
    def_of (c.def_ 58 rfl) (He.glo_ok X G (c.fact 58 rfl)) (fun _ _ _ _ _ _ us hl => match us, hl with | [_], _ => rfl)⟩, He.cls_ok (c.fact 76 rfl), He.noat_ok (c.fact 77 rfl), He.noat_ok (c.fact 78 rfl), He.noat_ok (c.fact 79 rfl), He.glo_ok X G (c.fact 75 rfl), _, fd, He.mkr_ok (c.fact 80 rfl), Fi, Fi.binds fun _ _ _ _ _ _ us hl => match us, hl with | [_, _, _], _ => rfl⟩
theorem law_walk : PySem.W.WalkO seen looseL (PySem.W.XL seen []) hook.says row.toRowW lawD [] fun f vs => PySem.call f vs := by
  refine walk_law (l := PySem.Challenge.rw_endsandround_k16_whole_corner_papers) rfl h11 fun w mg fa h Y G hmg0 => ?_
  obtain ⟨K, KX, c⟩ := Y
  have hmg : mg ("law" : Str) = some (.ref fa) := by
    rw [← h12]
    exact hmg0
  have T := txt_of KX G c
  obtain ⟨f, fd, Fn, g, _⟩ := T.d.law.ex
  have e := g.symm.trans hmg
  obtain rfl : f = fa := by
    injection e with e
    injection e
  refine ⟨K, _, fd, KX, T, Fn, fun s u => ?_⟩
  obtain ⟨_, _, _, _, _, _, _, _, _, rfl, _⟩ := Fn.ex
  exact .of_eq rfl
end DL
open PySem PySem.W PySem.Calls PyProof.Rows
theorem PySem.Challenge.cw_endsandround_k16_whole_corner_papers_holds : PySem.Challenge.rw_endsandround_k16_whole_corner_papers.Holds := by
  w_on; o_law
  exact HandSHeadRun.head_any (r := TopRun.row) (q := TopRun.seen) (H := TopRun.hook) (ob := TopRun.look) (M := 20000) (loose := TopRun.looseL) (d := TopRun.lawD) (kwd := []) TopRun.look_is TopRun.h1 TopRun.h2 TopRun.goes TopRun.h3 TopRun.h4 TopRun.h5 TopRun.h6 (by assumption) TopRun.h8 TopRun.h9 TopRun.h10 DL.law_walk
