import PyProof.Rows.All
import Wide.All
import OpenK.AllK
import Wide.FinOn
import KE.KStateDown
import Lean
import HandS.ForMost
import HandS.Exc
import HandS.WordsExc
import HandS.TryOnly
import HandS.IsInst
import HandS.Wide
import HandS.WideMore
import HandS.WideBits
import HandS.Defaults
import HandS.Property
import HandS.FStr
import HandS.Style
import HandS.Flow
import HandS.HeadHook1
import HandS.HeadHook2
import HandS.More
import KE.DataMinMax
import HandS.SortKw
import HandS.Head0
import HandS.Head1
import HandS.Head2
import HandS.HeadEnd
import HandS.EndBits
import PySem.Challenge.RW_abacushead_k57_conjugators
set_option Elab.async false
set_option linter.all false
set_option maxRecDepth 100000
set_option maxHeartbeats 0
set_option exponentiation.threshold 100000
/-! PD1: plain data, how the heap bears it, the store of what changes. -/
namespace PD
open PySem L2

abbrev DK := Sum Key (List Key)
/-- plain data -/
inductive D where
  | non | bl (b : Bool) | int (i : Int) | str (s : Str)
  | tup (xs : List D) | lst (xs : List D)
  | dct (kvs : List (DK × D))
  | obj (c : Str) (fs : List (Str × D))
  | scr (ns : List Int)
/-- a value: plain, or a place of the store -/
inductive Val where
  | d (x : D) | loc (n : Nat)
/-- what stands in the store and may change -/
inductive SO where
  | lst (xs : List D) | dct (kvs : List (DK × D)) | obj (c : Str) (fs : List (Str × D))
abbrev Store := List (Option SO)
abbrev Env := List (Option Val)

/-! ### heaps -/
def Ex (H H' : Hp) : Prop := ∀ a o, H a = some o → H' a = some o
theorem Ex.refl (H : Hp) : Ex H H := fun _ _ h => h
theorem Ex.trans {H H1 H2 : Hp} (a : Ex H H1) (b : Ex H1 H2) : Ex H H2 := fun x o h => b x o (a x o h)
theorem Ex.new {H : Hp} {p : Addr} {o : HO} (h : H p = none) : Ex H (upd H p o) := fun a u e => by
  rw [upd_ne (ne_of_none e h)]
  exact e
theorem Ex.none {H H' : Hp} {p : Addr} (e : Ex H H') (h : H' p = none) : H p = none := by
  cases h1 : H p with
  | none => rfl
  | some o =>
    rw [e p o h1] at h
    cases h
theorem Ex.rd {H H' : Hp} {a : Addr} {u : HO} (e : Ex H H') (h : Rd H a u) : Rd H' a u := by
  rcases h with h | ⟨o, h⟩
  · exact Or.inl (e a _ h)
  · exact Or.inr ⟨o, e a _ h⟩
theorem Ex.l {K : PySem.W.Frag} {H H' : Hp} {a : Addr} {xs : List V} (e : Ex H H') (h : SqL K H a xs) : SqL K H' a xs := by
  rcases h with h | h
  · exact Or.inl (e.rd h)
  · exact Or.inr h
theorem Ex.t {K : PySem.W.Frag} {H H' : Hp} {a : Addr} {xs : List V} (e : Ex H H') (h : SqT K H a xs) : SqT K H' a xs := by
  rcases h with h | h
  · exact Or.inl (e.rd h)
  · exact Or.inr h

mutual
/-- the value stands for the datum, in the part of the heap that stays -/
inductive Rep (K : PySem.W.Frag) (F : Hp) : V → D → Prop
  | non : Rep K F .non .non
  | bl (b : Bool) : Rep K F (.bl b) (.bl b)
  | int (i : Int) : Rep K F (.int i) (.int i)
  | str (s : Str) : Rep K F (.str s) (.str s)
  | tup {a : Addr} {vs : List V} {ds : List D} : SqT K F a vs → Reps K F vs ds → Rep K F (.ref a) (.tup ds)
  | lst {a : Addr} {vs : List V} {ds : List D} : F a = some (.lst vs) → Reps K F vs ds → Rep K F (.ref a) (.lst ds)
  | dK {a : Addr} {kvs : List (Key × V)} {ds : List (DK × D)} : F a = some (.dK kvs) → RepK K F kvs ds → Rep K F (.ref a) (.dct ds)
  | dT {a : Addr} {kvs : List (List Key × V)} {ds : List (DK × D)} : F a = some (.dT kvs) → RepT K F kvs ds → Rep K F (.ref a) (.dct ds)
  | obj {a dx : Addr} {c : Str} {fs : List (Str × V)} {ds : List (Str × D)} : F a = some (.ins (He.ga K c) dx fs) → RepF K F fs ds → Rep K F (.ref a) (.obj c ds)
  | scr {a : Addr} {ns : List Int} : SqL K F a (ns.map V.int) → Rep K F (.ref a) (.scr ns)
inductive Reps (K : PySem.W.Frag) (F : Hp) : List V → List D → Prop
  | nil : Reps K F [] []
  | cons {v : V} {d : D} {vs : List V} {ds : List D} : Rep K F v d → Reps K F vs ds → Reps K F (v :: vs) (d :: ds)
inductive RepK (K : PySem.W.Frag) (F : Hp) : List (Key × V) → List (DK × D) → Prop
  | nil : RepK K F [] []
  | cons {k : Key} {v : V} {d : D} {vs : List (Key × V)} {ds : List (DK × D)} : Rep K F v d → RepK K F vs ds → RepK K F ((k, v) :: vs) ((.inl k, d) :: ds)
inductive RepT (K : PySem.W.Frag) (F : Hp) : List (List Key × V) → List (DK × D) → Prop
  | nil : RepT K F [] []
  | cons {k : List Key} {v : V} {d : D} {vs : List (List Key × V)} {ds : List (DK × D)} : Rep K F v d → RepT K F vs ds → RepT K F ((k, v) :: vs) ((.inr k, d) :: ds)
inductive RepF (K : PySem.W.Frag) (F : Hp) : List (Str × V) → List (Str × D) → Prop
  | nil : RepF K F [] []
  | cons {k : Str} {v : V} {d : D} {vs : List (Str × V)} {ds : List (Str × D)} : Rep K F v d → RepF K F vs ds → RepF K F ((k, v) :: vs) ((k, d) :: ds)
end
section
variable {K : PySem.W.Frag} {F F' : Hp}
mutual
theorem Rep.mono (e : Ex F F') : ∀ {v : V} {d : D}, Rep K F v d → Rep K F' v d
  | _, _, .non => .non
  | _, _, .bl b => .bl b
  | _, _, .int i => .int i
  | _, _, .str s => .str s
  | _, _, .tup h r => .tup (e.t h) (Reps.mono e r)
  | _, _, .lst h r => .lst (e _ _ h) (Reps.mono e r)
  | _, _, .scr h => .scr (e.l h)
  | _, _, .dK h r => .dK (e _ _ h) (RepK.mono e r)
  | _, _, .dT h r => .dT (e _ _ h) (RepT.mono e r)
  | _, _, .obj h r => .obj (e _ _ h) (RepF.mono e r)
theorem Reps.mono (e : Ex F F') : ∀ {v : List V} {d : List D}, Reps K F v d → Reps K F' v d
  | _, _, .nil => .nil
  | _, _, .cons h r => .cons (Rep.mono e h) (Reps.mono e r)
theorem RepK.mono (e : Ex F F') : ∀ {v : List (Key × V)} {d : List (DK × D)}, RepK K F v d → RepK K F' v d
  | _, _, .nil => .nil
  | _, _, .cons h r => .cons (Rep.mono e h) (RepK.mono e r)
theorem RepT.mono (e : Ex F F') : ∀ {v : List (List Key × V)} {d : List (DK × D)}, RepT K F v d → RepT K F' v d
  | _, _, .nil => .nil
  | _, _, .cons h r => .cons (Rep.mono e h) (RepT.mono e r)
theorem RepF.mono (e : Ex F F') : ∀ {v : List (Str × V)} {d : List (Str × D)}, RepF K F v d → RepF K F' v d
  | _, _, .nil => .nil
  | _, _, .cons h r => .cons (Rep.mono e h) (RepF.mono e r)
end
theorem Reps.length : ∀ {vs : List V} {ds : List D}, Reps K F vs ds → vs.length = ds.length
  | _, _, .nil => rfl
  | _, _, .cons _ r => congrArg Nat.succ (Reps.length r)
theorem Reps.get : ∀ {vs : List V} {ds : List D} {i : Nat} {d : D}, Reps K F vs ds → ds[i]? = some d → ∃ v, vs[i]? = some v ∧ Rep K F v d
  | _, _, _, _, .nil, e => by simp at e
  | _, _, 0, _, .cons h _, e => by
    simp at e
    subst e
    exact ⟨_, rfl, h⟩
  | _, _, i + 1, d, .cons _ r, e => by
    obtain ⟨v, h1, h2⟩ := Reps.get (i := i) (d := d) r (by simpa using e)
    exact ⟨v, by simpa using h1, h2⟩
theorem Reps.getV : ∀ {vs : List V} {ds : List D} {i : Nat} {v : V}, Reps K F vs ds → vs[i]? = some v → ∃ d, ds[i]? = some d ∧ Rep K F v d
  | _, _, _, _, .nil, e => by simp at e
  | _, _, 0, _, .cons h _, e => by
    simp at e
    subst e
    exact ⟨_, rfl, h⟩
  | _, _, i + 1, d, .cons _ r, e => by
    obtain ⟨v, h1, h2⟩ := Reps.getV (i := i) (v := d) r (by simpa using e)
    exact ⟨v, by simpa using h1, h2⟩
theorem Reps.append : ∀ {vs us : List V} {ds es : List D}, Reps K F vs ds → Reps K F us es → Reps K F (vs ++ us) (ds ++ es)
  | _, _, _, _, .nil, s => s
  | _, _, _, _, .cons h r, s => .cons h (Reps.append r s)
theorem Reps.take : ∀ {vs : List V} {ds : List D} (n : Nat), Reps K F vs ds → Reps K F (vs.take n) (ds.take n)
  | _, _, 0, _ => by simpa using Reps.nil
  | _, _, n + 1, .nil => by simpa using Reps.nil
  | _, _, n + 1, .cons h r => by simpa using Reps.cons h (Reps.take n r)
theorem Reps.drop : ∀ {vs : List V} {ds : List D} (n : Nat), Reps K F vs ds → Reps K F (vs.drop n) (ds.drop n)
  | _, _, 0, r => by simpa using r
  | _, _, n + 1, .nil => by simpa using Reps.nil
  | _, _, n + 1, .cons _ r => by simpa using Reps.drop n r
theorem Reps.set {v : V} {d : D} (h : Rep K F v d) : ∀ {vs : List V} {ds : List D} (n : Nat), Reps K F vs ds → Reps K F (vs.set n v) (ds.set n d)
  | _, _, _, .nil => by simpa using Reps.nil
  | _, _, 0, .cons _ r => by simpa using Reps.cons h r
  | _, _, n + 1, .cons q r => by simpa using Reps.cons q (Reps.set h n r)
theorem Reps.reverse : ∀ {vs : List V} {ds : List D}, Reps K F vs ds → Reps K F vs.reverse ds.reverse
  | _, _, .nil => by simpa using Reps.nil
  | _, _, .cons h r => by
    rw [List.reverse_cons, List.reverse_cons]
    exact (Reps.reverse r).append (.cons h .nil)
theorem RepF.lookup {f : Str} : ∀ {vs : List (Str × V)} {ds : List (Str × D)} {d : D}, RepF K F vs ds → ds.lookup f = some d → ∃ v, vs.lookup f = some v ∧ Rep K F v d
  | _, _, _, .nil, e => by cases e
  | _, _, d, .cons (k := k) (v := v) h r, e => by
    rw [List.lookup_cons] at e ⊢
    cases q : (f == k) with
    | true =>
      rw [q] at e
      cases e
      exact ⟨v, rfl, h⟩
    | false =>
      rw [q] at e
      exact RepF.lookup r e
theorem RepF.lookup_none {f : Str} : ∀ {vs : List (Str × V)} {ds : List (Str × D)}, RepF K F vs ds → ds.lookup f = none → vs.lookup f = none
  | _, _, .nil, e => rfl
  | _, _, .cons (k := k) (v := v) h r, e => by
    rw [List.lookup_cons] at e ⊢
    cases q : (f == k) with
    | true =>
      rw [q] at e
      cases e
    | false =>
      rw [q] at e
      exact RepF.lookup_none r e
end

/-! ### what a pure step does to the heap -/
structure Ext (F H F' H' : Hp) : Prop where
  ff : Ex F F'
  fh : Ex F' H'
  hh : Ex H H'
  nw : ∀ a o, F' a = some o → F a = some o ∨ H a = none
theorem Ext.refl {F H : Hp} (e : Ex F H) : Ext F H F H := ⟨Ex.refl _, e, Ex.refl _, fun _ _ h => .inl h⟩
theorem Ext.trans {F H F1 H1 F2 H2 : Hp} (a : Ext F H F1 H1) (b : Ext F1 H1 F2 H2) : Ext F H F2 H2 :=
  ⟨a.ff.trans b.ff, b.fh, a.hh.trans b.hh, fun p o h => by
    rcases b.nw p o h with h1 | h1
    · exact a.nw p o h1
    · exact .inr (a.hh.none h1)⟩
/-- a new object, frozen at once -/
theorem Ext.new {F H : Hp} {p : Addr} {o : HO} (e : Ex F H) (h : H p = none) : Ext F H (upd F p o) (upd H p o) := by
  have hf : F p = none := e.none h
  refine ⟨Ex.new hf, fun a u q => ?_, Ex.new h, fun a u q => ?_⟩
  · by_cases ha : a = p
    · subst ha
      rw [upd_same] at q ⊢
      exact q
    · rw [upd_ne ha] at q ⊢
      exact e a u q
  · by_cases ha : a = p
    · subst ha
      exact .inr h
    · rw [upd_ne ha] at q
      exact .inl q
/-- a new object that is of no matter -/
theorem Ext.junk {F H : Hp} {p : Addr} {o : HO} (e : Ex F H) (h : H p = none) : Ext F H F (upd H p o) :=
  ⟨Ex.refl _, e.trans (Ex.new h), Ex.new h, fun _ _ q => .inl q⟩

/-! ### the store -/
/-- the object at a is o: its parts are plain -/
def ORep (K : PySem.W.Frag) (F H : Hp) (a : Addr) : SO → Prop
  | .lst ds => ∃ xs, H a = some (.lst xs) ∧ Reps K F xs ds
  | .dct ds => (∃ kvs, H a = some (.dK kvs) ∧ RepK K F kvs ds) ∨ ∃ kvs, H a = some (.dT kvs) ∧ RepT K F kvs ds
  | .obj c ds => ∃ dx fs, H a = some (.ins (He.ga K c) dx fs) ∧ RepF K F fs ds
theorem ORep.mono {K : PySem.W.Frag} {F F' H H' : Hp} {a : Addr} {o : SO} (e : Ex F F') (he : ∀ u, H a = some u → H' a = some u) (h : ORep K F H a o) : ORep K F' H' a o := by
  cases o with
  | lst ds =>
    obtain ⟨xs, h1, h2⟩ := h
    exact ⟨xs, he _ h1, h2.mono e⟩
  | dct ds =>
    rcases h with ⟨xs, h1, h2⟩ | ⟨xs, h1, h2⟩
    · exact .inl ⟨xs, he _ h1, h2.mono e⟩
    · exact .inr ⟨xs, he _ h1, h2.mono e⟩
  | obj c ds =>
    obtain ⟨dx, fs, h1, h2⟩ := h
    exact ⟨dx, fs, he _ h1, h2.mono e⟩
theorem ORep.some {K : PySem.W.Frag} {F H : Hp} {a : Addr} {o : SO} (h : ORep K F H a o) : H a ≠ none := by
  cases o with
  | lst ds =>
    obtain ⟨xs, h1, h2⟩ := h
    rw [h1]
    exact fun z => nomatch z
  | dct ds =>
    rcases h with ⟨xs, h1, h2⟩ | ⟨xs, h1, h2⟩ <;> (rw [h1]; exact fun z => nomatch z)
  | obj c ds =>
    obtain ⟨dx, fs, h1, h2⟩ := h
    rw [h1]
    exact fun z => nomatch z

/-- B: what stood at the entry and stays; F0: the frozen part at the entry; m: where the store's things stand -/
structure Rl (K : PySem.W.Frag) (B F0 F H : Hp) (m : List Addr) (S : Store) : Prop where
  ex : Ex F H
  exB : Ex B H
  f0 : Ex F0 F
  nw : ∀ a o, F a = some o → F0 a = some o ∨ B a = none
  len : m.length = S.length
  nd : m.Nodup
  al : ∀ a ∈ m, B a = none ∧ H a ≠ none ∧ F0 a = none
  ob : ∀ (n : Nat) (o : SO), S[n]? = some (some o) → ∃ a, m[n]? = some a ∧ F a = none ∧ ORep K F H a o
section
variable {K : PySem.W.Frag} {B F0 F H F' H' : Hp} {m : List Addr} {S : Store}
theorem Rl.ext (r : Rl K B F0 F H m S) (e : Ext F H F' H') : Rl K B F0 F' H' m S where
  ex := e.fh
  exB := r.exB.trans e.hh
  f0 := r.f0.trans e.ff
  nw := fun a o h => by
    rcases e.nw a o h with h1 | h1
    · exact r.nw a o h1
    · exact .inr (r.exB.none h1)
  len := r.len
  nd := r.nd
  al := fun a h => by
    obtain ⟨h1, h2, h3⟩ := r.al a h
    refine ⟨h1, fun z => h2 (e.hh.none z), h3⟩
  ob := fun n o h => by
    obtain ⟨a, h1, h2, h3⟩ := r.ob n o h
    refine ⟨a, h1, ?_, h3.mono e.ff fun u q => e.hh _ _ q⟩
    cases q : F' a with
    | none => rfl
    | some u =>
      rcases e.nw a u q with z | z
      · rw [h2] at z
        cases z
      · exact absurd z h3.some
/-- at a pure def's entry -/
theorem Rl.entry (e : Ex F H) : Rl K H F F H [] [] :=
  ⟨e, Ex.refl _, Ex.refl _, fun _ _ h => .inl h, rfl, List.nodup_nil, fun _ h => (nomatch h), fun n o h => by simp at h⟩
/-- a pure def's end -/
theorem Rl.leave (r : Rl K H F F' H' m S) : Ext F H F' H' := ⟨r.f0, r.ex, r.exB, r.nw⟩
end

/-! ### values and slots -/
def VRep (K : PySem.W.Frag) (F : Hp) (m : List Addr) (x : V) : Val → Prop
  | .d y => Rep K F x y
  | .loc n => ∃ a, m[n]? = some a ∧ x = .ref a
theorem pre_get {m m' : List Addr} {n : Nat} {a : Addr} (p : m <+: m') (h : m[n]? = some a) : m'[n]? = some a := by
  obtain ⟨t, rfl⟩ := p
  have hlt : n < m.length := (List.getElem?_eq_some_iff.mp h).1
  rw [List.getElem?_append_left hlt]
  exact h
theorem VRep.mono {K : PySem.W.Frag} {F F' : Hp} {m m' : List Addr} {x : V} {v : Val} (e : Ex F F') (p : m <+: m') (h : VRep K F m x v) : VRep K F' m' x v := by
  cases v with
  | d y => exact Rep.mono e h
  | loc n =>
    obtain ⟨a, h1, h2⟩ := h
    exact ⟨a, pre_get p h1, h2⟩
structure EnvR (K : PySem.W.Frag) (F : Hp) (m : List Addr) (σ : St) (ρ : Env) : Prop where
  len : ρ.length = σ.length
  at_ : ∀ (i : Nat) (v : Val), ρ[i]? = some (some v) → ∃ x, σ[i]? = some (some x) ∧ VRep K F m x v
theorem EnvR.mono {K : PySem.W.Frag} {F F' : Hp} {m m' : List Addr} {σ : St} {ρ : Env} (e : Ex F F') (p : m <+: m') (h : EnvR K F m σ ρ) : EnvR K F' m' σ ρ :=
  ⟨h.len, fun i v q => by
    obtain ⟨x, h1, h2⟩ := h.at_ i v q
    exact ⟨x, h1, h2.mono e p⟩⟩
theorem EnvR.set {K : PySem.W.Frag} {F : Hp} {m : List Addr} {σ : St} {ρ : Env} {i : Nat} {x : V} {v : Val} (h : EnvR K F m σ ρ) (r : VRep K F m x v) : EnvR K F m (σ.set i (some x)) (ρ.set i (some v)) :=
  ⟨by rw [List.length_set, List.length_set, h.len], fun j w q => by
    rw [List.getElem?_set] at q
    by_cases hij : i = j
    · rw [if_pos hij] at q
      by_cases hl : i < ρ.length
      · rw [if_pos hl] at q
        cases q
        refine ⟨x, ?_, r⟩
        rw [List.getElem?_set, if_pos hij, if_pos (by rw [← h.len]; exact hl)]
      · rw [if_neg hl] at q
        cases q
    · rw [if_neg hij] at q
      obtain ⟨y, h1, h2⟩ := h.at_ j w q
      refine ⟨y, ?_, h2⟩
      rw [List.getElem?_set, if_neg hij]
      exact h1⟩
/-- fewer names are known -/
theorem EnvR.forget {K : PySem.W.Frag} {F : Hp} {m : List Addr} {σ : St} {ρ ρ' : Env} (h : EnvR K F m σ ρ) (hl : ρ'.length = ρ.length) (hs : ∀ (i : Nat) (v : Val), ρ'[i]? = some (some v) → ρ[i]? = some (some v)) : EnvR K F m σ ρ' :=
  ⟨hl.trans h.len, fun i v q => h.at_ i v (hs i v q)⟩

/-- what a value shows now: plain data, or a list or dict of the store -/
def soD : Option (Option SO) → Option D
  | some (some (.lst ds)) => some (.lst ds)
  | some (some (.dct ds)) => some (.dct ds)
  | some (some (.obj c fs)) => some (.obj c fs)
  | _ => none
def asD (S : Store) : Val → Option D
  | .d x => some x
  | .loc n => soD S[n]?
/-- it can be read so now; its parts are plain -/
inductive TRep (K : PySem.W.Frag) (F H : Hp) : V → D → Prop
  | rep {x : V} {d : D} : Rep K F x d → TRep K F H x d
  | lst {a : Addr} {xs : List V} {ds : List D} : H a = some (.lst xs) → Reps K F xs ds → TRep K F H (.ref a) (.lst ds)
  | dK {a : Addr} {kvs : List (Key × V)} {ds : List (DK × D)} : H a = some (.dK kvs) → RepK K F kvs ds → TRep K F H (.ref a) (.dct ds)
  | dT {a : Addr} {kvs : List (List Key × V)} {ds : List (DK × D)} : H a = some (.dT kvs) → RepT K F kvs ds → TRep K F H (.ref a) (.dct ds)
  | obj {a dx : Addr} {c : Str} {fs : List (Str × V)} {ds : List (Str × D)} : H a = some (.ins (He.ga K c) dx fs) → RepF K F fs ds → TRep K F H (.ref a) (.obj c ds)
theorem asD_rep {K : PySem.W.Frag} {B F0 F H : Hp} {m : List Addr} {S : Store} {x : V} {v : Val} {d : D} (r : Rl K B F0 F H m S) (h : VRep K F m x v) (e : asD S v = some d) : TRep K F H x d := by
  cases v with
  | d y =>
    cases e
    exact .rep h
  | loc n =>
    obtain ⟨a, h1, rfl⟩ := h
    have e : soD S[n]? = some d := e
    cases q : S[n]? with
    | none =>
      rw [q] at e
      cases e
    | some so =>
      rw [q] at e
      cases so with
      | none => cases e
      | some o =>
        obtain ⟨b, hb, hf, ho⟩ := r.ob n o q
        rw [h1] at hb
        cases hb
        cases o with
        | lst ds =>
          cases e
          obtain ⟨xs, h2, h3⟩ := ho
          exact .lst h2 h3
        | dct ds =>
          cases e
          rcases ho with ⟨xs, h2, h3⟩ | ⟨xs, h2, h3⟩
          · exact .dK h2 h3
          · exact .dT h2 h3
        | obj c fs =>
          cases e
          obtain ⟨dx, xs, h2, h3⟩ := ho
          exact .obj h2 h3
section
variable {K : PySem.W.Frag} {F H F' H' : Hp} {x : V}
theorem TRep.ext {d : D} (e : Ext F H F' H') (h : TRep K F H x d) : TRep K F' H' x d := by
  cases h with
  | rep r => exact .rep (r.mono e.ff)
  | lst h r => exact .lst (e.hh _ _ h) (r.mono e.ff)
  | dK h r => exact .dK (e.hh _ _ h) (r.mono e.ff)
  | dT h r => exact .dT (e.hh _ _ h) (r.mono e.ff)
  | obj h r => exact .obj (e.hh _ _ h) (r.mono e.ff)
theorem TRep.int {i : Int} (h : TRep K F H x (.int i)) : x = .int i := by
  cases h with
  | rep r => cases r; rfl
theorem TRep.bl {b : Bool} (h : TRep K F H x (.bl b)) : x = .bl b := by
  cases h with
  | rep r => cases r; rfl
theorem TRep.str {s : Str} (h : TRep K F H x (.str s)) : x = .str s := by
  cases h with
  | rep r => cases r; rfl
theorem TRep.non (h : TRep K F H x .non) : x = .non := by
  cases h with
  | rep r => cases r; rfl
theorem TRep.list {ds : List D} (e : Ex F H) (h : TRep K F H x (.lst ds)) : ∃ a xs, x = .ref a ∧ H a = some (.lst xs) ∧ Reps K F xs ds := by
  cases h with
  | rep r =>
    cases r with
    | lst h r => exact ⟨_, _, rfl, e _ _ h, r⟩
  | lst h r => exact ⟨_, _, rfl, h, r⟩
theorem TRep.script {ns : List Int} (e : Ex F H) (h : TRep K F H x (.scr ns)) : ∃ a, x = .ref a ∧ SqL K H a (ns.map V.int) := by
  cases h with
  | rep r =>
    cases r with
    | scr h => exact ⟨_, rfl, e.l h⟩
theorem TRep.tuple {ds : List D} (e : Ex F H) (h : TRep K F H x (.tup ds)) : ∃ a xs, x = .ref a ∧ SqT K H a xs ∧ Reps K F xs ds := by
  cases h with
  | rep r =>
    cases r with
    | tup h r => exact ⟨_, _, rfl, e.t h, r⟩
theorem TRep.object {c : Str} {ds : List (Str × D)} (e : Ex F H) (h : TRep K F H x (.obj c ds)) : ∃ a dx fs, x = .ref a ∧ H a = some (.ins (He.ga K c) dx fs) ∧ RepF K F fs ds := by
  cases h with
  | rep r =>
    cases r with
    | obj h r => exact ⟨_, _, _, rfl, e _ _ h, r⟩
  | obj h r => exact ⟨_, _, _, rfl, h, r⟩
theorem Rep.int_ {i : Int} (h : Rep K F x (.int i)) : x = .int i := by cases h; rfl
theorem Rep.bl_ {b : Bool} (h : Rep K F x (.bl b)) : x = .bl b := by cases h; rfl
theorem Rep.str_ {s : Str} (h : Rep K F x (.str s)) : x = .str s := by cases h; rfl
theorem Rep.non_ (h : Rep K F x .non) : x = .non := by cases h; rfl
end
end PD

/-! PD2: results, the readings that a plain function induces, the glue. -/
namespace PD
open PySem L2

/-- how a piece of the text ends: a value; an error of the class c with the field's value x; no word -/
inductive R (α : Type) where
  | ok (a : α) (S : Store) | exc (c : Str) (x : D) (S : Store) | bad
def M (α : Type) : Type := Store → R α
@[inline] def M.ret {α : Type} (a : α) : M α := fun S => .ok a S
@[inline] def M.fail {α : Type} : M α := fun _ => .bad
def R.bind {α β : Type} (r : R α) (k : α → M β) : R β := match r with
  | .ok a S => k a S
  | .exc c x S => .exc c x S
  | .bad => .bad
@[inline] def M.bind {α β : Type} (x : M α) (k : α → M β) : M β := fun S => (x S).bind k
instance : Monad M where
  pure a := M.ret a
  bind x k := M.bind x k
theorem bind_def {α β : Type} (x : M α) (k : α → M β) : (x >>= k) = M.bind x k := rfl
theorem bind_at {α β : Type} (x : M α) (k : α → M β) (S : Store) : (x >>= k) S = (x S).bind k := rfl
theorem pure_at {α : Type} (a : α) (S : Store) : (pure a : M α) S = .ok a S := rfl
theorem ret_at {α : Type} (a : α) (S : Store) : (M.ret a : M α) S = .ok a S := rfl
theorem fail_at {α : Type} (S : Store) : (M.fail : M α) S = .bad := rfl
theorem bind_ok {α β : Type} (a : α) (S : Store) (k : α → M β) : (R.ok a S).bind k = k a S := rfl
theorem bind_exc {α β : Type} (c : Str) (x : D) (S : Store) (k : α → M β) : (R.exc c x S : R α).bind k = .exc c x S := rfl
theorem bind_bad {α β : Type} (k : α → M β) : (R.bad : R α).bind k = .bad := rfl
/-- of an option -/
def M.of {α : Type} : Option α → M α
  | some a => M.ret a
  | none => M.fail

/-- the module's part of a context -/
structure Gm where
  P : Program
  w : World
  K : PySem.W.Frag
  mg : Str → Option Value
  base : Heap
  fld : Str → Str
/-- an error in the air -/
def XRep (G : Gm) (F : Hp) (c : Str) (y : D) (cls : Value) (d : Option Addr) : Prop :=
  cls = .ref (He.ga G.K c) ∧ ∃ dd v, d = some dd ∧ F dd = some (.xd [(G.fld c, v)]) ∧ Rep G.K F v y
theorem XRep.mono {G : Gm} {F F' : Hp} {c : Str} {y : D} {cls : Value} {d : Option Addr} (e : Ex F F') (h : XRep G F c y cls d) : XRep G F' c y cls d := by
  obtain ⟨h1, dd, v, h2, h3, h4⟩ := h
  exact ⟨h1, dd, v, h2, e _ _ h3, h4.mono e⟩

/-- what must hold behind an expression that ends so -/
def pE (G : Gm) (W : WX) (σ : L2.St) (B F0 F : Hp) (m : List Addr) (Q : V → Hp → Prop) : R Val → Prop
  | .ok v S' => ∀ x H' F' m', Ex F F' → m <+: m' → Rl G.K B F0 F' H' m' S' → VRep G.K F' m' x v → Q x H'
  | .exc c y S' => ∀ cls d H' F' m', Ex F F' → m <+: m' → Rl G.K B F0 F' H' m' S' → XRep G F' c y cls d → W cls d σ H'
  | .bad => False
def pT (G : Gm) (W : WX) (σ : L2.St) (B F0 F : Hp) (m : List Addr) (Q : Bool → Hp → Prop) : R Bool → Prop
  | .ok b S' => ∀ H' F' m', Ex F F' → m <+: m' → Rl G.K B F0 F' H' m' S' → Q b H'
  | .exc c y S' => ∀ cls d H' F' m', Ex F F' → m <+: m' → Rl G.K B F0 F' H' m' S' → XRep G F' c y cls d → W cls d σ H'
  | .bad => False
inductive VReps (K : PySem.W.Frag) (F : Hp) (m : List Addr) : List V → List Val → Prop
  | nil : VReps K F m [] []
  | cons {x : V} {v : Val} {xs : List V} {vs : List Val} : VRep K F m x v → VReps K F m xs vs → VReps K F m (x :: xs) (v :: vs)
theorem VReps.mono {K : PySem.W.Frag} {F F' : Hp} {m m' : List Addr} (e : Ex F F') (p : m <+: m') : ∀ {xs : List V} {vs : List Val}, VReps K F m xs vs → VReps K F' m' xs vs
  | _, _, .nil => .nil
  | _, _, .cons h r => .cons (h.mono e p) (VReps.mono e p r)
theorem VReps.length {K : PySem.W.Frag} {F : Hp} {m : List Addr} : ∀ {xs : List V} {vs : List Val}, VReps K F m xs vs → xs.length = vs.length
  | _, _, .nil => rfl
  | _, _, .cons _ r => congrArg Nat.succ (VReps.length r)
def pA (G : Gm) (W : WX) (σ : L2.St) (B F0 F : Hp) (m : List Addr) (Q : List V → Hp → Prop) : R (List Val) → Prop
  | .ok vs S' => ∀ xs H' F' m', Ex F F' → m <+: m' → Rl G.K B F0 F' H' m' S' → VReps G.K F' m' xs vs → Q xs H'
  | .exc c y S' => ∀ cls d H' F' m', Ex F F' → m <+: m' → Rl G.K B F0 F' H' m' S' → XRep G F' c y cls d → W cls d σ H'
  | .bad => False
/-- a piece of a def's state -/
structure At (G : Gm) (σ : L2.St) (H : Hp) (B F0 F : Hp) (m : List Addr) (ρ : Env) (S : Store) : Prop where
  env : EnvR G.K F m σ ρ
  rl : Rl G.K B F0 F H m S
/-- the readings of plain functions -/
def tE (G : Gm) (W : WX) (f : Env → M Val) : TE := fun σ H Q => ∃ B F0 F m ρ S, At G σ H B F0 F m ρ S ∧ pE G W σ B F0 F m Q (f ρ S)
def tT (G : Gm) (W : WX) (f : Env → M Bool) : TT := fun σ H Q => ∃ B F0 F m ρ S, At G σ H B F0 F m ρ S ∧ pT G W σ B F0 F m Q (f ρ S)
def tA (G : Gm) (W : WX) (f : Env → M (List Val)) : TA := fun σ H Q => ∃ B F0 F m ρ S, At G σ H B F0 F m ρ S ∧ pA G W σ B F0 F m Q (f ρ S)

section
variable {X : Cx}
theorem PE.imp {e : Expr} {t t' : TE} (h : PE X e t) (i : ∀ σ H Q, t' σ H Q → t σ H Q) : PE X e t' := ⟨fun pins s σ H Q I q => h.run pins s σ H Q I (i σ H Q q)⟩
theorem PT.imp {e : Expr} {t t' : TT} (h : PT X e t) (i : ∀ σ H Q, t' σ H Q → t σ H Q) : PT X e t' := ⟨fun pins s σ H Q I q => h.run pins s σ H Q I (i σ H Q q)⟩
theorem PW.imp {e : Expr} {t t' : TT} (h : PW X e t) (i : ∀ σ H Q, t' σ H Q → t σ H Q) : PW X e t' := ⟨fun whole pins s σ H Q I q => h.run whole pins s σ H Q I (i σ H Q q)⟩
theorem PA.imp {es : List Expr} {t t' : TA} (h : PA X es t) (i : ∀ σ H Q, t' σ H Q → t σ H Q) : PA X es t' := ⟨fun pos pins s σ H Q I q => h.run pos pins s σ H Q I (i σ H Q q)⟩
theorem PS.imp {st : Stmt} {t t' : TS} (h : PS X st t) (i : ∀ D σ H, t' D σ H → t D σ H) : PS X st t' := ⟨fun pins s σ H D I q => h.run pins s σ H D I (i D σ H q)⟩
theorem PSs.imp {st : List Stmt} {t t' : TS} (h : PSs X st t) (i : ∀ D σ H, t' D σ H → t D σ H) : PSs X st t' := ⟨fun pins s σ H D I q => h.run pins s σ H D I (i D σ H q)⟩
end

section
variable {G : Gm} {W : WX} {σ : L2.St} {H : Hp} {B F0 F F1 : Hp} {m m1 : List Addr} {ρ : Env} {S : Store}
theorem pre_trans {a b c : List Addr} (h : a <+: b) (k : b <+: c) : a <+: c := h.trans k
theorem pE.mono {Q : V → Hp → Prop} {r : R Val} (e : Ex F F1) (p : m <+: m1) (h : pE G W σ B F0 F m Q r) : pE G W σ B F0 F1 m1 Q r := by
  cases r with
  | ok v S' => exact fun x H' F' m' e' p' => h x H' F' m' (e.trans e') (p.trans p')
  | exc c y S' => exact fun cls d H' F' m' e' p' => h cls d H' F' m' (e.trans e') (p.trans p')
  | bad => exact h
theorem pT.mono {Q : Bool → Hp → Prop} {r : R Bool} (e : Ex F F1) (p : m <+: m1) (h : pT G W σ B F0 F m Q r) : pT G W σ B F0 F1 m1 Q r := by
  cases r with
  | ok v S' => exact fun H' F' m' e' p' => h H' F' m' (e.trans e') (p.trans p')
  | exc c y S' => exact fun cls d H' F' m' e' p' => h cls d H' F' m' (e.trans e') (p.trans p')
  | bad => exact h
theorem pA.mono {Q : List V → Hp → Prop} {r : R (List Val)} (e : Ex F F1) (p : m <+: m1) (h : pA G W σ B F0 F m Q r) : pA G W σ B F0 F1 m1 Q r := by
  cases r with
  | ok v S' => exact fun x H' F' m' e' p' => h x H' F' m' (e.trans e') (p.trans p')
  | exc c y S' => exact fun cls d H' F' m' e' p' => h cls d H' F' m' (e.trans e') (p.trans p')
  | bad => exact h
/-- behind a step: the state goes on -/
theorem At.go {H1 : Hp} {S1 : Store} (a : At G σ H B F0 F m ρ S) (e : Ex F F1) (p : m <+: m1) (r : Rl G.K B F0 F1 H1 m1 S1) : At G σ H1 B F0 F1 m1 ρ S1 := ⟨a.env.mono e p, r⟩
theorem At.ext {F1 H1 : Hp} (a : At G σ H B F0 F m ρ S) (e : Ext F H F1 H1) : At G σ H1 B F0 F1 m ρ S := ⟨a.env.mono e.ff (List.prefix_refl m), a.rl.ext e⟩

/-- what stands behind the evaluation of an expression, ahead of k -/
def Nx (G : Gm) (W : WX) (σ : L2.St) (B F0 F : Hp) (m : List Addr) (ρ : Env) (x : V) (H1 : Hp) {β : Type} (post : Hp → List Addr → R β → Prop) (k : Val → M β) : Prop :=
  ∃ F1 m1 S1 v, Ex F F1 ∧ m <+: m1 ∧ At G σ H1 B F0 F1 m1 ρ S1 ∧ VRep G.K F1 m1 x v ∧ post F1 m1 (k v S1)
/-- first an expression, then the rest: the error's way is one -/
theorem seqE {β : Type} {fa : Env → M Val} {k : Val → M β} {post : Hp → List Addr → R β → Prop} (a : At G σ H B F0 F m ρ S)
    (hm : ∀ {F F1 m m1 r}, Ex F F1 → m <+: m1 → post F m r → post F1 m1 r) (hx : ∀ c y S', post F m (.exc c y S') → ∀ cls d H' F' m', Ex F F' → m <+: m' → Rl G.K B F0 F' H' m' S' → XRep G F' c y cls d → W cls d σ H') (hb : post F m .bad → False)
    (h : post F m ((fa ρ S).bind k)) : tE G W fa σ H (fun x H1 => Nx G W σ B F0 F m ρ x H1 post k) := by
  refine ⟨B, F0, F, m, ρ, S, a, ?_⟩
  cases q : fa ρ S with
  | ok v S1 =>
    rw [q] at h
    exact fun x H' F' m' e p r vr => ⟨F', m', S1, v, e, p, a.go e p r, vr, hm e p h⟩
  | exc c y S1 =>
    rw [q] at h
    exact hx c y S1 h
  | bad =>
    rw [q] at h
    exact hb h
theorem seqEE {Q : V → Hp → Prop} {fa : Env → M Val} {k : Val → M Val} (a : At G σ H B F0 F m ρ S) (h : pE G W σ B F0 F m Q ((fa ρ S).bind k)) :
    tE G W fa σ H (fun x H1 => Nx G W σ B F0 F m ρ x H1 (fun F m r => pE G W σ B F0 F m Q r) k) := seqE a pE.mono (fun _ _ _ z => z) (fun z => z) h
theorem seqET {Q : Bool → Hp → Prop} {fa : Env → M Val} {k : Val → M Bool} (a : At G σ H B F0 F m ρ S) (h : pT G W σ B F0 F m Q ((fa ρ S).bind k)) :
    tE G W fa σ H (fun x H1 => Nx G W σ B F0 F m ρ x H1 (fun F m r => pT G W σ B F0 F m Q r) k) := seqE a pT.mono (fun _ _ _ z => z) (fun z => z) h
theorem seqEA {Q : List V → Hp → Prop} {fa : Env → M Val} {k : Val → M (List Val)} (a : At G σ H B F0 F m ρ S) (h : pA G W σ B F0 F m Q ((fa ρ S).bind k)) :
    tE G W fa σ H (fun x H1 => Nx G W σ B F0 F m ρ x H1 (fun F m r => pA G W σ B F0 F m Q r) k) := seqE a pA.mono (fun _ _ _ z => z) (fun z => z) h
/-- the same ahead of which a test stands -/
def NxT (G : Gm) (W : WX) (σ : L2.St) (B F0 F : Hp) (m : List Addr) (ρ : Env) (b : Bool) (H1 : Hp) {β : Type} (post : Hp → List Addr → R β → Prop) (k : Bool → M β) : Prop :=
  ∃ F1 m1 S1, Ex F F1 ∧ m <+: m1 ∧ At G σ H1 B F0 F1 m1 ρ S1 ∧ post F1 m1 (k b S1)
theorem seqT {β : Type} {fa : Env → M Bool} {k : Bool → M β} {post : Hp → List Addr → R β → Prop} (a : At G σ H B F0 F m ρ S)
    (hm : ∀ {F F1 m m1 r}, Ex F F1 → m <+: m1 → post F m r → post F1 m1 r) (hx : ∀ c y S', post F m (.exc c y S') → ∀ cls d H' F' m', Ex F F' → m <+: m' → Rl G.K B F0 F' H' m' S' → XRep G F' c y cls d → W cls d σ H') (hb : post F m .bad → False)
    (h : post F m ((fa ρ S).bind k)) : tT G W fa σ H (fun b H1 => NxT G W σ B F0 F m ρ b H1 post k) := by
  refine ⟨B, F0, F, m, ρ, S, a, ?_⟩
  cases q : fa ρ S with
  | ok v S1 =>
    rw [q] at h
    exact fun H' F' m' e p r => ⟨F', m', S1, e, p, a.go e p r, hm e p h⟩
  | exc c y S1 =>
    rw [q] at h
    exact hx c y S1 h
  | bad =>
    rw [q] at h
    exact hb h
theorem seqTE {Q : V → Hp → Prop} {fa : Env → M Bool} {k : Bool → M Val} (a : At G σ H B F0 F m ρ S) (h : pE G W σ B F0 F m Q ((fa ρ S).bind k)) :
    tT G W fa σ H (fun b H1 => NxT G W σ B F0 F m ρ b H1 (fun F m r => pE G W σ B F0 F m Q r) k) := seqT a pE.mono (fun _ _ _ z => z) (fun z => z) h
theorem seqTT {Q : Bool → Hp → Prop} {fa : Env → M Bool} {k : Bool → M Bool} (a : At G σ H B F0 F m ρ S) (h : pT G W σ B F0 F m Q ((fa ρ S).bind k)) :
    tT G W fa σ H (fun b H1 => NxT G W σ B F0 F m ρ b H1 (fun F m r => pT G W σ B F0 F m Q r) k) := seqT a pT.mono (fun _ _ _ z => z) (fun z => z) h
/-- arguments first -/
theorem seqA {β : Type} {fa : Env → M (List Val)} {k : List Val → M β} {post : Hp → List Addr → R β → Prop} (a : At G σ H B F0 F m ρ S)
    (hm : ∀ {F F1 m m1 r}, Ex F F1 → m <+: m1 → post F m r → post F1 m1 r) (hx : ∀ c y S', post F m (.exc c y S') → ∀ cls d H' F' m', Ex F F' → m <+: m' → Rl G.K B F0 F' H' m' S' → XRep G F' c y cls d → W cls d σ H') (hb : post F m .bad → False)
    (h : post F m ((fa ρ S).bind k)) : tA G W fa σ H (fun xs H1 => ∃ F1 m1 S1 vs, Ex F F1 ∧ m <+: m1 ∧ At G σ H1 B F0 F1 m1 ρ S1 ∧ VReps G.K F1 m1 xs vs ∧ post F1 m1 (k vs S1)) := by
  refine ⟨B, F0, F, m, ρ, S, a, ?_⟩
  cases q : fa ρ S with
  | ok v S1 =>
    rw [q] at h
    exact fun x H' F' m' e p r vr => ⟨F', m', S1, v, e, p, a.go e p r, vr, hm e p h⟩
  | exc c y S1 =>
    rw [q] at h
    exact hx c y S1 h
  | bad =>
    rw [q] at h
    exact hb h
theorem seqAE {Q : V → Hp → Prop} {fa : Env → M (List Val)} {k : List Val → M Val} (a : At G σ H B F0 F m ρ S) (h : pE G W σ B F0 F m Q ((fa ρ S).bind k)) :
    tA G W fa σ H (fun xs H1 => ∃ F1 m1 S1 vs, Ex F F1 ∧ m <+: m1 ∧ At G σ H1 B F0 F1 m1 ρ S1 ∧ VReps G.K F1 m1 xs vs ∧ pE G W σ B F0 F1 m1 Q (k vs S1)) :=
  seqA (post := fun F m r => pE G W σ B F0 F m Q r) a pE.mono (fun _ _ _ z => z) (fun z => z) h
/-- a plain value comes, by a pure step -/
theorem pE.here {Q : V → Hp → Prop} {d : D} {x : V} {F' H' : Hp} (r : Rl G.K B F0 F H m S) (h : pE G W σ B F0 F m Q (.ok (.d d) S)) (e : Ext F H F' H') (q : Rep G.K F' x d) : Q x H' :=
  h x H' F' m e.ff (List.prefix_refl m) (r.ext e) q
end

/-! ### two-place operations on what the values show -/
def op2 (g : D → D → Option D) (v w : Val) : M Val := fun S => match asD S v, asD S w with
  | some a, some b => (match g a b with
    | some d => .ok (.d d) S
    | none => .bad)
  | _, _ => .bad
def op1 (g : D → Option D) (v : Val) : M Val := fun S => match asD S v with
  | some a => (match g a with
    | some d => .ok (.d d) S
    | none => .bad)
  | none => .bad
/-- the rule r serves g -/
def Op2 (K : PySem.W.Frag) (r : R2) (g : D → D → Option D) : Prop := ∀ (F H : Hp) (x y : V) (a b d : D), Ex F H → TRep K F H x a → TRep K F H y b → g a b = some d →
  ∀ Q : VK, (∀ z F' H', Ext F H F' H' → Rep K F' z d → Q z H') → r x y H Q
def Op1 (K : PySem.W.Frag) (r : V → Hp → VK → Prop) (g : D → Option D) : Prop := ∀ (F H : Hp) (x : V) (a d : D), Ex F H → TRep K F H x a → g a = some d →
  ∀ Q : VK, (∀ z F' H', Ext F H F' H' → Rep K F' z d → Q z H') → r x H Q
section
variable {G : Gm} {W : WX} {σ : L2.St} {H : Hp} {B F0 F : Hp} {m : List Addr} {ρ : Env} {S : Store}
theorem pE.op2 {r : R2} {g : D → D → Option D} {x y : V} {v w : Val} {Q : VK} (o : Op2 G.K r g) (a : Rl G.K B F0 F H m S) (hx : VRep G.K F m x v) (hy : VRep G.K F m y w) (h : pE G W σ B F0 F m Q (op2 g v w S)) : r x y H Q := by
  unfold PD.op2 at h
  cases q1 : asD S v with
  | none =>
    rw [q1] at h
    exact h.elim
  | some a1 =>
    cases q2 : asD S w with
    | none =>
      rw [q1, q2] at h
      exact h.elim
    | some b1 =>
      rw [q1, q2] at h
      cases q3 : g a1 b1 with
      | none =>
        have h' : pE G W σ B F0 F m Q (match g a1 b1 with | some d => R.ok (.d d) S | none => .bad) := h
        rw [q3] at h'
        exact h'.elim
      | some d =>
        have h' : pE G W σ B F0 F m Q (match g a1 b1 with | some d => R.ok (.d d) S | none => .bad) := h
        rw [q3] at h'
        exact o F H x y a1 b1 d a.ex (asD_rep a hx q1) (asD_rep a hy q2) q3 Q fun z F' H' e z' => pE.here a h' e z'
theorem pE.op1 {r : V → Hp → VK → Prop} {g : D → Option D} {x : V} {v : Val} {Q : VK} (o : Op1 G.K r g) (a : Rl G.K B F0 F H m S) (hx : VRep G.K F m x v) (h : pE G W σ B F0 F m Q (op1 g v S)) : r x H Q := by
  unfold PD.op1 at h
  cases q1 : asD S v with
  | none =>
    rw [q1] at h
    exact h.elim
  | some a1 =>
    rw [q1] at h
    have h' : pE G W σ B F0 F m Q (match g a1 with | some d => R.ok (.d d) S | none => .bad) := h
    cases q3 : g a1 with
    | none =>
      rw [q3] at h'
      exact h'.elim
    | some d =>
      rw [q3] at h'
      exact o F H x a1 d a.ex (asD_rep a hx q1) q3 Q fun z F' H' e z' => pE.here a h' e z'
end
section
variable {G : Gm} {W : WX} {X : Cx} {a b c : Expr} {fa fb fc : Env → M Val} {pos : Pos}
theorem rd_op {r : R2} {g : D → D → Option D} (o : Op2 G.K r g) (σ : L2.St) (H : Hp) (Q : VK) (h : tE G W (fun ρ => fa ρ >>= fun v => fb ρ >>= fun w => op2 g v w) σ H Q) : tOp r (tE G W fa) (tE G W fb) σ H Q := by
  obtain ⟨B, F0, F, m, ρ, S, at_, h⟩ := h
  obtain ⟨B', F0', F', m', ρ', S', a', h'⟩ := seqEE (fa := fa) (k := fun v => fb ρ >>= fun w => op2 g v w) at_ h
  refine ⟨B', F0', F', m', ρ', S', a', ?_⟩
  refine pE_imp h' fun x H1 z => ?_
  obtain ⟨F1, m1, S1, v, e1, p1, a1, v1, h1⟩ := z
  obtain ⟨B2, F02, F2, m2, ρ2, S2, a2, h2⟩ := seqEE (fa := fb) (k := fun w => op2 g v w) a1 h1
  refine ⟨B2, F02, F2, m2, ρ2, S2, a2, ?_⟩
  refine pE_imp h2 fun y H2 z => ?_
  obtain ⟨F3, m3, S3, w, e3, p3, a3, v3, h3⟩ := z
  exact pE.op2 o a3.rl (v1.mono e3 p3) v3 h3
where
  pE_imp {G : Gm} {W : WX} {σ : L2.St} {B F0 F : Hp} {m : List Addr} {Q Q' : VK} {r : R Val} (h : pE G W σ B F0 F m Q r) (i : ∀ x H, Q x H → Q' x H) : pE G W σ B F0 F m Q' r := by
    cases r with
    | ok v S' => exact fun x H' F' m' e p r v => i _ _ (h x H' F' m' e p r v)
    | exc c y S' => exact h
    | bad => exact h
end
end PD

/-! PD3: operators on plain data. -/
namespace PD
open PySem L2

/-! ### sizes -/
def mulFits (i j : Int) : Bool := decide (i.natAbs.log2 + j.natAbs.log2 < 130000000)
theorem mulFits.ok {i j : Int} (h : mulFits i j = true) : IntMulOk i j := by
  have h3 : i.natAbs.log2 + j.natAbs.log2 < 130000000 := of_decide_eq_true h
  have b : ∀ x : Int, Builtin.Int.intBits x ≤ x.natAbs.log2 + 1 := fun x => by
    unfold Builtin.Int.intBits
    split <;> omega
  have h1 := b i
  have h2 := b j
  have e : bitsLine = 134217728 := by decide
  unfold IntMulOk
  intro z
  rw [Bool.and_eq_true] at z
  have z2 := z.2
  unfold Builtin.Int.intTooBig at z2
  have z3 := of_decide_eq_true z2
  rw [e] at z3
  omega
def powFits (i j : Int) : Bool := decide (0 ≤ j) && decide ((i.natAbs.log2 + 1 : Int) * j ≤ 100000000)
theorem powFits.ok {i j : Int} (h : powFits i j = true) : 0 ≤ j ∧ (Builtin.Int.intBits i : Int) * j ≤ 2 ^ 27 := by
  obtain ⟨h1, h2⟩ := Bool.and_eq_true_iff.mp h
  have h1 : 0 ≤ j := of_decide_eq_true h1
  have h2 : (i.natAbs.log2 + 1 : Int) * j ≤ 100000000 := of_decide_eq_true h2
  refine ⟨h1, ?_⟩
  have b : (Builtin.Int.intBits i : Int) ≤ (i.natAbs.log2 + 1 : Int) := by
    unfold Builtin.Int.intBits
    split <;> omega
  have b2 := Int.mul_le_mul_of_nonneg_right b h1
  omega
def divFits (i j : Int) : Bool := decide (j ≠ 0) && !Builtin.divisionGoesByPylong i j

/-! ### D and the library's data -/
mutual
def toPy : D → Option PyData
  | .non => some .none
  | .bl b => some (.bool b)
  | .int i => some (.int i)
  | .str s => some (.str s)
  | .tup xs => (toPys xs).map .tuple
  | .lst xs => (toPys xs).map .list
  | .scr ns => some (.list (ns.map .int))
  | .dct _ => none
  | .obj _ _ => none
def toPys : List D → Option (List PyData)
  | [] => some []
  | d :: ds => match toPy d, toPys ds with
    | some x, some xs => some (x :: xs)
    | _, _ => none
end
theorem dp_ints {K : PySem.W.Frag} {H : Hp} : ∀ ns : List Int, DpAll K H (ns.map V.int) (ns.map .int)
  | [] => .nil
  | n :: ns => .cons (.int n) (dp_ints ns)
mutual
theorem Rep.dp {K : PySem.W.Frag} {F H : Hp} (e : Ex F H) : ∀ {v : V} {d : D} {p : PyData}, Rep K F v d → toPy d = some p → Dp K H v p
  | _, _, _, .non, q => by cases q; exact .non
  | _, _, _, .bl b, q => by cases q; exact .bl b
  | _, _, _, .int i, q => by cases q; exact .int i
  | _, _, _, .str s, q => by cases q; exact .str s
  | _, _, p, .tup (ds := ds) h r, q => by
    have q : (toPys ds).map PyData.tuple = some p := by rw [← q]; simp only [toPy]
    cases z : toPys ds with
    | none => rw [z] at q; cases q
    | some ps =>
      rw [z] at q
      cases q
      exact .tup (e.t h) (Reps.dp e r z)
  | _, _, p, .lst (ds := ds) h r, q => by
    have q : (toPys ds).map PyData.list = some p := by rw [← q]; simp only [toPy]
    cases z : toPys ds with
    | none => rw [z] at q; cases q
    | some ps =>
      rw [z] at q
      cases q
      exact .lst (.inl (.inl (e _ _ h))) (Reps.dp e r z)
  | _, _, p, .scr (ns := ns) h, q => by
    have q : some (PyData.list (ns.map .int)) = some p := by rw [← q]; simp only [toPy]
    cases q
    exact .lst (e.l h) (dp_ints ns)
  | _, _, p, .dK (ds := ds) h r, q => by
    have q : (none : Option PyData) = some p := by rw [← q]; simp only [toPy]
    cases q
  | _, _, p, .dT (ds := ds) h r, q => by
    have q : (none : Option PyData) = some p := by rw [← q]; simp only [toPy]
    cases q
  | _, _, p, .obj (ds := ds) h r, q => by
    have q : (none : Option PyData) = some p := by rw [← q]; simp only [toPy]
    cases q
theorem Reps.dp {K : PySem.W.Frag} {F H : Hp} (e : Ex F H) : ∀ {v : List V} {d : List D} {p : List PyData}, Reps K F v d → toPys d = some p → DpAll K H v p
  | _, _, p, .nil, q => by
    have q : some ([] : List PyData) = some p := by rw [← q]; simp only [toPys]
    cases q
    exact .nil
  | _, _, p, .cons (d := d) (ds := ds) h r, q => by
    have q : (match toPy d, toPys ds with | some x, some xs => some (x :: xs) | _, _ => none) = some p := by rw [← q]; simp only [toPys]
    cases z1 : toPy d with
    | none => rw [z1] at q; cases q
    | some x =>
      cases z2 : toPys ds with
      | none => rw [z1, z2] at q; cases q
      | some xs =>
        rw [z1, z2] at q
        cases q
        exact .cons (Rep.dp e h z1) (Reps.dp e r z2)
end
theorem TRep.dp {K : PySem.W.Frag} {F H : Hp} (e : Ex F H) {v : V} {d : D} {p : PyData} (h : TRep K F H v d) (q : toPy d = some p) : Dp K H v p := by
  cases h with
  | rep r => exact r.dp e q
  | lst h r =>
    rename_i a xs ds
    have q : (toPys ds).map PyData.list = some p := by rw [← q]; simp only [toPy]
    cases z : toPys ds with
    | none => rw [z] at q; cases q
    | some ps =>
      rw [z] at q
      cases q
      exact .lst (.inl (.inl h)) (r.dp e z)
  | dK h r =>
    have q : (none : Option PyData) = some p := by rw [← q]; simp only [toPy]
    cases q
  | dT h r =>
    have q : (none : Option PyData) = some p := by rw [← q]; simp only [toPy]
    cases q
  | obj h r =>
    have q : (none : Option PyData) = some p := by rw [← q]; simp only [toPy]
    cases q

/-! ### the operators -/
def addD : D → D → Option D
  | .int i, .int j => some (.int (i + j))
  | .str x, .str y => if x.length + y.length ≤ sizeLine then some (.str (x ++ y)) else none
  | .lst xs, .lst ys => if xs.length + ys.length ≤ sizeLine then some (.lst (xs ++ ys)) else none
  | .tup (x :: xs), .tup (y :: ys) => if (x :: xs).length + (y :: ys).length ≤ sizeLine then some (.tup ((x :: xs) ++ (y :: ys))) else none
  | _, _ => none
def subD : D → D → Option D
  | .int i, .int j => some (.int (i - j))
  | _, _ => none
def mulD : D → D → Option D
  | .int i, .int j => if mulFits i j then some (.int (i * j)) else none
  | .lst xs, .int k => if decide (-(2 ^ 63) ≤ k) && decide (k < 2 ^ 63) && decide (xs.length * k.toNat ≤ sizeLine) then some (.lst (List.replicate k.toNat xs).flatten) else none
  | _, _ => none
def fdivD : D → D → Option D
  | .int i, .int j => if divFits i j then some (.int (i.fdiv j)) else none
  | _, _ => none
def modD : D → D → Option D
  | .int i, .int j => if j = 0 then none else some (.int (i.fmod j))
  | _, _ => none
def powD : D → D → Option D
  | .int i, .int j => if powFits i j then some (.int (i ^ j.toNat)) else none
  | _, _ => none
def binD : Operator → D → D → Option D
  | .Add => addD
  | .Sub => subD
  | .Mult => mulD
  | .FloorDiv => fdivD
  | .Mod => modD
  | .Pow => powD
  | _ => fun _ _ => none
def ltD : D → D → Option D
  | .int i, .int j => some (.bl (decide (i < j)))
  | _, _ => none
def leD : D → D → Option D
  | .int i, .int j => some (.bl (decide (i ≤ j)))
  | _, _ => none
def gtD : D → D → Option D
  | .int i, .int j => some (.bl (decide (j < i)))
  | _, _ => none
def geD : D → D → Option D
  | .int i, .int j => some (.bl (decide (j ≤ i)))
  | _, _ => none
def eqB (a b : D) : Option Bool := match toPy a, toPy b with
  | some x, some y => if SeqAt.shaped x && SeqAt.shaped y then some (x.eqv y) else none
  | _, _ => none
def eqD (a b : D) : Option D := (eqB a b).map .bl
def neD (a b : D) : Option D := (eqB a b).map fun c => .bl (!c)
def isNon : D → Bool
  | .non => true
  | _ => false
def isD (a : D) : D → Option D
  | .non => some (.bl (isNon a))
  | _ => none
def notD (a : D) : D → Option D
  | .non => some (.bl (!isNon a))
  | _ => none
/-- flat things -/
def flatD : D → Bool
  | .non => true
  | .bl _ => true
  | .int _ => true
  | .str _ => true
  | _ => false
def eqF : D → D → Bool
  | .non, .non => true
  | .bl a, .bl b => a == b
  | .bl a, .int b => (if a = true then 1 else 0) == b
  | .int a, .bl b => a == (if b = true then 1 else 0)
  | .int a, .int b => a == b
  | .str a, .str b => a == b
  | _, _ => false
def memF (a : D) (xs : List D) : Bool := xs.any fun y => eqF y a
def inB (a : D) : D → Option Bool
  | .lst xs => if flatD a && xs.all flatD then some (memF a xs) else none
  | .tup xs => if flatD a && xs.all flatD then some (memF a xs) else none
  | .str z => (match a with
    | .str y => some (!(Builtin.Str.occurrences z y 0 z.length 1).isEmpty)
    | _ => none)
  | _ => none
def inD (a b : D) : Option D := (inB a b).map .bl
def ninD (a b : D) : Option D := (inB a b).map fun c => .bl (!c)
def cmpD : CmpOp → D → D → Option D
  | .Lt => ltD
  | .LtE => leD
  | .Gt => gtD
  | .GtE => geD
  | .Eq => eqD
  | .NotEq => neD
  | .Is => isD
  | .IsNot => notD
  | .In => inD
  | .NotIn => ninD

theorem OpR.or {X : Cx} {f : Value → Value → Sem Value} {r s : R2} (h : OpR X f r) (k : OpR X f s) : OpR X f (fun x y H Q => r x y H Q ∨ s x y H Q) := fun pins st σ H x y v u Q I rx ry q => by
  rcases q with q | q
  · exact h pins st σ H x y v u Q I rx ry q
  · exact k pins st σ H x y v u Q I rx ry q
section
variable {K : PySem.W.Frag}
theorem o2_int {f : Int → Int → Option Int} {C : Int → Int → Prop} {g : Int → Int → Int} {h : D → D → Option D} (hh : ∀ a b d, h a b = some d → ∃ i j, a = .int i ∧ b = .int j ∧ C i j ∧ d = .int (g i j)) : Op2 K (rI C fun i j => .int (g i j)) h :=
  fun F H x y a b d e hx hy q Q k => by
    obtain ⟨i, j, rfl, rfl, c, rfl⟩ := hh a b d q
    exact ⟨i, j, hx.int, hy.int, c, k _ F H (Ext.refl e) (.int _)⟩
theorem o2_cmp {p : Int → Int → Bool} {h : D → D → Option D} (hh : ∀ a b d, h a b = some d → ∃ i j, a = .int i ∧ b = .int j ∧ d = .bl (p i j)) : Op2 K (rI0 fun i j => .bl (p i j)) h :=
  fun F H x y a b d e hx hy q Q k => by
    obtain ⟨i, j, rfl, rfl, rfl⟩ := hh a b d q
    exact ⟨i, j, hx.int, hy.int, k _ F H (Ext.refl e) (.bl _)⟩
theorem lt_i {a b d : D} (h : ltD a b = some d) : ∃ i j, a = .int i ∧ b = .int j ∧ d = .bl (decide (i < j)) := by
  unfold ltD at h; split at h
  · cases h; exact ⟨_, _, rfl, rfl, rfl⟩
  · cases h
theorem le_i {a b d : D} (h : leD a b = some d) : ∃ i j, a = .int i ∧ b = .int j ∧ d = .bl (decide (i ≤ j)) := by
  unfold leD at h; split at h
  · cases h; exact ⟨_, _, rfl, rfl, rfl⟩
  · cases h
theorem gt_i {a b d : D} (h : gtD a b = some d) : ∃ i j, a = .int i ∧ b = .int j ∧ d = .bl (decide (j < i)) := by
  unfold gtD at h; split at h
  · cases h; exact ⟨_, _, rfl, rfl, rfl⟩
  · cases h
theorem ge_i {a b d : D} (h : geD a b = some d) : ∃ i j, a = .int i ∧ b = .int j ∧ d = .bl (decide (j ≤ i)) := by
  unfold geD at h; split at h
  · cases h; exact ⟨_, _, rfl, rfl, rfl⟩
  · cases h
theorem sub_i {a b d : D} (h : subD a b = some d) : ∃ i j, a = .int i ∧ b = .int j ∧ True ∧ d = .int (i - j) := by
  unfold subD at h; split at h
  · cases h; exact ⟨_, _, rfl, rfl, trivial, rfl⟩
  · cases h
theorem mod_i {a b d : D} (h : modD a b = some d) : ∃ i j, a = .int i ∧ b = .int j ∧ j ≠ 0 ∧ d = .int (i.fmod j) := by
  unfold modD at h; split at h
  · split at h
    · cases h
    · cases h; exact ⟨_, _, rfl, rfl, by assumption, rfl⟩
  · cases h
theorem fdiv_i {a b d : D} (h : fdivD a b = some d) : ∃ i j, a = .int i ∧ b = .int j ∧ divFits i j = true ∧ d = .int (i.fdiv j) := by
  unfold fdivD at h; split at h
  · split at h
    · cases h; exact ⟨_, _, rfl, rfl, by assumption, rfl⟩
    · cases h
  · cases h
theorem pow_i {a b d : D} (h : powD a b = some d) : ∃ i j, a = .int i ∧ b = .int j ∧ powFits i j = true ∧ d = .int (i ^ j.toNat) := by
  unfold powD at h; split at h
  · split at h
    · cases h; exact ⟨_, _, rfl, rfl, by assumption, rfl⟩
    · cases h
  · cases h
theorem flat_of {F H : Hp} {x : V} {d : D} (h : TRep K F H x d) (f : flatD d = true) : flatV x = true := by
  cases d <;> first | (cases f; done) | skip
  · rw [h.non]; rfl
  · rw [h.bl]; rfl
  · rw [h.int]; rfl
  · rw [h.str]; rfl
theorem flat_all {F : Hp} : ∀ {xs : List V} {ds : List D}, Reps K F xs ds → ds.all flatD = true → xs.all flatV = true
  | _, _, .nil, _ => rfl
  | _, _, .cons h r, f => by
    rw [List.all_cons, Bool.and_eq_true] at f ⊢
    exact ⟨flat_of (H := F) (.rep h) f.1, flat_all r f.2⟩
theorem eqF_of {F H : Hp} {x y : V} {a b : D} (hx : TRep K F H x a) (hy : TRep K F H y b) (fa : flatD a = true) (fb : flatD b = true) : eqV x y = eqF a b := by
  cases a <;> first | (cases fa; done) | skip
  all_goals (cases b <;> first | (cases fb; done) | skip)
  all_goals (first | rw [hx.non] | rw [hx.bl] | rw [hx.int] | rw [hx.str])
  all_goals (first | rw [hy.non] | rw [hy.bl] | rw [hy.int] | rw [hy.str])
  all_goals rfl
theorem mem_of {F H : Hp} {x : V} {a : D} (hx : TRep K F H x a) (fa : flatD a = true) : ∀ {xs : List V} {ds : List D}, Reps K F xs ds → ds.all flatD = true → inV x xs = memF a ds
  | _, _, .nil, _ => rfl
  | _, _, .cons (v := v) (vs := vs) (d := d) (ds := ds) h r, f => by
    rw [List.all_cons, Bool.and_eq_true] at f
    have e1 := eqF_of (H := H) (.rep h) hx f.1 fa
    have e2 := mem_of hx fa r f.2
    show (eqV v x || inV x vs) = (eqF d a || memF a ds)
    rw [e1, e2]
end

/-! ### the rules by operator -/
section
variable {X : Cx}
theorem isNon_of {K : PySem.W.Frag} {F H : Hp} {x : V} {a : D} (h : TRep K F H x a) : decide (x = .non) = isNon a := by
  cases h with
  | rep r => cases r <;> rfl
  | _ => rfl
theorem opr_fdiv : OpR X (binaryOp .FloorDiv) (rI (fun i j => divFits i j = true) fun i j => .int (i.fdiv j)) := opI fun i j _ _ _ _ _ hc q => by
  obtain ⟨h1, h2⟩ := Bool.and_eq_true_iff.mp hc
  exact PyProof.Rows.floordiv_int (of_decide_eq_true h1) q (.inl (by simpa using h2))
theorem opr_pow : OpR X (binaryOp .Pow) (rI (fun i j => powFits i j = true) fun i j => .int (i ^ j.toNat)) := opI fun i j _ _ _ _ _ hc q => by
  obtain ⟨h1, h2⟩ := powFits.ok hc
  exact PyProof.Rows.pow_int h1 h2 q
theorem opr_mul : OpR X (binaryOp .Mult) (rI (fun i j => mulFits i j = true) fun i j => .int (i * j)) := opI fun _ _ _ _ _ _ _ hc q => PyProof.Rows.mul_int q (mulFits.ok hc)
theorem opr_sub : OpR X (binaryOp .Sub) (rI (fun _ _ => True) fun i j => .int (i - j)) := fun pins s σ H x y v u Q I rx ry h => by
  obtain ⟨i, j, h1, h2, _, q⟩ := h
  exact op_sub pins s σ H x y v u Q I rx ry ⟨i, j, h1, h2, q⟩
/-- for each operator a rule that serves its function -/
theorem bin_rule (op : Operator) : ∃ r : R2, (∀ X : Cx, X.K = K → OpR X (binaryOp op) r) ∧ Op2 K r (binD op) := by
  have never : ∃ r : R2, (∀ X : Cx, X.K = K → OpR X (binaryOp op) r) ∧ Op2 K r (fun _ _ => none) := ⟨fun _ _ _ _ => False, fun X _ pins s σ H x y v u Q I rx ry h => h.elim, fun F H x y a b d e hx hy q => by cases q⟩
  cases op with
  | Add =>
    refine ⟨fun x y H Q => rI0 (fun i j => V.int (i + j)) x y H Q ∨ (∃ i j, x = V.str i ∧ y = V.str j ∧ i.length + j.length ≤ sizeLine ∧ Q (V.str (i ++ j)) H) ∨ rCat x y H Q ∨ rCatT K x y H Q, fun X hK => ?_, fun F H x y a b d e hx hy q Q k => ?_⟩
    · subst hK
      exact OpR.or op_add (OpR.or op_add_str (OpR.or op_cat op_catT))
    · have q : addD a b = some d := q
      unfold addD at q
      split at q
      · cases q
        exact .inl ⟨_, _, hx.int, hy.int, k _ F H (Ext.refl e) (.int _)⟩
      · split at q
        · cases q
          exact .inr (.inl ⟨_, _, hx.str, hy.str, by assumption, k _ F H (Ext.refl e) (.str _)⟩)
        · cases q
      · split at q
        · cases q
          rename_i hl
          obtain ⟨l, xs, rfl, h1, r1⟩ := hx.list e
          obtain ⟨b', ys, rfl, h2, r2⟩ := hy.list e
          refine .inr (.inr (.inl ⟨l, b', xs, ys, rfl, rfl, h1, h2, by rw [r1.length, r2.length]; exact hl, fun p hp => ?_⟩))
          exact k _ _ _ (Ext.new e hp) (.lst upd_same ((r1.append r2).mono (Ex.new (e.none hp))))
        · cases q
      · split at q
        · cases q
          rename_i hl
          obtain ⟨l, xs, rfl, h1, r1⟩ := hx.tuple e
          obtain ⟨b', ys, rfl, h2, r2⟩ := hy.tuple e
          refine .inr (.inr (.inr ⟨l, b', xs, ys, rfl, rfl, h1, h2, ?_, by rw [r1.length, r2.length]; exact hl, fun z => ?_, fun _ p hp => ?_⟩))
          · intro z
            rw [z] at r1
            cases r1
          · rw [z] at r2
            cases r2
          · exact k _ _ _ (Ext.new e hp) (.tup (.inl (.inl upd_same)) ((r1.append r2).mono (Ex.new (e.none hp))))
        · cases q
      · cases q
  | Sub => exact ⟨_, fun X _ => opr_sub, o2_int (f := fun _ _ => none) fun a b d h => sub_i h⟩
  | Mult =>
    refine ⟨fun x y H Q => rI (fun i j => mulFits i j = true) (fun i j => V.int (i * j)) x y H Q ∨ rRep x y H Q, fun X hK => OpR.or opr_mul op_rep, fun F H x y a b d e hx hy q Q k => ?_⟩
    have q : mulD a b = some d := q
    unfold mulD at q
    split at q
    · split at q
      · cases q
        exact .inl ⟨_, _, hx.int, hy.int, by assumption, k _ F H (Ext.refl e) (.int _)⟩
      · cases q
    · split at q
      · cases q
        rename_i hl
        rw [Bool.and_eq_true, Bool.and_eq_true] at hl
        obtain ⟨l, xs, rfl, h1, r1⟩ := hx.list e
        refine .inr ⟨l, _, xs, rfl, hy.int, h1, of_decide_eq_true hl.1.1, of_decide_eq_true hl.1.2, by rw [r1.length]; exact of_decide_eq_true hl.2, fun p hp => ?_⟩
        refine k _ _ _ (Ext.new e hp) (.lst upd_same (Reps.mono (Ex.new (e.none hp)) ?_))
        exact rep_flat r1 _
      · cases q
    · cases q
  | FloorDiv => exact ⟨_, fun X _ => opr_fdiv, o2_int (f := fun _ _ => none) fun a b d h => fdiv_i h⟩
  | Mod => exact ⟨_, fun X _ => op_modN, o2_int (f := fun _ _ => none) fun a b d h => mod_i h⟩
  | Pow => exact ⟨_, fun X _ => opr_pow, o2_int (f := fun _ _ => none) fun a b d h => pow_i h⟩
  | MatMult => exact never
  | Div => exact never
  | LShift => exact never
  | RShift => exact never
  | BitOr => exact never
  | BitXor => exact never
  | BitAnd => exact never
where
  rep_flat {K : PySem.W.Frag} {F : Hp} {xs : List V} {ds : List D} (r : Reps K F xs ds) : ∀ n : Nat, Reps K F (List.replicate n xs).flatten (List.replicate n ds).flatten
    | 0 => by simpa using Reps.nil
    | n + 1 => by
      rw [List.replicate_succ, List.replicate_succ, List.flatten_cons, List.flatten_cons]
      exact r.append (rep_flat r n)
theorem cmp_rule (op : CmpOp) : ∃ r : R2, (∀ X : Cx, X.K = K → X.A.units + 64 < cLine → OpR X (compareOp op) r) ∧ Op2 K r (cmpD op) := by
  cases op with
  | Lt => exact ⟨_, fun X _ _ => op_lt, o2_cmp fun a b d h => lt_i h⟩
  | LtE => exact ⟨_, fun X _ _ => op_le, o2_cmp fun a b d h => le_i h⟩
  | Gt => exact ⟨_, fun X _ _ => op_gt, o2_cmp fun a b d h => gt_i h⟩
  | GtE => exact ⟨_, fun X _ _ => op_ge, o2_cmp fun a b d h => ge_i h⟩
  | Eq =>
    refine ⟨rEqD K, fun X hK hu => by subst hK; exact op_eqD hu, fun F H x y a b d e hx hy q Q k => ?_⟩
    obtain ⟨p1, p2, q1, q2, s1, s2, c, rfl⟩ := eq_inv q
    exact ⟨p1, p2, hx.dp e q1, hy.dp e q2, s1, s2, k _ F H (Ext.refl e) (.bl _)⟩
  | NotEq =>
    refine ⟨rNeD K, fun X hK hu => by subst hK; exact op_neD hu, fun F H x y a b d e hx hy q Q k => ?_⟩
    obtain ⟨p1, p2, q1, q2, s1, s2, c, rfl⟩ := ne_inv q
    exact ⟨p1, p2, hx.dp e q1, hy.dp e q2, s1, s2, k _ F H (Ext.refl e) (.bl _)⟩
  | Is =>
    refine ⟨_, fun X _ _ => op_isN, fun F H x y a b d e hx hy q Q k => ?_⟩
    have q : isD a b = some d := q
    unfold isD at q
    split at q
    · cases q
      exact ⟨hy.non, k _ F H (Ext.refl e) (by rw [isNon_of hx]; exact .bl _)⟩
    · cases q
  | IsNot =>
    refine ⟨_, fun X _ _ => op_notN, fun F H x y a b d e hx hy q Q k => ?_⟩
    have q : notD a b = some d := q
    unfold notD at q
    split at q
    · cases q
      exact ⟨hy.non, k _ F H (Ext.refl e) (by rw [isNon_of hx]; exact .bl _)⟩
    · cases q
  | In =>
    refine ⟨fun x y H Q => rIn K false x y H Q ∨ (∃ i j, x = V.str i ∧ y = V.str j ∧ Q (V.bl !(Builtin.Str.occurrences j i 0 j.length 1).isEmpty) H), fun X hK _ => by subst hK; exact OpR.or op_in_seq op_in_str, fun F H x y a b d e hx hy q Q k => ?_⟩
    have q : (inB a b).map D.bl = some d := q
    cases z : inB a b with
    | none => rw [z] at q; cases q
    | some c =>
      rw [z] at q
      cases q
      rcases in_inv e hx hy z with ⟨p, xs, e1, e2, e3, e4, e5⟩ | ⟨i, j, e1, e2, e3⟩
      · exact .inl ⟨p, xs, e1, e2, e3, e4, k _ F H (Ext.refl e) (by rw [if_neg Bool.false_ne_true, e5]; exact .bl _)⟩
      · exact .inr ⟨i, j, e1, e2, k _ F H (Ext.refl e) (by rw [e3]; exact .bl _)⟩
  | NotIn =>
    refine ⟨fun x y H Q => rIn K true x y H Q ∨ (∃ i j, x = V.str i ∧ y = V.str j ∧ Q (V.bl !!(Builtin.Str.occurrences j i 0 j.length 1).isEmpty) H), fun X hK _ => by subst hK; exact OpR.or op_notIn_seq op_notIn_str, fun F H x y a b d e hx hy q Q k => ?_⟩
    have q : (inB a b).map (fun c => D.bl (!c)) = some d := q
    cases z : inB a b with
    | none => rw [z] at q; cases q
    | some c =>
      rw [z] at q
      cases q
      rcases in_inv e hx hy z with ⟨p, xs, e1, e2, e3, e4, e5⟩ | ⟨i, j, e1, e2, e3⟩
      · exact .inl ⟨p, xs, e1, e2, e3, e4, k _ F H (Ext.refl e) (by rw [if_pos rfl, e5]; exact .bl _)⟩
      · exact .inr ⟨i, j, e1, e2, k _ F H (Ext.refl e) (by rw [← e3]; exact .bl _)⟩
where
  eq_inv {a b d : D} (q : eqD a b = some d) : ∃ p1 p2, toPy a = some p1 ∧ toPy b = some p2 ∧ SeqAt.shaped p1 = true ∧ SeqAt.shaped p2 = true ∧ True ∧ d = .bl (p1.eqv p2) := by
    unfold eqD eqB at q
    cases z1 : toPy a with
    | none => rw [z1] at q; cases q
    | some p1 =>
      cases z2 : toPy b with
      | none => rw [z1, z2] at q; cases q
      | some p2 =>
        rw [z1, z2] at q
        cases hs : (SeqAt.shaped p1 && SeqAt.shaped p2) with
        | false =>
          have q : (if (SeqAt.shaped p1 && SeqAt.shaped p2) = true then some (p1.eqv p2) else none).map D.bl = some d := q
          rw [hs] at q
          cases q
        | true =>
          have q : (if (SeqAt.shaped p1 && SeqAt.shaped p2) = true then some (p1.eqv p2) else none).map D.bl = some d := q
          rw [hs] at q
          cases q
          obtain ⟨s1, s2⟩ := Bool.and_eq_true_iff.mp hs
          exact ⟨p1, p2, rfl, rfl, s1, s2, trivial, rfl⟩
  ne_inv {a b d : D} (q : neD a b = some d) : ∃ p1 p2, toPy a = some p1 ∧ toPy b = some p2 ∧ SeqAt.shaped p1 = true ∧ SeqAt.shaped p2 = true ∧ True ∧ d = .bl (!p1.eqv p2) := by
    unfold neD eqB at q
    cases z1 : toPy a with
    | none => rw [z1] at q; cases q
    | some p1 =>
      cases z2 : toPy b with
      | none => rw [z1, z2] at q; cases q
      | some p2 =>
        rw [z1, z2] at q
        cases hs : (SeqAt.shaped p1 && SeqAt.shaped p2) with
        | false =>
          have q : (if (SeqAt.shaped p1 && SeqAt.shaped p2) = true then some (p1.eqv p2) else none).map (fun c => D.bl (!c)) = some d := q
          rw [hs] at q
          cases q
        | true =>
          have q : (if (SeqAt.shaped p1 && SeqAt.shaped p2) = true then some (p1.eqv p2) else none).map (fun c => D.bl (!c)) = some d := q
          rw [hs] at q
          cases q
          obtain ⟨s1, s2⟩ := Bool.and_eq_true_iff.mp hs
          exact ⟨p1, p2, rfl, rfl, s1, s2, trivial, rfl⟩
  in_inv {K : PySem.W.Frag} {F H : Hp} {x y : V} {a b : D} {c : Bool} (e : Ex F H) (hx : TRep K F H x a) (hy : TRep K F H y b) (z : inB a b = some c) :
      (∃ p xs, y = .ref p ∧ (SqL K H p xs ∨ SqT K H p xs) ∧ flatV x = true ∧ xs.all flatV = true ∧ inV x xs = c) ∨ (∃ i j, x = .str i ∧ y = .str j ∧ (!(Builtin.Str.occurrences j i 0 j.length 1).isEmpty) = c) := by
    unfold inB at z
    split at z
    · split at z
      · cases z
        rename_i hf
        obtain ⟨f1, f2⟩ := Bool.and_eq_true_iff.mp hf
        obtain ⟨p, xs, rfl, h1, r1⟩ := hy.list e
        exact .inl ⟨p, xs, rfl, .inl (.inl (.inl h1)), flat_of hx f1, flat_all r1 f2, mem_of hx f1 r1 f2⟩
      · cases z
    · split at z
      · cases z
        rename_i hf
        obtain ⟨f1, f2⟩ := Bool.and_eq_true_iff.mp hf
        obtain ⟨p, xs, rfl, h1, r1⟩ := hy.tuple e
        exact .inl ⟨p, xs, rfl, .inr h1, flat_of hx f1, flat_all r1 f2, mem_of hx f1 r1 f2⟩
      · cases z
    · split at z
      · cases z
        exact .inr ⟨_, _, hx.str, hy.str, rfl⟩
      · cases z
    · cases z
end
end PD

/-! PD4: rules for expressions, over readings that plain functions induce. -/
namespace PD
open PySem L2

/-- where the text runs: the module's facts, the names by slot, the scope, the room, what is wished of errors -/
structure Good (G : Gm) (W : WX) (N : List Str) (sc oc : Scope) (lv : Nat) (X : Cx) : Prop where
  prog : X.prog = G.P
  w : X.w = G.w
  K : X.K = G.K
  mg : X.mg = G.mg
  base : X.base = G.base
  hN : X.N = N
  hs : X.env.scope = sc
  calm : X.calm = true
  room : Room lv X.A
  tk : Takes X W
  nd : N.Nodup
  fn : ∀ x, oc.names.lookup x = some .cell → X.fn x = true
  po : PassesOwn (model X.prog X.w) X.A X.env X.xe
theorem Good.gl {G : Gm} {W : WX} {N : List Str} {sc oc : Scope} {lv : Nat} {X : Cx} (g : Good G W N sc oc lv X) {x : Str} (h : sc.names.lookup x = some .globalImplicit) : Gl X x := by
  unfold Gl Env.kindOf
  rw [g.hs]
  exact h
theorem Good.un {G : Gm} {W : WX} {N : List Str} {sc oc : Scope} {lv : Nat} {X : Cx} (g : Good G W N sc oc lv X) : X.A.units + 64 < cLine := g.room.units

/-- a name that is stored here -/
def LocO (sc oc : Scope) (x : Str) : Prop := sc.names.lookup x = some .local ∨ (sc.names.lookup x = some .cell ∧ oc.names.lookup x = some .cell)
theorem LocO.loc {sc oc : Scope} {x : Str} (h : LocO sc oc x) : Loc sc x := by
  rcases h with h | ⟨h, _⟩
  · exact .inl h
  · exact .inr h
theorem LocO.fn {G : Gm} {W : WX} {N : List Str} {sc oc : Scope} {lv : Nat} {X : Cx} (g : Good G W N sc oc lv X) {x : Str} (h : LocO sc oc x) : X.fn x = true ∨ X.env.scope.names.lookup x = some .local := by
  rcases h with h | ⟨_, h⟩
  · exact .inr (by rw [g.hs]; exact h)
  · exact .inl (g.fn x h)

/-! ### shapes of the text -/
def notSet : Expr → Bool
  | .Set .. => false
  | _ => true
def notStar : Expr → Bool
  | .Starred .. => false
  | _ => true
def plainTest : Expr → Bool
  | .Name .. => true
  | .Call .. => true
  | .Attribute .. => true
  | .Subscript .. => true
  | .Constant .. => true
  | _ => false
def notCall0 : Expr → Bool
  | .Call (.Name _ _) [] [] _ => false
  | _ => true
theorem marks_of {op : CmpOp} {b : Expr} (h : notSet b = true) : behindInMarks op b = false := by
  cases b <;> first | rfl | cases h
theorem lastMarks_of {o1 o2 : CmpOp} {b c : Expr} (h : notSet c = true) : lastMarks [o1, o2] [b, c] = false := by
  show lastMarks [o2] [c] = false
  exact marks_of h
theorem star_of {e : Expr} {es : List Expr} {env : PySem.Env} (h : notStar e = true) : starEach (e :: es) env = (false, eval e env) :: starEach es env := by
  cases e <;> first | rfl | cases h
theorem stars_plain {pos : Pos} {env : PySem.Env} : ∀ {es : List Expr}, es.all notStar = true → ((backTo pos (starEach es env)).any fun x => x.fst) = false
  | [], _ => rfl
  | e :: es, h => by
    rw [List.all_cons, Bool.and_eq_true] at h
    rw [star_of h.1]
    have ih := stars_plain (pos := pos) (env := env) h.2
    unfold backTo at ih ⊢
    rw [List.map_cons, List.any_cons, ih]
    rfl
theorem test_of {e : Expr} {env : PySem.Env} (h : plainTest e = true) (whole : Sem Value) : PySem.isTrue e env whole = (do let v ← whole; standAt e.pos; holding [v] (truthy v)) := by
  cases e <;> first | (cases h; done) | (simp only [PySem.isTrue])
theorem fold_of {e : Expr} {env : PySem.Env} (h : notSet e = true) (x : Value) : foldedSetIterable e env x = pure x := by
  cases e <;> first | (cases h; done) | rfl
theorem attr_of {o : Expr} {f : Str} {env : PySem.Env} (h : notCall0 o = true) : attributeBase o f env (eval o env) = eval o env := by
  unfold attributeBase
  split
  · cases h
  · rfl
def notSlice : Expr → Bool
  | .Slice .. => false
  | _ => true
theorem plainIx_of {e : Expr} (h : notSlice e = true) : PlainIx e := fun o i => by
  cases e <;> first | (cases h; done) | rfl

section
variable {G : Gm} {W : WX} {N : List Str} {sc oc : Scope} {lv : Nat} {X : Cx}

/-! ### names and constants -/
def evVar (i : Nat) (ρ : Env) : M Val := match ρ[i]? with
  | some (some v) => M.ret v
  | _ => M.fail
theorem ok_var {i : Nat} {x : Str} {pos : Pos} (g : Good G W N sc oc lv X) (hN : N[i]? = some x) (hv : Vis sc x) (hd : (x == ("__debug__" : Str)) = false) (hcd : (x == ("__classdict__" : Str)) = false) :
    PE X (.Name x pos) (tE G W (evVar i)) := by
  refine PE.imp (pe_var (i := i) (by rw [g.hN]; exact hN) (by rw [g.hs]; exact hv) hd hcd) fun σ H Q h => ?_
  obtain ⟨B, F0, F, m, ρ, S, a, h⟩ := h
  have h : pE G W σ B F0 F m Q ((match ρ[i]? with | some (some v) => M.ret v | _ => M.fail) S) := h
  cases q : ρ[i]? with
  | none =>
    rw [q] at h
    exact h.elim
  | some o =>
    cases o with
    | none =>
      rw [q] at h
      exact h.elim
    | some v =>
      rw [q] at h
      obtain ⟨y, h1, h2⟩ := a.env.at_ i v q
      exact ⟨y, h1, h y H F m (Ex.refl _) (List.prefix_refl m) a.rl h2⟩
theorem rd_c {d : D} {v : V} (hr : ∀ F, Rep G.K F v d) (σ : L2.St) (H : Hp) (Q : VK) (h : tE G W (fun _ => M.ret (.d d)) σ H Q) : tC v σ H Q := by
  obtain ⟨B, F0, F, m, ρ, S, a, h⟩ := h
  exact h v H F m (Ex.refl _) (List.prefix_refl m) a.rl (hr F)
def cstD : Const → Option D
  | .none => some .non
  | .bool b => some (.bl b)
  | .int i => some (.int i)
  | .str s => some (.str s)
  | _ => none
theorem ok_cst {c : Const} {d : D} {k : Nat} {pos : Pos} (h : cstD c = some d) : PE X (.Constant c k pos) (tE G W (fun _ => M.ret (.d d))) := by
  cases c <;> first | (cases h; done) | skip
  · cases h
    exact PE.imp pe_non (rd_c fun _ => .non)
  · cases h
    exact PE.imp pe_bl (rd_c fun _ => .bl _)
  · cases h
    exact PE.imp pe_int (rd_c fun _ => .int _)
  · cases h
    exact PE.imp pe_str (rd_c fun _ => .str _)
/-- a name of the module that holds d -/
def GloIs (G : Gm) (x : Str) (d : D) : Prop := ∃ (u : Value) (v : V), G.mg x = some u ∧ RelV v u ∧ ∀ F, Rep G.K F v d
theorem ok_glo {x : Str} {d : D} {pos : Pos} (g : Good G W N sc oc lv X) (hs : sc.names.lookup x = some .globalImplicit) (h : GloIs G x d) (hd : (x == ("__debug__" : Str)) = false) : PE X (.Name x pos) (tE G W (fun _ => M.ret (.d d))) := by
  obtain ⟨u, v, h1, h2, h3⟩ := h
  exact PE.imp (pe_glob (g.gl hs) (by rw [g.mg]; exact h1) h2 hd) (rd_c h3)

/-! ### operators -/
theorem ok_bin {op : Operator} {a b : Expr} {fa fb : Env → M Val} {pos : Pos} (g : Good G W N sc oc lv X) (ha : PE X a (tE G W fa)) (hb : PE X b (tE G W fb)) :
    PE X (.BinOp a op b pos) (tE G W fun ρ => fa ρ >>= fun v => fb ρ >>= fun w => op2 (binD op) v w) := by
  obtain ⟨r, h1, h2⟩ := bin_rule (K := G.K) op
  exact PE.imp (pe_op (h1 X g.K) ha hb) (rd_op h2)
theorem ok_cmp {op : CmpOp} {a b : Expr} {fa fb : Env → M Val} {pos : Pos} (g : Good G W N sc oc lv X) (ha : PE X a (tE G W fa)) (hb : PE X b (tE G W fb)) (hs : notSet b = true) :
    PE X (.Compare a [op] [b] pos) (tE G W fun ρ => fa ρ >>= fun v => fb ρ >>= fun w => op2 (cmpD op) v w) := by
  obtain ⟨r, h1, h2⟩ := cmp_rule (K := G.K) op
  exact PE.imp (pe_cmpR (h1 X g.K g.un) ha hb (marks_of hs)) (rd_op h2)
/-- a truth value -/
def asB (v : Val) : M Bool := match v with
  | .d (.bl b) => M.ret b
  | _ => M.fail
/-- from a value's reading to a test's -/
theorem rd_test {f : Env → M Val} (σ : L2.St) (H : Hp) (Q : Bool → Hp → Prop) (h : tT G W (fun ρ => f ρ >>= asB) σ H Q) : tE G W f σ H (fun x H' => ∃ k, x = .bl k ∧ Q k H') := by
  obtain ⟨B, F0, F, m, ρ, S, a, h⟩ := h
  refine ⟨B, F0, F, m, ρ, S, a, ?_⟩
  have h : pT G W σ B F0 F m Q ((f ρ S).bind asB) := h
  cases q : f ρ S with
  | ok v S1 =>
    rw [q] at h
    have h : pT G W σ B F0 F m Q (asB v S1) := h
    intro x H' F' m' e p r vr
    unfold asB at h
    split at h
    · exact ⟨_, Rep.bl_ vr, h H' F' m' e p r⟩
    · exact h.elim
  | exc c y S1 =>
    rw [q] at h
    exact h
  | bad =>
    rw [q] at h
    exact h
theorem okt_cmp {op : CmpOp} {a b : Expr} {fa fb : Env → M Val} {pos : Pos} (g : Good G W N sc oc lv X) (ha : PE X a (tE G W fa)) (hb : PE X b (tE G W fb)) (hs : notSet b = true) :
    PT X (.Compare a [op] [b] pos) (tT G W fun ρ => (fa ρ >>= fun v => fb ρ >>= fun w => op2 (cmpD op) v w) >>= asB) := by
  obtain ⟨r, h1, h2⟩ := cmp_rule (K := G.K) op
  exact PT.imp (pt_cmpR (h1 X g.K g.un) ha hb (marks_of hs)) fun σ H Q h => rd_op h2 σ H _ (rd_test σ H Q h)
theorem okt_plain {e : Expr} {f : Env → M Val} (h : PE X e (tE G W f)) (ht : plainTest e = true) : PT X e (tT G W fun ρ => f ρ >>= asB) :=
  PT.imp (pt_val h (test_of ht)) fun σ H Q q => rd_test σ H Q q

/-- a chain of two comparisons -/
def chain2 (o1 o2 : CmpOp) (v w : Val) (k : M Val) : M Val := (op2 (cmpD o1) v w >>= asB) >>= fun c => if c then k >>= fun z => op2 (cmpD o2) w z else M.ret (.d (.bl false))
theorem rd_chain {r r' : R2} {o1 o2 : CmpOp} {fa fb fc : Env → M Val} (h1 : Op2 G.K r (cmpD o1)) (h2 : Op2 G.K r' (cmpD o2)) (σ : L2.St) (H : Hp) (Q : VK)
    (h : tE G W (fun ρ => fa ρ >>= fun v => fb ρ >>= fun w => chain2 o1 o2 v w (fc ρ)) σ H Q) : tChain r r' (tE G W fa) (tE G W fb) (tE G W fc) σ H Q := by
  obtain ⟨B, F0, F, m, ρ, S, at_, h⟩ := h
  obtain ⟨B', F0', F', m', ρ', S', a', h'⟩ := seqEE (fa := fa) (k := fun v => fb ρ >>= fun w => chain2 o1 o2 v w (fc ρ)) at_ h
  refine ⟨B', F0', F', m', ρ', S', a', rd_op.pE_imp h' fun x H1 z => ?_⟩
  obtain ⟨F1, m1, S1, v, e1, p1, a1, v1, h1'⟩ := z
  obtain ⟨B2, F02, F2, m2, ρ2, S2, a2, h2'⟩ := seqEE (fa := fb) (k := fun w => chain2 o1 o2 v w (fc ρ)) a1 h1'
  refine ⟨B2, F02, F2, m2, ρ2, S2, a2, rd_op.pE_imp h2' fun y H2 z => ?_⟩
  obtain ⟨F3, m3, S3, w, e3, p3, a3, v3, h3⟩ := z
  have v1' := v1.mono e3 p3
  have h3 : pE G W σ B F0 F3 m3 Q (((op2 (cmpD o1) v w S3).bind asB).bind fun c => if c then fc ρ >>= fun z => op2 (cmpD o2) w z else M.ret (.d (.bl false))) := h3
  cases q1 : asD S3 v with
  | none =>
    have z : op2 (cmpD o1) v w S3 = .bad := by unfold op2; rw [q1]
    rw [z] at h3
    exact h3.elim
  | some d1 =>
    cases q2 : asD S3 w with
    | none =>
      have z : op2 (cmpD o1) v w S3 = .bad := by unfold op2; rw [q1, q2]
      rw [z] at h3
      exact h3.elim
    | some d2 =>
      cases q3 : cmpD o1 d1 d2 with
      | none =>
        have z : op2 (cmpD o1) v w S3 = .bad := by
          unfold op2
          rw [q1, q2]
          show (match cmpD o1 d1 d2 with | some d => R.ok (Val.d d) S3 | none => .bad) = _
          rw [q3]
        rw [z] at h3
        exact h3.elim
      | some d =>
        have z : op2 (cmpD o1) v w S3 = .ok (.d d) S3 := by
          unfold op2
          rw [q1, q2]
          show (match cmpD o1 d1 d2 with | some d => R.ok (Val.d d) S3 | none => .bad) = _
          rw [q3]
        rw [z] at h3
        refine h1 F3 H2 x y d1 d2 d a3.rl.ex (asD_rep a3.rl v1' q1) (asD_rep a3.rl v3 q2) q3 _ fun z4 F4 H4 e4 r4 => ?_
        have h3 : pE G W σ B F0 F3 m3 Q ((asB (.d d) S3).bind fun c => if c then fc ρ >>= fun z => op2 (cmpD o2) w z else M.ret (.d (.bl false))) := h3
        cases d with
        | bl c =>
          refine ⟨c, r4.bl_, ?_⟩
          cases c with
          | false =>
            rw [if_neg Bool.false_ne_true]
            exact pE.here a3.rl (show pE G W σ B F0 F3 m3 Q (.ok (.d (.bl false)) S3) from h3) e4 (.bl false)
          | true =>
            rw [if_pos rfl]
            have a4 := a3.ext e4
            have h4 : pE G W σ B F0 F4 m3 Q ((fc ρ S3).bind fun z => op2 (cmpD o2) w z) := pE.mono e4.ff (List.prefix_refl m3) h3
            obtain ⟨B5, F05, F5, m5, ρ5, S5, a5, h5⟩ := seqEE (fa := fc) (k := fun z => op2 (cmpD o2) w z) a4 h4
            refine ⟨B5, F05, F5, m5, ρ5, S5, a5, rd_op.pE_imp h5 fun y5 H5 z => ?_⟩
            obtain ⟨F6, m6, S6, w6, e6, p6, a6, v6, h6⟩ := z
            exact pE.op2 h2 a6.rl ((v3.mono e4.ff (List.prefix_refl m3)).mono e6 p6) v6 h6
        | _ => exact h3.elim
theorem ok_chain {o1 o2 : CmpOp} {a b c : Expr} {fa fb fc : Env → M Val} {pos : Pos} (g : Good G W N sc oc lv X) (ha : PE X a (tE G W fa)) (hb : PE X b (tE G W fb)) (hc : PE X c (tE G W fc)) (hs : notSet c = true) :
    PE X (.Compare a [o1, o2] [b, c] pos) (tE G W fun ρ => fa ρ >>= fun v => fb ρ >>= fun w => chain2 o1 o2 v w (fc ρ)) := by
  obtain ⟨r, h1, h2⟩ := cmp_rule (K := G.K) o1
  obtain ⟨r', h1', h2'⟩ := cmp_rule (K := G.K) o2
  exact PE.imp (pe_chain (h1 X g.K g.un) (h1' X g.K g.un) ha hb hc (lastMarks_of hs)) (rd_chain h2 h2')
theorem okt_chain {o1 o2 : CmpOp} {a b c : Expr} {fa fb fc : Env → M Val} {pos : Pos} (g : Good G W N sc oc lv X) (ha : PE X a (tE G W fa)) (hb : PE X b (tE G W fb)) (hc : PE X c (tE G W fc)) (hs : notSet c = true) :
    PT X (.Compare a [o1, o2] [b, c] pos) (tT G W fun ρ => (fa ρ >>= fun v => fb ρ >>= fun w => chain2 o1 o2 v w (fc ρ)) >>= asB) := by
  obtain ⟨r, h1, h2⟩ := cmp_rule (K := G.K) o1
  obtain ⟨r', h1', h2'⟩ := cmp_rule (K := G.K) o2
  exact PT.imp (pt_chain (h1 X g.K g.un) (h1' X g.K g.un) ha hb hc (lastMarks_of hs)) fun σ H Q h => rd_chain h2 h2' σ H _ (rd_test σ H Q h)

/-! ### one-place -/
def negD : D → Option D
  | .int i => some (.int (-i))
  | _ => none
theorem rd_un {r : V → Hp → VK → Prop} {g : D → Option D} {fa : Env → M Val} (o : Op1 G.K r g) (σ : L2.St) (H : Hp) (Q : VK) (h : tE G W (fun ρ => fa ρ >>= fun v => op1 g v) σ H Q) : tUn r (tE G W fa) σ H Q := by
  obtain ⟨B, F0, F, m, ρ, S, at_, h⟩ := h
  obtain ⟨B', F0', F', m', ρ', S', a', h'⟩ := seqEE (fa := fa) (k := fun v => op1 g v) at_ h
  refine ⟨B', F0', F', m', ρ', S', a', rd_op.pE_imp h' fun x H1 z => ?_⟩
  obtain ⟨F1, m1, S1, v, e1, p1, a1, v1, h1⟩ := z
  exact pE.op1 o a1.rl v1 h1
theorem ok_neg {a : Expr} {fa : Env → M Val} {pos : Pos} (ha : PE X a (tE G W fa)) : PE X (.UnaryOp .USub a pos) (tE G W fun ρ => fa ρ >>= fun v => op1 negD v) := by
  refine PE.imp (pe_un un_neg ha) (rd_un fun F H x a d e hx q Q k => ?_)
  unfold negD at q
  split at q
  · cases q
    exact ⟨_, hx.int, k _ F H (Ext.refl e) (.int _)⟩
  · cases q

/-! ### not, and, or, if -/
theorem ok_not {a : Expr} {fa : Env → M Val} {pos : Pos} (ha : PE X a (tE G W fa)) : PE X (.UnaryOp .Not a pos) (tE G W fun ρ => (fa ρ >>= asB) >>= fun c => M.ret (.d (.bl (!c)))) := by
  refine PE.imp (pe_not ha) fun σ H Q h => ?_
  obtain ⟨B, F0, F, m, ρ, S, a, h⟩ := h
  refine rd_test σ H (fun c H' => Q (.bl (!c)) H') ⟨B, F0, F, m, ρ, S, a, ?_⟩
  have h : pE G W σ B F0 F m Q ((((fa ρ) >>= asB) S).bind fun c => M.ret (.d (.bl (!c)))) := h
  cases q : ((fa ρ) >>= asB) S with
  | ok c S1 =>
    rw [q] at h
    have h : pE G W σ B F0 F m Q (.ok (.d (.bl (!c))) S1) := h
    show pT G W σ B F0 F m _ (((fa ρ) >>= asB) S)
    rw [q]
    exact fun H' F' m' e p r => h _ H' F' m' e p r (.bl _)
  | exc c y S1 =>
    rw [q] at h
    show pT G W σ B F0 F m _ (((fa ρ) >>= asB) S)
    rw [q]
    exact h
  | bad =>
    rw [q] at h
    exact h.elim
theorem okt_not {a : Expr} {fa : Env → M Val} {pos : Pos} (ha : PT X a (tT G W fun ρ => fa ρ >>= asB)) : PT X (.UnaryOp .Not a pos) (tT G W fun ρ => ((fa ρ >>= asB) >>= fun c => M.ret (.d (.bl (!c)))) >>= asB) := by
  refine PT.imp (pt_not ha) fun σ H Q h => ?_
  obtain ⟨B, F0, F, m, ρ, S, a, h⟩ := h
  refine ⟨B, F0, F, m, ρ, S, a, ?_⟩
  have h : pT G W σ B F0 F m Q (((((fa ρ) >>= asB) S).bind fun c => M.ret (.d (.bl (!c)))).bind asB) := h
  show pT G W σ B F0 F m _ (((fa ρ) >>= asB) S)
  cases q : ((fa ρ) >>= asB) S with
  | ok c S1 =>
    rw [q] at h
    exact h
  | exc c y S1 =>
    rw [q] at h
    exact h
  | bad =>
    rw [q] at h
    exact h
def andM (a : M Bool) (b : M Val) : M Val := a >>= fun c => if c then b else M.ret (.d (.bl false))
def orM (a : M Bool) (b : M Val) : M Val := a >>= fun c => if c then M.ret (.d (.bl true)) else b
theorem ok_and {a b : Expr} {rest : List Expr} {fa fb : Env → M Val} {pos : Pos} (ha : PE X a (tE G W fa)) (hb : PE X (.BoolOp .And (b :: rest) pos) (tE G W fb)) :
    PE X (.BoolOp .And (a :: b :: rest) pos) (tE G W fun ρ => andM (fa ρ >>= asB) (fb ρ)) := by
  refine PE.imp (pe_and ha hb) fun σ H Q h => ?_
  obtain ⟨B, F0, F, m, ρ, S, a, h⟩ := h
  obtain ⟨B', F0', F', m', ρ', S', a', h'⟩ := seqTE (fa := fun ρ => fa ρ >>= asB) (k := fun c => if c then fb ρ else M.ret (.d (.bl false))) a h
  refine rd_test σ H _ ⟨B', F0', F', m', ρ', S', a', ?_⟩
  refine pT_imp h' fun c H1 z => ?_
  obtain ⟨F1, m1, S1, e1, p1, a1, h1⟩ := z
  cases c with
  | true =>
    rw [if_pos rfl]
    exact ⟨B, F0, F1, m1, ρ, S1, a1, h1⟩
  | false =>
    rw [if_neg Bool.false_ne_true]
    exact pE.here a1.rl h1 (Ext.refl a1.rl.ex) (.bl false)
where
  pT_imp {G : Gm} {W : WX} {σ : L2.St} {B F0 F : Hp} {m : List Addr} {Q Q' : Bool → Hp → Prop} {r : R Bool} (h : pT G W σ B F0 F m Q r) (i : ∀ x H, Q x H → Q' x H) : pT G W σ B F0 F m Q' r := by
    cases r with
    | ok v S' => exact fun H' F' m' e p r => i _ _ (h H' F' m' e p r)
    | exc c y S' => exact h
    | bad => exact h
theorem ok_or {a b : Expr} {rest : List Expr} {fa fb : Env → M Val} {pos : Pos} (ha : PE X a (tE G W fa)) (hb : PE X (.BoolOp .Or (b :: rest) pos) (tE G W fb)) :
    PE X (.BoolOp .Or (a :: b :: rest) pos) (tE G W fun ρ => orM (fa ρ >>= asB) (fb ρ)) := by
  refine PE.imp (pe_or ha hb) fun σ H Q h => ?_
  obtain ⟨B, F0, F, m, ρ, S, a, h⟩ := h
  obtain ⟨B', F0', F', m', ρ', S', a', h'⟩ := seqTE (fa := fun ρ => fa ρ >>= asB) (k := fun c => if c then M.ret (.d (.bl true)) else fb ρ) a h
  refine rd_test σ H _ ⟨B', F0', F', m', ρ', S', a', ?_⟩
  refine ok_and.pT_imp h' fun c H1 z => ?_
  obtain ⟨F1, m1, S1, e1, p1, a1, h1⟩ := z
  cases c with
  | true =>
    rw [if_pos rfl]
    exact pE.here a1.rl h1 (Ext.refl a1.rl.ex) (.bl true)
  | false =>
    rw [if_neg Bool.false_ne_true]
    exact ⟨B, F0, F1, m1, ρ, S1, a1, h1⟩
theorem okw_and {a b : Expr} {rest : List Expr} {fa fb : Env → M Val} {pos : Pos} (ha : PT X a (tT G W fun ρ => fa ρ >>= asB)) (hb : PW X (.BoolOp .And (b :: rest) pos) (tT G W fun ρ => fb ρ >>= asB)) :
    PW X (.BoolOp .And (a :: b :: rest) pos) (tT G W fun ρ => andM (fa ρ >>= asB) (fb ρ) >>= asB) := by
  refine PW.imp (pw_and ha hb) fun σ H Q h => ?_
  obtain ⟨B, F0, F, m, ρ, S, a, h⟩ := h
  have h : pT G W σ B F0 F m Q (((fa ρ >>= asB) S).bind fun c => (if c then fb ρ else M.ret (.d (.bl false))) >>= asB) := by
    have h : pT G W σ B F0 F m Q ((((fa ρ >>= asB) S).bind fun c => if c then fb ρ else M.ret (.d (.bl false))).bind asB) := h
    cases q : (fa ρ >>= asB) S with
    | ok c S1 =>
      rw [q] at h
      exact h
    | exc c y S1 =>
      rw [q] at h
      exact h
    | bad =>
      rw [q] at h
      exact h
  obtain ⟨B', F0', F', m', ρ', S', a', h'⟩ := seqTT (fa := fun ρ => fa ρ >>= asB) (k := fun c => (if c then fb ρ else M.ret (.d (.bl false))) >>= asB) a h
  refine ⟨B', F0', F', m', ρ', S', a', ?_⟩
  refine ok_and.pT_imp h' fun c H1 z => ?_
  obtain ⟨F1, m1, S1, e1, p1, a1, h1⟩ := z
  cases c with
  | true =>
    rw [if_pos rfl]
    exact ⟨B, F0, F1, m1, ρ, S1, a1, h1⟩
  | false =>
    rw [if_neg Bool.false_ne_true]
    exact h1 H1 F1 m1 (Ex.refl _) (List.prefix_refl m1) a1.rl
theorem okw_or {a b : Expr} {rest : List Expr} {fa fb : Env → M Val} {pos : Pos} (ha : PT X a (tT G W fun ρ => fa ρ >>= asB)) (hb : PW X (.BoolOp .Or (b :: rest) pos) (tT G W fun ρ => fb ρ >>= asB)) :
    PW X (.BoolOp .Or (a :: b :: rest) pos) (tT G W fun ρ => orM (fa ρ >>= asB) (fb ρ) >>= asB) := by
  refine PW.imp (pw_or ha hb) fun σ H Q h => ?_
  obtain ⟨B, F0, F, m, ρ, S, a, h⟩ := h
  have h : pT G W σ B F0 F m Q (((fa ρ >>= asB) S).bind fun c => (if c then M.ret (.d (.bl true)) else fb ρ) >>= asB) := by
    have h : pT G W σ B F0 F m Q ((((fa ρ >>= asB) S).bind fun c => if c then M.ret (.d (.bl true)) else fb ρ).bind asB) := h
    cases q : (fa ρ >>= asB) S with
    | ok c S1 =>
      rw [q] at h
      exact h
    | exc c y S1 =>
      rw [q] at h
      exact h
    | bad =>
      rw [q] at h
      exact h
  obtain ⟨B', F0', F', m', ρ', S', a', h'⟩ := seqTT (fa := fun ρ => fa ρ >>= asB) (k := fun c => (if c then M.ret (.d (.bl true)) else fb ρ) >>= asB) a h
  refine ⟨B', F0', F', m', ρ', S', a', ?_⟩
  refine ok_and.pT_imp h' fun c H1 z => ?_
  obtain ⟨F1, m1, S1, e1, p1, a1, h1⟩ := z
  cases c with
  | true =>
    rw [if_pos rfl]
    exact h1 H1 F1 m1 (Ex.refl _) (List.prefix_refl m1) a1.rl
  | false =>
    rw [if_neg Bool.false_ne_true]
    exact ⟨B, F0, F1, m1, ρ, S1, a1, h1⟩
theorem ok_ite {c a b : Expr} {fc fa fb : Env → M Val} {pos : Pos} (hc : PT X c (tT G W fun ρ => fc ρ >>= asB)) (ha : PE X a (tE G W fa)) (hb : PE X b (tE G W fb)) :
    PE X (.IfExp c a b pos) (tE G W fun ρ => (fc ρ >>= asB) >>= fun k => if k then fa ρ else fb ρ) := by
  refine PE.imp (pe_ifExp hc ha hb) fun σ H Q h => ?_
  obtain ⟨B, F0, F, m, ρ, S, a, h⟩ := h
  obtain ⟨B', F0', F', m', ρ', S', a', h'⟩ := seqTE (fa := fun ρ => fc ρ >>= asB) (k := fun k => if k then fa ρ else fb ρ) a h
  refine ⟨B', F0', F', m', ρ', S', a', ?_⟩
  refine ok_and.pT_imp h' fun k H1 z => ?_
  obtain ⟨F1, m1, S1, e1, p1, a1, h1⟩ := z
  cases k with
  | true =>
    rw [if_pos rfl]
    exact ⟨B, F0, F1, m1, ρ, S1, a1, h1⟩
  | false =>
    rw [if_neg Bool.false_ne_true]
    exact ⟨B, F0, F1, m1, ρ, S1, a1, h1⟩
end
end PD

/-! PD5: arguments, displays, subscripts, calls, fields. -/
namespace PD
open PySem L2

/-! ### the store grows, changes -/
section
variable {K : PySem.W.Frag} {B F0 F H : Hp} {m : List Addr} {S : Store}
theorem Rl.alloc {p : Addr} {u : HO} {o : SO} (r : Rl K B F0 F H m S) (hp : H p = none) (ho : ORep K F (upd H p u) p o) : Rl K B F0 F (upd H p u) (m ++ [p]) (S ++ [some o]) where
  ex := r.ex.trans (Ex.new hp)
  exB := r.exB.trans (Ex.new hp)
  f0 := r.f0
  nw := r.nw
  len := by rw [List.length_append, List.length_append, r.len]; rfl
  nd := by
    rw [List.nodup_append]
    refine ⟨r.nd, by simp, fun a ha b hb => ?_⟩
    rw [List.mem_singleton] at hb
    rw [hb]
    intro z
    rw [z] at ha
    exact (r.al p ha).2.1 hp
  al := fun a ha => by
    rcases List.mem_append.mp ha with h | h
    · obtain ⟨h1, h2, h3⟩ := r.al a h
      exact ⟨h1, fun z => h2 ((Ex.new hp).none z), h3⟩
    · rw [List.mem_singleton] at h
      rw [h]
      exact ⟨r.exB.none hp, by rw [upd_same]; exact fun z => (nomatch z), (r.f0.trans r.ex).none hp⟩
  ob := fun n so h => by
    by_cases hn : n < S.length
    · rw [List.getElem?_append_left hn] at h
      obtain ⟨a, h1, h2, h3⟩ := r.ob n so h
      refine ⟨a, pre_get (List.prefix_append m [p]) h1, h2, h3.mono (Ex.refl _) fun v q => ?_⟩
      exact Ex.new hp _ _ q
    · have hn2 : n = S.length := by
        have := (List.getElem?_eq_some_iff.mp h).1
        rw [List.length_append] at this
        simp at this
        omega
      subst hn2
      rw [List.getElem?_append_right (Nat.le_refl _)] at h
      simp at h
      subst h
      refine ⟨p, ?_, r.ex.none hp, ho⟩
      rw [← r.len, List.getElem?_append_right (Nat.le_refl _)]
      simp
theorem nodup_ne {m : List Addr} {i j : Nat} {a b : Addr} (nd : m.Nodup) (hi : m[i]? = some a) (hj : m[j]? = some b) (h : i ≠ j) : a ≠ b := by
  intro e
  subst e
  obtain ⟨h1, h2⟩ := List.getElem?_eq_some_iff.mp hi
  exact h ((List.getElem?_inj h1 nd).mp (hi.trans hj.symm))
/-- the thing at place n is changed -/
theorem Rl.write {n : Nat} {a : Addr} {o : SO} {u : HO} (r : Rl K B F0 F H m S) (hn : m[n]? = some a) (hf : F a = none) (hl : n < S.length) (ho : ORep K F (upd H a u) a o) : Rl K B F0 F (upd H a u) m (S.set n (some o)) where
  ex := fun b v q => by
    rw [upd_ne (ne_of_none q hf)]
    exact r.ex b v q
  exB := fun b v q => by
    rw [upd_ne (ne_of_none q (r.al a (List.mem_of_getElem? hn)).1)]
    exact r.exB b v q
  f0 := r.f0
  nw := r.nw
  len := by rw [List.length_set]; exact r.len
  nd := r.nd
  al := fun b hb => by
    obtain ⟨h1, h2, h3⟩ := r.al b hb
    refine ⟨h1, ?_, h3⟩
    by_cases hba : b = a
    · rw [hba, upd_same]
      exact fun z => (nomatch z)
    · rw [upd_ne hba]
      exact h2
  ob := fun k so h => by
    rw [List.getElem?_set] at h
    by_cases hk : n = k
    · rw [if_pos hk, if_pos hl] at h
      cases h
      subst hk
      exact ⟨a, hn, hf, ho⟩
    · rw [if_neg hk] at h
      obtain ⟨b, h1, h2, h3⟩ := r.ob k so h
      refine ⟨b, h1, h2, h3.mono (Ex.refl _) fun v q => ?_⟩
      rw [upd_ne (nodup_ne r.nd h1 hn (fun z => hk z.symm))]
      exact q
/-- the thing at place n is plain from now on -/
theorem Rl.freeze {n : Nat} {a : Addr} {u : HO} (r : Rl K B F0 F H m S) (hn : m[n]? = some a) (hf : F a = none) (hl : n < S.length) (hu : H a = some u) : Rl K B F0 (upd F a u) H m (S.set n none) where
  ex := fun b v q => by
    by_cases hb : b = a
    · subst hb
      rw [upd_same] at q
      cases q
      exact hu
    · rw [upd_ne hb] at q
      exact r.ex b v q
  exB := r.exB
  f0 := r.f0.trans (Ex.new hf)
  nw := fun b v q => by
    by_cases hb : b = a
    · subst hb
      exact .inr (r.al b (List.mem_of_getElem? hn)).1
    · rw [upd_ne hb] at q
      exact r.nw b v q
  len := by rw [List.length_set]; exact r.len
  nd := r.nd
  al := r.al
  ob := fun k so h => by
    rw [List.getElem?_set] at h
    by_cases hk : n = k
    · rw [if_pos hk] at h
      split at h <;> cases h
    · rw [if_neg hk] at h
      obtain ⟨b, h1, h2, h3⟩ := r.ob k so h
      refine ⟨b, h1, ?_, h3.mono (Ex.new hf) fun v q => q⟩
      rw [upd_ne (nodup_ne r.nd h1 hn (fun z => hk z.symm))]
      exact h2
end

/-! ### arguments -/
/-- all plain -/
def asPs : List Val → Option (List D)
  | [] => some []
  | .d x :: r => (asPs r).map (x :: ·)
  | .loc _ :: _ => none
def asDs (S : Store) : List Val → Option (List D)
  | [] => some []
  | v :: r => match asD S v, asDs S r with
    | some x, some xs => some (x :: xs)
    | _, _ => none
theorem asPs_reps {K : PySem.W.Frag} {F : Hp} {m : List Addr} : ∀ {xs : List V} {vs : List Val} {ds : List D}, VReps K F m xs vs → asPs vs = some ds → Reps K F xs ds
  | _, _, _, .nil, e => by
    cases e
    exact .nil
  | _, _, ds, .cons (v := v) (vs := vs) h r, e => by
    cases v with
    | loc n => cases e
    | d x =>
      have e : (asPs vs).map (x :: ·) = some ds := e
      cases q : asPs vs with
      | none =>
        rw [q] at e
        cases e
      | some ys =>
        rw [q] at e
        cases e
        exact .cons h (asPs_reps r q)
inductive TReps (K : PySem.W.Frag) (F H : Hp) : List V → List D → Prop
  | nil : TReps K F H [] []
  | cons {x : V} {d : D} {xs : List V} {ds : List D} : TRep K F H x d → TReps K F H xs ds → TReps K F H (x :: xs) (d :: ds)
theorem asDs_reps {K : PySem.W.Frag} {B F0 F H : Hp} {m : List Addr} {S : Store} (r : Rl K B F0 F H m S) : ∀ {xs : List V} {vs : List Val} {ds : List D}, VReps K F m xs vs → asDs S vs = some ds → TReps K F H xs ds
  | _, _, _, .nil, e => by
    cases e
    exact .nil
  | _, _, ds, .cons (v := v) (vs := vs) h t, e => by
    have e : (match asD S v, asDs S vs with | some x, some xs => some (x :: xs) | _, _ => none) = some ds := e
    cases q : asD S v with
    | none =>
      rw [q] at e
      cases e
    | some x =>
      cases q2 : asDs S vs with
      | none =>
        rw [q, q2] at e
        cases e
      | some ys =>
        rw [q, q2] at e
        cases e
        exact .cons (asD_rep r h q) (asDs_reps r t q2)
section
variable {G : Gm} {W : WX} {N : List Str} {sc oc : Scope} {lv : Nat} {X : Cx}
theorem oka_nil : PA X [] (tA G W fun _ => M.ret []) := PA.imp pa_nil fun σ H Q h => by
  obtain ⟨B, F0, F, m, ρ, S, a, h⟩ := h
  exact h [] H F m (Ex.refl _) (List.prefix_refl m) a.rl .nil
theorem pA_imp {σ : L2.St} {B F0 F : Hp} {m : List Addr} {Q Q' : List V → Hp → Prop} {r : R (List Val)} (h : pA G W σ B F0 F m Q r) (i : ∀ x H, Q x H → Q' x H) : pA G W σ B F0 F m Q' r := by
  cases r with
  | ok v S' => exact fun x H' F' m' e p r v => i _ _ (h x H' F' m' e p r v)
  | exc c y S' => exact h
  | bad => exact h
theorem oka_cons {e : Expr} {es : List Expr} {fe : Env → M Val} {fs : Env → M (List Val)} (he : PE X e (tE G W fe)) (hs : PA X es (tA G W fs)) (hst : notStar e = true) :
    PA X (e :: es) (tA G W fun ρ => fe ρ >>= fun v => fs ρ >>= fun vs => M.ret (v :: vs)) := by
  refine PA.imp (pa_cons he hs (star_of hst)) fun σ H Q h => ?_
  obtain ⟨B, F0, F, m, ρ, S, a, h⟩ := h
  obtain ⟨B', F0', F', m', ρ', S', a', h'⟩ := seqEA (fa := fe) (k := fun v => fs ρ >>= fun vs => M.ret (v :: vs)) a h
  refine ⟨B', F0', F', m', ρ', S', a', rd_op.pE_imp h' fun x H1 z => ?_⟩
  obtain ⟨F1, m1, S1, v, e1, p1, a1, v1, h1⟩ := z
  obtain ⟨B2, F02, F2, m2, ρ2, S2, a2, h2⟩ := seqA (post := fun F m r => pA G W σ B F0 F m Q r) (fa := fs) (k := fun vs => M.ret (v :: vs)) a1 pA.mono (fun _ _ _ z => z) (fun z => z) h1
  refine ⟨B2, F02, F2, m2, ρ2, S2, a2, pA_imp h2 fun xs H2 z => ?_⟩
  obtain ⟨F3, m3, S3, vs, e3, p3, a3, v3, h3⟩ := z
  exact h3 _ H2 F3 m3 (Ex.refl _) (List.prefix_refl m3) a3.rl (.cons (v1.mono e3 p3) v3)

/-! ### tuples and lists -/
def mkTup (vs : List Val) : M Val := match asPs vs with
  | some ds => if ds.length ≤ sizeLine then M.ret (.d (.tup ds)) else M.fail
  | none => M.fail
def mkLst (vs : List Val) : M Val := match asPs vs with
  | some ds => if ds.length ≤ sizeLine then M.ret (.d (.lst ds)) else M.fail
  | none => M.fail
def M.alloc (o : SO) : M Val := fun S => .ok (.loc S.length) (S ++ [some o])
def mkNew (vs : List Val) : M Val := match asPs vs with
  | some ds => if ds.length ≤ sizeLine then M.alloc (.lst ds) else M.fail
  | none => M.fail
theorem ok_tup {es : List Expr} {fs : Env → M (List Val)} {k : Nat} {pos : Pos} (h : PA X es (tA G W fs)) : PE X (.Tuple es k pos) (tE G W fun ρ => fs ρ >>= mkTup) := by
  refine PE.imp (pe_tup h) fun σ H Q h => ?_
  obtain ⟨B, F0, F, m, ρ, S, a, h⟩ := h
  obtain ⟨B', F0', F', m', ρ', S', a', h'⟩ := seqAE (fa := fs) (k := mkTup) a h
  refine ⟨B', F0', F', m', ρ', S', a', pA_imp h' fun xs H1 z => ?_⟩
  obtain ⟨F1, m1, S1, vs, e1, p1, a1, v1, h1⟩ := z
  unfold mkTup at h1
  cases q : asPs vs with
  | none =>
    rw [q] at h1
    exact h1.elim
  | some ds =>
    rw [q] at h1
    have r := asPs_reps v1 q
    by_cases hl : ds.length ≤ sizeLine
    · have h1 : pE G W σ B F0 F1 m1 Q ((if ds.length ≤ sizeLine then M.ret (.d (.tup ds)) else M.fail : M Val) S1) := h1
      rw [if_pos hl] at h1
      refine ⟨by rw [r.length]; exact hl, fun p hp => ?_⟩
      have e := Ext.new (o := .tup xs) a1.rl.ex hp
      exact pE.here a1.rl h1 e (.tup (.inl (.inl upd_same)) (r.mono e.ff))
    · have h1 : pE G W σ B F0 F1 m1 Q ((if ds.length ≤ sizeLine then M.ret (.d (.tup ds)) else M.fail : M Val) S1) := h1
      rw [if_neg hl] at h1
      exact h1.elim
theorem ok_lst {es : List Expr} {fs : Env → M (List Val)} {pos : Pos} (h : PA X es (tA G W fs)) : PE X (.List es pos) (tE G W fun ρ => fs ρ >>= mkLst) := by
  refine PE.imp (pe_lst h) fun σ H Q h => ?_
  obtain ⟨B, F0, F, m, ρ, S, a, h⟩ := h
  obtain ⟨B', F0', F', m', ρ', S', a', h'⟩ := seqAE (fa := fs) (k := mkLst) a h
  refine ⟨B', F0', F', m', ρ', S', a', pA_imp h' fun xs H1 z => ?_⟩
  obtain ⟨F1, m1, S1, vs, e1, p1, a1, v1, h1⟩ := z
  unfold mkLst at h1
  cases q : asPs vs with
  | none =>
    rw [q] at h1
    exact h1.elim
  | some ds =>
    rw [q] at h1
    have r := asPs_reps v1 q
    by_cases hl : ds.length ≤ sizeLine
    · have h1 : pE G W σ B F0 F1 m1 Q ((if ds.length ≤ sizeLine then M.ret (.d (.lst ds)) else M.fail : M Val) S1) := h1
      rw [if_pos hl] at h1
      refine ⟨by rw [r.length]; exact hl, fun p hp => ?_⟩
      have e := Ext.new (o := .lst xs) a1.rl.ex hp
      exact pE.here a1.rl h1 e (.lst upd_same (r.mono e.ff))
    · have h1 : pE G W σ B F0 F1 m1 Q ((if ds.length ≤ sizeLine then M.ret (.d (.lst ds)) else M.fail : M Val) S1) := h1
      rw [if_neg hl] at h1
      exact h1.elim
theorem ok_new {es : List Expr} {fs : Env → M (List Val)} {pos : Pos} (h : PA X es (tA G W fs)) : PE X (.List es pos) (tE G W fun ρ => fs ρ >>= mkNew) := by
  refine PE.imp (pe_lst h) fun σ H Q h => ?_
  obtain ⟨B, F0, F, m, ρ, S, a, h⟩ := h
  obtain ⟨B', F0', F', m', ρ', S', a', h'⟩ := seqAE (fa := fs) (k := mkNew) a h
  refine ⟨B', F0', F', m', ρ', S', a', pA_imp h' fun xs H1 z => ?_⟩
  obtain ⟨F1, m1, S1, vs, e1, p1, a1, v1, h1⟩ := z
  unfold mkNew at h1
  cases q : asPs vs with
  | none =>
    rw [q] at h1
    exact h1.elim
  | some ds =>
    rw [q] at h1
    have r := asPs_reps v1 q
    by_cases hl : ds.length ≤ sizeLine
    · have h1 : pE G W σ B F0 F1 m1 Q ((if ds.length ≤ sizeLine then M.alloc (.lst ds) else M.fail : M Val) S1) := h1
      rw [if_pos hl] at h1
      refine ⟨by rw [r.length]; exact hl, fun p hp => ?_⟩
      refine h1 _ _ F1 (m1 ++ [p]) (Ex.refl _) (List.prefix_append _ _) (a1.rl.alloc hp ⟨xs, upd_same, r⟩) ⟨p, ?_, rfl⟩
      rw [← a1.rl.len, List.getElem?_append_right (Nat.le_refl _)]
      simp
    · have h1 : pE G W σ B F0 F1 m1 Q ((if ds.length ≤ sizeLine then M.alloc (.lst ds) else M.fail : M Val) S1) := h1
      rw [if_neg hl] at h1
      exact h1.elim

/-! ### subscripts -/
def ixD : D → D → Option D
  | .lst xs, .int i => atI xs i
  | .tup xs, .int i => atI xs i
  | .scr ns, .int i => (atI ns i).map .int
  | .str z, .int i => if z.length ≤ sizeLine then (atI z.cps.toList i).map fun c => .str ⟨#[c]⟩ else none
  | _, _ => none
theorem at_reps {K : PySem.W.Frag} {F : Hp} {xs : List V} {ds : List D} {i : Int} {d : D} (r : Reps K F xs ds) (h : atI ds i = some d) : ∃ v, atI xs i = some v ∧ Rep K F v d := by
  unfold atI at h ⊢
  rw [r.length]
  cases q : ixN ds.length i with
  | none =>
    rw [q] at h
    cases h
  | some j =>
    rw [q] at h
    exact r.get h
theorem ix_rule {K : PySem.W.Frag} : ∃ r : R2, (∀ X : Cx, X.K = K → IxR X r) ∧ Op2 K r ixD := by
  refine ⟨rIx K, fun X hK => by subst hK; exact ix_seq, fun F H x y a b d e hx hy q Q k => ?_⟩
  unfold ixD at q
  split at q
  · obtain ⟨p, xs, rfl, h1, r1⟩ := hx.list e
    obtain ⟨v, h2, h3⟩ := at_reps r1 q
    exact .inl ⟨p, xs, _, v, rfl, hy.int, .inl (.inl h1), h2, k _ F H (Ext.refl e) h3⟩
  · obtain ⟨p, xs, rfl, h1, r1⟩ := hx.tuple e
    obtain ⟨v, h2, h3⟩ := at_reps r1 q
    exact .inr (.inl ⟨p, xs, _, v, rfl, hy.int, h1, h2, k _ F H (Ext.refl e) h3⟩)
  · rename_i ns i
    obtain ⟨p, rfl, h1⟩ := hx.script e
    cases z : atI ns i with
    | none =>
      rw [z] at q
      cases q
    | some n =>
      rw [z] at q
      cases q
      refine .inl ⟨p, ns.map V.int, i, .int n, rfl, hy.int, h1, ?_, k _ F H (Ext.refl e) (.int n)⟩
      unfold atI at z ⊢
      rw [List.length_map]
      cases z2 : ixN ns.length i with
      | none =>
        rw [z2] at z
        cases z
      | some j =>
        rw [z2] at z
        have z : ns[j]? = some n := z
        show (ns.map V.int)[j]? = _
        rw [List.getElem?_map, z]
        rfl
  · split at q
    · rename_i z i hl
      cases q2 : atI z.cps.toList i with
      | none =>
        rw [q2] at q
        cases q
      | some c =>
        rw [q2] at q
        cases q
        exact .inr (.inr ⟨z, i, c, hx.str, hy.int, hl, q2, k _ F H (Ext.refl e) (.str _)⟩)
    · cases q
  · cases q
theorem ok_ix {a b : Expr} {fa fb : Env → M Val} {pos : Pos} (g : Good G W N sc oc lv X) (ha : PE X a (tE G W fa)) (hb : PE X b (tE G W fb)) (hs : notSlice b = true) :
    PE X (.Subscript a b pos) (tE G W fun ρ => fa ρ >>= fun v => fb ρ >>= fun w => op2 ixD v w) := by
  obtain ⟨r, h1, h2⟩ := ix_rule (K := G.K)
  exact PE.imp (pe_ix (h1 X g.K) ha hb (plainIx_of hs)) (rd_op h2)
/-! slices -/
def cutL {α : Type} (xs : List α) (lo hi : Option Int) : List α := (xs.drop (HT.sIx xs.length 0 lo)).take (HT.sIx xs.length xs.length hi - HT.sIx xs.length 0 lo)
def slcD (lo hi : Option Int) : D → Option D
  | .lst xs => some (.lst (cutL xs lo hi))
  | .scr ns => some (.lst ((cutL ns lo hi).map .int))
  | .str z => if z.length ≤ sizeLine then some (.str (cutS z lo hi)) else none
  | _ => none
theorem cut_reps {K : PySem.W.Frag} {F : Hp} {xs : List V} {ds : List D} {lo hi : Option Int} (r : Reps K F xs ds) : Reps K F (cutV xs lo hi) (cutL ds lo hi) := by
  unfold cutV cutL
  rw [r.length]
  exact (r.drop _).take _
theorem reps_ints {K : PySem.W.Frag} {F : Hp} : ∀ ns : List Int, Reps K F (ns.map V.int) (ns.map D.int)
  | [] => .nil
  | n :: ns => .cons (.int n) (reps_ints ns)
theorem cut_ints (ns : List Int) (lo hi : Option Int) : cutV (ns.map V.int) lo hi = (cutL ns lo hi).map V.int := by
  unfold cutV cutL
  rw [List.length_map, List.map_take, List.map_drop]
theorem SlR.or {r s : V → Option Int → Option Int → Hp → VK → Prop} (h : SlR X r) (k : SlR X s) : SlR X (fun x lo hi H Q => r x lo hi H Q ∨ s x lo hi H Q) :=
  fun pins st σ H x v vl vu lo hi sl Q I rx hs h1 h2 q => by
    rcases q with q | q
    · exact h pins st σ H x v vl vu lo hi sl Q I rx hs h1 h2 q
    · exact k pins st σ H x v vl vu lo hi sl Q I rx hs h1 h2 q
theorem sl_rule {K : PySem.W.Frag} : ∃ r : V → Option Int → Option Int → Hp → VK → Prop, (∀ X : Cx, X.K = K → SlR X r) ∧ ∀ lo hi, Op1 K (fun x H Q => r x lo hi H Q) (slcD lo hi) := by
  refine ⟨fun x lo hi H Q => rSlL K x lo hi H Q ∨ rSlS x lo hi H Q, fun X hK => by subst hK; exact SlR.or sl_list sl_str, fun lo hi F H x a d e hx q Q k => ?_⟩
  unfold slcD at q
  split at q
  · cases q
    obtain ⟨p, xs, rfl, h1, r1⟩ := hx.list e
    refine .inl ⟨p, xs, rfl, .inl (.inl h1), fun l hl => ?_⟩
    have ee := Ext.new (o := .lst (cutV xs lo hi)) e hl
    exact k _ _ _ ee (.lst upd_same ((cut_reps r1).mono ee.ff))
  · cases q
    obtain ⟨p, rfl, h1⟩ := hx.script e
    refine .inl ⟨p, _, rfl, h1, fun l hl => ?_⟩
    refine k _ _ _ (Ext.new e hl) (.lst upd_same ?_)
    rw [cut_ints]
    exact reps_ints _
  · split at q
    · cases q
      exact .inr ⟨_, hx.str, by assumption, k _ F H (Ext.refl e) (.str _)⟩
    · cases q
  · cases q
/-- an optional part -/
def asI (v : Val) : M (Option Int) := match v with
  | .d (.int i) => M.ret (some i)
  | .d .non => M.fail
  | _ => M.fail
def pO (G : Gm) (W : WX) (σ : L2.St) (B F0 F : Hp) (m : List Addr) (Q : Option Int → Hp → Prop) : R (Option Int) → Prop
  | .ok b S' => ∀ H' F' m', Ex F F' → m <+: m' → Rl G.K B F0 F' H' m' S' → Q b H'
  | .exc c y S' => ∀ cls d H' F' m', Ex F F' → m <+: m' → Rl G.K B F0 F' H' m' S' → XRep G F' c y cls d → W cls d σ H'
  | .bad => False
def tO (G : Gm) (W : WX) (f : Env → M (Option Int)) : TO := fun σ H Q => ∃ B F0 F m ρ S, At G σ H B F0 F m ρ S ∧ pO G W σ B F0 F m Q (f ρ S)
theorem PO.imp {e : Option Expr} {t t' : TO} (h : PO X e t) (i : ∀ σ H Q, t' σ H Q → t σ H Q) : PO X e t' := ⟨fun pins s σ H Q I q => h.run pins s σ H Q I (i σ H Q q)⟩
theorem oko_none : PO X none (tO G W fun _ => M.ret none) := PO.imp po_none fun σ H Q h => by
  obtain ⟨B, F0, F, m, ρ, S, a, h⟩ := h
  exact h H F m (Ex.refl _) (List.prefix_refl m) a.rl
theorem oko_some {e : Expr} {f : Env → M Val} (he : PE X e (tE G W f)) : PO X (some e) (tO G W fun ρ => f ρ >>= asI) := by
  refine PO.imp (po_some he) fun σ H Q h => ?_
  obtain ⟨B, F0, F, m, ρ, S, a, h⟩ := h
  refine ⟨B, F0, F, m, ρ, S, a, ?_⟩
  have h : pO G W σ B F0 F m Q ((f ρ S).bind asI) := h
  cases q : f ρ S with
  | ok v S1 =>
    rw [q] at h
    have h : pO G W σ B F0 F m Q (asI v S1) := h
    intro x H' F' m' e p r vr
    unfold asI at h
    split at h
    · exact ⟨_, Rep.int_ vr, h H' F' m' e p r⟩
    · exact h.elim
    · exact h.elim
  | exc c y S1 =>
    rw [q] at h
    exact h
  | bad =>
    rw [q] at h
    exact h
theorem ok_slc {a : Expr} {lo hi : Option Expr} {fa : Env → M Val} {fl fh : Env → M (Option Int)} {pos p2 : Pos} (g : Good G W N sc oc lv X) (ha : PE X a (tE G W fa)) (hl : PO X lo (tO G W fl)) (hh : PO X hi (tO G W fh)) :
    PE X (.Subscript a (.Slice lo hi none p2) pos) (tE G W fun ρ => fa ρ >>= fun v => fl ρ >>= fun l => fh ρ >>= fun u => op1 (slcD l u) v) := by
  obtain ⟨r, h1, h2⟩ := sl_rule (K := G.K)
  refine PE.imp (pe_slice (h1 X g.K) ha hl hh) fun σ H Q h => ?_
  obtain ⟨B, F0, F, m, ρ, S, a, h⟩ := h
  obtain ⟨B', F0', F', m', ρ', S', a', h'⟩ := seqEE (fa := fa) (k := fun v => fl ρ >>= fun l => fh ρ >>= fun u => op1 (slcD l u) v) a h
  refine ⟨B', F0', F', m', ρ', S', a', rd_op.pE_imp h' fun x H1 z => ?_⟩
  obtain ⟨F1, m1, S1, v, e1, p1, a1, v1, h1⟩ := z
  obtain ⟨B2, F02, F2, m2, ρ2, S2, a2, h2'⟩ := seqO (fa := fl) (k := fun l => fh ρ >>= fun u => op1 (slcD l u) v) a1 h1
  refine ⟨B2, F02, F2, m2, ρ2, S2, a2, pO_imp h2' fun l H2 z => ?_⟩
  obtain ⟨F3, m3, S3, e3, p3, a3, h3⟩ := z
  obtain ⟨B4, F04, F4, m4, ρ4, S4, a4, h4⟩ := seqO (fa := fh) (k := fun u => op1 (slcD l u) v) a3 h3
  refine ⟨B4, F04, F4, m4, ρ4, S4, a4, pO_imp h4 fun u H4 z => ?_⟩
  obtain ⟨F5, m5, S5, e5, p5, a5, h5⟩ := z
  exact pE.op1 (h2 l u) a5.rl ((v1.mono e3 p3).mono e5 p5) h5
where
  pO_imp {G : Gm} {W : WX} {σ : L2.St} {B F0 F : Hp} {m : List Addr} {Q Q' : Option Int → Hp → Prop} {r : R (Option Int)} (h : pO G W σ B F0 F m Q r) (i : ∀ x H, Q x H → Q' x H) : pO G W σ B F0 F m Q' r := by
    cases r with
    | ok v S' => exact fun H' F' m' e p r => i _ _ (h H' F' m' e p r)
    | exc c y S' => exact h
    | bad => exact h
  seqO {G : Gm} {W : WX} {σ : L2.St} {H : Hp} {B F0 F : Hp} {m : List Addr} {ρ : Env} {S : Store} {Q : VK} {fa : Env → M (Option Int)} {k : Option Int → M Val} (a : At G σ H B F0 F m ρ S) (h : pE G W σ B F0 F m Q ((fa ρ S).bind k)) :
      tO G W fa σ H (fun o H1 => ∃ F1 m1 S1, Ex F F1 ∧ m <+: m1 ∧ At G σ H1 B F0 F1 m1 ρ S1 ∧ pE G W σ B F0 F1 m1 Q (k o S1)) := by
    refine ⟨B, F0, F, m, ρ, S, a, ?_⟩
    cases q : fa ρ S with
    | ok v S1 =>
      rw [q] at h
      exact fun H' F' m' e p r => ⟨F', m', S1, e, p, a.go e p r, pE.mono e p h⟩
    | exc c y S1 =>
      rw [q] at h
      exact h
    | bad =>
      rw [q] at h
      exact h

/-! ### calls of defs -/
/-- a def's promise -/
def spS (G : Gm) (n : Nat) (f : List Val → M Val) : Sp := fun xs H Q E => xs.length = n ∧ ∃ B F0 F m S vs, Rl G.K B F0 F H m S ∧ VReps G.K F m xs vs ∧ (match f vs S with
  | .ok v S' => ∀ x H' F' m', Ex F F' → m <+: m' → Rl G.K B F0 F' H' m' S' → VRep G.K F' m' x v → Q x H'
  | .exc c y S' => ∀ cls d H' F' m', Ex F F' → m <+: m' → Rl G.K B F0 F' H' m' S' → XRep G F' c y cls d → E cls d H'
  | .bad => False)
/-- the def that stands at f keeps its promise -/
structure FnIs (G : Gm) (lv : Nat) (f : Addr) (n : Nat) (sem : List Val → M Val) : Prop where
  ok : ∃ (fd : FuncData) (ps : List Str), ps.length = n ∧ Binds G.K fd ps [] ∧ FnOk G.P G.w G.K G.mg G.base (L2.CX G.P G.w) lv f fd ps (spS G n sem)
  kp : PySem.W.keepIn G.K (.ref f) = true
theorem run_fnS {CX : CXT} {k : Nat} {f : Addr} {fd : FuncData} {ps : List Str} {sp : Sp} {E : XK} {pins : List (Addr × Obj)} {σ : L2.St} {H : Hp} {s : Shared} {Q : VK} {us : List Value} {vs : List V} (F : FnOk X.prog X.w X.K X.mg X.base CX k f fd ps sp) (hr : Room k X.A) (hb : Binds X.K fd ps [])
    (hx : PassesAt CX X σ E) (I : Inv X pins σ H s) (r : Vals vs us) (h : sp vs H Q E) : wpAny (model X.prog X.w) X.A (call (.ref f) us) (EP X pins σ Q) X.xe s := by
  have hl : (us ++ []).length = ps.length := by rw [List.append_nil, ← r.length]; exact F.len _ _ _ _ h
  have hb' := hb s us I.kIn hl
  rw [List.append_nil] at hb'
  refine wpAny_call (codeAny_mono (F.run X.A X.stack s H ⟨us, []⟩ us vs Q E hr I.env0 hb' r h) fun r s' hq => ?_)
  cases r with
  | error e => exact hx pins H s e s' I hq
  | ok fl =>
    cases fl with
    | ret u => exact I.after hq
    | next => exact False.elim hq
    | brk => exact False.elim hq
    | cont => exact False.elim hq
/-- a call's reading -/
def tCl (G : Gm) (W : WX) (n : Nat) (sem : List Val → M Val) (t : TA) : TE := fun σ H Q => t σ H fun vs H1 => spS G n sem vs H1 Q (WE W σ)
theorem FnIs.at_ {f : Addr} {n : Nat} {sem : List Val → M Val} (h : FnIs G lv f n sem) (g : Good G W N sc oc lv X) : ∃ (fd : FuncData) (ps : List Str), Binds X.K fd ps [] ∧ FnOk X.prog X.w X.K X.mg X.base (L2.CX X.prog X.w) lv f fd ps (spS G n sem) := by
  obtain ⟨fd, ps, hn, hb, F⟩ := h.ok
  refine ⟨fd, ps, by rw [g.K]; exact hb, ?_⟩
  rw [g.prog, g.w, g.K, g.mg, g.base]
  exact F
theorem pe_cl {x : Str} {f : Addr} {n : Nat} {sem : List Val → M Val} {e : Expr} {es : List Expr} {t : TA} {p pos : Pos} (g : Good G W N sc oc lv X) (F : FnIs G lv f n sem) (hs : sc.names.lookup x = some .globalImplicit) (hm : G.mg x = some (.ref f)) (hd : (x == ("__debug__" : Str)) = false)
    (ha : PA X (e :: es) t) (hst : (e :: es).all notStar = true) : PE X (.Call (.Name x p) (e :: es) [] pos) (tCl G W n sem t) := by
  obtain ⟨fd, ps, hb, F'⟩ := F.at_ g
  rw [List.all_cons, Bool.and_eq_true] at hst
  exact pe_callS F' g.room (g.gl hs) (by rw [g.mg]; exact hm) (by rw [g.K]; exact F.kp) hb (fun σ => passAt g.tk σ) ha hd (star_of hst.1) (stars_plain hst.2)
theorem pe_cl0 {x : Str} {f : Addr} {n : Nat} {sem : List Val → M Val} {p pos : Pos} (g : Good G W N sc oc lv X) (F : FnIs G lv f n sem) (hs : sc.names.lookup x = some .globalImplicit) (hm : G.mg x = some (.ref f)) (hd : (x == ("__debug__" : Str)) = false) :
    PE X (.Call (.Name x p) [] [] pos) (tCl G W n sem tNil) := by
  obtain ⟨fd, ps, hb, F'⟩ := F.at_ g
  refine ⟨fun pins s σ H Q I h => ?_⟩
  refine wpAny_Call_Name_kw (ld_glob I (g.gl hs) (by rw [g.mg]; exact hm) ?_ hd)
  exact PySem.W.callWith_K0 I.kIn (by rw [g.K]; exact F.kp) (run_fnS (us := []) F' g.room hb (passAt g.tk σ) I .nil h)
theorem rd_cl {n : Nat} {sem : List Val → M Val} {fs : Env → M (List Val)} (σ : L2.St) (H : Hp) (Q : VK) (h : tE G W (fun ρ => fs ρ >>= fun vs => if vs.length = n then sem vs else M.fail) σ H Q) : tCl G W n sem (tA G W fs) σ H Q := by
  obtain ⟨B, F0, F, m, ρ, S, a, h⟩ := h
  obtain ⟨B', F0', F', m', ρ', S', a', h'⟩ := seqAE (fa := fs) (k := fun vs => if vs.length = n then sem vs else M.fail) a h
  refine ⟨B', F0', F', m', ρ', S', a', pA_imp h' fun xs H1 z => ?_⟩
  obtain ⟨F1, m1, S1, vs, e1, p1, a1, v1, h1⟩ := z
  by_cases hn : vs.length = n
  · have h1 : pE G W σ B F0 F1 m1 Q ((if vs.length = n then sem vs else M.fail : M Val) S1) := h1
    rw [if_pos hn] at h1
    refine ⟨by rw [v1.length]; exact hn, B, F0, F1, m1, S1, vs, a1.rl, v1, ?_⟩
    cases q : sem vs S1 with
    | ok v S2 =>
      rw [q] at h1
      exact h1
    | exc c y S2 =>
      rw [q] at h1
      exact h1
    | bad =>
      rw [q] at h1
      exact h1
  · have h1 : pE G W σ B F0 F1 m1 Q ((if vs.length = n then sem vs else M.fail : M Val) S1) := h1
    rw [if_neg hn] at h1
    exact h1.elim
def callN (n : Nat) (sem : List Val → M Val) (vs : List Val) : M Val := if vs.length = n then sem vs else M.fail
theorem ok_call {x : Str} {f : Addr} {n : Nat} {sem : List Val → M Val} {e : Expr} {es : List Expr} {fs : Env → M (List Val)} {p pos : Pos} (g : Good G W N sc oc lv X) (F : FnIs G lv f n sem) (hs : sc.names.lookup x = some .globalImplicit) (hm : G.mg x = some (.ref f)) (hd : (x == ("__debug__" : Str)) = false)
    (ha : PA X (e :: es) (tA G W fs)) (hst : (e :: es).all notStar = true) : PE X (.Call (.Name x p) (e :: es) [] pos) (tE G W fun ρ => fs ρ >>= callN n sem) :=
  PE.imp (pe_cl g F hs hm hd ha hst) rd_cl
theorem ok_call0 {x : Str} {f : Addr} {n : Nat} {sem : List Val → M Val} {p pos : Pos} (g : Good G W N sc oc lv X) (F : FnIs G lv f n sem) (hs : sc.names.lookup x = some .globalImplicit) (hm : G.mg x = some (.ref f)) (hd : (x == ("__debug__" : Str)) = false) :
    PE X (.Call (.Name x p) [] [] pos) (tE G W fun ρ => M.ret [] >>= callN n sem) := by
  refine PE.imp (pe_cl0 g F hs hm hd) fun σ H Q h => ?_
  have h2 := rd_cl (fs := fun _ => M.ret []) σ H Q h
  obtain ⟨B, F0, F, m, ρ, S, a, h3⟩ := h2
  exact h3 [] H F m (Ex.refl _) (List.prefix_refl m) a.rl .nil

/-! ### built-ins -/
def OpA (K : PySem.W.Frag) (r : List V → Hp → VK → Prop) (g : List D → Option D) : Prop := ∀ (F H : Hp) (xs : List V) (ds : List D) (d : D), Ex F H → TReps K F H xs ds → g ds = some d →
  ∀ Q : VK, (∀ z F' H', Ext F H F' H' → Rep K F' z d → Q z H') → r xs H Q
def opA (g : List D → Option D) (vs : List Val) : M Val := fun S => match asDs S vs with
  | some ds => (match g ds with
    | some d => .ok (.d d) S
    | none => .bad)
  | none => .bad
theorem pE.opA {σ : L2.St} {H : Hp} {B F0 F : Hp} {m : List Addr} {S : Store} {r : List V → Hp → VK → Prop} {g : List D → Option D} {xs : List V} {vs : List Val} {Q : VK} (o : OpA G.K r g) (a : Rl G.K B F0 F H m S) (hx : VReps G.K F m xs vs) (h : pE G W σ B F0 F m Q (opA g vs S)) : r xs H Q := by
  unfold PD.opA at h
  cases q1 : asDs S vs with
  | none =>
    rw [q1] at h
    exact h.elim
  | some ds =>
    rw [q1] at h
    have h' : pE G W σ B F0 F m Q (match g ds with | some d => R.ok (.d d) S | none => .bad) := h
    cases q3 : g ds with
    | none =>
      rw [q3] at h'
      exact h'.elim
    | some d =>
      rw [q3] at h'
      exact o F H xs ds d a.ex (asDs_reps a hx q1) q3 Q fun z F' H' e z' => pE.here a h' e z'
theorem rd_cb {r : List V → Hp → VK → Prop} {g : List D → Option D} {fs : Env → M (List Val)} (o : OpA G.K r g) (σ : L2.St) (H : Hp) (Q : VK) (h : tE G W (fun ρ => fs ρ >>= opA g) σ H Q) : tCB r (tA G W fs) σ H Q := by
  obtain ⟨B, F0, F, m, ρ, S, a, h⟩ := h
  obtain ⟨B', F0', F', m', ρ', S', a', h'⟩ := seqAE (fa := fs) (k := opA g) a h
  refine ⟨B', F0', F', m', ρ', S', a', pA_imp h' fun xs H1 z => ?_⟩
  obtain ⟨F1, m1, S1, vs, e1, p1, a1, v1, h1⟩ := z
  exact pE.opA o a1.rl v1 h1

/-! ### fields -/
def fldD (f : Str) : D → Option D
  | .obj _ fs => fs.lookup f
  | _ => none
theorem ok_fld {o : Expr} {f : Str} {fo : Env → M Val} {pos : Pos} (g : Good G W N sc oc lv X) (ho : PE X o (tE G W fo)) (hc0 : notCall0 o = true) (cs : List Str) (hc : ∀ c ∈ cs, Cls G.K (He.ga G.K c) ∧ NoAttr G.K (He.ga G.K c) f) :
    PE X (.Attribute o f pos) (tE G W fun ρ => fo ρ >>= fun v => op1 (fun d => match d with | .obj c fs => if c ∈ cs then fs.lookup f else none | _ => none) v) := by
  refine PE.imp (pe_fld ho (attr_of hc0)) fun σ H Q h => ?_
  refine rd_un (r := fun x H1 Q => ∃ a C dx fs v, x = .ref a ∧ H1 a = some (.ins C dx fs) ∧ Cls X.K C ∧ NoAttr X.K C f ∧ fs.lookup f = some v ∧ Q v H1) (fun F H x a d e hx q Q k => ?_) σ H Q h
  cases a with
  | obj c fs =>
    have q : (if c ∈ cs then fs.lookup f else none) = some d := q
    by_cases hm : c ∈ cs
    · rw [if_pos hm] at q
      obtain ⟨a, dx, fs', rfl, h1, h2⟩ := hx.object e
      obtain ⟨v, h3, h4⟩ := h2.lookup q
      rw [g.K]
      exact ⟨a, _, dx, fs', v, rfl, h1, (hc c hm).1, (hc c hm).2, h3, k _ F H (Ext.refl e) h4⟩
    · rw [if_neg hm] at q
      cases q
  | _ => cases q
end
end PD

/-! PD6: statements. -/
namespace PD
open PySem L2

/-- how a statement ends -/
inductive O where
  | nx (ρ : Env) (S : Store) | ret (v : Val) (S : Store) | brk (ρ : Env) (S : Store) | cnt (ρ : Env) (S : Store) | exc (c : Str) (x : D) (ρ : Env) (S : Store) | bad
abbrev MS := Env → Store → O
def pS (G : Gm) (W : WX) (B F0 F : Hp) (m : List Addr) (D : Ends) : O → Prop
  | .nx ρ' S' => ∀ σ' H' F' m', Ex F F' → m <+: m' → At G σ' H' B F0 F' m' ρ' S' → D.nx σ' H'
  | .ret v S' => ∀ x H' F' m', Ex F F' → m <+: m' → Rl G.K B F0 F' H' m' S' → VRep G.K F' m' x v → D.rt x H'
  | .brk ρ' S' => ∀ σ' H' F' m', Ex F F' → m <+: m' → At G σ' H' B F0 F' m' ρ' S' → D.bk σ' H'
  | .cnt ρ' S' => ∀ σ' H' F' m', Ex F F' → m <+: m' → At G σ' H' B F0 F' m' ρ' S' → D.ct σ' H'
  | .exc c y ρ' S' => ∀ cls d σ' H' F' m', Ex F F' → m <+: m' → At G σ' H' B F0 F' m' ρ' S' → XRep G F' c y cls d → W cls d σ' H'
  | .bad => False
def tS (G : Gm) (W : WX) (f : MS) : TS := fun D σ H => ∃ B F0 F m ρ S, At G σ H B F0 F m ρ S ∧ pS G W B F0 F m D (f ρ S)
/-- an expression ahead of the rest of a statement -/
def R.into (r : R Val) (ρ : Env) (k : Val → Store → O) : O := match r with
  | .ok v S => k v S
  | .exc c x S => .exc c x ρ S
  | .bad => .bad
def R.intoT (r : R Bool) (ρ : Env) (k : Bool → Store → O) : O := match r with
  | .ok v S => k v S
  | .exc c x S => .exc c x ρ S
  | .bad => .bad
section
variable {G : Gm} {W : WX} {N : List Str} {sc oc : Scope} {lv : Nat} {X : Cx} {σ : L2.St} {H : Hp} {B F0 F F1 : Hp} {m m1 : List Addr} {ρ : Env} {S : Store}
theorem pS.mono {D : Ends} {o : O} (e : Ex F F1) (p : m <+: m1) (h : pS G W B F0 F m D o) : pS G W B F0 F1 m1 D o := by
  cases o with
  | nx ρ' S' => exact fun σ' H' F' m' e' p' => h σ' H' F' m' (e.trans e') (p.trans p')
  | ret v S' => exact fun x H' F' m' e' p' => h x H' F' m' (e.trans e') (p.trans p')
  | brk ρ' S' => exact fun σ' H' F' m' e' p' => h σ' H' F' m' (e.trans e') (p.trans p')
  | cnt ρ' S' => exact fun σ' H' F' m' e' p' => h σ' H' F' m' (e.trans e') (p.trans p')
  | exc c y ρ' S' => exact fun cls d σ' H' F' m' e' p' => h cls d σ' H' F' m' (e.trans e') (p.trans p')
  | bad => exact h
theorem seqES {D : Ends} {fa : Env → M Val} {k : Val → Store → O} (a : At G σ H B F0 F m ρ S) (h : pS G W B F0 F m D ((fa ρ S).into ρ k)) :
    tE G W fa σ H (fun x H1 => ∃ F1 m1 S1 v, Ex F F1 ∧ m <+: m1 ∧ At G σ H1 B F0 F1 m1 ρ S1 ∧ VRep G.K F1 m1 x v ∧ pS G W B F0 F1 m1 D (k v S1)) := by
  refine ⟨B, F0, F, m, ρ, S, a, ?_⟩
  cases q : fa ρ S with
  | ok v S1 =>
    rw [q] at h
    exact fun x H' F' m' e p r vr => ⟨F', m', S1, v, e, p, a.go e p r, vr, pS.mono e p h⟩
  | exc c y S1 =>
    rw [q] at h
    exact fun cls d H' F' m' e p r xr => h cls d σ H' F' m' e p (a.go e p r) xr
  | bad =>
    rw [q] at h
    exact h
theorem seqTS {D : Ends} {fa : Env → M Bool} {k : Bool → Store → O} (a : At G σ H B F0 F m ρ S) (h : pS G W B F0 F m D ((fa ρ S).intoT ρ k)) :
    tT G W fa σ H (fun b H1 => ∃ F1 m1 S1, Ex F F1 ∧ m <+: m1 ∧ At G σ H1 B F0 F1 m1 ρ S1 ∧ pS G W B F0 F1 m1 D (k b S1)) := by
  refine ⟨B, F0, F, m, ρ, S, a, ?_⟩
  cases q : fa ρ S with
  | ok v S1 =>
    rw [q] at h
    exact fun H' F' m' e p r => ⟨F', m', S1, e, p, a.go e p r, pS.mono e p h⟩
  | exc c y S1 =>
    rw [q] at h
    exact fun cls d H' F' m' e p r xr => h cls d σ H' F' m' e p (a.go e p r) xr
  | bad =>
    rw [q] at h
    exact h

/-! ### blocks -/
def sNil : MS := fun ρ S => .nx ρ S
def sSeq (f g : MS) : MS := fun ρ S => match f ρ S with
  | .nx ρ' S' => g ρ' S'
  | o => o
theorem oks_nil : PSs X [] (tS G W sNil) := PSs.imp pss_nil fun D σ H h => by
  obtain ⟨B, F0, F, m, ρ, S, a, h⟩ := h
  exact h σ H F m (Ex.refl _) (List.prefix_refl m) a
theorem oks_cons {st : Stmt} {rest : List Stmt} {f g : MS} (h1 : PS X st (tS G W f)) (h2 : PSs X rest (tS G W g)) : PSs X (st :: rest) (tS G W (sSeq f g)) := by
  refine PSs.imp (pss_cons h1 h2) fun D σ H h => ?_
  obtain ⟨B, F0, F, m, ρ, S, a, h⟩ := h
  refine ⟨B, F0, F, m, ρ, S, a, ?_⟩
  unfold sSeq at h
  cases q : f ρ S with
  | nx ρ' S' =>
    rw [q] at h
    exact fun σ' H' F' m' e p a' => ⟨B, F0, F', m', ρ', S', a', pS.mono e p h⟩
  | ret v S' => rw [q] at h; exact h
  | brk ρ' S' => rw [q] at h; exact h
  | cnt ρ' S' => rw [q] at h; exact h
  | exc c y ρ' S' => rw [q] at h; exact h
  | bad => rw [q] at h; exact h
/-- a step that the text does not show -/
theorem oks_ghost {st : List Stmt} {g : MS} {f : MS} (hf : ∀ σ H B F0 F m ρ S, At G σ H B F0 F m ρ S → ∀ D, pS G W B F0 F m D (sSeq f g ρ S) → tS G W g D σ H) (h : PSs X st (tS G W g)) : PSs X st (tS G W (sSeq f g)) :=
  PSs.imp h fun D σ H q => by
    obtain ⟨B, F0, F, m, ρ, S, a, q⟩ := q
    exact hf σ H B F0 F m ρ S a D q
/-- a local list or dict is plain from here on -/
def sFrz (i : Nat) : MS := fun ρ S => match ρ[i]? with
  | some (some (.loc n)) => (match soD S[n]? with
    | some d => .nx (ρ.set i (some (.d d))) (S.set n none)
    | none => .bad)
  | some (some (.d d)) => .nx ρ S
  | _ => .bad
theorem oks_frz {st : List Stmt} {g : MS} {i : Nat} (h : PSs X st (tS G W g)) : PSs X st (tS G W (sSeq (sFrz i) g)) := by
  refine oks_ghost (fun σ H B F0 F m ρ S a D q => ?_) h
  unfold sSeq sFrz at q
  cases q1 : ρ[i]? with
  | none => rw [q1] at q; exact q.elim
  | some o =>
    cases o with
    | none => rw [q1] at q; exact q.elim
    | some v =>
      cases v with
      | d x =>
        rw [q1] at q
        exact ⟨B, F0, F, m, ρ, S, a, q⟩
      | loc n =>
        rw [q1] at q
        dsimp only at q
        cases q2 : S[n]? with
        | none =>
          rw [q2] at q
          exact q.elim
        | some so =>
          cases so with
          | none =>
            rw [q2] at q
            exact q.elim
          | some o =>
            rw [q2] at q
            obtain ⟨b, hb, hf, ho⟩ := a.rl.ob n o q2
            have hl : n < S.length := (List.getElem?_eq_some_iff.mp q2).1
            obtain ⟨x, hx, a', ha', rfl⟩ := a.env.at_ i (.loc n) q1
            rw [hb] at ha'
            cases ha'
            have hil : i < ρ.length := (List.getElem?_eq_some_iff.mp q1).1
            have hil2 : i < σ.length := by rw [← a.env.len]; exact hil
            have fin : ∀ (u : HO) (d : PD.D), H b = some u → soD (some (some o)) = some d → (∀ F1, F1 b = some u → Ex F F1 → Rep G.K F1 (.ref b) d) → tS G W g D σ H := fun u d hu hd hr => by
              have q : pS G W B F0 F m D (match (match soD (some (some o)) with | some d => O.nx (ρ.set i (some (.d d))) (S.set n none) | none => .bad) with | .nx ρ' S' => g ρ' S' | o => o) := q
              rw [hd] at q
              have hex : Ex F (upd F b u) := Ex.new hf
              refine ⟨B, F0, upd F b u, m, ρ.set i (some (.d d)), S.set n none, ⟨?_, a.rl.freeze hb hf hl hu⟩, pS.mono hex (List.prefix_refl m) q⟩
              have e1 := a.env.mono hex (List.prefix_refl m)
              refine ⟨by rw [List.length_set]; exact e1.len, fun j w hw => ?_⟩
              rw [List.getElem?_set] at hw
              by_cases hij : i = j
              · rw [if_pos hij, if_pos hil] at hw
                cases hw
                subst hij
                exact ⟨.ref b, hx, hr _ upd_same hex⟩
              · rw [if_neg hij] at hw
                exact e1.at_ j w hw
            cases o with
            | lst ds =>
              obtain ⟨xs, h2, h3⟩ := ho
              exact fin _ _ h2 rfl fun F1 h e => .lst h (h3.mono e)
            | dct ds =>
              rcases ho with ⟨xs, h2, h3⟩ | ⟨xs, h2, h3⟩
              · exact fin _ _ h2 rfl fun F1 h e => .dK h (h3.mono e)
              · exact fin _ _ h2 rfl fun F1 h e => .dT h (h3.mono e)
            | obj c fs =>
              obtain ⟨dx, xs, h2, h3⟩ := ho
              exact fin _ _ h2 rfl fun F1 h e => .obj h (h3.mono e)

/-! ### simple statements -/
def sRet (f : Env → M Val) : MS := fun ρ S => (f ρ S).into ρ fun v S' => .ret v S'
theorem ok_ret {e : Expr} {f : Env → M Val} {pos : Pos} (h : PE X e (tE G W f)) : PS X (.Return (some e) pos) (tS G W (sRet f)) := by
  refine PS.imp (ps_ret h) fun D σ H h => ?_
  obtain ⟨B, F0, F, m, ρ, S, a, h⟩ := h
  obtain ⟨B', F0', F', m', ρ', S', a', h'⟩ := seqES (fa := f) (k := fun v S' => .ret v S') a h
  refine ⟨B', F0', F', m', ρ', S', a', rd_op.pE_imp h' fun x H1 z => ?_⟩
  obtain ⟨F1, m1, S1, v, e1, p1, a1, v1, h1⟩ := z
  exact h1 x H1 F1 m1 (Ex.refl _) (List.prefix_refl m1) a1.rl v1
def sExpr (f : Env → M Val) : MS := fun ρ S => (f ρ S).into ρ fun _ S' => .nx ρ S'
def notSwap : Expr → Bool
  | .ListComp .. => false
  | .SetComp .. => false
  | .DictComp .. => false
  | _ => true
theorem ok_pass {pos : Pos} : PS X (.Pass pos) (tS G W sNil) := PS.imp ps_pass fun D σ H h => by
  obtain ⟨B, F0, F, m, ρ, S, a, h⟩ := h
  exact h σ H F m (Ex.refl _) (List.prefix_refl m) a
def sBrk : MS := fun ρ S => .brk ρ S
def sCnt : MS := fun ρ S => .cnt ρ S
theorem ok_brk {pos : Pos} : PS X (.Break pos) (tS G W sBrk) := PS.imp ps_break fun D σ H h => by
  obtain ⟨B, F0, F, m, ρ, S, a, h⟩ := h
  exact h σ H F m (Ex.refl _) (List.prefix_refl m) a
theorem ok_cnt {pos : Pos} : PS X (.Continue pos) (tS G W sCnt) := PS.imp ps_continue fun D σ H h => by
  obtain ⟨B, F0, F, m, ρ, S, a, h⟩ := h
  exact h σ H F m (Ex.refl _) (List.prefix_refl m) a
def sIf (c : Env → M Bool) (f g : MS) : MS := fun ρ S => (c ρ S).intoT ρ fun b S' => if b then f ρ S' else g ρ S'
theorem ok_if {c : Expr} {a b : List Stmt} {fc : Env → M Bool} {f g : MS} {pos : Pos} (hc : PT X c (tT G W fc)) (h1 : PSs X a (tS G W f)) (h2 : PSs X b (tS G W g)) : PS X (.If c a b pos) (tS G W (sIf fc f g)) := by
  refine PS.imp (ps_if hc h1 h2) fun D σ H h => ?_
  obtain ⟨B, F0, F, m, ρ, S, a, h⟩ := h
  obtain ⟨B', F0', F', m', ρ', S', a', h'⟩ := seqTS (fa := fc) (k := fun b S' => if b then f ρ S' else g ρ S') a h
  refine ⟨B', F0', F', m', ρ', S', a', ok_and.pT_imp h' fun k H1 z => ?_⟩
  obtain ⟨F1, m1, S1, e1, p1, a1, h1⟩ := z
  cases k with
  | true =>
    rw [if_pos rfl]
    exact ⟨B, F0, F1, m1, ρ, S1, a1, h1⟩
  | false =>
    rw [if_neg Bool.false_ne_true]
    exact ⟨B, F0, F1, m1, ρ, S1, a1, h1⟩

/-! ### targets -/
/-- where a value goes -/
inductive Tg where
  | nm (i : Nat) | tp (ts : List Tg)
mutual
def Tg.bind : Tg → Val → Env → Option Env
  | .nm i, v, ρ => some (ρ.set i (some v))
  | .tp ts, v, ρ => match v with
    | .d (.tup ds) => Tg.binds ts ds ρ
    | _ => none
def Tg.binds : List Tg → List D → Env → Option Env
  | [], [], ρ => some ρ
  | t :: ts, d :: ds, ρ => match Tg.bind t (.d d) ρ with
    | some ρ' => Tg.binds ts ds ρ'
    | none => none
  | _, _, _ => none
end
mutual
def Tg.slots : Tg → List Nat
  | .nm i => [i]
  | .tp ts => Tg.slotss ts
def Tg.slotss : List Tg → List Nat
  | [] => []
  | t :: ts => Tg.slots t ++ Tg.slotss ts
end
/-- but for some slots all is as it was -/
def Off (sl : List Nat) (σ σ' : L2.St) : Prop := σ'.length = σ.length ∧ ∀ j, j ∉ sl → σ'[j]? = σ[j]?
theorem Off.refl {sl : List Nat} {σ : L2.St} : Off sl σ σ := ⟨rfl, fun _ _ => rfl⟩
theorem Off.trans {a b : List Nat} {σ σ1 σ2 : L2.St} (h : Off a σ σ1) (k : Off b σ1 σ2) : Off (a ++ b) σ σ2 := ⟨k.1.trans h.1, fun j hj => by
  rw [List.mem_append] at hj
  rw [k.2 j fun z => hj (.inr z), h.2 j fun z => hj (.inl z)]⟩
theorem Off.set {i : Nat} {σ : L2.St} {x : Option V} : Off [i] σ (σ.set i x) := ⟨List.length_set .., fun j hj => by
  rw [List.getElem?_set, if_neg fun z => hj (by rw [z]; exact List.mem_singleton.mpr rfl)]⟩
def tG (G : Gm) (t : Tg) : TG := fun x σ H Q => ∃ F m ρ v, Ex F H ∧ EnvR G.K F m σ ρ ∧ VRep G.K F m x v ∧ (match t.bind v ρ with
  | some ρ' => ∀ σ', EnvR G.K F m σ' ρ' → Off t.slots σ σ' → Q σ' H
  | none => False)
def tGs (G : Gm) (ts : List Tg) : TGs := fun xs σ H Q => ∃ F m ρ ds, Ex F H ∧ EnvR G.K F m σ ρ ∧ Reps G.K F xs ds ∧ (match Tg.binds ts ds ρ with
  | some ρ' => ∀ σ', EnvR G.K F m σ' ρ' → Off (Tg.slotss ts) σ σ' → Q σ' H
  | none => False)
theorem PG.imp {e : Expr} {t t' : TG} (h : PG X e t) (i : ∀ x σ H Q, t' x σ H Q → t x σ H Q) : PG X e t' := ⟨fun pins s σ H x v Q I r q => h.run pins s σ H x v Q I r (i x σ H Q q)⟩
theorem okg_name {i : Nat} {x : Str} {pos : Pos} (g : Good G W N sc oc lv X) (hN : N[i]? = some x) (hl : LocO sc oc x) : PG X (.Name x pos) (tG G (.nm i)) := by
  refine PG.imp (pg_name (i := i) (by rw [g.hN]; exact g.nd) (by rw [g.hN]; exact hN) (by rw [g.hs]; exact hl.loc) (hl.fn g)) fun y σ H Q h => ?_
  · obtain ⟨F, m, ρ, v, e, r, vr, h⟩ := h
    have h : ∀ σ', EnvR G.K F m σ' (ρ.set i (some v)) → Off [i] σ σ' → Q σ' H := by
      have h' := h
      simp only [Tg.bind, Tg.slots] at h'
      exact h'
    exact h _ (r.set vr) Off.set
theorem assignEach_cons {e : Expr} {es : List Expr} {env : PySem.Env} (h : notStar e = true) : assignEach (e :: es) env = (false, assign e env) :: assignEach es env := by
  cases e <;> first | (cases h; done) | (simp only [assignEach])
theorem assignEach_len {env : PySem.Env} : ∀ {es : List Expr}, es.all notStar = true → (assignEach es env).length = es.length
  | [], _ => by simp only [assignEach]; rfl
  | e :: es, h => by
    rw [List.all_cons, Bool.and_eq_true] at h
    rw [assignEach_cons h.1, List.length_cons, List.length_cons, assignEach_len h.2]
theorem assignEach_find {env : PySem.Env} : ∀ {es : List Expr}, es.all notStar = true → List.findIdx? (fun x => x.fst) (assignEach es env) = none
  | [], _ => by simp only [assignEach]; rfl
  | e :: es, h => by
    rw [List.all_cons, Bool.and_eq_true] at h
    rw [assignEach_cons h.1, List.findIdx?_cons, assignEach_find h.2]
    rfl
theorem okgs_nil : PGs X [] (tGs G []) := ⟨fun pins s σ H xs vs Q I r q => pgs_nil.run pins s σ H xs vs Q I r (by
  obtain ⟨F, m, ρ, ds, e, er, rr, h⟩ := q
  cases rr with
  | nil =>
    simp only [Tg.binds] at h
    exact ⟨rfl, h σ er Off.refl⟩
  | cons h1 h2 =>
    simp only [Tg.binds] at h)⟩
theorem okgs_cons {e : Expr} {es : List Expr} {t : Tg} {ts : List Tg} (h1 : PG X e (tG G t)) (h2 : PGs X es (tGs G ts)) (hst : notStar e = true) : PGs X (e :: es) (tGs G (t :: ts)) :=
  ⟨fun pins s σ H xs vs Q I r q => (pgs_cons h1 h2 (by rw [assignEach_cons hst]; rfl)).run pins s σ H xs vs Q I r (by
    obtain ⟨F, m, ρ, ds, e, er, rr, h⟩ := q
    cases rr with
    | nil => simp only [Tg.binds] at h
    | cons k1 k2 =>
      rename_i v d vs' ds'
      refine ⟨v, vs', rfl, F, m, ρ, .d d, e, er, k1, ?_⟩
      simp only [Tg.binds] at h
      cases q : Tg.bind t (.d d) ρ with
      | none =>
        rw [q] at h
        exact h.elim
      | some ρ' =>
        rw [q] at h
        refine fun σ' er' of1 => ⟨F, m, ρ', ds', e, er', k2, ?_⟩
        cases q2 : Tg.binds ts ds' ρ' with
        | none =>
          simp only [q2] at h
        | some ρ2 =>
          simp only [q2] at h
          simp only [Tg.slotss] at h
          exact fun σ2 er2 of2 => h σ2 er2 (of1.trans of2))⟩
theorem okg_tup {es : List Expr} {k : Nat} {ts : List Tg} {pos : Pos} (g : Good G W N sc oc lv X) (h : PGs X es (tGs G ts)) (hst : es.all notStar = true) (hlen : ts.length = es.length) : PG X (.Tuple es k pos) (tG G (.tp ts)) := by
  refine PG.imp (pg_tup (n := es.length) g.calm h (assignEach_len hst) (assignEach_find hst)) fun x σ H Q q => ?_
  obtain ⟨F, m, ρ, v, e, er, vr, q⟩ := q
  cases v with
  | loc n =>
    simp only [Tg.bind] at q
  | d y =>
    cases y with
    | tup ds =>
      have q' : (match Tg.binds ts ds ρ with | some ρ' => ∀ σ', EnvR G.K F m σ' ρ' → Off (Tg.slotss ts) σ σ' → Q σ' H | none => False) := by
        simp only [Tg.bind, Tg.slots] at q
        exact q
      obtain ⟨a, xs, rfl, h1, r1⟩ := TRep.tuple (K := G.K) (H := H) e (.rep vr)
      have hl : ∀ (ts : List Tg) (ds : List D) (ρ ρ' : Env), Tg.binds ts ds ρ = some ρ' → ts.length = ds.length := by
        intro ts
        induction ts with
        | nil =>
          intro ds ρ ρ' h
          cases ds with
          | nil => rfl
          | cons d ds => simp only [Tg.binds] at h; cases h
        | cons t ts ih =>
          intro ds ρ ρ' h
          cases ds with
          | nil => simp only [Tg.binds] at h; cases h
          | cons d ds =>
            simp only [Tg.binds] at h
            cases q : Tg.bind t (.d d) ρ with
            | none => rw [q] at h; cases h
            | some ρ1 =>
              rw [q] at h
              rw [List.length_cons, List.length_cons, ih ds ρ1 ρ' h]
      rw [g.K]
      cases q2 : Tg.binds ts ds ρ with
      | none =>
        rw [q2] at q'
        exact q'.elim
      | some ρ' =>
        refine ⟨a, xs, rfl, h1, ?_, F, m, ρ, ds, e, er, r1, ?_⟩
        · rw [r1.length, ← hl ts ds ρ ρ' q2, hlen]
        · rw [q2] at q' ⊢
          exact q'
    | _ => simp only [Tg.bind] at q

/-! ### assignments -/
def sAsg (f : Env → M Val) (t : Tg) : MS := fun ρ S => (f ρ S).into ρ fun v S' => match t.bind v ρ with
  | some ρ' => .nx ρ' S'
  | none => .bad
theorem swaps_of {e tg : Expr} {line : Nat} {env : PySem.Env} (h : notSwap e = true) : swapsWithSole [tg] e line env = pure false := by
  show swapsWith e (some tg) line env = pure false
  cases e <;> first | (cases h; done) | rfl
theorem swaps0_of {e : Expr} {line : Nat} {env : PySem.Env} (h : notSwap e = true) : swapsWith e none line env = pure false := by
  cases e <;> first | (cases h; done) | rfl
def notTuples : Expr → Expr → Bool
  | .Tuple .., .Tuple .. => false
  | .List .., .Tuple .. => false
  | _, _ => true
theorem swapped_of {tg e : Expr} {env : PySem.Env} (h : notTuples tg e = true) : swappedStores [tg] e env = pure none := by
  cases tg <;> cases e <;> first | (cases h; done) | rfl
theorem assign1_of {tg : Expr} {env : PySem.Env} (h : notStar tg = true) : List.map (fun x => x.snd) (assignEach [tg] env) = [assign tg env] := by
  rw [assignEach_cons h]
  simp only [assignEach]
  rfl
theorem rd_asg {f : Env → M Val} {t : Tg} (D : Ends) (σ : L2.St) (H : Hp) (h : tS G W (sAsg f t) D σ H) : tAsg (tE G W f) (tG G t) D σ H := by
  obtain ⟨B, F0, F, m, ρ, S, a, h⟩ := h
  obtain ⟨B', F0', F', m', ρ', S', a', h'⟩ := seqES (fa := f) (k := fun v S' => match t.bind v ρ with | some ρ' => .nx ρ' S' | none => .bad) a h
  refine ⟨B', F0', F', m', ρ', S', a', rd_op.pE_imp h' fun x H1 z => ?_⟩
  obtain ⟨F1, m1, S1, v, e1, p1, a1, v1, h1⟩ := z
  refine ⟨F1, m1, ρ, v, a1.rl.ex, a1.env, v1, ?_⟩
  cases q : t.bind v ρ with
  | none =>
    rw [q] at h1
    exact h1.elim
  | some ρ1 =>
    rw [q] at h1
    exact fun σ' er _ => h1 σ' H1 F1 m1 (Ex.refl _) (List.prefix_refl m1) ⟨er, a1.rl⟩
theorem ok_asg {tg e : Expr} {f : Env → M Val} {t : Tg} {pos : Pos} (he : PE X e (tE G W f)) (hg : PG X tg (tG G t)) (h1 : notSwap e = true) (h2 : notTuples tg e = true) (h3 : notStar tg = true) : PS X (.Assign [tg] e pos) (tS G W (sAsg f t)) :=
  PS.imp (ps_asg he hg (swaps_of h1) (swapped_of h2) (assign1_of h3)) rd_asg
/-- x op= e -/
def addI : D → D → Option D
  | .int i, .int j => some (.int (i + j))
  | _, _ => none
def mulI : D → D → Option D
  | .int i, .int j => if mulFits i j then some (.int (i * j)) else none
  | _, _ => none
def augD : Operator → D → D → Option D
  | .Add => addI
  | .Sub => subD
  | .Mult => mulI
  | .FloorDiv => fdivD
  | _ => fun _ _ => none
theorem addI_i {a b d : D} (h : addI a b = some d) : ∃ i j, a = .int i ∧ b = .int j ∧ True ∧ d = .int (i + j) := by
  unfold addI at h; split at h
  · cases h; exact ⟨_, _, rfl, rfl, trivial, rfl⟩
  · cases h
theorem mulI_i {a b d : D} (h : mulI a b = some d) : ∃ i j, a = .int i ∧ b = .int j ∧ mulFits i j = true ∧ d = .int (i * j) := by
  unfold mulI at h; split at h
  · split at h
    · cases h; exact ⟨_, _, rfl, rfl, by assumption, rfl⟩
    · cases h
  · cases h
def sAug (i : Nat) (op : Operator) (f : Env → M Val) : MS := fun ρ S => (evVar i ρ S).into ρ fun v S1 => (f ρ S1).into ρ fun w S2 => (op2 (augD op) v w S2).into ρ fun z S3 => .nx (ρ.set i (some z)) S3
theorem pip_int {op : Operator} {C : Int → Int → Prop} {g : Int → Int → Int} (h : ∀ (i j : Int) (t u : Tok) (s : Shared) (Q E : Value → Shared → Prop), C i j → Q (.int (g i j) s.toks) { s with toks := s.toks + 1 } → wpAny (model X.prog X.w) X.A (inplaceOp op (.int i t) (.int j u)) Q E s) :
    PIp X op (fun x y H Q => ∃ i j, x = .int i ∧ y = .int j ∧ C i j ∧ Q (.int (g i j)) H) := fun pins s σ H x y v u Q I rx ry q => by
  obtain ⟨i, j, rfl, rfl, c, q⟩ := q
  obtain ⟨t, rfl⟩ := rx
  obtain ⟨t', rfl⟩ := ry
  exact h i j t t' s _ _ c ⟨.int (g i j), H, I.tok _, ⟨_, rfl⟩, q⟩
theorem aug_rule (op : Operator) : ∃ r : TIp, (∀ X : Cx, PIp X op r) ∧ ∀ K, Op2 K r (augD op) := by
  have never : ∃ r : TIp, (∀ X : Cx, PIp X op r) ∧ ∀ K, Op2 K r (fun _ _ => none) := ⟨fun _ _ _ _ => False, fun X pins s σ H x y v u Q I rx ry h => h.elim, fun K F H x y a b d e hx hy q => by cases q⟩
  cases op with
  | Add => exact ⟨_, fun X => pip_int (C := fun _ _ => True) (g := fun i j => i + j) fun i j t u s Q E _ q => PyProof.Rows.iadd_int q, fun K => o2_int (f := fun _ _ => none) fun a b d h => addI_i h⟩
  | Sub => exact ⟨_, fun X => pip_int (C := fun _ _ => True) (g := fun i j => i - j) fun i j t u s Q E _ q => PyProof.Rows.isub_int q, fun K => o2_int (f := fun _ _ => none) fun a b d h => sub_i h⟩
  | Mult => exact ⟨_, fun X => pip_int (C := fun i j => mulFits i j = true) (g := fun i j => i * j) fun i j t u s Q E c q => PyProof.Rows.imul_int q (mulFits.ok c), fun K => o2_int (f := fun _ _ => none) fun a b d h => mulI_i h⟩
  | FloorDiv =>
    refine ⟨_, fun X => pip_int (C := fun i j => divFits i j = true) (g := fun i j => i.fdiv j) fun i j t u s Q E c q => ?_, fun K => o2_int (f := fun _ _ => none) fun a b d h => fdiv_i h⟩
    obtain ⟨h1, h2⟩ := Bool.and_eq_true_iff.mp c
    exact PyProof.Rows.ifloordiv_int (of_decide_eq_true h1) q (.inl (by simpa using h2))
  | _ => exact never
theorem ok_aug {op : Operator} {i : Nat} {x : Str} {e : Expr} {f : Env → M Val} {pos pos' : Pos} (g : Good G W N sc oc lv X) (hN : N[i]? = some x) (hl : LocO sc oc x) (he : PE X e (tE G W f)) : PS X (.AugAssign (.Name x pos') op e pos) (tS G W (sAug i op f)) := by
  obtain ⟨r, h1, h2⟩ := aug_rule op
  refine PS.imp (ps_aug (i := i) (by rw [g.hN]; exact g.nd) (by rw [g.hN]; exact hN) (by rw [g.hs]; exact hl.loc) he (h1 X) (hl.fn g)) fun D σ H h => ?_
  · obtain ⟨B, F0, F, m, ρ, S, a, h⟩ := h
    unfold sAug at h
    cases q : ρ[i]? with
    | none =>
      have z : evVar i ρ S = .bad := by unfold evVar; rw [q]; rfl
      rw [z] at h
      exact h.elim
    | some o =>
      cases o with
      | none =>
        have z : evVar i ρ S = .bad := by unfold evVar; rw [q]; rfl
        rw [z] at h
        exact h.elim
      | some v =>
        have z : evVar i ρ S = .ok v S := by unfold evVar; rw [q]; rfl
        rw [z] at h
        obtain ⟨y, hy, vy⟩ := a.env.at_ i v q
        refine ⟨y, hy, ?_⟩
        have h : pS G W B F0 F m D ((f ρ S).into ρ fun w S2 => (op2 (augD op) v w S2).into ρ fun z S3 => .nx (ρ.set i (some z)) S3) := h
        obtain ⟨B', F0', F', m', ρ', S', a', h'⟩ := seqES (fa := f) a h
        refine ⟨B', F0', F', m', ρ', S', a', rd_op.pE_imp h' fun w H1 z => ?_⟩
        obtain ⟨F1, m1, S1, w', e1, p1, a1, v1, h1'⟩ := z
        refine pE.op2 (G := G) (W := W) (σ := σ) (B := B) (F0 := F0) (h2 G.K) a1.rl (vy.mono e1 p1) v1 (Q := fun z H2 => D.nx (σ.set i (some z)) H2) ?_
        cases q5 : op2 (augD op) v w' S1 with
        | ok z S3 =>
          rw [q5] at h1'
          exact fun x5 H5 F5 m5 e5 p5 r5 v5 => h1' _ H5 F5 m5 e5 p5 ⟨(a1.env.mono e5 p5).set v5, r5⟩
        | exc c y5 S3 =>
          exfalso
          unfold op2 at q5
          split at q5
          · split at q5 <;> cases q5
          · cases q5
        | bad =>
          rw [q5] at h1'
          exact h1'
theorem ok_expr {e : Expr} {f : Env → M Val} {pos : Pos} (h : PE X e (tE G W f)) (hs : notSwap e = true) : PS X (.Expr e pos) (tS G W (sExpr f)) := by
  refine PS.imp (ps_expr h (swaps0_of hs)) fun D σ H h => ?_
  obtain ⟨B, F0, F, m, ρ, S, a, h⟩ := h
  obtain ⟨B', F0', F', m', ρ', S', a', h'⟩ := seqES (fa := f) (k := fun _ S' => .nx ρ S') a h
  refine ⟨B', F0', F', m', ρ', S', a', rd_op.pE_imp h' fun x H1 z => ?_⟩
  obtain ⟨F1, m1, S1, v, e1, p1, a1, v1, h1⟩ := z
  exact h1 σ H1 F1 m1 (Ex.refl _) (List.prefix_refl m1) a1
end
end PD

/-! PD7: loops, what is walked, comprehensions, lists that change. -/
namespace PD
open PySem L2

/-! ### what is walked -/
def Ylds (K : PySem.W.Frag) (J : It) (F : Hp) (ds : List D) : Prop := ∀ (i : Nat) (F' H' : Hp), Ex F F' → Ex F' H' →
  (∀ d, ds[i]? = some d → J.go i H' ∧ ∀ x H'', J.yld i H' x H'' → ∃ F'', Ext F' H' F'' H'' ∧ Rep K F'' x d) ∧ (ds.length ≤ i → J.stop i H')
theorem Ylds.mono {K : PySem.W.Frag} {J : It} {F F1 : Hp} {ds : List D} (e : Ex F F1) (h : Ylds K J F ds) : Ylds K J F1 ds := fun i F' H' e1 e2 => h i F' H' (e.trans e1) e2
def pI (G : Gm) (W : WX) (σ : L2.St) (B F0 F : Hp) (m : List Addr) (Q : It → Hp → Prop) : R (List D) → Prop
  | .ok ds S' => ∀ J H' F' m', Ex F F' → m <+: m' → Rl G.K B F0 F' H' m' S' → Ylds G.K J F' ds → Q J H'
  | .exc c y S' => ∀ cls d H' F' m', Ex F F' → m <+: m' → Rl G.K B F0 F' H' m' S' → XRep G F' c y cls d → W cls d σ H'
  | .bad => False
def tI (G : Gm) (W : WX) (f : Env → M (List D)) : TI := fun σ H Q => ∃ B F0 F m ρ S, At G σ H B F0 F m ρ S ∧ pI G W σ B F0 F m Q (f ρ S)
section
variable {G : Gm} {W : WX} {N : List Str} {sc oc : Scope} {lv : Nat} {X : Cx}
theorem PI.imp {tg e : Expr} {t t' : TI} (h : PI X tg e t) (i : ∀ σ H Q, t' σ H Q → t σ H Q) : PI X tg e t' := ⟨fun pins s σ H Q I q => h.run pins s σ H Q I (i σ H Q q)⟩
theorem PI.or {tg e : Expr} {t t' : TI} (h : PI X tg e t) (k : PI X tg e t') : PI X tg e (fun σ H Q => t σ H Q ∨ t' σ H Q) := ⟨fun pins s σ H Q I q => by
  rcases q with q | q
  · exact h.run pins s σ H Q I q
  · exact k.run pins s σ H Q I q⟩
theorem ylds_list {K : PySem.W.Frag} {F : Hp} {a : Addr} {xs : List V} {ds : List D} (h : F a = some (.lst xs)) (r : Reps K F xs ds) : Ylds K (Itl K a) F ds := fun i F' H' e1 e2 => by
  have hs : SqL K H' a xs := .inl (.inl (e2 _ _ (e1 _ _ h)))
  refine ⟨fun d hd => ?_, fun hi => ⟨xs, hs, by rw [r.length]; exact hi⟩⟩
  obtain ⟨v, hv, rv⟩ := r.get hd
  refine ⟨⟨xs, v, hs, hv⟩, fun x H'' hy => ?_⟩
  obtain ⟨rfl, hy⟩ := hy
  have := hy xs hs
  rw [hv] at this
  cases this
  exact ⟨F', Ext.refl e2, rv.mono e1⟩
theorem ylds_scr {K : PySem.W.Frag} {F : Hp} {a : Addr} {ns : List Int} (h : SqL K F a (ns.map V.int)) : Ylds K (Itl K a) F (ns.map .int) := fun i F' H' e1 e2 => by
  have hs : SqL K H' a (ns.map V.int) := e2.l (e1.l h)
  have r : Reps K F (ns.map V.int) (ns.map D.int) := reps_ints ns
  refine ⟨fun d hd => ?_, fun hi => ⟨_, hs, by rw [r.length]; exact hi⟩⟩
  obtain ⟨v, hv, rv⟩ := r.get hd
  refine ⟨⟨_, v, hs, hv⟩, fun x H'' hy => ?_⟩
  obtain ⟨rfl, hy⟩ := hy
  have := hy _ hs
  rw [hv] at this
  cases this
  exact ⟨F', Ext.refl e2, rv.mono e1⟩
theorem ylds_tup {K : PySem.W.Frag} {F : Hp} {a : Addr} {xs : List V} {ds : List D} (h : SqT K F a xs) (r : Reps K F xs ds) : Ylds K (Itt K a) F ds := fun i F' H' e1 e2 => by
  have hs : SqT K H' a xs := e2.t (e1.t h)
  refine ⟨fun d hd => ?_, fun hi => ⟨xs, hs, by rw [r.length]; exact hi⟩⟩
  obtain ⟨v, hv, rv⟩ := r.get hd
  refine ⟨⟨xs, v, hs, hv⟩, fun x H'' hy => ?_⟩
  obtain ⟨rfl, hy⟩ := hy
  have := hy xs hs
  rw [hv] at this
  cases this
  exact ⟨F', Ext.refl e2, rv.mono e1⟩
def signs (z : Str) : List D := z.cps.toList.map fun c => .str ⟨#[c]⟩
theorem ylds_str {K : PySem.W.Frag} {F : Hp} {z : Str} : Ylds K (Its z) F (signs z) := fun i F' H' e1 e2 => by
  refine ⟨fun d hd => ?_, fun hi => ?_⟩
  · unfold signs at hd
    rw [List.getElem?_map] at hd
    cases q : z.cps.toList[i]? with
    | none =>
      rw [q] at hd
      cases hd
    | some c =>
      rw [q] at hd
      cases hd
      have hl : i < z.cps.size := by
        have := (List.getElem?_eq_some_iff.mp q).1
        rwa [Array.length_toList] at this
      refine ⟨hl, fun x H'' hy => ?_⟩
      obtain ⟨rfl, c', hc, rfl⟩ := hy
      have hc2 : z.cps.toList[i]? = some c' := by rw [Array.getElem?_toList]; exact hc
      rw [q] at hc2
      cases hc2
      exact ⟨F', Ext.refl e2, .str _⟩
  · unfold signs at hi
    rw [List.length_map, Array.length_toList] at hi
    exact hi
def upTo (lo : Int) (n : Nat) : List D := (List.range n).map fun (i : Nat) => D.int (lo + (i : Int))
theorem ylds_rng {K : PySem.W.Frag} {F : Hp} {lo : Int} {n : Nat} : Ylds K (Itr lo n) F (upTo lo n) := fun i F' H' e1 e2 => by
  refine ⟨fun d hd => ?_, fun hi => ?_⟩
  · unfold upTo at hd
    rw [List.getElem?_map, List.getElem?_range'] at hd
    by_cases hl : i < n
    · rw [if_pos hl] at hd
      cases hd
      refine ⟨hl, fun x H'' hy => ?_⟩
      obtain ⟨rfl, rfl⟩ := hy
      exact ⟨F', Ext.refl e2, .int _⟩
    · rw [if_neg hl] at hd
      cases hd
  · unfold upTo at hi
    rw [List.length_map, List.length_range] at hi
    exact hi
where
  List.getElem?_range' {n i : Nat} : (List.range n)[i]? = if i < n then some i else none := by
    by_cases h : i < n
    · rw [if_pos h, List.getElem?_range h]
    · rw [if_neg h, List.getElem?_eq_none_iff.mpr (by rw [List.length_range]; omega)]
def enumFrom (k : Nat) : List D → List D
  | [] => []
  | d :: ds => .tup [.int (k : Int), d] :: enumFrom (k + 1) ds
theorem enumFrom_get : ∀ (ds : List D) (k i : Nat) (d : D), (enumFrom k ds)[i]? = some d → ∃ y, ds[i]? = some y ∧ d = .tup [.int ((k + i : Nat) : Int), y]
  | [], _, _, _, h => by simp [enumFrom] at h
  | y :: ds, k, 0, d, h => by
    simp [enumFrom] at h
    exact ⟨y, rfl, by rw [← h]; simp⟩
  | y :: ds, k, i + 1, d, h => by
    have h : (enumFrom (k + 1) ds)[i]? = some d := by simpa [enumFrom] using h
    obtain ⟨z, h1, h2⟩ := enumFrom_get ds (k + 1) i d h
    exact ⟨z, by simpa using h1, by rw [h2]; congr 3; simp; omega⟩
theorem enumFrom_len : ∀ (ds : List D) (k : Nat), (enumFrom k ds).length = ds.length
  | [], _ => rfl
  | _ :: ds, k => by rw [enumFrom, List.length_cons, List.length_cons, enumFrom_len ds (k + 1)]
theorem ylds_enum {K : PySem.W.Frag} {F : Hp} {a : Addr} {xs : List V} {ds : List D} (h : F a = some (.lst xs)) (r : Reps K F xs ds) : Ylds K (Ite K a) F (enumFrom 0 ds) := fun i F' H' e1 e2 => by
  have hs : SqL K H' a xs := .inl (.inl (e2 _ _ (e1 _ _ h)))
  refine ⟨fun d hd => ?_, fun hi => ⟨xs, hs, by rw [r.length]; rw [enumFrom_len] at hi; exact hi⟩⟩
  obtain ⟨y, hy, rfl⟩ := enumFrom_get ds 0 i d hd
  obtain ⟨v, hv, rv⟩ := r.get hy
  refine ⟨⟨xs, v, hs, hv⟩, fun x H'' hz => ?_⟩
  obtain ⟨T, u, rfl, hT, rfl, hu⟩ := hz
  have := hu xs hs
  rw [hv] at this
  cases this
  have ee := Ext.new (o := .tup [.int (i : Int), v]) e2 hT
  refine ⟨_, ee, .tup (.inl (.inl upd_same)) ?_⟩
  rw [Nat.zero_add]
  exact .cons (.int _) (.cons (rv.mono (e1.trans ee.ff)) .nil)
/-- lists, tuples, the script, texts -/
def iterD : D → Option (List D)
  | .lst ds => some ds
  | .tup ds => some ds
  | .scr ns => some (ns.map .int)
  | .str z => some (signs z)
  | _ => none
def asIt (v : Val) : M (List D) := match v with
  | .d x => M.of (iterD x)
  | .loc _ => M.fail
theorem oki_seq {tg e : Expr} {f : Env → M Val} (g : Good G W N sc oc lv X) (he : PE X e (tE G W f)) : PI X tg e (tI G W fun ρ => f ρ >>= asIt) := by
  refine PI.imp (PI.or (pi_list he) (PI.or (pi_tup he) (pi_str he))) fun σ H Q h => ?_
  obtain ⟨B, F0, F, m, ρ, S, a, h⟩ := h
  have h : pI G W σ B F0 F m Q ((f ρ S).bind asIt) := h
  rw [g.K]
  cases q : f ρ S with
  | exc c y S1 =>
    rw [q] at h
    exact .inl ⟨B, F0, F, m, ρ, S, a, by rw [q]; exact h⟩
  | bad =>
    rw [q] at h
    exact h.elim
  | ok v S1 =>
    rw [q] at h
    have h : pI G W σ B F0 F m Q (asIt v S1) := h
    cases v with
    | loc n => exact h.elim
    | d y =>
      cases y with
      | lst ds =>
        refine .inl ⟨B, F0, F, m, ρ, S, a, ?_⟩
        rw [q]
        intro x H' F' m' e p r vr
        cases vr with
        | lst h1 h2 => exact ⟨_, rfl, ⟨_, .inl (.inl (r.ex _ _ h1))⟩, h _ H' F' m' e p r (ylds_list h1 h2)⟩
      | scr ns =>
        refine .inl ⟨B, F0, F, m, ρ, S, a, ?_⟩
        rw [q]
        intro x H' F' m' e p r vr
        cases vr with
        | scr h1 => exact ⟨_, rfl, ⟨_, r.ex.l h1⟩, h _ H' F' m' e p r (ylds_scr h1)⟩
      | tup ds =>
        refine .inr (.inl ⟨B, F0, F, m, ρ, S, a, ?_⟩)
        rw [q]
        intro x H' F' m' e p r vr
        cases vr with
        | tup h1 h2 => exact ⟨_, rfl, ⟨_, r.ex.t h1⟩, h _ H' F' m' e p r (ylds_tup h1 h2)⟩
      | str z =>
        refine .inr (.inr ⟨B, F0, F, m, ρ, S, a, ?_⟩)
        rw [q]
        intro x H' F' m' e p r vr
        exact ⟨z, Rep.str_ vr, h _ H' F' m' e p r ylds_str⟩
      | _ => exact h.elim
/-- range(n), range(a, b) -/
def rangeD : List Val → M (List D)
  | [.d (.int j)] => if decide (-(2 ^ 62) ≤ j) && decide (j < 2 ^ 62) then M.ret (upTo 0 j.toNat) else M.fail
  | [.d (.int i), .d (.int j)] => if decide (-(2 ^ 62) ≤ i) && decide (i < 2 ^ 62) && decide (-(2 ^ 62) ≤ j) && decide (j < 2 ^ 62) then M.ret (upTo i (j - i).toNat) else M.fail
  | _ => M.fail
theorem seqAI {σ : L2.St} {H : Hp} {B F0 F : Hp} {m : List Addr} {ρ : Env} {S : Store} {Q : It → Hp → Prop} {fa : Env → M (List Val)} {k : List Val → M (List D)} (a : At G σ H B F0 F m ρ S) (h : pI G W σ B F0 F m Q ((fa ρ S).bind k)) :
    tA G W fa σ H (fun xs H1 => ∃ F1 m1 S1 vs, Ex F F1 ∧ m <+: m1 ∧ At G σ H1 B F0 F1 m1 ρ S1 ∧ VReps G.K F1 m1 xs vs ∧ pI G W σ B F0 F1 m1 Q (k vs S1)) :=
  seqA (post := fun F m r => pI G W σ B F0 F m Q r) a (fun {F F1 m m1 r} e p h => by
    cases r with
    | ok v S' => exact fun J H' F' m' e' p' => h J H' F' m' (e.trans e') (p.trans p')
    | exc c y S' => exact fun cls d H' F' m' e' p' => h cls d H' F' m' (e.trans e') (p.trans p')
    | bad => exact h) (fun _ _ _ z => z) (fun z => z) h
theorem oki_range1 {tg e : Expr} {fs : Env → M (List Val)} {p pos : Pos} (g : Good G W N sc oc lv X) (hs : sc.names.lookup ("range" : Str) = some .globalImplicit) (hm : G.mg "range" = none) (he : PA X [e] (tA G W fs)) (hst : notStar e = true) :
    PI X tg (.Call (.Name "range" p) [e] [] pos) (tI G W fun ρ => fs ρ >>= fun vs => if vs.length = 1 then rangeD vs else M.fail) := by
  refine PI.imp (pi_range1 (g.gl hs) (by rw [g.mg]; exact hm) he (by rw [star_of hst]; rfl)) fun σ H Q h => ?_
  obtain ⟨B, F0, F, m, ρ, S, a, h⟩ := h
  obtain ⟨B', F0', F', m', ρ', S', a', h'⟩ := seqAI (fa := fs) (k := fun vs => if vs.length = 1 then rangeD vs else M.fail) a h
  refine ⟨B', F0', F', m', ρ', S', a', pA_imp h' fun xs H1 z => ?_⟩
  obtain ⟨F1, m1, S1, vs, e1, p1, a1, v1, h1⟩ := z
  by_cases hl : vs.length = 1
  · have h1 : pI G W σ B F0 F1 m1 Q ((if vs.length = 1 then rangeD vs else M.fail : M (List D)) S1) := h1
    rw [if_pos hl] at h1
    cases v1 with
    | nil => cases hl
    | @cons x v xs2 vs2 r1 r2 =>
      cases r2 with
      | cons _ _ => simp at hl
      | nil =>
        cases v with
        | loc n => exact h1.elim
        | d y =>
          cases y with
          | int j =>
            have h1 : pI G W σ B F0 F1 m1 Q ((if decide (-(2 ^ 62) ≤ j) && decide (j < 2 ^ 62) then M.ret (upTo 0 j.toNat) else M.fail : M (List D)) S1) := h1
            cases hb : (decide (-(2 ^ 62) ≤ j) && decide (j < 2 ^ 62)) with
            | true =>
              rw [hb] at h1
              obtain ⟨b1, b2⟩ := Bool.and_eq_true_iff.mp hb
              exact ⟨j, by rw [Rep.int_ r1], of_decide_eq_true b1, of_decide_eq_true b2, h1 _ H1 F1 m1 (Ex.refl _) (List.prefix_refl m1) a1.rl ylds_rng⟩
            | false =>
              rw [hb] at h1
              exact h1.elim
          | _ => exact h1.elim
  · have h1 : pI G W σ B F0 F1 m1 Q ((if vs.length = 1 then rangeD vs else M.fail : M (List D)) S1) := h1
    rw [if_neg hl] at h1
    exact h1.elim
theorem oki_range2 {tg e e2 : Expr} {fs : Env → M (List Val)} {p pos : Pos} (g : Good G W N sc oc lv X) (hs : sc.names.lookup ("range" : Str) = some .globalImplicit) (hm : G.mg "range" = none) (he : PA X [e, e2] (tA G W fs)) (hst : notStar e = true) (hst2 : notStar e2 = true) :
    PI X tg (.Call (.Name "range" p) [e, e2] [] pos) (tI G W fun ρ => fs ρ >>= fun vs => if vs.length = 2 then rangeD vs else M.fail) := by
  refine PI.imp (pi_range2 (g.gl hs) (by rw [g.mg]; exact hm) he (by rw [star_of hst, star_of hst2]; rfl) (by rw [star_of hst2]; rfl)) fun σ H Q h => ?_
  obtain ⟨B, F0, F, m, ρ, S, a, h⟩ := h
  obtain ⟨B', F0', F', m', ρ', S', a', h'⟩ := seqAI (fa := fs) (k := fun vs => if vs.length = 2 then rangeD vs else M.fail) a h
  refine ⟨B', F0', F', m', ρ', S', a', pA_imp h' fun xs H1 z => ?_⟩
  obtain ⟨F1, m1, S1, vs, e1, p1, a1, v1, h1⟩ := z
  by_cases hl : vs.length = 2
  · have h1 : pI G W σ B F0 F1 m1 Q ((if vs.length = 2 then rangeD vs else M.fail : M (List D)) S1) := h1
    rw [if_pos hl] at h1
    cases v1 with
    | nil => cases hl
    | @cons x v xs2 vs2 r1 r2 =>
      cases r2 with
      | nil => simp at hl
      | @cons y w xs3 vs3 r3 r4 =>
        cases r4 with
        | cons _ _ => simp at hl
        | nil =>
          cases v with
          | loc n => exact h1.elim
          | d v =>
            cases v with
            | int i =>
              cases w with
              | loc n => exact h1.elim
              | d w =>
                cases w with
                | int j =>
                  have h1 : pI G W σ B F0 F1 m1 Q ((if decide (-(2 ^ 62) ≤ i) && decide (i < 2 ^ 62) && decide (-(2 ^ 62) ≤ j) && decide (j < 2 ^ 62) then M.ret (upTo i (j - i).toNat) else M.fail : M (List D)) S1) := h1
                  cases hb : (decide (-(2 ^ 62) ≤ i) && decide (i < 2 ^ 62) && decide (-(2 ^ 62) ≤ j) && decide (j < 2 ^ 62)) with
                  | true =>
                    rw [hb] at h1
                    obtain ⟨hb, b4⟩ := Bool.and_eq_true_iff.mp hb
                    obtain ⟨hb, b3⟩ := Bool.and_eq_true_iff.mp hb
                    obtain ⟨b1, b2⟩ := Bool.and_eq_true_iff.mp hb
                    exact ⟨i, j, by rw [Rep.int_ r1, Rep.int_ r3], ⟨of_decide_eq_true b1, of_decide_eq_true b2, of_decide_eq_true b3, of_decide_eq_true b4⟩, h1 _ H1 F1 m1 (Ex.refl _) (List.prefix_refl m1) a1.rl ylds_rng⟩
                  | false =>
                    rw [hb] at h1
                    exact h1.elim
                | _ => exact h1.elim
            | _ => exact h1.elim
  · have h1 : pI G W σ B F0 F1 m1 Q ((if vs.length = 2 then rangeD vs else M.fail : M (List D)) S1) := h1
    rw [if_neg hl] at h1
    exact h1.elim
/-- enumerate(list) -/
def enumD : List Val → M (List D)
  | [.d (.lst ds)] => M.ret (enumFrom 0 ds)
  | _ => M.fail
theorem oki_enum {e : Expr} {fs : Env → M (List Val)} {p pos tpos : Pos} {elts : List Expr} {kk : Nat} (g : Good G W N sc oc lv X) (hs : sc.names.lookup ("enumerate" : Str) = some .globalImplicit) (hm : G.mg "enumerate" = none) (he : PA X [e] (tA G W fs)) (hst : notStar e = true) :
    PI X (.Tuple elts kk tpos) (.Call (.Name "enumerate" p) [e] [] pos) (tI G W fun ρ => fs ρ >>= enumD) := by
  refine PI.imp (pi_enum (g.gl hs) (by rw [g.mg]; exact hm) he (by rw [star_of hst]; rfl)) fun σ H Q h => ?_
  obtain ⟨B, F0, F, m, ρ, S, a, h⟩ := h
  obtain ⟨B', F0', F', m', ρ', S', a', h'⟩ := seqAI (fa := fs) (k := enumD) a h
  refine ⟨B', F0', F', m', ρ', S', a', pA_imp h' fun xs H1 z => ?_⟩
  obtain ⟨F1, m1, S1, vs, e1, p1, a1, v1, h1⟩ := z
  unfold enumD at h1
  split at h1
  · cases v1 with
    | cons r1 r2 =>
      cases r2 with
      | nil =>
        rw [g.K]
        cases r1 with
        | lst k1 k2 => exact ⟨_, _, rfl, .inl (.inl (a1.rl.ex _ _ k1)), h1 _ H1 F1 m1 (Ex.refl _) (List.prefix_refl m1) a1.rl (ylds_enum k1 k2)⟩
  · exact h1.elim

/-! ### for -/
def forL (t : Tg) (body : MS) : List D → MS
  | [], ρ, S => .nx ρ S
  | d :: ds, ρ, S => match t.bind (.d d) ρ with
    | none => .bad
    | some ρ1 => match body ρ1 S with
      | .nx ρ2 S2 => forL t body ds ρ2 S2
      | .cnt ρ2 S2 => forL t body ds ρ2 S2
      | .brk ρ2 S2 => .nx ρ2 S2
      | o => o
def R.intoI (r : R (List D)) (ρ : Env) (k : List D → Store → O) : O := match r with
  | .ok v S => k v S
  | .exc c x S => .exc c x ρ S
  | .bad => .bad
def sFor (it : Env → M (List D)) (t : Tg) (body : MS) : MS := fun ρ S => (it ρ S).intoI ρ fun ds S' => forL t body ds ρ S'
theorem drop_get {α : Type} {l : List α} {i : Nat} {d : α} (h : l[i]? = some d) : l.drop i = d :: l.drop (i + 1) := by
  obtain ⟨h1, h2⟩ := List.getElem?_eq_some_iff.mp h
  rw [List.drop_eq_getElem_cons h1, h2]
theorem rd_for {it : Env → M (List D)} {t : Tg} {body : MS} (En : Ends) (σ : L2.St) (H : Hp) (h : tS G W (sFor it t body) En σ H) : tFor (tI G W it) (tG G t) (tS G W body) En σ H := by
  obtain ⟨B, F0, F, m, ρ, S, a, h⟩ := h
  refine ⟨B, F0, F, m, ρ, S, a, ?_⟩
  unfold sFor at h
  cases q : it ρ S with
  | exc c y S1 =>
    rw [q] at h
    exact fun cls d H' F' m' e p r xr => h cls d σ H' F' m' e p (a.go e p r) xr
  | bad =>
    rw [q] at h
    exact h
  | ok ds S1 =>
    rw [q] at h
    have h : pS G W B F0 F m En (forL t body ds ρ S1) := h
    intro J H1 F1 m1 e1 p1 r1 yl
    have a1 := a.go e1 p1 r1
    refine ⟨fun i k σ' H' => i ≤ ds.length ∧ k = ds.length - i ∧ ∃ F2 m2 ρ2 S2, Ex F1 F2 ∧ m1 <+: m2 ∧ At G σ' H' B F0 F2 m2 ρ2 S2 ∧ pS G W B F0 F2 m2 En (forL t body (ds.drop i) ρ2 S2), ⟨ds.length, Nat.zero_le _, rfl, F1, m1, ρ, S1, Ex.refl _, List.prefix_refl _, a1, pS.mono e1 p1 h⟩, ?_⟩
    rintro i k σ' H' ⟨hi, rfl, F2, m2, ρ2, S2, e2, p2, a2, h2⟩
    obtain ⟨y1, y2⟩ := yl i F2 H' e2 a2.rl.ex
    by_cases hlt : i < ds.length
    · obtain ⟨d, hd⟩ : ∃ d, ds[i]? = some d := ⟨_, List.getElem?_eq_getElem hlt⟩
      obtain ⟨g1, g2⟩ := y1 d hd
      rw [drop_get hd] at h2
      refine .inr ⟨g1, fun σ3 H3 => ∃ F3 m3 ρ3 S3, Ex F1 F3 ∧ m1 <+: m3 ∧ At G σ3 H3 B F0 F3 m3 ρ3 S3 ∧ pS G W B F0 F3 m3 En (forL t body (ds.drop (i + 1)) ρ3 S3), ?_, fun x H3 hy => ?_⟩
      · rintro σ3 H3 ⟨F3, m3, ρ3, S3, e3, p3, a3, h3⟩
        exact ⟨ds.length - (i + 1), by omega, by omega, rfl, F3, m3, ρ3, S3, e3, p3, a3, h3⟩
      · obtain ⟨F3, x3, r3⟩ := g2 x H3 hy
        have a3 := a2.ext x3
        refine ⟨F3, m2, ρ2, .d d, x3.fh, a3.env, r3, ?_⟩
        unfold forL at h2
        cases q2 : t.bind (.d d) ρ2 with
        | none =>
          rw [q2] at h2
          exact h2.elim
        | some ρ3 =>
          rw [q2] at h2
          intro σ4 er _
          refine ⟨B, F0, F3, m2, ρ3, S2, ⟨er, a3.rl⟩, ?_⟩
          have h2 := pS.mono x3.ff (List.prefix_refl m2) h2
          have e13 : Ex F1 F3 := e2.trans x3.ff
          dsimp only at h2
          cases q3 : body ρ3 S2 with
          | nx ρ5 S5 =>
            rw [q3] at h2
            exact fun σ5 H5 F5 m5 e5 p5 a5 => ⟨F5, m5, ρ5, S5, e13.trans e5, p2.trans p5, a5, pS.mono e5 p5 h2⟩
          | cnt ρ5 S5 =>
            rw [q3] at h2
            exact fun σ5 H5 F5 m5 e5 p5 a5 => ⟨F5, m5, ρ5, S5, e13.trans e5, p2.trans p5, a5, pS.mono e5 p5 h2⟩
          | brk ρ5 S5 =>
            rw [q3] at h2
            exact h2
          | ret v S5 =>
            rw [q3] at h2
            exact h2
          | exc c y ρ5 S5 =>
            rw [q3] at h2
            exact h2
          | bad =>
            rw [q3] at h2
            exact h2
    · have hle : ds.length ≤ i := by omega
      rw [List.drop_eq_nil_of_le hle] at h2
      exact .inl ⟨y2 hle, h2 σ' H' F2 m2 (Ex.refl _) (List.prefix_refl m2) a2⟩
theorem ok_for {tg iter : Expr} {body : List Stmt} {it : Env → M (List D)} {t : Tg} {f : MS} {pos : Pos} (g : Good G W N sc oc lv X) (hi : PI X tg iter (tI G W it)) (hg : PG X tg (tG G t)) (hb : PSs X body (tS G W f)) (hs : notSet iter = true) :
    PS X (.For tg iter body [] pos) (tS G W (sFor it t f)) := PS.imp (ps_for g.po g.calm hi hg hb (fold_of hs)) rd_for

/-! ### while -/
def whlF (c : Env → M Bool) (b : MS) : Nat → Env → Store → Option O
  | 0, _, _ => none
  | n + 1, ρ, S => match c ρ S with
    | .ok true S1 => (match b ρ S1 with
      | .nx ρ2 S2 => whlF c b n ρ2 S2
      | .cnt ρ2 S2 => whlF c b n ρ2 S2
      | .brk ρ2 S2 => some (.nx ρ2 S2)
      | o => some o)
    | .ok false S1 => some (.nx ρ S1)
    | .exc e x S1 => some (.exc e x ρ S1)
    | .bad => some .bad
theorem whlF_mono {c : Env → M Bool} {b : MS} : ∀ {n : Nat} {ρ : Env} {S : Store} {o : O}, whlF c b n ρ S = some o → whlF c b (n + 1) ρ S = some o
  | 0, _, _, _, h => by cases h
  | n + 1, ρ, S, o, h => by
    rw [whlF] at h ⊢
    cases q : c ρ S with
    | exc e x S1 => rw [q] at h; exact h
    | bad => rw [q] at h; exact h
    | ok k S1 =>
      rw [q] at h
      cases k with
      | false => exact h
      | true =>
        dsimp only at h ⊢
        cases q2 : b ρ S1 with
        | nx ρ2 S2 => rw [q2] at h; exact whlF_mono h
        | cnt ρ2 S2 => rw [q2] at h; exact whlF_mono h
        | brk ρ2 S2 => rw [q2] at h; exact h
        | ret v S2 => rw [q2] at h; exact h
        | exc e x ρ2 S2 => rw [q2] at h; exact h
        | bad => rw [q2] at h; exact h
theorem whlF_le {c : Env → M Bool} {b : MS} {n k : Nat} {ρ : Env} {S : Store} {o : O} (h : whlF c b n ρ S = some o) (hk : n ≤ k) : whlF c b k ρ S = some o := by
  induction hk with
  | refl => exact h
  | step _ ih => exact whlF_mono ih
open Classical in
noncomputable def sWhl (c : Env → M Bool) (b : MS) : MS := fun ρ S => if h : ∃ n o, whlF c b n ρ S = some o then choose (choose_spec h) else .bad
theorem sWhl_of {c : Env → M Bool} {b : MS} {n : Nat} {ρ : Env} {S : Store} {o : O} (h : whlF c b n ρ S = some o) : sWhl c b ρ S = o := by
  have hx : ∃ n o, whlF c b n ρ S = some o := ⟨n, o, h⟩
  unfold sWhl
  rw [dif_pos hx]
  have h2 := Classical.choose_spec (Classical.choose_spec hx)
  have h3 := whlF_le h2 (Nat.le_max_left (Classical.choose hx) n)
  have h4 := whlF_le h (Nat.le_max_right (Classical.choose hx) n)
  rw [h3] at h4
  exact Option.some.inj h4
theorem sWhl_some {c : Env → M Bool} {b : MS} {ρ : Env} {S : Store} (h : sWhl c b ρ S ≠ .bad) : ∃ n, whlF c b n ρ S = some (sWhl c b ρ S) := by
  by_cases hx : ∃ n o, whlF c b n ρ S = some o
  · obtain ⟨n, o, h1⟩ := hx
    exact ⟨n, by rw [sWhl_of h1]; exact h1⟩
  · unfold sWhl at h
    rw [dif_neg hx] at h
    exact absurd rfl h
/-- one turn -/
theorem sWhl_eq (c : Env → M Bool) (b : MS) (ρ : Env) (S : Store) : sWhl c b ρ S = (match c ρ S with
    | .ok true S1 => (match b ρ S1 with
      | .nx ρ2 S2 => sWhl c b ρ2 S2
      | .cnt ρ2 S2 => sWhl c b ρ2 S2
      | .brk ρ2 S2 => .nx ρ2 S2
      | o => o)
    | .ok false S1 => .nx ρ S1
    | .exc e x S1 => .exc e x ρ S1
    | .bad => .bad) := by
  have step : ∀ n, whlF c b (n + 1) ρ S = (match c ρ S with
    | .ok true S1 => (match b ρ S1 with
      | .nx ρ2 S2 => whlF c b n ρ2 S2
      | .cnt ρ2 S2 => whlF c b n ρ2 S2
      | .brk ρ2 S2 => some (.nx ρ2 S2)
      | o => some o)
    | .ok false S1 => some (.nx ρ S1)
    | .exc e x S1 => some (.exc e x ρ S1)
    | .bad => some .bad) := fun n => by rw [whlF]
  cases q : c ρ S with
  | exc e x S1 => exact sWhl_of (n := 1) (by rw [step, q])
  | bad => exact sWhl_of (n := 1) (by rw [step, q])
  | ok k S1 =>
    cases k with
    | false => exact sWhl_of (n := 1) (by rw [step, q])
    | true =>
      dsimp only
      have go : ∀ ρ2 S2, (∀ n, whlF c b (n + 1) ρ S = whlF c b n ρ2 S2) → sWhl c b ρ S = sWhl c b ρ2 S2 := fun ρ2 S2 hs => by
        by_cases hx : ∃ n o, whlF c b n ρ2 S2 = some o
        · obtain ⟨n, o, h1⟩ := hx
          rw [sWhl_of h1]
          exact sWhl_of (n := n + 1) (by rw [hs]; exact h1)
        · have hy : ¬ ∃ n o, whlF c b n ρ S = some o := by
            rintro ⟨n, o, h1⟩
            cases n with
            | zero => cases h1
            | succ n => rw [hs] at h1; exact hx ⟨n, o, h1⟩
          unfold sWhl
          rw [dif_neg hx, dif_neg hy]
      cases q2 : b ρ S1 with
      | nx ρ2 S2 => exact go ρ2 S2 fun n => by rw [step, q]; dsimp only; rw [q2]
      | cnt ρ2 S2 => exact go ρ2 S2 fun n => by rw [step, q]; dsimp only; rw [q2]
      | brk ρ2 S2 => exact sWhl_of (n := 1) (by rw [step, q]; dsimp only; rw [q2])
      | ret v S2 => exact sWhl_of (n := 1) (by rw [step, q]; dsimp only; rw [q2])
      | exc e x ρ2 S2 => exact sWhl_of (n := 1) (by rw [step, q]; dsimp only; rw [q2])
      | bad => exact sWhl_of (n := 1) (by rw [step, q]; dsimp only; rw [q2])
theorem rd_while {c : Env → M Bool} {b : MS} (En : Ends) (σ : L2.St) (H : Hp) (h : tS G W (sWhl c b) En σ H) : tWhile (tT G W c) (tS G W b) En σ H := by
  obtain ⟨B, F0, F, m, ρ, S, a, h⟩ := h
  have hn : sWhl c b ρ S ≠ .bad := fun z => by rw [z] at h; exact h
  obtain ⟨n, hF⟩ := sWhl_some hn
  refine ⟨fun k σ' H' => ∃ F1 m1 ρ1 S1 o, At G σ' H' B F0 F1 m1 ρ1 S1 ∧ whlF c b k ρ1 S1 = some o ∧ pS G W B F0 F1 m1 En o, ⟨n, F, m, ρ, S, _, a, hF, h⟩, ?_⟩
  rintro k σ' H' ⟨F1, m1, ρ1, S1, o, a1, hk, h1⟩
  cases k with
  | zero => cases hk
  | succ k =>
    rw [whlF] at hk
    refine ⟨B, F0, F1, m1, ρ1, S1, a1, ?_⟩
    cases q : c ρ1 S1 with
    | exc e x S2 =>
      rw [q] at hk
      cases hk
      exact fun cls d H' F' m' e p r xr => h1 cls d σ' H' F' m' e p (a1.go e p r) xr
    | bad =>
      rw [q] at hk
      cases hk
      exact h1
    | ok t S2 =>
      rw [q] at hk
      intro H2 F2 m2 e2 p2 r2
      have a2 := a1.go e2 p2 r2
      have h2 := pS.mono e2 p2 h1
      cases t with
      | false =>
        cases hk
        rw [if_neg Bool.false_ne_true]
        exact h2 σ' H2 F2 m2 (Ex.refl _) (List.prefix_refl m2) a2
      | true =>
        rw [if_pos rfl]
        dsimp only at hk
        refine ⟨fun σ3 H3 => ∃ F3 m3 ρ3 S3 o, At G σ3 H3 B F0 F3 m3 ρ3 S3 ∧ whlF c b k ρ3 S3 = some o ∧ pS G W B F0 F3 m3 En o, fun σ3 H3 z => ⟨k, Nat.lt_succ_self k, z⟩, B, F0, F2, m2, ρ1, S2, a2, ?_⟩
        cases q2 : b ρ1 S2 with
        | nx ρ3 S3 =>
          rw [q2] at hk
          exact fun σ3 H3 F3 m3 e3 p3 a3 => ⟨F3, m3, ρ3, S3, o, a3, hk, pS.mono e3 p3 h2⟩
        | cnt ρ3 S3 =>
          rw [q2] at hk
          exact fun σ3 H3 F3 m3 e3 p3 a3 => ⟨F3, m3, ρ3, S3, o, a3, hk, pS.mono e3 p3 h2⟩
        | brk ρ3 S3 =>
          rw [q2] at hk
          cases hk
          exact h2
        | ret v S3 =>
          rw [q2] at hk
          cases hk
          exact h2
        | exc e x ρ3 S3 =>
          rw [q2] at hk
          cases hk
          exact h2
        | bad =>
          rw [q2] at hk
          cases hk
          exact h2
theorem ok_while {c : Expr} {body : List Stmt} {fc : Env → M Bool} {f : MS} {pos : Pos} (g : Good G W N sc oc lv X) (hc : PT X c (tT G W fc)) (hb : PSs X body (tS G W f)) : PS X (.While c body [] pos) (tS G W (sWhl fc f)) :=
  PS.imp (ps_while g.po hc hb) rd_while
end
end PD

/-! PD8: comprehensions, lists that change. -/
namespace PD
open PySem L2

theorem ne_mem {p a : Addr} {m : List Addr} (h : p ∉ m) (ha : a ∈ m) : a ≠ p := fun z => by
  rw [z] at ha
  exact h ha
/-! ### an object of one's own is guarded while something else is reckoned -/
section
variable {K : PySem.W.Frag} {B F0 F H : Hp} {m : List Addr} {S : Store} {p : Addr} {u : HO}
theorem Rl.guard (r : Rl K B F0 F H m S) (hf : F p = none) (hm : p ∉ m) (hu : H p = some u) : Rl K (upd B p u) F0 F H m S where
  ex := r.ex
  exB := fun a o q => by
    by_cases ha : a = p
    · subst ha
      rw [upd_same] at q
      cases q
      exact hu
    · rw [upd_ne ha] at q
      exact r.exB a o q
  f0 := r.f0
  nw := fun a o q => by
    rcases r.nw a o q with h | h
    · exact .inl h
    · refine .inr ?_
      rw [upd_ne (ne_of_none q hf)]
      exact h
  len := r.len
  nd := r.nd
  al := fun a ha => by
    obtain ⟨h1, h2, h3⟩ := r.al a ha
    refine ⟨?_, h2, h3⟩
    rw [upd_ne (ne_mem hm ha)]
    exact h1
  ob := r.ob
theorem Rl.unguard {F' H' : Hp} {m' : List Addr} {S' : Store} (r : Rl K (upd B p u) F0 F' H' m' S') (hB : B p = none) (hf : F0 p = none) : Rl K B F0 F' H' m' S' ∧ H' p = some u ∧ F' p = none ∧ p ∉ m' := by
  have hB' : ∀ a, upd B p u a = none → B a = none := fun a h => by
    by_cases ha : a = p
    · rw [ha]
      exact hB
    · rw [upd_ne ha] at h
      exact h
  refine ⟨⟨r.ex, fun a o q => r.exB a o ?_, r.f0, fun a o q => ?_, r.len, r.nd, fun a ha => ?_, r.ob⟩, r.exB p u upd_same, ?_, fun hm => ?_⟩
  · rw [upd_ne (ne_of_none q hB)]
    exact q
  · rcases r.nw a o q with h | h
    · exact .inl h
    · exact .inr (hB' a h)
  · obtain ⟨h1, h2, h3⟩ := r.al a ha
    exact ⟨hB' a h1, h2, h3⟩
  · cases q : F' p with
    | none => rfl
    | some o =>
      rcases r.nw p o q with h | h
      · rw [hf] at h
        cases h
      · rw [upd_same] at h
        cases h
  · have := (r.al p hm).1
    rw [upd_same] at this
    cases this
/-- it may change -/
theorem Rl.other {v : HO} (r : Rl K B F0 F H m S) (hf : F p = none) (hB : B p = none) (hm : p ∉ m) : Rl K B F0 F (upd H p v) m S where
  ex := fun a o q => by
    rw [upd_ne (ne_of_none q hf)]
    exact r.ex a o q
  exB := fun a o q => by
    rw [upd_ne (ne_of_none q hB)]
    exact r.exB a o q
  f0 := r.f0
  nw := r.nw
  len := r.len
  nd := r.nd
  al := fun a ha => by
    obtain ⟨h1, h2, h3⟩ := r.al a ha
    refine ⟨h1, ?_, h3⟩
    rw [upd_ne (ne_mem hm ha)]
    exact h2
  ob := fun n o h => by
    obtain ⟨a, h1, h2, h3⟩ := r.ob n o h
    refine ⟨a, h1, h2, h3.mono (Ex.refl _) fun w q => ?_⟩
    rw [upd_ne (ne_mem hm (List.mem_of_getElem? h1))]
    exact q
end

/-! ### comprehensions -/
def wipeR (ρ : Env) : List Nat → Env
  | [] => ρ
  | v :: vs => (wipeR ρ vs).set v none
theorem wipeR_env {K : PySem.W.Frag} {F : Hp} {m : List Addr} {σ : L2.St} {ρ : Env} (h : EnvR K F m σ ρ) : ∀ vs, EnvR K F m (wipe σ vs) (wipeR ρ vs)
  | [] => h
  | v :: vs => by
    have ih := wipeR_env h vs
    unfold wipe wipeR
    refine ⟨by rw [List.length_set, List.length_set, ih.len], fun i w q => ?_⟩
    rw [List.getElem?_set] at q
    by_cases hv : v = i
    · rw [if_pos hv] at q
      split at q <;> cases q
    · rw [if_neg hv] at q
      obtain ⟨x, h1, h2⟩ := ih.at_ i w q
      refine ⟨x, ?_, h2⟩
      rw [List.getElem?_set, if_neg hv]
      exact h1
theorem wipe_get (σ : L2.St) : ∀ (vs : List Nat) (j : Nat), (wipe σ vs)[j]? = if j ∈ vs then (if j < σ.length then some none else none) else σ[j]?
  | [], j => by simp [wipe]
  | v :: vs, j => by
    unfold wipe
    rw [List.getElem?_set, wipe_get σ vs j, wipe_length]
    by_cases h : v = j
    · subst h
      simp
    · rw [if_neg h]
      have : (j ∈ v :: vs) ↔ j ∈ vs := by
        rw [List.mem_cons]
        constructor
        · rintro (z | z)
          · exact absurd z.symm h
          · exact z
        · exact .inr
      simp only [this]
theorem wipe_off {sl vs : List Nat} {σ σ' : L2.St} (h : Off sl (wipe σ vs) σ') (hs : ∀ j ∈ sl, j ∈ vs) : wipe σ' vs = wipe σ vs := by
  apply List.ext_getElem?
  intro j
  rw [wipe_get, wipe_get]
  have hl : σ'.length = σ.length := by rw [h.1, wipe_length]
  by_cases hj : j ∈ vs
  · rw [if_pos hj, if_pos hj, hl]
  · rw [if_neg hj, if_neg hj, h.2 j (fun z => hj (hs j z)), wipe_get, if_neg hj]
/-- the items that a comprehension makes -/
def compL (t : Tg) (c : Env → M Bool) (e : Env → M Val) : List D → Env → List D → M (List D)
  | [], _, acc => M.ret acc
  | d :: ds, ρ, acc => match t.bind (.d d) ρ with
    | none => M.fail
    | some ρ1 => fun S => match c ρ1 S with
      | .ok false S1 => compL t c e ds ρ acc S1
      | .ok true S1 => (match e ρ1 S1 with
        | .ok (.d y) S2 => if acc.length < sizeLine then compL t c e ds ρ (acc ++ [y]) S2 else .bad
        | _ => .bad)
      | _ => .bad
def W0 : WX := fun _ _ _ _ => False
def evComp (vs : List Nat) (t : Tg) (it : Env → M (List D)) (c : Env → M Bool) (e : Env → M Val) (ρ : Env) : M Val := it ρ >>= fun ds => compL t c e ds (wipeR ρ vs) [] >>= fun l => M.ret (.d (.lst l))
section
variable {G : Gm} {W : WX} {N : List Str} {sc oc : Scope} {lv : Nat} {X : Cx}
theorem rd_comp {vs : List Nat} {t : Tg} {it : Env → M (List D)} {c : Env → M Bool} {e : Env → M Val} (hs : ∀ j ∈ t.slots, j ∈ vs) (σ : L2.St) (H : Hp) (Q : VK) (h : tE G W (evComp vs t it c e) σ H Q) :
    tLc (tI G W it) (tG G t) (tT G W0 c) (tE G W0 e) vs σ H Q := by
  obtain ⟨B, F0, F, m, ρ, S, a, h⟩ := h
  refine ⟨B, F0, F, m, ρ, S, a, ?_⟩
  have h : pE G W σ B F0 F m Q ((it ρ S).bind fun ds => compL t c e ds (wipeR ρ vs) [] >>= fun l => M.ret (.d (.lst l))) := h
  cases q : it ρ S with
  | exc k y S1 =>
    rw [q] at h
    exact h
  | bad =>
    rw [q] at h
    exact h
  | ok ds S1 =>
    rw [q] at h
    have h : pE G W σ B F0 F m Q ((compL t c e ds (wipeR ρ vs) [] S1).bind fun l => M.ret (.d (.lst l))) := h
    intro J H1 F1 m1 e1 p1 r1 yl p hp
    have hF0 : F0 p = none := (r1.f0.trans r1.ex).none hp
    have hB : B p = none := r1.exB.none hp
    have hF1 : F1 p = none := r1.ex.none hp
    have hm1 : p ∉ m1 := fun z => (r1.al p z).2.1 hp
    -- the state: the list so far stands at p
    refine ⟨fun i k H' => i ≤ ds.length ∧ k = ds.length - i ∧ ∃ F2 m2 S2 acc xs, Ex F1 F2 ∧ m1 <+: m2 ∧ Rl G.K B F0 F2 H' m2 S2 ∧ F2 p = none ∧ p ∉ m2 ∧ H' p = some (.lst xs) ∧ Reps G.K F2 xs acc ∧
      pE G W σ B F0 F2 m2 Q ((compL t c e (ds.drop i) (wipeR ρ vs) acc S2).bind fun l => M.ret (.d (.lst l))), ⟨ds.length, Nat.zero_le _, rfl, F1, m1, S1, [], [], Ex.refl _, List.prefix_refl _, r1.other hF1 hB hm1, hF1, hm1, upd_same, .nil, pE.mono e1 p1 h⟩, ?_⟩
    rintro i k H' ⟨hi, rfl, F2, m2, S2, acc, xs, e2, p2, r2, hF2, hm2, hH, hr, h2⟩
    obtain ⟨y1, y2⟩ := yl i F2 H' e2 r2.ex
    by_cases hlt : i < ds.length
    · obtain ⟨d, hd⟩ : ∃ d, ds[i]? = some d := ⟨_, List.getElem?_eq_getElem hlt⟩
      obtain ⟨g1, g2⟩ := y1 d hd
      rw [drop_get hd] at h2
      refine .inr ⟨g1, fun H3 => ∃ F3 m3 S3 acc3 xs3, Ex F1 F3 ∧ m1 <+: m3 ∧ Rl G.K B F0 F3 H3 m3 S3 ∧ F3 p = none ∧ p ∉ m3 ∧ H3 p = some (.lst xs3) ∧ Reps G.K F3 xs3 acc3 ∧
        pE G W σ B F0 F3 m3 Q ((compL t c e (ds.drop (i + 1)) (wipeR ρ vs) acc3 S3).bind fun l => M.ret (.d (.lst l))), ?_, fun x H3 hy => ?_⟩
      · rintro H3 ⟨F3, m3, S3, acc3, xs3, z⟩
        exact ⟨ds.length - (i + 1), by omega, by omega, rfl, F3, m3, S3, acc3, xs3, z⟩
      · obtain ⟨F3, x3, r3⟩ := g2 x H3 hy
        have R3 := r2.ext x3
        have hF3 : F3 p = none := by
          cases z : F3 p with
          | none => rfl
          | some o =>
            rcases x3.nw p o z with z1 | z1
            · rw [hF2] at z1; cases z1
            · rw [hH] at z1; cases z1
        have hH3 : H3 p = some (.lst xs) := x3.hh _ _ hH
        have envW : EnvR G.K F3 m2 (wipe σ vs) (wipeR ρ vs) := wipeR_env (a.env.mono ((e1.trans e2).trans x3.ff) (p1.trans p2)) vs
        refine ⟨F3, m2, wipeR ρ vs, .d d, x3.fh, envW, r3, ?_⟩
        have h3 := pE.mono x3.ff (List.prefix_refl m2) h2
        unfold compL at h3
        cases q2 : t.bind (.d d) (wipeR ρ vs) with
        | none =>
          rw [q2] at h3
          exact h3.elim
        | some ρ1 =>
          rw [q2] at h3
          intro σ4 er of
          refine ⟨wipe_off of hs, ?_⟩
          dsimp only at h3
          have G3 := R3.guard hF3 hm2 hH3
          refine ⟨upd B p (.lst xs), F0, F3, m2, ρ1, S2, ⟨er, G3⟩, ?_⟩
          cases q3 : c ρ1 S2 with
          | exc k y S4 =>
            rw [q3] at h3
            exact h3.elim
          | bad =>
            rw [q3] at h3
            exact h3.elim
          | ok b S4 =>
            rw [q3] at h3
            intro H5 F5 m5 e5 p5 r5
            obtain ⟨R5, hH5, hF5, hm5⟩ := r5.unguard hB hF0
            have h5 := pE.mono e5 p5 h3
            cases b with
            | false =>
              rw [if_neg Bool.false_ne_true]
              exact ⟨F5, m5, S4, acc, xs, (e2.trans x3.ff).trans e5, p2.trans p5, R5, hF5, hm5, hH5, hr.mono (x3.ff.trans e5), h5⟩
            | true =>
              rw [if_pos rfl]
              dsimp only at h5
              refine ⟨upd B p (.lst xs), F0, F5, m5, ρ1, S4, ⟨er.mono e5 p5, R5.guard hF5 hm5 hH5⟩, ?_⟩
              cases q4 : e ρ1 S4 with
              | exc k y S6 =>
                rw [q4] at h5
                exact h5.elim
              | bad =>
                rw [q4] at h5
                exact h5.elim
              | ok v S6 =>
                rw [q4] at h5
                intro y H7 F7 m7 e7 p7 r7 v7
                obtain ⟨R7, hH7, hF7, hm7⟩ := r7.unguard hB hF0
                cases v with
                | loc n => exact h5.elim
                | d w =>
                  have h7 := pE.mono e7 p7 h5
                  dsimp only at h7
                  have hr7 := hr.mono ((x3.ff.trans e5).trans e7)
                  by_cases hl : acc.length < sizeLine
                  · rw [if_pos hl] at h7
                    refine ⟨xs, hH7, by rw [hr.length]; exact hl, F7, m7, S6, acc ++ [w], xs ++ [y], ((e2.trans x3.ff).trans e5).trans e7, (p2.trans p5).trans p7, R7.other hF7 hB hm7, hF7, hm7, upd_same, hr7.append (.cons v7 .nil), h7⟩
                  · rw [if_neg hl] at h7
                    exact h7.elim
    · have hle : ds.length ≤ i := by omega
      rw [List.drop_eq_nil_of_le hle] at h2
      refine .inl ⟨y2 hle, ?_⟩
      have hx : Ex F2 (upd F2 p (.lst xs)) := Ex.new hF2
      have R : Rl G.K B F0 (upd F2 p (.lst xs)) H' m2 S2 :=
        { ex := fun b v z => by
            by_cases hb : b = p
            · subst hb
              rw [upd_same] at z
              cases z
              exact hH
            · rw [upd_ne hb] at z
              exact r2.ex b v z
          exB := r2.exB
          f0 := r2.f0.trans hx
          nw := fun b v z => by
            by_cases hb : b = p
            · subst hb
              exact .inr hB
            · rw [upd_ne hb] at z
              exact r2.nw b v z
          len := r2.len
          nd := r2.nd
          al := r2.al
          ob := fun n o z => by
            obtain ⟨b, h1, h3, h4⟩ := r2.ob n o z
            refine ⟨b, h1, ?_, h4.mono hx fun v q => q⟩
            rw [upd_ne (ne_mem hm2 (List.mem_of_getElem? h1))]
            exact h3 }
      exact h2 _ H' _ m2 hx (List.prefix_refl m2) R (.lst upd_same (hr.mono hx))
/-- the scope of a comprehension as it runs: what it takes of the def's cells is a cell -/
def relab (sc scope : Scope) : Scope := { scope with names := scope.names.map fun (n, k) => if k == NameKind.free && sc.kind == .function && sc.names.lookup n == some .cell then (n, NameKind.cell) else (n, k) }
theorem relab_eq {scope : Scope} {env : PySem.Env} : relabel scope env = relab env.scope scope := rfl
/-- a comprehension's block is a place of ours -/
theorem Good.blk (g : Good G W N sc oc lv X) {scope : Scope} (s : Shared) (H : Hp) (C : Addr) (cl : List (Str × Addr)) (fp : List Addr) : Good G W0 N (relab sc scope) scope lv (X.blk s H scope (compEnvC scope cl C X.env) fp) where
  prog := g.prog
  w := g.w
  K := g.K
  mg := g.mg
  base := g.base
  hN := g.hN
  hs := by rw [← g.hs]; rfl
  calm := g.calm
  room := g.room
  tk := fun u s' x => by
    obtain ⟨_, _, _, _, _, _, _, _, _, _, _, _, _, _, _, _, w⟩ := x
    exact w.elim
  nd := g.nd
  fn := fun x h => by show (scope.names.lookup x == some NameKind.cell) = true; rw [h]; rfl
  po := PySem.PassesOwn.never
theorem ok_comp {elt tg iter : Expr} {ifs : List Expr} {scope : Scope} {own : List (Str × Nat)} {pos : Pos} {t : Tg} {it : Env → M (List D)} {c : Env → M Bool} {e : Env → M Val} (g : Good G W N sc oc lv X) (hi : PI X tg iter (tI G W it)) (hb : blkC N sc scope own = true)
    (hg : ∀ X', Good G W0 N (relab sc scope) scope lv X' → PG X' tg (tG G t)) (hc : ∀ X', Good G W0 N (relab sc scope) scope lv X' → PTs X' ifs (tT G W0 c)) (he : ∀ X', Good G W0 N (relab sc scope) scope lv X' → PE X' elt (tE G W0 e)) (hs : notSet iter = true) (hsl : ∀ j ∈ t.slots, j ∈ own.map (·.2)) :
    PE X (.ListComp elt [{ target := tg, iter := iter, ifs := ifs, is_async := 0 }] scope pos) (tE G W (evComp (own.map (·.2)) t it c e)) :=
  PE.imp (pe_lc (own := own) g.calm (by rw [g.hN]; exact g.nd) hi (by rw [g.hN, g.hs]; exact blkOk_by hb) (fun s H C cl fp => hg _ (g.blk s H C cl fp)) (fun s H C cl fp => hc _ (g.blk s H C cl fp)) (fun s H C cl fp => he _ (g.blk s H C cl fp)) (fold_of hs)) (rd_comp hsl)
theorem okts_nil : PTs X [] (tT G W fun _ => M.ret true) := ⟨fun pins s σ H Q I q => pts_nil.run pins s σ H Q I (by
  obtain ⟨B, F0, F, m, ρ, S, a, h⟩ := q
  exact h H F m (Ex.refl _) (List.prefix_refl m) a.rl)⟩
/-- y = [..]: the store goes on within the comprehension's frame -/
def swapC (sc scope : Scope) (y : Str) (py pos : Pos) : Bool := (match sc.kind with | .function => true | _ => false) && (py.line == pos.line) && !(scope.names.any fun (n, k) => n == y && (k == .local || k == .cell))
theorem ok_asgComp {i : Nat} {y : Str} {py spos : Pos} {elt tg iter : Expr} {ifs : List Expr} {scope : Scope} {own : List (Str × Nat)} {pos : Pos} {t : Tg} {it : Env → M (List D)} {c : Env → M Bool} {e : Env → M Val} (g : Good G W N sc oc lv X) (hN : N[i]? = some y) (hy : sc.names.lookup y = some .local) (hsw : swapC sc scope y py pos = true)
    (hi : PI X tg iter (tI G W it)) (hb : blkC N sc scope own = true)
    (hg : ∀ X', Good G W0 N (relab sc scope) scope lv X' → PG X' tg (tG G t)) (hc : ∀ X', Good G W0 N (relab sc scope) scope lv X' → PTs X' ifs (tT G W0 c)) (he : ∀ X', Good G W0 N (relab sc scope) scope lv X' → PE X' elt (tE G W0 e)) (hs : notSet iter = true) (hsl : ∀ j ∈ t.slots, j ∈ own.map (·.2)) :
    PS X (.Assign [.Name y py] (.ListComp elt [{ target := tg, iter := iter, ifs := ifs, is_async := 0 }] scope pos) spos) (tS G W (sAsg (evComp (own.map (·.2)) t it c e) (.nm i))) := by
  obtain ⟨h12, h3⟩ := Bool.and_eq_true_iff.mp hsw
  obtain ⟨h1, h2⟩ := Bool.and_eq_true_iff.mp h12
  have hk : X.env.scope.kind = .function := by
    rw [g.hs]
    split at h1
    · assumption
    · cases h1
  refine PS.imp (ps_setLc (i := i) (own := own) g.calm (by rw [g.hN]; exact g.nd) (by rw [g.hN]; exact hN) (by rw [g.hs]; exact hy) (sw_true hk (by rw [g.hs]; exact hy) h2 (by simpa using h3)) hi (by rw [g.hN, g.hs]; exact blkOk_by hb) (fun s H C cl fp => hg _ (g.blk s H C cl fp)) (fun s H C cl fp => hc _ (g.blk s H C cl fp)) (fun s H C cl fp => he _ (g.blk s H C cl fp)) (fold_of hs)) fun En σ H h => ?_
  have h2 := rd_asg (t := .nm i) En σ H h
  refine rd_comp hsl σ H _ ?_
  obtain ⟨B, F0, F, m, ρ, S, a, h3⟩ := h2
  refine ⟨B, F0, F, m, ρ, S, a, rd_op.pE_imp h3 fun x H1 z => ?_⟩
  obtain ⟨F1, m1, ρ1, v, z1, z2, z3, z4⟩ := z
  simp only [Tg.bind] at z4
  exact z4 _ (z2.set z3) Off.set

/-! ### lists of the store that change -/
/-- what a method of a list does: the new list, the answer -/
def onList (k : List D → List D → Option (List D × D)) (v : Val) (ws : List Val) : M Val := fun S => match v with
  | .loc n => (match S[n]?, asPs ws with
    | some (some (.lst ds)), some es => (match k ds es with
      | some (ds', y) => .ok (.d y) (S.set n (some (.lst ds')))
      | none => .bad)
    | _, _ => .bad)
  | _ => .bad
/-- the rule r serves k -/
def OpL (K : PySem.W.Frag) (r : V → List V → Hp → VK → Prop) (k : List D → List D → Option (List D × D)) : Prop := ∀ (F H : Hp) (a : Addr) (xs ys : List V) (ds es ds' : List D) (y : D), H a = some (.lst xs) → Reps K F xs ds → Reps K F ys es → k ds es = some (ds', y) →
  ∃ (xs' : List V) (z : V), Reps K F xs' ds' ∧ Rep K F z y ∧ ∀ Q : VK, Q z (upd H a (.lst xs')) → r (.ref a) ys H Q
def needL (v : Val) : M Unit := fun S => match v with
  | .loc n => (match S[n]? with
    | some (some (.lst _)) => .ok () S
    | _ => .bad)
  | _ => .bad
theorem rd_onList {r : V → List V → Hp → VK → Prop} {k : List D → List D → Option (List D × D)} {fo : Env → M Val} {fs : Env → M (List Val)} (o : OpL G.K r k) (σ : L2.St) (H : Hp) (Q : VK) (h : tE G W (fun ρ => fo ρ >>= fun v => needL v >>= fun _ => fs ρ >>= fun ws => onList k v ws) σ H Q) :
    tE G W fo σ H fun x H1 => tyV G.K "list" x H1 ∧ tA G W fs σ H1 fun xs H2 => r x xs H2 Q := by
  obtain ⟨B, F0, F, m, ρ, S, a, h⟩ := h
  obtain ⟨B', F0', F', m', ρ', S', a', h'⟩ := seqEE (fa := fo) (k := fun v => needL v >>= fun _ => fs ρ >>= fun ws => onList k v ws) a h
  refine ⟨B', F0', F', m', ρ', S', a', rd_op.pE_imp h' fun x H1 z => ?_⟩
  obtain ⟨F1, m1, S1, v, e1, p1, a1, v1, h1⟩ := z
  cases v with
  | d y => exact h1.elim
  | loc n =>
    have h1 : pE G W σ B F0 F1 m1 Q ((needL (.loc n) S1).bind fun _ => fs ρ >>= fun ws => onList k (.loc n) ws) := h1
    obtain ⟨b, hb, rfl⟩ := v1
    cases q : S1[n]? with
    | none =>
      have z : needL (.loc n) S1 = .bad := by unfold needL; dsimp only; rw [q]
      rw [z] at h1
      exact h1.elim
    | some so =>
      cases so with
      | none =>
        have z : needL (.loc n) S1 = .bad := by unfold needL; dsimp only; rw [q]
        rw [z] at h1
        exact h1.elim
      | some ob =>
        cases ob with
        | lst ds =>
          have z : needL (.loc n) S1 = .ok () S1 := by unfold needL; dsimp only; rw [q]
          rw [z] at h1
          have h1 : pE G W σ B F0 F1 m1 Q ((fs ρ S1).bind fun ws => onList k (.loc n) ws) := h1
          obtain ⟨b', hb', hf, xs, hx, rx⟩ := a1.rl.ob n _ q
          rw [hb] at hb'
          cases hb'
          refine ⟨.inl ⟨rfl, xs, .inl (.inl hx)⟩, ?_⟩
          obtain ⟨B2, F02, F2, m2, ρ2, S2, a2, h2⟩ := seqAE (fa := fs) (k := fun ws => onList k (.loc n) ws) a1 h1
          refine ⟨B2, F02, F2, m2, ρ2, S2, a2, pA_imp h2 fun ys H2 z => ?_⟩
          obtain ⟨F3, m3, S3, ws, e3, p3, a3, v3, h3⟩ := z
          have hb3 := pre_get p3 hb
          unfold onList at h3
          dsimp only at h3
          cases q3 : S3[n]? with
          | none => rw [q3] at h3; exact h3.elim
          | some so3 =>
            rw [q3] at h3
            cases so3 with
            | none => exact h3.elim
            | some ob3 =>
              cases ob3 with
              | lst ds3 =>
                cases q4 : asPs ws with
                | none => rw [q4] at h3; exact h3.elim
                | some es =>
                  rw [q4] at h3
                  dsimp only at h3
                  cases q5 : k ds3 es with
                  | none => rw [q5] at h3; exact h3.elim
                  | some p5 =>
                    obtain ⟨ds', y⟩ := p5
                    rw [q5] at h3
                    obtain ⟨b3, hb3', hf3, xs3, hx3, rx3⟩ := a3.rl.ob n _ q3
                    rw [hb3] at hb3'
                    cases hb3'
                    have hl : n < S3.length := (List.getElem?_eq_some_iff.mp q3).1
                    obtain ⟨xs', z', w1, w2, w3⟩ := o F3 H2 b xs3 ys ds3 es ds' y hx3 rx3 (asPs_reps v3 q4) q5
                    exact w3 Q (h3 z' _ F3 m3 (Ex.refl _) (List.prefix_refl m3) (a3.rl.write hb3 hf3 hl ⟨xs', upd_same, w1⟩) w2)
              | dct _ => exact h3.elim
              | obj _ _ => exact h3.elim
        | dct _ =>
          have z : needL (.loc n) S1 = .bad := by unfold needL; dsimp only; rw [q]
          rw [z] at h1
          exact h1.elim
        | obj _ _ =>
          have z : needL (.loc n) S1 = .bad := by unfold needL; dsimp only; rw [q]
          rw [z] at h1
          exact h1.elim
/-- xs.append(e) -/
def kAppend : List D → List D → Option (List D × D)
  | ds, [e] => if ds.length < sizeLine then some (ds ++ [e], .non) else none
  | _, _ => none
def kInsert : List D → List D → Option (List D × D)
  | ds, [.int i, e] => if ds.length < sizeLine ∧ 0 ≤ i ∧ i < 2 ^ 63 then some (ds.take i.toNat ++ [e] ++ ds.drop i.toNat, .non) else none
  | _, _ => none
def kPop : List D → List D → Option (List D × D)
  | ds, [] => (ds[ds.length - 1]?).map fun y => (ds.dropLast, y)
  | _, _ => none
def kExtend : List D → List D → Option (List D × D)
  | ds, [.lst es] => if ds.length + es.length ≤ sizeLine then some (ds ++ es, .non) else none
  | _, _ => none
def kClear : List D → List D → Option (List D × D)
  | _, [] => some ([], .non)
  | _, _ => none
theorem opl_append {K : PySem.W.Frag} : OpL K rAppend kAppend := fun F H a xs ys ds es ds' y h r1 r2 q => by
  unfold kAppend at q
  split at q
  · rename_i ds e
    split at q
    · cases q
      rename_i hl
      cases r2 with
      | cons k1 k2 =>
        cases k2
        exact ⟨_, .non, r1.append (.cons k1 .nil), .non, fun Q hq => ⟨a, xs, _, rfl, rfl, h, by rw [r1.length]; exact hl, hq⟩⟩
    · cases q
  · cases q
theorem opl_insert {K : PySem.W.Frag} : OpL K (fun x vs H Q => ∃ (l : Addr) (xs : List V) (i : Int) (y : V), x = .ref l ∧ vs = [.int i, y] ∧ H l = some (.lst xs) ∧ xs.length < sizeLine ∧ 0 ≤ i ∧ i < 2 ^ 63 ∧ Q .non (upd H l (.lst (xs.take i.toNat ++ [y] ++ xs.drop i.toNat)))) kInsert := fun F H a xs ys ds es ds' y h r1 r2 q => by
  unfold kInsert at q
  split at q
  · rename_i ds i e
    split at q
    · cases q
      rename_i hl
      cases r2 with
      | cons k1 k2 =>
        cases k2 with
        | cons k3 k4 =>
          cases k4
          cases k1
          exact ⟨_, .non, ((r1.take _).append (.cons k3 .nil)).append (r1.drop _), .non, fun Q hq => ⟨a, xs, i, _, rfl, rfl, h, by rw [r1.length]; exact hl.1, hl.2.1, hl.2.2, hq⟩⟩
    · cases q
  · cases q
theorem reps_dropLast {K : PySem.W.Frag} {F : Hp} {xs : List V} {ds : List D} (r : Reps K F xs ds) : Reps K F xs.dropLast ds.dropLast := by
  rw [List.dropLast_eq_take, List.dropLast_eq_take, r.length]
  exact r.take _
theorem opl_pop {K : PySem.W.Frag} : OpL K rPop kPop := fun F H a xs ys ds es ds' y h r1 r2 q => by
  unfold kPop at q
  split at q
  · cases z : ds[ds.length - 1]? with
    | none =>
      rw [z] at q
      cases q
    | some w =>
      rw [z] at q
      cases q
      cases r2
      obtain ⟨v, h1, h2⟩ := r1.get z
      exact ⟨_, v, reps_dropLast r1, h2, fun Q hq => ⟨a, xs, v, rfl, rfl, h, by rw [r1.length]; exact h1, hq⟩⟩
  · cases q
theorem opl_clear {K : PySem.W.Frag} : OpL K rClear kClear := fun F H a xs ys ds es ds' y h r1 r2 q => by
  unfold kClear at q
  split at q
  · cases q
    cases r2
    exact ⟨[], .non, .nil, .non, fun Q hq => ⟨a, xs, rfl, rfl, h, hq⟩⟩
  · cases q
/-- xs.m(e, ..), m a method that changes the list; the answer's line is the call's -/
def lineOk (apos cpos : Pos) : Bool := apos.endLine == cpos.line
theorem args_few {cpos : Pos} {env : PySem.Env} {es : List Expr} (h : es.all notStar = true) (hl : es.length < 30) :
    ((((backTo cpos (starEach es env)).all fun x => !x.fst) && (backToKw cpos (keywordEach [] env)).all fun x => x.fst.isSome) && decide ((es.length + ([] : List Keyword).length + if ([] : List Keyword).isEmpty = true then 0 else 1) < 30)) = true := by
  have h1 : ((backTo cpos (starEach es env)).all fun x => !x.fst) = true := by
    have := stars_plain (pos := cpos) (env := env) h
    rw [List.all_eq_not_any_not]
    simp only [Bool.not_not]
    rw [this]
    rfl
  rw [h1]
  show (true && true && decide (es.length + 0 + 0 < 30)) = true
  rw [decide_eq_true (show es.length + 0 + 0 < 30 by omega)]
  rfl
theorem ok_lm {o e : Expr} {es : List Expr} {name : Str} {id : String} {r : V → List V → Hp → VK → Prop} {k : List D → List D → Option (List D × D)} {fo : Env → M Val} {fs : Env → M (List Val)} {apos cpos : Pos} (g : Good G W N sc oc lv X) (hslot : PySem.Slot "list" name id) (hty : typeOf (.builtin id) = pure (.type "method_descriptor"))
    (hr : MtR X id r) (op : OpL G.K r k) (ho : PE X o (tE G W fo)) (ha : PA X (e :: es) (tA G W fs)) (hc0 : notCall0 o = true) (hst : (e :: es).all notStar = true) (hl : (e :: es).length < 30) (hln : lineOk apos cpos = true) :
    PE X (.Call (.Attribute o name apos) (e :: es) [] cpos) (tE G W fun ρ => fo ρ >>= fun v => needL v >>= fun _ => fs ρ >>= fun ws => onList k v ws) := by
  have hst' := hst
  rw [List.all_cons, Bool.and_eq_true] at hst'
  refine PE.imp (pe_bm PySem.F.plainAttrs_list hslot hty hr ho ha (attr_of hc0) (args_few hst hl) hln (star_of hst'.1) (stars_plain hst'.2)) fun σ H Q h => ?_
  rw [g.K]
  exact rd_onList op σ H Q h
theorem ok_lm0 {o : Expr} {name : Str} {id : String} {r : V → List V → Hp → VK → Prop} {k : List D → List D → Option (List D × D)} {fo : Env → M Val} {apos cpos : Pos} (g : Good G W N sc oc lv X) (hslot : PySem.Slot "list" name id) (hty : typeOf (.builtin id) = pure (.type "method_descriptor"))
    (hr : MtR X id r) (op : OpL G.K r k) (ho : PE X o (tE G W fo)) (hc0 : notCall0 o = true) (hln : lineOk apos cpos = true) :
    PE X (.Call (.Attribute o name apos) [] [] cpos) (tE G W fun ρ => fo ρ >>= fun v => needL v >>= fun _ => M.ret [] >>= fun ws => onList k v ws) := by
  refine PE.imp (pe_bm0 PySem.F.plainAttrs_list hslot hty hr ho (attr_of hc0) hln) fun σ H Q h => ?_
  rw [g.K]
  have h2 := rd_onList (fs := fun _ => M.ret []) op σ H Q h
  obtain ⟨B, F0, F, m, ρ, S, a, h3⟩ := h2
  refine ⟨B, F0, F, m, ρ, S, a, rd_op.pE_imp h3 fun x H1 z => ⟨z.1, ?_⟩⟩
  obtain ⟨B', F0', F', m', ρ', S', a', h'⟩ := z.2
  exact h' [] H1 F' m' (Ex.refl _) (List.prefix_refl m') a'.rl .nil
end
end PD

/-! PD9: built-ins by name. -/
namespace PD
open PySem L2

/-- lists of whole numbers, of truth values -/
def intsD : List D → Option (List Int)
  | [] => some []
  | .int i :: r => (intsD r).map (i :: ·)
  | _ :: _ => none
def boolsD : List D → Option (List Bool)
  | [] => some []
  | .bl i :: r => (boolsD r).map (i :: ·)
  | _ :: _ => none
theorem intsD_eq : ∀ {ds : List D} {ns : List Int}, intsD ds = some ns → ds = ns.map .int
  | [], ns, h => by cases h; rfl
  | d :: r, ns, h => by
    cases d with
    | int i =>
      have h : (intsD r).map (i :: ·) = some ns := h
      cases q : intsD r with
      | none => rw [q] at h; cases h
      | some m =>
        rw [q] at h
        cases h
        rw [List.map_cons, ← intsD_eq q]
    | _ => cases h
theorem bools_eq : ∀ {ds : List D} {ns : List Bool}, boolsD ds = some ns → ds = ns.map .bl
  | [], ns, h => by cases h; rfl
  | d :: r, ns, h => by
    cases d with
    | bl i =>
      have h : (boolsD r).map (i :: ·) = some ns := h
      cases q : boolsD r with
      | none => rw [q] at h; cases h
      | some m =>
        rw [q] at h
        cases h
        rw [List.map_cons, ← bools_eq q]
    | _ => cases h
theorem ints_map : ∀ ns : List Int, intsD (ns.map .int) = some ns
  | [] => rfl
  | n :: ns => by
    show (intsD (ns.map .int)).map (n :: ·) = _
    rw [ints_map ns]
    rfl
theorem bools_map : ∀ ns : List Bool, boolsD (ns.map .bl) = some ns
  | [] => rfl
  | n :: ns => by
    show (boolsD (ns.map .bl)).map (n :: ·) = _
    rw [bools_map ns]
    rfl
theorem reps_ints_inv {K : PySem.W.Frag} {F : Hp} : ∀ {xs : List V} {ns : List Int}, Reps K F xs (ns.map .int) → xs = ns.map V.int
  | xs, [], h => by cases h; rfl
  | xs, n :: ns, h => by
    cases h with
    | cons h1 h2 => rw [List.map_cons, ← reps_ints_inv h2, Rep.int_ h1]
theorem reps_bools_inv {K : PySem.W.Frag} {F : Hp} : ∀ {xs : List V} {ns : List Bool}, Reps K F xs (ns.map .bl) → xs = ns.map V.bl
  | xs, [], h => by cases h; rfl
  | xs, n :: ns, h => by
    cases h with
    | cons h1 h2 => rw [List.map_cons, ← reps_bools_inv h2, Rep.bl_ h1]
/-- the least, the greatest -/
def minI (n : Int) (ns : List Int) : Int := ns.foldl (fun a b => if b < a then b else a) n
def maxI (n : Int) (ns : List Int) : Int := ns.foldl (fun a b => if a < b then b else a) n
theorem minI_spec : ∀ (ns : List Int) (n : Int), minI n ns ∈ n :: ns ∧ ∀ y ∈ n :: ns, minI n ns ≤ y
  | [], n => ⟨List.mem_singleton.mpr rfl, fun y hy => by rw [List.mem_singleton] at hy; rw [hy]; exact Int.le_refl _⟩
  | b :: ns, n => by
    have e : minI n (b :: ns) = minI (if b < n then b else n) ns := rfl
    obtain ⟨h1, h2⟩ := minI_spec ns (if b < n then b else n)
    rw [e]
    have h3 := h2 _ (List.mem_cons_self ..)
    have h4 : minI (if b < n then b else n) ns ≤ n ∧ minI (if b < n then b else n) ns ≤ b := by
      by_cases hb : b < n
      · rw [if_pos hb] at h3 ⊢; omega
      · rw [if_neg hb] at h3 ⊢; omega
    refine ⟨?_, fun y hy => ?_⟩
    · rcases List.mem_cons.mp h1 with h | h
      · rw [h]
        split
        · exact List.mem_cons_of_mem _ (List.mem_cons_self ..)
        · exact List.mem_cons_self ..
      · exact List.mem_cons_of_mem _ (List.mem_cons_of_mem _ h)
    · rcases List.mem_cons.mp hy with h | h
      · rw [h]
        exact h4.1
      · rcases List.mem_cons.mp h with h | h
        · rw [h]
          exact h4.2
        · exact h2 y (List.mem_cons_of_mem _ h)
theorem maxI_spec : ∀ (ns : List Int) (n : Int), maxI n ns ∈ n :: ns ∧ ∀ y ∈ n :: ns, y ≤ maxI n ns
  | [], n => ⟨List.mem_singleton.mpr rfl, fun y hy => by rw [List.mem_singleton] at hy; rw [hy]; exact Int.le_refl _⟩
  | b :: ns, n => by
    have e : maxI n (b :: ns) = maxI (if n < b then b else n) ns := rfl
    obtain ⟨h1, h2⟩ := maxI_spec ns (if n < b then b else n)
    rw [e]
    have h3 := h2 _ (List.mem_cons_self ..)
    have h4 : n ≤ maxI (if n < b then b else n) ns ∧ b ≤ maxI (if n < b then b else n) ns := by
      by_cases hb : n < b
      · rw [if_pos hb] at h3 ⊢; omega
      · rw [if_neg hb] at h3 ⊢; omega
    refine ⟨?_, fun y hy => ?_⟩
    · rcases List.mem_cons.mp h1 with h | h
      · rw [h]
        split
        · exact List.mem_cons_of_mem _ (List.mem_cons_self ..)
        · exact List.mem_cons_self ..
      · exact List.mem_cons_of_mem _ (List.mem_cons_of_mem _ h)
    · rcases List.mem_cons.mp hy with h | h
      · rw [h]
        exact h4.1
      · rcases List.mem_cons.mp h with h | h
        · rw [h]
          exact h4.2
        · exact h2 y (List.mem_cons_of_mem _ h)
inductive BI where
  | len | abs | min | max | int | sum | all | list | tuple
  deriving DecidableEq
def BI.name : BI → Str
  | .len => "len"
  | .abs => "abs"
  | .min => "min"
  | .max => "max"
  | .int => "int"
  | .sum => "sum"
  | .all => "all"
  | .list => "list"
  | .tuple => "tuple"
def BI.val : BI → Value
  | .len => .builtin "len"
  | .abs => .builtin "abs"
  | .min => .builtin "min"
  | .max => .builtin "max"
  | .int => .type "int"
  | .sum => .builtin "sum"
  | .all => .builtin "all"
  | .list => .type "list"
  | .tuple => .type "tuple"
theorem BI.boot (b : BI) : bootBuiltins b.name = some b.val := by cases b <;> decide +kernel
theorem BI.nn (b : BI) : b.name ≠ Str.ofString "__name__" := by cases b <;> decide +kernel
theorem BI.nd (b : BI) : (b.name == Str.ofString "__debug__") = false := by cases b <;> decide +kernel
def lenD : List D → Option D
  | [.lst xs] => some (.int (xs.length : Int))
  | [.tup xs] => some (.int (xs.length : Int))
  | [.str z] => if z.length ≤ sizeLine then some (.int (z.length : Int)) else none
  | [.scr xs] => some (.int (xs.length : Int))
  | _ => none
def absD : List D → Option D
  | [.int i] => some (.int (if i < 0 then -i else i))
  | _ => none
def minDD : List D → Option D
  | [.int i, .int j] => some (.int (if j < i then j else i))
  | [.lst xs] => (match intsD xs with
    | some (n :: ns) => some (.int (minI n ns))
    | _ => none)
  | _ => none
def maxDD : List D → Option D
  | [.int i, .int j] => some (.int (if i < j then j else i))
  | [.lst xs] => (match intsD xs with
    | some (n :: ns) => some (.int (maxI n ns))
    | _ => none)
  | _ => none
def intD : List D → Option D
  | [.int i] => some (.int i)
  | [.bl b] => some (.int (if b then 1 else 0))
  | _ => none
def sumD : List D → Option D
  | [.lst xs] => (intsD xs).map fun ns => .int ns.sum
  | _ => none
def allD : List D → Option D
  | [.lst xs] => (boolsD xs).map fun bs => .bl (bs.all id)
  | _ => none
def listD : List D → Option D
  | [.lst xs] => some (.lst xs)
  | [.tup xs] => some (.lst xs)
  | [.scr ns] => some (.lst (ns.map .int))
  | _ => none
def tupleD : List D → Option D
  | [.lst xs] => some (.tup xs)
  | [.tup xs] => some (.tup xs)
  | _ => none
def biD : BI → List D → Option D
  | .len => lenD
  | .abs => absD
  | .min => minDD
  | .max => maxDD
  | .int => intD
  | .sum => sumD
  | .all => allD
  | .list => listD
  | .tuple => tupleD
section
variable {K : PySem.W.Frag}
theorem TReps.one {F H : Hp} {xs : List V} {d : D} (h : TReps K F H xs [d]) : ∃ x, xs = [x] ∧ TRep K F H x d := by
  cases h with
  | cons h1 h2 => cases h2; exact ⟨_, rfl, h1⟩
theorem TReps.two {F H : Hp} {xs : List V} {d e : D} (h : TReps K F H xs [d, e]) : ∃ x y, xs = [x, y] ∧ TRep K F H x d ∧ TRep K F H y e := by
  cases h with
  | cons h1 h2 =>
    obtain ⟨y, rfl, h3⟩ := h2.one
    exact ⟨_, y, rfl, h1, h3⟩
theorem bi_rule (b : BI) : ∃ r : List V → Hp → VK → Prop, (∀ X : Cx, X.K = K → X.calm = true → CallR X b.val r) ∧ OpA K r (biD b) := by
  cases b with
  | len =>
    refine ⟨fun xs H Q => (∃ p ys, xs = [.ref p] ∧ (SqL K H p ys ∨ SqT K H p ys) ∧ Q (.int ys.length) H) ∨ (∃ z, xs = [.str z] ∧ z.length ≤ sizeLine ∧ Q (.int z.length) H), fun X hK _ => by subst hK; exact CallR.or call_len_seq call_len_str, fun F H xs ds d e hx q Q k => ?_⟩
    have q : lenD ds = some d := q
    unfold lenD at q
    split at q <;> first | (cases q; done) | skip
    · cases q
      obtain ⟨x, rfl, h⟩ := hx.one
      obtain ⟨p, ys, rfl, h1, r1⟩ := h.list e
      exact .inl ⟨p, ys, rfl, .inl (.inl (.inl h1)), k _ F H (Ext.refl e) (by rw [r1.length]; exact .int _)⟩
    · cases q
      obtain ⟨x, rfl, h⟩ := hx.one
      obtain ⟨p, ys, rfl, h1, r1⟩ := h.tuple e
      exact .inl ⟨p, ys, rfl, .inr h1, k _ F H (Ext.refl e) (by rw [r1.length]; exact .int _)⟩
    · split at q
      · cases q
        obtain ⟨x, rfl, h⟩ := hx.one
        exact .inr ⟨_, by rw [h.str], by assumption, k _ F H (Ext.refl e) (.int _)⟩
      · cases q
    · cases q
      obtain ⟨x, rfl, h⟩ := hx.one
      obtain ⟨p, rfl, h1⟩ := h.script e
      exact .inl ⟨p, _, rfl, .inl h1, k _ F H (Ext.refl e) (by rw [List.length_map]; exact .int _)⟩
  | abs =>
    refine ⟨_, fun X hK _ => call_abs, fun F H xs ds d e hx q Q k => ?_⟩
    have q : absD ds = some d := q
    unfold absD at q
    split at q <;> first | (cases q; done) | skip
    cases q
    obtain ⟨x, rfl, h⟩ := hx.one
    exact ⟨_, by rw [h.int], k _ F H (Ext.refl e) (.int _)⟩
  | min =>
    refine ⟨fun xs H Q => (∃ i j, xs = [.int i, .int j] ∧ Q (.int (if j < i then j else i)) H) ∨ rMin K xs H Q, fun X hK hc => by subst hK; exact CallR.or (call_min2 hc) (cr_min hc), fun F H xs ds d e hx q Q k => ?_⟩
    have q : minDD ds = some d := q
    unfold minDD at q
    split at q <;> first | (cases q; done) | skip
    · cases q
      obtain ⟨x, y, rfl, h1, h2⟩ := hx.two
      exact .inl ⟨_, _, by rw [h1.int, h2.int], k _ F H (Ext.refl e) (.int _)⟩
    · split at q
      · cases q
        rename_i n ns hn
        obtain ⟨x, rfl, h⟩ := hx.one
        obtain ⟨p, ys, rfl, h1, r1⟩ := h.list e
        rw [intsD_eq hn] at r1
        rw [reps_ints_inv r1] at h1
        refine .inr ⟨p, n :: ns, rfl, .inl (.inl h1), by simp, fun m hm hl => ?_⟩
        obtain ⟨s1, s2⟩ := minI_spec ns n
        have e1 : m = minI n ns := by
          have a1 := hl _ s1
          have a2 := s2 _ hm
          omega
        rw [e1]
        exact k _ F H (Ext.refl e) (.int _)
      · cases q
  | max =>
    refine ⟨fun xs H Q => (∃ i j, xs = [.int i, .int j] ∧ Q (.int (if j > i then j else i)) H) ∨ rMax K xs H Q, fun X hK hc => by subst hK; exact CallR.or (call_max2 hc) (cr_max hc), fun F H xs ds d e hx q Q k => ?_⟩
    have q : maxDD ds = some d := q
    unfold maxDD at q
    split at q <;> first | (cases q; done) | skip
    · cases q
      obtain ⟨x, y, rfl, h1, h2⟩ := hx.two
      exact .inl ⟨_, _, by rw [h1.int, h2.int], k _ F H (Ext.refl e) (.int _)⟩
    · split at q
      · cases q
        rename_i n ns hn
        obtain ⟨x, rfl, h⟩ := hx.one
        obtain ⟨p, ys, rfl, h1, r1⟩ := h.list e
        rw [intsD_eq hn] at r1
        rw [reps_ints_inv r1] at h1
        refine .inr ⟨p, n :: ns, rfl, .inl (.inl h1), by simp, fun m hm hl => ?_⟩
        obtain ⟨s1, s2⟩ := maxI_spec ns n
        have e1 : m = maxI n ns := by
          have a1 := hl _ s1
          have a2 := s2 _ hm
          omega
        rw [e1]
        exact k _ F H (Ext.refl e) (.int _)
      · cases q
  | int =>
    refine ⟨_, fun X hK _ => call_int1, fun F H xs ds d e hx q Q k => ?_⟩
    have q : intD ds = some d := q
    unfold intD at q
    split at q <;> first | (cases q; done) | skip
    · cases q
      obtain ⟨x, rfl, h⟩ := hx.one
      exact .inl ⟨_, by rw [h.int], k _ F H (Ext.refl e) (.int _)⟩
    · cases q
      obtain ⟨x, rfl, h⟩ := hx.one
      exact .inr ⟨_, by rw [h.bl], k _ F H (Ext.refl e) (.int _)⟩
  | sum =>
    refine ⟨rSum K, fun X hK hc => by subst hK; exact cr_sum hc, fun F H xs ds d e hx q Q k => ?_⟩
    have q : sumD ds = some d := q
    unfold sumD at q
    split at q <;> first | (cases q; done) | skip
    rename_i ys _
    cases z : intsD ys with
    | none => rw [z] at q; cases q
    | some ns =>
      rw [z] at q
      cases q
      obtain ⟨x, rfl, h⟩ := hx.one
      obtain ⟨p, zs, rfl, h1, r1⟩ := h.list e
      rw [intsD_eq z] at r1
      rw [reps_ints_inv r1] at h1
      exact ⟨p, ns, rfl, .inl (.inl h1), k _ F H (Ext.refl e) (.int _)⟩
  | all =>
    refine ⟨rAll K, fun X hK hc => by subst hK; exact cr_all hc, fun F H xs ds d e hx q Q k => ?_⟩
    have q : allD ds = some d := q
    unfold allD at q
    split at q <;> first | (cases q; done) | skip
    rename_i ys _
    cases z : boolsD ys with
    | none => rw [z] at q; cases q
    | some ns =>
      rw [z] at q
      cases q
      obtain ⟨x, rfl, h⟩ := hx.one
      obtain ⟨p, zs, rfl, h1, r1⟩ := h.list e
      rw [bools_eq z] at r1
      rw [reps_bools_inv r1] at h1
      exact ⟨p, ns, rfl, .inl (.inl h1), k _ F H (Ext.refl e) (.bl _)⟩
  | list =>
    refine ⟨fun xs H Q => ∃ p ys, xs = [.ref p] ∧ (SqL K H p ys ∨ SqT K H p ys) ∧ ∀ l, H l = none → Q (.ref l) (upd H l (.lst ys)), fun X hK _ => by subst hK; exact call_list_of, fun F H xs ds d e hx q Q k => ?_⟩
    have q : listD ds = some d := q
    unfold listD at q
    split at q <;> first | (cases q; done) | skip
    · cases q
      obtain ⟨x, rfl, h⟩ := hx.one
      obtain ⟨p, ys, rfl, h1, r1⟩ := h.list e
      exact ⟨p, ys, rfl, .inl (.inl (.inl h1)), fun l hl => k _ _ _ (Ext.new e hl) (.lst upd_same (r1.mono (Ex.new (e.none hl))))⟩
    · cases q
      obtain ⟨x, rfl, h⟩ := hx.one
      obtain ⟨p, ys, rfl, h1, r1⟩ := h.tuple e
      exact ⟨p, ys, rfl, .inr h1, fun l hl => k _ _ _ (Ext.new e hl) (.lst upd_same (r1.mono (Ex.new (e.none hl))))⟩
    · cases q
      obtain ⟨x, rfl, h⟩ := hx.one
      obtain ⟨p, rfl, h1⟩ := h.script e
      exact ⟨p, _, rfl, .inl h1, fun l hl => k _ _ _ (Ext.new e hl) (.lst upd_same (reps_ints _))⟩
  | tuple =>
    refine ⟨fun xs H Q => ∃ p ys, xs = [.ref p] ∧ ((SqL K H p ys ∧ ∀ l, H l = none → Q (.ref l) (upd H l (.tup ys))) ∨ (SqT K H p ys ∧ Q (.ref p) H)), fun X hK _ => by subst hK; exact call_tuple_of, fun F H xs ds d e hx q Q k => ?_⟩
    have q : tupleD ds = some d := q
    unfold tupleD at q
    split at q <;> first | (cases q; done) | skip
    · cases q
      obtain ⟨x, rfl, h⟩ := hx.one
      obtain ⟨p, ys, rfl, h1, r1⟩ := h.list e
      exact ⟨p, ys, rfl, .inl ⟨.inl (.inl h1), fun l hl => k _ _ _ (Ext.new e hl) (.tup (.inl (.inl upd_same)) (r1.mono (Ex.new (e.none hl))))⟩⟩
    · cases q
      obtain ⟨x, rfl, h⟩ := hx.one
      have h' := h
      obtain ⟨p, ys, rfl, h1, r1⟩ := h.tuple e
      refine ⟨p, ys, rfl, .inr ⟨h1, k _ F H (Ext.refl e) ?_⟩⟩
      cases h' with
      | rep r => exact r
end
section
variable {G : Gm} {W : WX} {N : List Str} {sc oc : Scope} {lv : Nat} {X : Cx}
theorem pe_cb {v : Value} {r : List V → Hp → VK → Prop} {x : Str} {e : Expr} {es : List Expr} {t : TA} {p pos : Pos} (g : Good G W N sc oc lv X) (hc : CallR X v r) (hk : (∃ id, v = .builtin id) ∨ ∃ T, v = .type T) (hs : sc.names.lookup x = some .globalImplicit) (hm : G.mg x = none) (hv : bootBuiltins x = some v)
    (hn : x ≠ Str.ofString "__name__") (hd : (x == Str.ofString "__debug__") = false) (ha : PA X (e :: es) t) (hst : (e :: es).all notStar = true) : PE X (.Call (.Name x p) (e :: es) [] pos) (tCB r t) := by
  rw [List.all_cons, Bool.and_eq_true] at hst
  rcases hk with ⟨id, rfl⟩ | ⟨T, rfl⟩
  · exact pe_callB hc (g.gl hs) (by rw [g.mg]; exact hm) hv ha hn hd (star_of hst.1) (stars_plain hst.2)
  · exact pe_callTy hc (g.gl hs) (by rw [g.mg]; exact hm) hv ha hn hd (star_of hst.1) (stars_plain hst.2)
theorem ok_bi {b : BI} {e : Expr} {es : List Expr} {fs : Env → M (List Val)} {p pos : Pos} (g : Good G W N sc oc lv X) (hs : sc.names.lookup b.name = some .globalImplicit) (hm : G.mg b.name = none) (ha : PA X (e :: es) (tA G W fs)) (hst : (e :: es).all notStar = true) :
    PE X (.Call (.Name b.name p) (e :: es) [] pos) (tE G W fun ρ => fs ρ >>= opA (biD b)) := by
  obtain ⟨r, h1, h2⟩ := bi_rule (K := G.K) b
  refine PE.imp (pe_cb g (h1 X g.K g.calm) ?_ hs hm b.boot b.nn b.nd ha hst) (rd_cb h2)
  cases b <;> first | exact .inl ⟨_, rfl⟩ | exact .inr ⟨_, rfl⟩

/-! ### isinstance(x, T), T a built-in class -/
inductive Ty where
  | int | bool | tuple | list | str | dict
  deriving DecidableEq
def Ty.name : Ty → Str
  | .int => "int"
  | .bool => "bool"
  | .tuple => "tuple"
  | .list => "list"
  | .str => "str"
  | .dict => "dict"
def Ty.id : Ty → String
  | .int => "int"
  | .bool => "bool"
  | .tuple => "tuple"
  | .list => "list"
  | .str => "str"
  | .dict => "dict"
theorem Ty.boot (t : Ty) : bootBuiltins t.name = some (.type t.id) := by cases t <;> decide +kernel
theorem Ty.nn (b : Ty) : b.name ≠ Str.ofString "__name__" := by cases b <;> decide +kernel
theorem Ty.nd (b : Ty) : (b.name == Str.ofString "__debug__") = false := by cases b <;> decide +kernel
def isaB : Ty → D → Option Bool
  | _, .obj _ _ => none
  | .int, .int _ => some true
  | .int, .bl _ => some true
  | .bool, .bl _ => some true
  | .tuple, .tup _ => some true
  | .list, .lst _ => some true
  | .list, .scr _ => some true
  | .str, .str _ => some true
  | .dict, .dct _ => some true
  | _, _ => some false
theorem isa_rule {K : PySem.W.Frag} (t : Ty) : Op1 K (fun x H Q => rIsi K [x, .ty t.id] H Q) (fun d => (isaB t d).map .bl) := fun F H x a d e hx q Q k => by
  have q : (isaB t a).map D.bl = some d := q
  cases z : isaB t a with
  | none =>
    rw [z] at q
    cases q
  | some b =>
    rw [z] at q
    cases q
    have fin : ∀ (n : String), TyX K H x (.type n) → kitB n t.id = some b → rIsi K [x, .ty t.id] H Q := fun n h1 h2 => ⟨x, .ty t.id, .type n, .type t.id, b, rfl, .ty _, h1, kit_ty h2, k _ F H (Ext.refl e) (.bl _)⟩
    cases a with
    | non => rw [hx.non] at fin ⊢; exact fin "NoneType" (.base .non) (by cases t <;> cases z <;> decide +kernel)
    | bl c => rw [hx.bl] at fin ⊢; exact fin "bool" (.base (.bl c)) (by cases t <;> cases z <;> decide +kernel)
    | int i => rw [hx.int] at fin ⊢; exact fin "int" (.base (.int i)) (by cases t <;> cases z <;> decide +kernel)
    | str s => rw [hx.str] at fin ⊢; exact fin "str" (.base (.str s)) (by cases t <;> cases z <;> decide +kernel)
    | tup ds =>
      obtain ⟨p, xs, rfl, h1, _⟩ := hx.tuple e
      refine fin "tuple" ?_ (by cases t <;> cases z <;> decide +kernel)
      rcases h1 with (h1 | ⟨o, h1⟩) | ⟨o, its, n, h1, h2, _⟩
      · exact .base (.tup h1)
      · exact .fTuple h1
      · exact .kTuple h1 h2
    | lst ds =>
      obtain ⟨p, xs, rfl, h1, _⟩ := hx.list e
      exact fin "list" (.base (.lst h1)) (by cases t <;> cases z <;> decide +kernel)
    | dct kvs =>
      have h1 : ∃ p, x = .ref p ∧ ((∃ kvs, H p = some (.dK kvs)) ∨ ∃ kvs, H p = some (.dT kvs)) := by
        cases hx with
        | rep r =>
          cases r with
          | dK h _ => exact ⟨_, rfl, .inl ⟨_, e _ _ h⟩⟩
          | dT h _ => exact ⟨_, rfl, .inr ⟨_, e _ _ h⟩⟩
        | dK h _ => exact ⟨_, rfl, .inl ⟨_, h⟩⟩
        | dT h _ => exact ⟨_, rfl, .inr ⟨_, h⟩⟩
      obtain ⟨p, rfl, h1⟩ := h1
      refine fin "dict" ?_ (by cases t <;> cases z <;> decide +kernel)
      rcases h1 with ⟨_, h1⟩ | ⟨_, h1⟩
      · exact .base (.dK h1)
      · exact .base (.dT h1)
    | scr ns =>
      obtain ⟨p, rfl, h1⟩ := hx.script e
      refine fin "list" ?_ (by cases t <;> cases z <;> decide +kernel)
      rcases h1 with (h1 | ⟨o, h1⟩) | ⟨o, its, n, h1, h2, _⟩
      · exact .base (.lst h1)
      · exact .base (.frz h1)
      · exact .kList h1 h2
    | obj c fs => cases t <;> cases z
theorem ok_isa {t : Ty} {e : Expr} {fe : Env → M Val} {p p2 pos : Pos} (g : Good G W N sc oc lv X) (hs : sc.names.lookup ("isinstance" : Str) = some .globalImplicit) (hm : G.mg "isinstance" = none) (hs2 : sc.names.lookup t.name = some .globalImplicit) (hm2 : G.mg t.name = none) (he : PE X e (tE G W fe)) (hst : notStar e = true) :
    PE X (.Call (.Name "isinstance" p) [e, .Name t.name p2] [] pos) (tE G W fun ρ => fe ρ >>= fun v => op1 (fun d => (isaB t d).map .bl) v) := by
  have hc : CallR X (.builtin "isinstance") (rIsi G.K) := by rw [← g.K]; exact call_isi
  refine PE.imp (pe_cb g hc (.inl ⟨_, rfl⟩) hs hm (by decide +kernel) (by decide +kernel) (by decide +kernel) (pa_cons he (pa_cons (pe_bltn (v := .ty t.id) (g.gl hs2) (by rw [g.mg]; exact hm2) t.boot rfl t.nn t.nd) pa_nil rfl) (star_of hst)) (by rw [List.all_cons, hst]; rfl)) fun σ H Q h => ?_
  exact rd_un (isa_rule t) σ H Q h

/-! ### min(xs, default=d), whole numbers -/
def minDf (d : D) : D → Option D
  | .lst xs => (match intsD xs with
    | some [] => some d
    | some (n :: ns) => some (.int (minI n ns))
    | none => none)
  | _ => none
theorem minD_ints : ∀ (ns : List Int) (n : Int), PySem.W.minD (.int n) (ns.map .int) = .int (minI n ns)
  | [], n => rfl
  | b :: ns, n => by
    show PySem.W.minD (if PySem.W.dataLt (.int b) (.int n) = true then .int b else .int n) (ns.map .int) = _
    rw [PySem.W.dataLt_int]
    by_cases h : b < n
    · rw [decide_eq_true h, if_pos rfl, minD_ints ns b]
      show _ = PyData.int (minI (if b < n then b else n) ns)
      rw [if_pos h]
    · rw [decide_eq_false h, if_neg Bool.false_ne_true, minD_ints ns n]
      show _ = PyData.int (minI (if b < n then b else n) ns)
      rw [if_neg h]
theorem depthAll_ints : ∀ ns : List Int, PyData.depthAll (ns.map .int) ≤ 1
  | [] => by simp [PyData.depthAll]
  | n :: ns => by
    have := depthAll_ints ns
    simp only [List.map_cons, PyData.depthAll, PyData.depth] at this ⊢
    omega
theorem alike_ints (ns : List Int) : PySem.W.AlikeAll (ns.map .int) := by
  refine ⟨fun x hx y hy => ?_, fun x hx => ?_⟩
  · obtain ⟨i, _, rfl⟩ := List.mem_map.mp hx
    obtain ⟨j, _, rfl⟩ := List.mem_map.mp hy
    simp only [PySem.W.alike]
  · obtain ⟨i, _, rfl⟩ := List.mem_map.mp hx
    exact fun z => nomatch z
def rMinDf (K : PySem.W.Frag) : List V → List V → Hp → VK → Prop := fun xs zs H Q => ∃ (a : Addr) (ns : List Int) (z : V), xs = [.ref a] ∧ zs = [z] ∧ SqL K H a (ns.map V.int) ∧ (ns = [] → Q z H) ∧ ∀ n r, ns = n :: r → Q (.int (minI n r)) H
theorem readsAll_ints {h : Heap} : ∀ {us : List Value} {ns : List Int}, Vals (ns.map V.int) us → ∃ as, ReadsAll h us (ns.map .int) as
  | _, [], .nil => ⟨_, .nil⟩
  | _, n :: ns, .cons r t => by
    obtain ⟨tk, rfl⟩ := r
    obtain ⟨as, h⟩ := readsAll_ints t
    exact ⟨_, .cons (.int n tk) h⟩
theorem cr_minDf (hc : X.calm = true) (hu : X.A.units + 64 < cLine) : CallRK X (.builtin "min") ["default"] (rMinDf X.K) := by
  intro pins s σ H xs zs us ws Q I r1 r2 h
  obtain ⟨a, ns, z, rfl, rfl, hs, h0, h1⟩ := h
  obtain ⟨its, rv, hl, _⟩ := I.list hs
  rw [Vals.ref1 r1]
  cases r2 with
  | cons rz rn =>
    cases rn
    obtain ⟨as, ra⟩ := readsAll_ints (h := s.heap) rv
    refine PySem.W.min_list_default (I.ok.hd hc) hl.isList (by rw [List.toList_toArray]; exact ra) (alike_ints ns) (by have := depthAll_ints ns; omega) (fun e h' tk hk => ?_) fun y ys i v h' tk bs e hi rd hk => ?_
    · have e : ns = [] := List.map_eq_nil_iff.mp e
      exact ⟨z, H, I.kept hk, rz, h0 e⟩
    · cases ns with
      | nil => cases e
      | cons n r =>
        rw [List.map_cons] at e
        injection e with e1 e2
        subst e1
        subst e2
        rw [minD_ints] at rd
        cases rd with
        | int _ t => exact ⟨.int _, H, I.kept hk, ⟨t, rfl⟩, h1 n r rfl⟩
/-- min(e, default=c), c written -/
theorem ok_minDf {c : Const} {d : D} {k : Nat} {e : Expr} {fe : Env → M Val} {p p1 p2 pos : Pos} (g : Good G W N sc oc lv X) (hs : sc.names.lookup ("min" : Str) = some .globalImplicit) (hm : G.mg "min" = none) (he : PE X e (tE G W fe)) (hst : notStar e = true) (hcd : cstD c = some d) :
    PE X (.Call (.Name "min" p) [e] [⟨some "default", .Constant c k p1, p2⟩] pos) (tE G W fun ρ => fe ρ >>= fun v => op1 (minDf d) v) := by
  obtain ⟨z, hz, hv⟩ : ∃ z : V, PE X (.Constant c k p1) (tC z) ∧ ∀ F, Rep G.K F z d := by
    cases c <;> first | (cases hcd; done) | skip
    · cases hcd; exact ⟨_, pe_non, fun _ => .non⟩
    · cases hcd; exact ⟨_, pe_bl, fun _ => .bl _⟩
    · cases hcd; exact ⟨_, pe_int, fun _ => .int _⟩
    · cases hcd; exact ⟨_, pe_str, fun _ => .str _⟩
  refine PE.imp (pe_callBK (cr_minDf g.calm g.un) (g.gl hs) (by rw [g.mg]; exact hm) (by decide +kernel) (pa_cons he pa_nil (star_of hst)) (pk_cons hz pk_nil) (by decide) (by decide) (by rw [star_of hst]; rfl) (stars_plain (by rw [List.all_cons, hst]; rfl)) rfl rfl rfl) fun σ H Q h => ?_
  refine rd_un (r := fun x H Q => rMinDf X.K [x] [z] H Q) (fun F H x a y ex hx q Q k => ?_) σ H Q h
  unfold minDf at q
  split at q
  · rename_i xs
    obtain ⟨p, ys, rfl, h1, r1⟩ := hx.list ex
    cases zz : intsD xs with
    | none => rw [zz] at q; cases q
    | some ns =>
      rw [zz] at q
      rw [intsD_eq zz] at r1
      rw [reps_ints_inv r1] at h1
      refine ⟨p, ns, z, rfl, rfl, .inl (.inl h1), fun e0 => ?_, fun n r e0 => ?_⟩
      · subst e0
        cases q
        exact k _ F H (Ext.refl ex) (hv F)
      · subst e0
        cases q
        exact k _ F H (Ext.refl ex) (.int _)
  · cases q
end
end PD

/-! PD10: the small language, its evaluator, the look that ties it to the text. -/
namespace PD
open PySem L2

/-- methods of lists that change them -/
inductive LM where
  | append | insert | pop | clear
  deriving DecidableEq
mutual
inductive IE where
  | var (i : Nat)
  | cst (c : Const)
  | glo (x : Str)
  | bin (op : Operator) (a b : IE)
  | cmp (op : CmpOp) (a b : IE)
  | chain (o1 o2 : CmpOp) (a b c : IE)
  | neg (a : IE)
  | notE (a : IE)
  | andE (a : IE) (r : IL)
  | orE (a : IE) (r : IL)
  | ite (c a b : IE)
  | tup (es : IL)
  | lst (es : IL)
  | new (es : IL)
  | ix (a b : IE)
  | slc (a : IE) (lo hi : IO)
  | rev (a : IE)
  | call (f : String) (x : Str) (n : Nat) (es : IL)
  | bi (b : BI) (es : IL)
  | isa (t : Ty) (a : IE)
  | minDf (a : IE) (c : Const)
  | comp (own : List (Str × Nat)) (t : Tg) (it : II) (c : IO) (e : IE)
  | lm (m : LM) (o : IE) (es : IL)
  | frz (a : IE)
inductive IL where
  | nil | cons (e : IE) (r : IL)
inductive IO where
  | none | some (e : IE)
inductive II where
  | seq (e : IE) | rng (es : IL) | enum (e : IE)
end
mutual
inductive IS where
  | asg (t : Tg) (e : IE)
  | par (is : List Nat) (es : IL)
  | asgC (i : Nat) (own : List (Str × Nat)) (t : Tg) (it : II) (c : IO) (e : IE)
  | aug (i : Nat) (op : Operator) (e : IE)
  | ret (e : IE)
  | expr (e : IE)
  | ifS (c : IE) (a b : ISs)
  | forS (t : Tg) (it : II) (b : ISs)
  | whl (c : IE) (b : ISs)
  | pass | brk | cnt
  | never
inductive ISs where
  | nil | cons (s : IS) (r : ISs) | frz (i : Nat) (r : ISs)
end

/-! ### the evaluator -/
/-- what the evaluator is told: what defs do, what the module's names hold -/
structure Ctx where
  cf : String → List Val → M Val
  gv : Str → Option D
def revD : D → Option D
  | .lst xs => some (.lst xs.reverse)
  | _ => none
def LM.k : LM → List D → List D → Option (List D × D)
  | .append => kAppend
  | .insert => kInsert
  | .pop => kPop
  | .clear => kClear
def frzM (v : Val) : M Val := fun S => match v with
  | .d x => .ok (.d x) S
  | .loc n => (match soD S[n]? with
    | some d => .ok (.d d) (S.set n none)
    | none => .bad)
mutual
def evE (C : Ctx) : IE → Env → M Val
  | .var i => evVar i
  | .cst c => fun _ => M.of ((cstD c).map .d)
  | .glo x => fun _ => M.of ((C.gv x).map .d)
  | .bin op a b => fun ρ => evE C a ρ >>= fun v => evE C b ρ >>= fun w => op2 (binD op) v w
  | .cmp op a b => fun ρ => evE C a ρ >>= fun v => evE C b ρ >>= fun w => op2 (cmpD op) v w
  | .chain o1 o2 a b c => fun ρ => evE C a ρ >>= fun v => evE C b ρ >>= fun w => chain2 o1 o2 v w (evE C c ρ)
  | .neg a => fun ρ => evE C a ρ >>= fun v => op1 negD v
  | .notE a => fun ρ => (evE C a ρ >>= asB) >>= fun c => M.ret (.d (.bl (!c)))
  | .andE a r => evAnd C (evE C a) r
  | .orE a r => evOr C (evE C a) r
  | .ite c a b => fun ρ => (evE C c ρ >>= asB) >>= fun k => if k then evE C a ρ else evE C b ρ
  | .tup es => fun ρ => evL C es ρ >>= mkTup
  | .lst es => fun ρ => evL C es ρ >>= mkLst
  | .new es => fun ρ => evL C es ρ >>= mkNew
  | .ix a b => fun ρ => evE C a ρ >>= fun v => evE C b ρ >>= fun w => op2 ixD v w
  | .slc a lo hi => fun ρ => evE C a ρ >>= fun v => evO C lo ρ >>= fun l => evO C hi ρ >>= fun u => op1 (slcD l u) v
  | .rev a => fun ρ => evE C a ρ >>= fun v => op1 revD v
  | .call f _ n es => fun ρ => evL C es ρ >>= callN n (C.cf f)
  | .bi b es => fun ρ => evL C es ρ >>= opA (biD b)
  | .isa t a => fun ρ => evE C a ρ >>= fun v => op1 (fun d => (isaB t d).map .bl) v
  | .minDf a c => fun ρ => evE C a ρ >>= fun v => op1 (fun d => (cstD c).bind fun z => minDf z d) v
  | .comp own t it c e => evComp (own.map (·.2)) t (evI C it) (evC C c) (evE C e)
  | .lm m o es => fun ρ => evE C o ρ >>= fun v => needL v >>= fun _ => evL C es ρ >>= fun ws => onList m.k v ws
  | .frz a => fun ρ => evE C a ρ >>= frzM
def evL (C : Ctx) : IL → Env → M (List Val)
  | .nil => fun _ => M.ret []
  | .cons e r => fun ρ => evE C e ρ >>= fun v => evL C r ρ >>= fun vs => M.ret (v :: vs)
def evO (C : Ctx) : IO → Env → M (Option Int)
  | .none => fun _ => M.ret none
  | .some e => fun ρ => evE C e ρ >>= asI
/-- a comprehension's condition -/
def evC (C : Ctx) : IO → Env → M Bool
  | .none => fun _ => M.ret true
  | .some e => fun ρ => evE C e ρ >>= asB
def evI (C : Ctx) : II → Env → M (List D)
  | .seq e => fun ρ => evE C e ρ >>= asIt
  | .rng es => fun ρ => evL C es ρ >>= rangeD
  | .enum e => fun ρ => evE C e ρ >>= fun v => enumD [v]
def evAnd (C : Ctx) (f : Env → M Val) : IL → Env → M Val
  | .nil => f
  | .cons e r => fun ρ => andM (f ρ >>= asB) (evAnd C (evE C e) r ρ)
def evOr (C : Ctx) (f : Env → M Val) : IL → Env → M Val
  | .nil => f
  | .cons e r => fun ρ => orM (f ρ >>= asB) (evOr C (evE C e) r ρ)
end
def setAll : List Nat → List Val → Env → Option Env
  | [], [], ρ => some ρ
  | i :: is, v :: vs, ρ => setAll is vs (ρ.set i (some v))
  | _, _, _ => none
def R.intoL (r : R (List Val)) (ρ : Env) (k : List Val → Store → O) : O := match r with
  | .ok v S => k v S
  | .exc c x S => .exc c x ρ S
  | .bad => .bad
def sPar (is : List Nat) (fs : Env → M (List Val)) : MS := fun ρ S => (fs ρ S).intoL ρ fun vs S' => match setAll is vs ρ with
  | some ρ' => .nx ρ' S'
  | none => .bad
mutual
noncomputable def evS (C : Ctx) : IS → MS
  | .asg t e => sAsg (evE C e) t
  | .par is es => sPar is (evL C es)
  | .asgC i own t it c e => sAsg (evComp (own.map (·.2)) t (evI C it) (evC C c) (evE C e)) (.nm i)
  | .aug i op e => sAug i op (evE C e)
  | .ret e => sRet (evE C e)
  | .expr e => sExpr (evE C e)
  | .ifS c a b => sIf (fun ρ => evE C c ρ >>= asB) (evSs C a) (evSs C b)
  | .forS t it b => sFor (evI C it) t (evSs C b)
  | .whl c b => sWhl (fun ρ => evE C c ρ >>= asB) (evSs C b)
  | .pass => sNil
  | .brk => sBrk
  | .cnt => sCnt
  | .never => fun _ _ => .bad
noncomputable def evSs (C : Ctx) : ISs → MS
  | .nil => sNil
  | .cons s r => sSeq (evS C s) (evSs C r)
  | .frz i r => sSeq (sFrz i) (evSs C r)
end
/-- a def: its body from its arguments; the store is its own -/
inductive RP where
  | ok (d : D) | new (o : SO) | exc (c : Str) (x : D) | bad
def outP : O → RP
  | .nx _ _ => .ok .non
  | .ret (.d x) _ => .ok x
  | .ret (.loc n) S => (match S[n]? with
    | some (some o) => .new o
    | _ => .bad)
  | .exc c x _ _ => .exc c x
  | _ => .bad
/-- the def's own run on plain arguments -/
noncomputable def runP (C : Ctx) (slots : Nat) (body : ISs) (ds : List D) : RP := outP (evSs C body (ds.map (fun d => some (.d d)) ++ List.replicate (slots - ds.length) none) [])
/-- the call as the caller sees it -/
def RP.at_ : RP → M Val
  | .ok d => M.ret (.d d)
  | .new o => M.alloc o
  | .exc c x => fun S => .exc c x S
  | .bad => M.fail
noncomputable def callP (C : Ctx) (slots : Nat) (body : ISs) (vs : List Val) : M Val := match asPs vs with
  | some ds => (runP C slots body ds).at_
  | none => M.fail

/-! ### the look at the text -/
structure Stc where
  fr : List Str
  gs : List (Str × D)
  fs : List (String × Str × Nat)
def asName : Expr → Option Str
  | .Name x _ => some x
  | _ => none
def asConst : Expr → Option Const
  | .Constant c _ _ => some c
  | _ => none
def asBin : Expr → Option (Expr × Operator × Expr)
  | .BinOp a o b _ => some (a, o, b)
  | _ => none
def asCmp1 : Expr → Option (Expr × CmpOp × Expr)
  | .Compare a [o] [b] _ => some (a, o, b)
  | _ => none
def asCmp2 : Expr → Option (Expr × CmpOp × CmpOp × Expr × Expr)
  | .Compare a [o, o'] [b, c] _ => some (a, o, o', b, c)
  | _ => none
def asUn : Expr → Option (UnaryOp × Expr)
  | .UnaryOp o a _ => some (o, a)
  | _ => none
def asBool : Expr → Option (BoolOp × List Expr)
  | .BoolOp o es _ => some (o, es)
  | _ => none
def asIf : Expr → Option (Expr × Expr × Expr)
  | .IfExp c a b _ => some (c, a, b)
  | _ => none
def asTup : Expr → Option (List Expr)
  | .Tuple es _ _ => some es
  | _ => none
def asLst : Expr → Option (List Expr)
  | .List es _ => some es
  | _ => none
def asSub : Expr → Option (Expr × Expr)
  | .Subscript a b _ => some (a, b)
  | _ => none
def asSlice : Expr → Option (Option Expr × Option Expr)
  | .Slice lo hi none _ => some (lo, hi)
  | _ => none
def asRev : Expr → Option Unit
  | .Slice none none (some (.UnaryOp .USub (.Constant (.int i) _ _) _)) _ => if i = 1 then some () else none
  | _ => none
def asCall : Expr → Option (Str × List Expr)
  | .Call (.Name x _) es [] _ => some (x, es)
  | _ => none
def asCallD : Expr → Option (Str × Expr × Str × Const)
  | .Call (.Name x _) [e] [⟨some k, .Constant c _ _, _⟩] _ => some (x, e, k, c)
  | _ => none
def asMeth : Expr → Option (Expr × Str × List Expr × Bool)
  | .Call (.Attribute o m apos) es [] cpos => some (o, m, es, lineOk apos cpos)
  | _ => none
def asComp : Expr → Option (Expr × Expr × Expr × List Expr × Scope)
  | .ListComp elt [⟨tg, iter, ifs, 0⟩] scope _ => some (elt, tg, iter, ifs, scope)
  | _ => none
def visB (sc : Scope) (x : Str) : Bool := match sc.names.lookup x with
  | some .local => true
  | some .cell => true
  | some .free => true
  | _ => false
def locB (sc oc : Scope) (x : Str) : Bool := match sc.names.lookup x with
  | some .local => true
  | some .cell => (match oc.names.lookup x with
    | some .cell => true
    | _ => false)
  | _ => false
def gloB (sc : Scope) (x : Str) : Bool := match sc.names.lookup x with
  | some .globalImplicit => true
  | _ => false
def LM.name : LM → Str
  | .append => "append"
  | .insert => "insert"
  | .pop => "pop"
  | .clear => "clear"
/-- a test's form is known -/
def testB : Expr → Bool
  | .UnaryOp .Not _ _ => true
  | .BoolOp .. => true
  | .Compare .. => true
  | e => plainTest e
mutual
def chkG (N : List Str) (sc oc : Scope) : Tg → Expr → Bool
  | .nm i, e => (match asName e with
    | some x => decide (N[i]? = some x) && locB sc oc x
    | none => false)
  | .tp ts, e => (match asTup e with
    | some xs => chkGs N sc oc ts xs
    | none => false)
def chkGs (N : List Str) (sc oc : Scope) : List Tg → List Expr → Bool
  | [], [] => true
  | t :: ts, x :: xs => chkG N sc oc t x && notStar x && chkGs N sc oc ts xs
  | _, _ => false
end
mutual
def chkE (st : Stc) (N : List Str) (sc oc : Scope) : IE → Expr → Bool
  | .var i, e => (match asName e with
    | some x => decide (N[i]? = some x) && visB sc x && !(x == ("__debug__" : Str)) && !(x == ("__classdict__" : Str))
    | none => false)
  | .cst c, e => (match asConst e with
    | some c' => decide (c = c') && (cstD c).isSome
    | none => false)
  | .glo x, e => (match asName e with
    | some y => decide (x = y) && gloB sc x && (st.gs.lookup x).isSome && !(x == ("__debug__" : Str))
    | none => false)
  | .bin op a b, e => (match asBin e with
    | some (l, o, r) => decide (op = o) && chkE st N sc oc a l && chkE st N sc oc b r
    | none => false)
  | .cmp op a b, e => (match asCmp1 e with
    | some (l, o, r) => decide (op = o) && chkE st N sc oc a l && chkE st N sc oc b r && notSet r
    | none => false)
  | .chain o1 o2 a b c, e => (match asCmp2 e with
    | some (l, o, o', r, t) => decide (o1 = o) && decide (o2 = o') && chkE st N sc oc a l && chkE st N sc oc b r && chkE st N sc oc c t && notSet t
    | none => false)
  | .neg a, e => (match asUn e with
    | some (.USub, x) => chkE st N sc oc a x
    | _ => false)
  | .notE a, e => (match asUn e with
    | some (.Not, x) => chkE st N sc oc a x && testB x
    | _ => false)
  | .andE a r, e => (match asBool e with
    | some (.And, x :: xs) => chkE st N sc oc a x && testB x && chkB st N sc oc r xs
    | _ => false)
  | .orE a r, e => (match asBool e with
    | some (.Or, x :: xs) => chkE st N sc oc a x && testB x && chkB st N sc oc r xs
    | _ => false)
  | .ite c a b, e => (match asIf e with
    | some (x, y, z) => chkE st N sc oc c x && testB x && chkE st N sc oc a y && chkE st N sc oc b z
    | none => false)
  | .tup es, e => (match asTup e with
    | some xs => chkL st N sc oc es xs
    | none => false)
  | .lst es, e => (match asLst e with
    | some xs => chkL st N sc oc es xs
    | none => false)
  | .new es, e => (match asLst e with
    | some xs => chkL st N sc oc es xs
    | none => false)
  | .ix a b, e => (match asSub e with
    | some (x, y) => chkE st N sc oc a x && chkE st N sc oc b y && notSlice y
    | none => false)
  | .slc a lo hi, e => (match asSub e with
    | some (x, y) => (match asSlice y with
      | some (l, h) => chkE st N sc oc a x && chkO st N sc oc lo l && chkO st N sc oc hi h
      | none => false)
    | none => false)
  | .rev a, e => (match asSub e with
    | some (x, y) => (match asRev y with
      | some _ => chkE st N sc oc a x
      | none => false)
    | none => false)
  | .call f x n es, e => (match asCall e with
    | some (y, xs) => decide (x = y) && gloB sc x && !(x == ("__debug__" : Str)) && st.fs.any (fun t => decide (t.1 = f) && decide (t.2.1 = x) && decide (t.2.2 = n)) && chkL st N sc oc es xs
    | none => false)
  | .bi b es, e => (match asCall e with
    | some (y, xs) => decide (y = b.name) && gloB sc y && st.fr.contains y && chkL st N sc oc es xs && !xs.isEmpty
    | none => false)
  | .isa t a, e => (match asCall e with
    | some (y, [x, z]) => decide (y = ("isinstance" : Str)) && gloB sc y && st.fr.contains y && chkE st N sc oc a x && notStar x && decide (asName z = some t.name) && gloB sc t.name && st.fr.contains t.name
    | _ => false)
  | .minDf a c, e => (match asCallD e with
    | some (y, x, k, c') => decide (y = ("min" : Str)) && gloB sc y && st.fr.contains y && decide (k = ("default" : Str)) && decide (c = c') && (cstD c).isSome && chkE st N sc oc a x && notStar x
    | none => false)
  | .comp own t it c el, e => (match asComp e with
    | some (elt, tg, iter, ifs, scope) => blkC N sc scope own && chkG N (relab sc scope) scope t tg && chkI st N sc oc it tg iter && notSet iter && chkC st N (relab sc scope) scope c ifs && chkE st N (relab sc scope) scope el elt && t.slots.all (fun j => (own.map (·.2)).contains j)
    | none => false)
  | .lm m o es, e => (match asMeth e with
    | some (x, y, xs, ln) => decide (y = m.name) && ln && chkE st N sc oc o x && notCall0 x && chkL st N sc oc es xs && decide (xs.length < 30) && (match m with
      | .append => xs.length == 1
      | .insert => xs.length == 2
      | .pop => xs.length == 0
      | .clear => xs.length == 0)
    | none => false)
  | .frz a, e => chkE st N sc oc a e
def chkL (st : Stc) (N : List Str) (sc oc : Scope) : IL → List Expr → Bool
  | .nil, [] => true
  | .cons e r, x :: xs => chkE st N sc oc e x && notStar x && chkL st N sc oc r xs
  | _, _ => false
def chkO (st : Stc) (N : List Str) (sc oc : Scope) : IO → Option Expr → Bool
  | .none, none => true
  | .some e, some x => chkE st N sc oc e x
  | _, _ => false
def chkC (st : Stc) (N : List Str) (sc oc : Scope) : IO → List Expr → Bool
  | .none, [] => true
  | .some e, [x] => chkE st N sc oc e x && testB x
  | _, _ => false
def chkI (st : Stc) (N : List Str) (sc oc : Scope) : II → Expr → Expr → Bool
  | .seq a, _, e => chkE st N sc oc a e
  | .rng es, _, e => (match asCall e with
    | some (y, xs) => decide (y = ("range" : Str)) && gloB sc y && st.fr.contains y && chkL st N sc oc es xs && (xs.length == 1 || xs.length == 2)
    | none => false)
  | .enum a, tg, e => (match asCall e with
    | some (y, [x]) => decide (y = ("enumerate" : Str)) && gloB sc y && st.fr.contains y && chkE st N sc oc a x && notStar x && (asTup tg).isSome
    | _ => false)
def chkB (st : Stc) (N : List Str) (sc oc : Scope) : IL → List Expr → Bool
  | .nil, [] => true
  | .cons e r, x :: xs => chkE st N sc oc e x && testB x && chkB st N sc oc r xs
  | _, _ => false
end
end PD

/-! PD11: what the look lets through is what the text does. -/
namespace PD
open PySem L2

theorem asName_eq {e : Expr} {x : Str} (h : asName e = some x) : ∃ p, e = .Name x p := by
  unfold asName at h; split at h
  · cases h; exact ⟨_, rfl⟩
  · cases h
theorem asConst_eq {e : Expr} {c : Const} (h : asConst e = some c) : ∃ k p, e = .Constant c k p := by
  unfold asConst at h; split at h
  · cases h; exact ⟨_, _, rfl⟩
  · cases h
theorem asBin_eq {e a b : Expr} {o : Operator} (h : asBin e = some (a, o, b)) : ∃ p, e = .BinOp a o b p := by
  unfold asBin at h; split at h
  · cases h; exact ⟨_, rfl⟩
  · cases h
theorem asCmp1_eq {e a b : Expr} {o : CmpOp} (h : asCmp1 e = some (a, o, b)) : ∃ p, e = .Compare a [o] [b] p := by
  unfold asCmp1 at h; split at h
  · cases h; exact ⟨_, rfl⟩
  · cases h
theorem asCmp2_eq {e a b c : Expr} {o o' : CmpOp} (h : asCmp2 e = some (a, o, o', b, c)) : ∃ p, e = .Compare a [o, o'] [b, c] p := by
  unfold asCmp2 at h; split at h
  · cases h; exact ⟨_, rfl⟩
  · cases h
theorem asUn_eq {e a : Expr} {o : UnaryOp} (h : asUn e = some (o, a)) : ∃ p, e = .UnaryOp o a p := by
  unfold asUn at h; split at h
  · cases h; exact ⟨_, rfl⟩
  · cases h
theorem asBool_eq {e : Expr} {o : BoolOp} {es : List Expr} (h : asBool e = some (o, es)) : ∃ p, e = .BoolOp o es p := by
  unfold asBool at h; split at h
  · cases h; exact ⟨_, rfl⟩
  · cases h
theorem asIf_eq {e a b c : Expr} (h : asIf e = some (c, a, b)) : ∃ p, e = .IfExp c a b p := by
  unfold asIf at h; split at h
  · cases h; exact ⟨_, rfl⟩
  · cases h
theorem asTup_eq {e : Expr} {es : List Expr} (h : asTup e = some es) : ∃ k p, e = .Tuple es k p := by
  unfold asTup at h; split at h
  · cases h; exact ⟨_, _, rfl⟩
  · cases h
theorem asLst_eq {e : Expr} {es : List Expr} (h : asLst e = some es) : ∃ p, e = .List es p := by
  unfold asLst at h; split at h
  · cases h; exact ⟨_, rfl⟩
  · cases h
theorem asSub_eq {e a b : Expr} (h : asSub e = some (a, b)) : ∃ p, e = .Subscript a b p := by
  unfold asSub at h; split at h
  · cases h; exact ⟨_, rfl⟩
  · cases h
theorem asSlice_eq {e : Expr} {lo hi : Option Expr} (h : asSlice e = some (lo, hi)) : ∃ p, e = .Slice lo hi none p := by
  unfold asSlice at h; split at h
  · cases h; exact ⟨_, rfl⟩
  · cases h
theorem asRev_eq {e : Expr} {u : Unit} (h : asRev e = some u) : ∃ k p1 p2 p3, e = .Slice none none (some (.UnaryOp .USub (.Constant (.int 1) k p1) p2)) p3 := by
  unfold asRev at h; split at h
  · split at h
    · rename_i hi
      cases h; subst hi; exact ⟨_, _, _, _, rfl⟩
    · cases h
  · cases h
theorem asCall_eq {e : Expr} {x : Str} {es : List Expr} (h : asCall e = some (x, es)) : ∃ p pos, e = .Call (.Name x p) es [] pos := by
  unfold asCall at h; split at h
  · cases h; exact ⟨_, _, rfl⟩
  · cases h
theorem asCallD_eq {e a : Expr} {x k : Str} {c : Const} (h : asCallD e = some (x, a, k, c)) : ∃ p n p1 p2 pos, e = .Call (.Name x p) [a] [⟨some k, .Constant c n p1, p2⟩] pos := by
  unfold asCallD at h; split at h
  · cases h; exact ⟨_, _, _, _, _, rfl⟩
  · cases h
theorem asMeth_eq {e o : Expr} {m : Str} {es : List Expr} {ln : Bool} (h : asMeth e = some (o, m, es, ln)) : ∃ apos cpos, e = .Call (.Attribute o m apos) es [] cpos ∧ ln = lineOk apos cpos := by
  unfold asMeth at h; split at h
  · cases h; exact ⟨_, _, rfl, rfl⟩
  · cases h
theorem asComp_eq {e elt tg iter : Expr} {ifs : List Expr} {scope : Scope} (h : asComp e = some (elt, tg, iter, ifs, scope)) : ∃ pos, e = .ListComp elt [⟨tg, iter, ifs, 0⟩] scope pos := by
  unfold asComp at h; split at h
  · cases h; exact ⟨_, rfl⟩
  · cases h
theorem visB_ok {sc : Scope} {x : Str} (h : visB sc x = true) : Vis sc x := by
  unfold visB at h; split at h
  · exact .inl (by assumption)
  · exact .inr (.inl (by assumption))
  · exact .inr (.inr (by assumption))
  · cases h
theorem locB_ok {sc oc : Scope} {x : Str} (h : locB sc oc x = true) : LocO sc oc x := by
  unfold locB at h; split at h
  · exact .inl (by assumption)
  · rename_i h1
    split at h
    · exact .inr ⟨h1, by assumption⟩
    · cases h
  · cases h
theorem gloB_ok {sc : Scope} {x : Str} (h : gloB sc x = true) : sc.names.lookup x = some .globalImplicit := by
  unfold gloB at h; split at h
  · assumption
  · cases h
theorem bnot {b : Bool} (h : (!b) = true) : b = false := by simpa using h
/-- what stands about the module and its defs -/
structure Hyp (G : Gm) (st : Stc) (lv : Nat) (C : Ctx) : Prop where
  fr : ∀ x, st.fr.contains x = true → G.mg x = none
  gs : ∀ x d, st.gs.lookup x = some d → GloIs G x d
  gv : ∀ x, C.gv x = st.gs.lookup x
  fs : ∀ t ∈ st.fs, ∃ f, G.mg t.2.1 = some (.ref f) ∧ FnIs G lv f t.2.2 (C.cf t.1)

/-! ### rules that were left -/
section
variable {G : Gm} {W : WX} {N : List Str} {sc oc : Scope} {lv : Nat} {X : Cx}
theorem ok_rev {a : Expr} {fa : Env → M Val} {k : Nat} {p1 p2 p3 pos : Pos} (g : Good G W N sc oc lv X) (ha : PE X a (tE G W fa)) : PE X (.Subscript a (.Slice none none (some (.UnaryOp .USub (.Constant (.int 1) k p1) p2)) p3) pos) (tE G W fun ρ => fa ρ >>= fun v => op1 revD v) := by
  refine PE.imp (pe_revL ha) (rd_un (r := fun x H1 Q => ∃ a xs, x = .ref a ∧ SqL X.K H1 a xs ∧ ∀ p, H1 p = none → Q (.ref p) (upd H1 p (.lst xs.reverse))) fun F H x a d e hx q Q k => ?_)
  unfold revD at q
  split at q
  · cases q
    obtain ⟨p, xs, rfl, h1, r1⟩ := hx.list e
    exact ⟨p, xs, rfl, .inl (.inl h1), fun l hl => k _ _ _ (Ext.new e hl) (.lst upd_same (r1.reverse.mono (Ex.new (e.none hl))))⟩
  · cases q
/-- what is frozen stays what it was -/
theorem pE_frz {σ : L2.St} {B F0 F : Hp} {m : List Addr} {Q : VK} {r : R Val} (h : pE G W σ B F0 F m Q (r.bind frzM)) : pE G W σ B F0 F m Q r := by
  cases r with
  | exc c y S => exact h
  | bad => exact h
  | ok v S =>
    have h : pE G W σ B F0 F m Q (frzM v S) := h
    cases v with
    | d x => exact h
    | loc n =>
      intro x H' F' m' e p r vr
      obtain ⟨b, hb, rfl⟩ := vr
      unfold frzM at h
      dsimp only at h
      cases q : S[n]? with
      | none => rw [q] at h; exact h.elim
      | some so =>
        cases so with
        | none => rw [q] at h; exact h.elim
        | some o =>
          rw [q] at h
          obtain ⟨b', hb', hf, ho⟩ := r.ob n o q
          rw [hb] at hb'
          cases hb'
          have hl : n < S.length := (List.getElem?_eq_some_iff.mp q).1
          have fin : ∀ (u : HO) (d : D), H' b = some u → soD (some (some o)) = some d → (∀ F1, F1 b = some u → Ex F' F1 → Rep G.K F1 (.ref b) d) → Q (.ref b) H' := fun u d hu hd hr => by
            rw [hd] at h
            exact h _ H' (upd F' b u) m' (e.trans (Ex.new hf)) p (r.freeze hb hf hl hu) (hr _ upd_same (Ex.new hf))
          cases o with
          | lst ds =>
            obtain ⟨xs, h2, h3⟩ := ho
            exact fin _ _ h2 rfl fun F1 h e => .lst h (h3.mono e)
          | dct ds =>
            rcases ho with ⟨xs, h2, h3⟩ | ⟨xs, h2, h3⟩
            · exact fin _ _ h2 rfl fun F1 h e => .dK h (h3.mono e)
            · exact fin _ _ h2 rfl fun F1 h e => .dT h (h3.mono e)
          | obj c fs =>
            obtain ⟨dx, xs, h2, h3⟩ := ho
            exact fin _ _ h2 rfl fun F1 h e => .obj h (h3.mono e)
theorem ok_frz {e : Expr} {f : Env → M Val} (h : PE X e (tE G W f)) : PE X e (tE G W fun ρ => f ρ >>= frzM) := PE.imp h fun σ H Q q => by
  obtain ⟨B, F0, F, m, ρ, S, a, q⟩ := q
  exact ⟨B, F0, F, m, ρ, S, a, pE_frz q⟩
theorem rd_frzT {f : Env → M Val} (σ : L2.St) (H : Hp) (Q : Bool → Hp → Prop) (q : tT G W (fun ρ => (f ρ >>= frzM) >>= asB) σ H Q) : tT G W (fun ρ => f ρ >>= asB) σ H Q := by
  obtain ⟨B, F0, F, m, ρ, S, a, q⟩ := q
  refine ⟨B, F0, F, m, ρ, S, a, ?_⟩
  have q : pT G W σ B F0 F m Q (((f ρ S).bind frzM).bind asB) := q
  show pT G W σ B F0 F m Q ((f ρ S).bind asB)
  cases z : f ρ S with
  | exc c y S1 => rw [z] at q; exact q
  | bad => rw [z] at q; exact q
  | ok v S1 =>
    rw [z] at q
    cases v with
    | d x => exact q
    | loc n =>
      exfalso
      have q : pT G W σ B F0 F m Q ((frzM (.loc n) S1).bind asB) := q
      unfold frzM at q
      dsimp only at q
      cases z2 : S1[n]? with
      | none => rw [z2] at q; exact q
      | some so =>
        rw [z2] at q
        cases so with
        | none => exact q
        | some o => cases o <;> exact q
theorem slot_append : PySem.Slot "list" LM.append.name "list.append" := PySem.F.slot_list_append
theorem lm_rule (mt : LM) : ∃ (id : String) (r : V → List V → Hp → VK → Prop), PySem.Slot "list" mt.name id ∧ typeOf (.builtin id) = pure (.type "method_descriptor") ∧ (∀ X : Cx, MtR X id r) ∧ OpL G.K r mt.k := by
  cases mt with
  | append => exact ⟨_, _, PySem.F.slot_list_append, PySem.F.type_list_append, fun X => mt_append, opl_append⟩
  | insert => exact ⟨_, _, PySem.F.slot_list_insert, PySem.F.type_list_insert, fun X => mt_insert, opl_insert⟩
  | pop => exact ⟨_, _, PySem.F.slot_list_pop, PySem.F.type_list_pop, fun X => mt_pop, opl_pop⟩
  | clear => exact ⟨_, _, PySem.F.slot_list_clear, PySem.F.type_list_clear, fun X => mt_clear, opl_clear⟩
theorem ok_lmA {mt : LM} {o : Expr} {xs : List Expr} {fo : Env → M Val} {fs : Env → M (List Val)} {apos cpos : Pos} (g : Good G W N sc oc lv X) (ho : PE X o (tE G W fo)) (ha : PA X xs (tA G W fs)) (hn : xs = [] → fs = fun _ => M.ret []) (hc0 : notCall0 o = true) (hst : xs.all notStar = true) (hl : xs.length < 30) (hln : lineOk apos cpos = true) :
    PE X (.Call (.Attribute o mt.name apos) xs [] cpos) (tE G W fun ρ => fo ρ >>= fun v => needL v >>= fun _ => fs ρ >>= fun ws => onList mt.k v ws) := by
  obtain ⟨id, r, h1, h2, h3, h4⟩ := lm_rule (G := G) mt
  cases xs with
  | nil =>
    rw [hn rfl]
    exact ok_lm0 g h1 h2 (h3 X) h4 ho hc0 hln
  | cons e es => exact ok_lm g h1 h2 (h3 X) h4 ho ha hc0 hst hl hln
end

/-! ### expressions -/
section
variable {G : Gm} {st : Stc} {lv : Nat} {C : Ctx} (hy : Hyp G st lv C)
theorem chkL_star {st : Stc} {N : List Str} {sc oc : Scope} : ∀ {es : IL} {xs : List Expr}, chkL st N sc oc es xs = true → xs.all notStar = true
  | .nil, [], _ => rfl
  | .cons e r, x :: xs, h => by
    rw [chkL, Bool.and_eq_true, Bool.and_eq_true] at h
    rw [List.all_cons, h.1.2, chkL_star h.2]
    rfl
  | .nil, _ :: _, h => by have h : false = true := h; cases h
  | .cons _ _, [], h => by have h : false = true := h; cases h
theorem evL_nil {st : Stc} {N : List Str} {sc oc : Scope} {es : IL} (h : chkL st N sc oc es [] = true) : evL C es = fun _ => M.ret [] := by
  cases es with
  | nil => rw [evL]
  | cons e r => have h : false = true := h; cases h
theorem okg {N : List Str} {sc oc : Scope} : ∀ (t : Tg) (e : Expr), chkG N sc oc t e = true → ∀ (W : WX) (X : Cx), Good G W N sc oc lv X → PG X e (tG G t)
  | .nm i, e, h, W, X, g => by
    rw [chkG] at h
    cases q : asName e with
    | none => rw [q] at h; cases h
    | some x =>
      rw [q] at h
      obtain ⟨h1, h2⟩ := Bool.and_eq_true_iff.mp h
      obtain ⟨p, rfl⟩ := asName_eq q
      exact okg_name g (of_decide_eq_true h1) (locB_ok h2)
  | .tp ts, e, h, W, X, g => by
    rw [chkG] at h
    cases q : asTup e with
    | none => rw [q] at h; cases h
    | some xs =>
      rw [q] at h
      obtain ⟨k, p, rfl⟩ := asTup_eq q
      obtain ⟨h1, h2, h3⟩ := okgs ts xs h W X g
      exact okg_tup g h1 h2 h3
where
  okgs {N : List Str} {sc oc : Scope} : ∀ (ts : List Tg) (es : List Expr), chkGs N sc oc ts es = true → ∀ (W : WX) (X : Cx), Good G W N sc oc lv X → PGs X es (tGs G ts) ∧ es.all notStar = true ∧ ts.length = es.length
    | [], [], h, W, X, g => ⟨okgs_nil, rfl, rfl⟩
    | t :: ts, x :: xs, h, W, X, g => by
      rw [chkGs, Bool.and_eq_true, Bool.and_eq_true] at h
      obtain ⟨h1, h2, h3⟩ := okgs ts xs h.2 W X g
      exact ⟨okgs_cons (okg t x h.1.1 W X g) h1 h.1.2, by rw [List.all_cons, h.1.2, h2]; rfl, by rw [List.length_cons, List.length_cons, h3]⟩
    | [], _ :: _, h, _, _, _ => by have h : false = true := h; cases h
    | _ :: _, [], h, _, _, _ => by have h : false = true := h; cases h
theorem evL_len {st : Stc} {N : List Str} {sc oc : Scope} : ∀ {es : IL} {xs : List Expr}, chkL st N sc oc es xs = true → ∀ (ρ : Env) (S : Store) (vs : List Val) (S' : Store), evL C es ρ S = .ok vs S' → vs.length = xs.length
  | .nil, [], _, ρ, S, vs, S', h => by
    rw [evL] at h
    cases h
    rfl
  | .cons e r, x :: xs, hc, ρ, S, vs, S', h => by
    rw [chkL, Bool.and_eq_true, Bool.and_eq_true] at hc
    rw [evL] at h
    have h : ((evE C e ρ S).bind fun v => evL C r ρ >>= fun vs => M.ret (v :: vs)) = .ok vs S' := h
    cases q : evE C e ρ S with
    | exc c y S1 => rw [q] at h; cases h
    | bad => rw [q] at h; cases h
    | ok v S1 =>
      rw [q] at h
      have h : ((evL C r ρ S1).bind fun vs => M.ret (v :: vs)) = .ok vs S' := h
      cases q2 : evL C r ρ S1 with
      | exc c y S2 => rw [q2] at h; cases h
      | bad => rw [q2] at h; cases h
      | ok ws S2 =>
        rw [q2] at h
        cases h
        rw [List.length_cons, List.length_cons, evL_len hc.2 ρ S1 ws _ q2]
  | .nil, _ :: _, h, _, _, _, _, _ => by have h : false = true := h; cases h
  | .cons _ _, [], h, _, _, _, _, _ => by have h : false = true := h; cases h
theorem rd_len {W : WX} {n : Nat} {fs : Env → M (List Val)} {k : List Val → M (List D)} (hl : ∀ ρ S vs S', fs ρ S = .ok vs S' → vs.length = n) (σ : L2.St) (H : Hp) (Q : It → Hp → Prop) (h : tI G W (fun ρ => fs ρ >>= k) σ H Q) :
    tI G W (fun ρ => fs ρ >>= fun vs => if vs.length = n then k vs else M.fail) σ H Q := by
  obtain ⟨B, F0, F, m, ρ, S, a, h⟩ := h
  refine ⟨B, F0, F, m, ρ, S, a, ?_⟩
  have h : pI G W σ B F0 F m Q ((fs ρ S).bind k) := h
  show pI G W σ B F0 F m Q ((fs ρ S).bind fun vs => if vs.length = n then k vs else M.fail)
  cases q : fs ρ S with
  | exc c y S1 => rw [q] at h; exact h
  | bad => rw [q] at h; exact h
  | ok vs S1 =>
    rw [q] at h
    show pI G W σ B F0 F m Q ((if vs.length = n then k vs else M.fail : M (List D)) S1)
    rw [if_pos (hl ρ S vs S1 q)]
    exact h
theorem rd_one {W : WX} {f : Env → M Val} {k : List Val → M (List D)} (σ : L2.St) (H : Hp) (Q : It → Hp → Prop) (h : tI G W (fun ρ => f ρ >>= fun v => k [v]) σ H Q) :
    tI G W (fun ρ => (f ρ >>= fun v => (fun _ => M.ret []) ρ >>= fun vs => M.ret (v :: vs)) >>= k) σ H Q := by
  obtain ⟨B, F0, F, m, ρ, S, a, h⟩ := h
  refine ⟨B, F0, F, m, ρ, S, a, ?_⟩
  have h : pI G W σ B F0 F m Q ((f ρ S).bind fun v => k [v]) := h
  show pI G W σ B F0 F m Q (((f ρ S).bind fun v => (M.ret [] >>= fun vs => M.ret (v :: vs))).bind k)
  cases q : f ρ S with
  | exc c y S1 => rw [q] at h; exact h
  | bad => rw [q] at h; exact h
  | ok vs S1 => rw [q] at h; exact h
include hy
mutual
theorem okE {N : List Str} : ∀ (sc oc : Scope) (ir : IE) (e : Expr), chkE st N sc oc ir e = true → ∀ (W : WX) (X : Cx), Good G W N sc oc lv X → PE X e (tE G W (evE C ir))
  | sc, oc, .var i, e, h, W, X, g => by
    rw [chkE] at h
    cases q : asName e with
    | none => rw [q] at h; cases h
    | some x =>
      rw [q] at h
      obtain ⟨h, h4⟩ := Bool.and_eq_true_iff.mp h
      obtain ⟨h, h3⟩ := Bool.and_eq_true_iff.mp h
      obtain ⟨h1, h2⟩ := Bool.and_eq_true_iff.mp h
      obtain ⟨p, rfl⟩ := asName_eq q
      rw [evE]
      exact ok_var g (of_decide_eq_true h1) (visB_ok h2) (bnot h3) (bnot h4)
  | sc, oc, .cst c, e, h, W, X, g => by
    rw [chkE] at h
    cases q : asConst e with
    | none => rw [q] at h; cases h
    | some c' =>
      rw [q] at h
      obtain ⟨h1, h2⟩ := Bool.and_eq_true_iff.mp h
      have e1 : c = c' := of_decide_eq_true h1
      subst e1
      obtain ⟨k, p, rfl⟩ := asConst_eq q
      obtain ⟨d, hd⟩ := Option.isSome_iff_exists.mp h2
      rw [evE]
      simp only [hd]
      exact ok_cst hd
  | sc, oc, .glo x, e, h, W, X, g => by
    rw [chkE] at h
    cases q : asName e with
    | none => rw [q] at h; cases h
    | some y =>
      rw [q] at h
      obtain ⟨h, h4⟩ := Bool.and_eq_true_iff.mp h
      obtain ⟨h, h3⟩ := Bool.and_eq_true_iff.mp h
      obtain ⟨h1, h2⟩ := Bool.and_eq_true_iff.mp h
      have e1 : x = y := of_decide_eq_true h1
      subst e1
      obtain ⟨p, rfl⟩ := asName_eq q
      obtain ⟨d, hd⟩ := Option.isSome_iff_exists.mp h3
      rw [evE]
      simp only [hy.gv, hd]
      exact ok_glo g (gloB_ok h2) (hy.gs x d hd) (bnot h4)
  | sc, oc, .bin op a b, e, h, W, X, g => by
    rw [chkE] at h
    cases q : asBin e with
    | none => rw [q] at h; cases h
    | some t =>
      obtain ⟨l, o, r⟩ := t
      rw [q] at h
      obtain ⟨h, h3⟩ := Bool.and_eq_true_iff.mp h
      obtain ⟨h1, h2⟩ := Bool.and_eq_true_iff.mp h
      have e1 : op = o := of_decide_eq_true h1
      subst e1
      obtain ⟨p, rfl⟩ := asBin_eq q
      rw [evE]
      exact ok_bin g (okE sc oc a l h2 W X g) (okE sc oc b r h3 W X g)
  | sc, oc, .cmp op a b, e, h, W, X, g => by
    rw [chkE] at h
    cases q : asCmp1 e with
    | none => rw [q] at h; cases h
    | some t =>
      obtain ⟨l, o, r⟩ := t
      rw [q] at h
      obtain ⟨h, h4⟩ := Bool.and_eq_true_iff.mp h
      obtain ⟨h, h3⟩ := Bool.and_eq_true_iff.mp h
      obtain ⟨h1, h2⟩ := Bool.and_eq_true_iff.mp h
      have e1 : op = o := of_decide_eq_true h1
      subst e1
      obtain ⟨p, rfl⟩ := asCmp1_eq q
      rw [evE]
      exact ok_cmp g (okE sc oc a l h2 W X g) (okE sc oc b r h3 W X g) h4
  | sc, oc, .chain o1 o2 a b c, e, h, W, X, g => by
    rw [chkE] at h
    cases q : asCmp2 e with
    | none => rw [q] at h; cases h
    | some t =>
      obtain ⟨l, o, o', r, t⟩ := t
      rw [q] at h
      obtain ⟨h, h6⟩ := Bool.and_eq_true_iff.mp h
      obtain ⟨h, h5⟩ := Bool.and_eq_true_iff.mp h
      obtain ⟨h, h4⟩ := Bool.and_eq_true_iff.mp h
      obtain ⟨h, h3⟩ := Bool.and_eq_true_iff.mp h
      obtain ⟨h1, h2⟩ := Bool.and_eq_true_iff.mp h
      have e1 : o1 = o := of_decide_eq_true h1
      have e2 : o2 = o' := of_decide_eq_true h2
      subst e1
      subst e2
      obtain ⟨p, rfl⟩ := asCmp2_eq q
      rw [evE]
      exact ok_chain g (okE sc oc a l h3 W X g) (okE sc oc b r h4 W X g) (okE sc oc c t h5 W X g) h6
  | sc, oc, .neg a, e, h, W, X, g => by
    rw [chkE] at h
    cases q : asUn e with
    | none => rw [q] at h; cases h
    | some t =>
      obtain ⟨o, x⟩ := t
      rw [q] at h
      cases o with
      | USub =>
        obtain ⟨p, rfl⟩ := asUn_eq q
        rw [evE]
        exact ok_neg (okE sc oc a x h W X g)
      | Invert => cases h
      | Not => cases h
      | UAdd => cases h
  | sc, oc, .notE a, e, h, W, X, g => by
    rw [chkE] at h
    cases q : asUn e with
    | none => rw [q] at h; cases h
    | some t =>
      obtain ⟨o, x⟩ := t
      rw [q] at h
      cases o with
      | Not =>
        obtain ⟨h1, _⟩ := Bool.and_eq_true_iff.mp h
        obtain ⟨p, rfl⟩ := asUn_eq q
        rw [evE]
        exact ok_not (okE sc oc a x h1 W X g)
      | Invert => cases h
      | USub => cases h
      | UAdd => cases h
  | sc, oc, .andE a r, e, h, W, X, g => by
    rw [chkE] at h
    cases q : asBool e with
    | none => rw [q] at h; cases h
    | some t =>
      obtain ⟨o, xs⟩ := t
      rw [q] at h
      cases o with
      | Or => cases h
      | And =>
        cases xs with
        | nil => cases h
        | cons x xs =>
          obtain ⟨h, h3⟩ := Bool.and_eq_true_iff.mp h
          obtain ⟨h1, h2⟩ := Bool.and_eq_true_iff.mp h
          obtain ⟨p, rfl⟩ := asBool_eq q
          rw [evE]
          exact okAnd sc oc r xs h3 x (evE C a) p W X g (okE sc oc a x h1 W X g)
  | sc, oc, .orE a r, e, h, W, X, g => by
    rw [chkE] at h
    cases q : asBool e with
    | none => rw [q] at h; cases h
    | some t =>
      obtain ⟨o, xs⟩ := t
      rw [q] at h
      cases o with
      | And => cases h
      | Or =>
        cases xs with
        | nil => cases h
        | cons x xs =>
          obtain ⟨h, h3⟩ := Bool.and_eq_true_iff.mp h
          obtain ⟨h1, h2⟩ := Bool.and_eq_true_iff.mp h
          obtain ⟨p, rfl⟩ := asBool_eq q
          rw [evE]
          exact okOr sc oc r xs h3 x (evE C a) p W X g (okE sc oc a x h1 W X g)
  | sc, oc, .ite c a b, e, h, W, X, g => by
    rw [chkE] at h
    cases q : asIf e with
    | none => rw [q] at h; cases h
    | some t =>
      obtain ⟨x, y, z⟩ := t
      rw [q] at h
      obtain ⟨h, h4⟩ := Bool.and_eq_true_iff.mp h
      obtain ⟨h, h3⟩ := Bool.and_eq_true_iff.mp h
      obtain ⟨h1, h2⟩ := Bool.and_eq_true_iff.mp h
      obtain ⟨p, rfl⟩ := asIf_eq q
      rw [evE]
      exact ok_ite (okT sc oc c x h1 h2 W X g) (okE sc oc a y h3 W X g) (okE sc oc b z h4 W X g)
  | sc, oc, .tup es, e, h, W, X, g => by
    rw [chkE] at h
    cases q : asTup e with
    | none => rw [q] at h; cases h
    | some xs =>
      rw [q] at h
      obtain ⟨k, p, rfl⟩ := asTup_eq q
      rw [evE]
      exact ok_tup (okL sc oc es xs h W X g)
  | sc, oc, .lst es, e, h, W, X, g => by
    rw [chkE] at h
    cases q : asLst e with
    | none => rw [q] at h; cases h
    | some xs =>
      rw [q] at h
      obtain ⟨p, rfl⟩ := asLst_eq q
      rw [evE]
      exact ok_lst (okL sc oc es xs h W X g)
  | sc, oc, .new es, e, h, W, X, g => by
    rw [chkE] at h
    cases q : asLst e with
    | none => rw [q] at h; cases h
    | some xs =>
      rw [q] at h
      obtain ⟨p, rfl⟩ := asLst_eq q
      rw [evE]
      exact ok_new (okL sc oc es xs h W X g)
  | sc, oc, .ix a b, e, h, W, X, g => by
    rw [chkE] at h
    cases q : asSub e with
    | none => rw [q] at h; cases h
    | some t =>
      obtain ⟨x, y⟩ := t
      rw [q] at h
      obtain ⟨h, h3⟩ := Bool.and_eq_true_iff.mp h
      obtain ⟨h1, h2⟩ := Bool.and_eq_true_iff.mp h
      obtain ⟨p, rfl⟩ := asSub_eq q
      rw [evE]
      exact ok_ix g (okE sc oc a x h1 W X g) (okE sc oc b y h2 W X g) h3
  | sc, oc, .slc a lo hi, e, h, W, X, g => by
    rw [chkE] at h
    cases q : asSub e with
    | none => rw [q] at h; cases h
    | some t =>
      obtain ⟨x, y⟩ := t
      rw [q] at h
      dsimp only at h
      cases q2 : asSlice y with
      | none => rw [q2] at h; cases h
      | some t =>
        obtain ⟨l, u⟩ := t
        rw [q2] at h
        obtain ⟨h, h3⟩ := Bool.and_eq_true_iff.mp h
        obtain ⟨h1, h2⟩ := Bool.and_eq_true_iff.mp h
        obtain ⟨p, rfl⟩ := asSub_eq q
        obtain ⟨p2, rfl⟩ := asSlice_eq q2
        rw [evE]
        exact ok_slc g (okE sc oc a x h1 W X g) (okO sc oc lo l h2 W X g) (okO sc oc hi u h3 W X g)
  | sc, oc, .rev a, e, h, W, X, g => by
    rw [chkE] at h
    cases q : asSub e with
    | none => rw [q] at h; cases h
    | some t =>
      obtain ⟨x, y⟩ := t
      rw [q] at h
      dsimp only at h
      cases q2 : asRev y with
      | none => rw [q2] at h; cases h
      | some t =>
        rw [q2] at h
        obtain ⟨p, rfl⟩ := asSub_eq q
        obtain ⟨k, p1, p2, p3, rfl⟩ := asRev_eq q2
        rw [evE]
        exact ok_rev g (okE sc oc a x h W X g)
  | sc, oc, .call f x n es, e, h, W, X, g => by
    rw [chkE] at h
    cases q : asCall e with
    | none => rw [q] at h; cases h
    | some t =>
      obtain ⟨y, xs⟩ := t
      rw [q] at h
      obtain ⟨h, h5⟩ := Bool.and_eq_true_iff.mp h
      obtain ⟨h, h4⟩ := Bool.and_eq_true_iff.mp h
      obtain ⟨h, h3⟩ := Bool.and_eq_true_iff.mp h
      obtain ⟨h1, h2⟩ := Bool.and_eq_true_iff.mp h
      have e1 : x = y := of_decide_eq_true h1
      subst e1
      obtain ⟨p, pos, rfl⟩ := asCall_eq q
      obtain ⟨t, ht, hq⟩ := List.any_eq_true.mp h4
      obtain ⟨hq, q3⟩ := Bool.and_eq_true_iff.mp hq
      obtain ⟨q1, q2⟩ := Bool.and_eq_true_iff.mp hq
      obtain ⟨t1, t2, t3⟩ := t
      have z1 : t1 = f := of_decide_eq_true q1
      have z2 : t2 = x := of_decide_eq_true q2
      have z3 : t3 = n := of_decide_eq_true q3
      subst z1
      subst z2
      subst z3
      obtain ⟨fa, hm, F⟩ := hy.fs _ ht
      rw [evE]
      have hL := okL sc oc es xs h5 W X g
      have hst := chkL_star h5
      cases xs with
      | nil =>
        rw [evL_nil h5]
        exact ok_call0 g F (gloB_ok h2) hm (bnot h3)
      | cons y ys => exact ok_call g F (gloB_ok h2) hm (bnot h3) hL hst
  | sc, oc, .bi b es, e, h, W, X, g => by
    rw [chkE] at h
    cases q : asCall e with
    | none => rw [q] at h; cases h
    | some t =>
      obtain ⟨y, xs⟩ := t
      rw [q] at h
      obtain ⟨h, h5⟩ := Bool.and_eq_true_iff.mp h
      obtain ⟨h, h4⟩ := Bool.and_eq_true_iff.mp h
      obtain ⟨h, h3⟩ := Bool.and_eq_true_iff.mp h
      obtain ⟨h1, h2⟩ := Bool.and_eq_true_iff.mp h
      have e1 : y = b.name := of_decide_eq_true h1
      subst e1
      obtain ⟨p, pos, rfl⟩ := asCall_eq q
      rw [evE]
      have hL := okL sc oc es xs h4 W X g
      have hst := chkL_star h4
      cases xs with
      | nil => cases h5
      | cons y ys => exact ok_bi g (gloB_ok h2) (hy.fr _ h3) hL hst
  | sc, oc, .isa t a, e, h, W, X, g => by
    rw [chkE] at h
    cases q : asCall e with
    | none => rw [q] at h; cases h
    | some r =>
      obtain ⟨y, xs⟩ := r
      rw [q] at h
      cases xs with
      | nil => cases h
      | cons x xs =>
        cases xs with
        | nil => cases h
        | cons z xs =>
          cases xs with
          | cons _ _ => cases h
          | nil =>
            obtain ⟨h, h8⟩ := Bool.and_eq_true_iff.mp h
            obtain ⟨h, h7⟩ := Bool.and_eq_true_iff.mp h
            obtain ⟨h, h6⟩ := Bool.and_eq_true_iff.mp h
            obtain ⟨h, h5⟩ := Bool.and_eq_true_iff.mp h
            obtain ⟨h, h4⟩ := Bool.and_eq_true_iff.mp h
            obtain ⟨h, h3⟩ := Bool.and_eq_true_iff.mp h
            obtain ⟨h1, h2⟩ := Bool.and_eq_true_iff.mp h
            have e1 : y = "isinstance" := of_decide_eq_true h1
            subst e1
            obtain ⟨p, pos, rfl⟩ := asCall_eq q
            obtain ⟨p2, rfl⟩ := asName_eq (of_decide_eq_true h6)
            rw [evE]
            exact ok_isa g (gloB_ok h2) (hy.fr _ h3) (gloB_ok h7) (hy.fr _ h8) (okE sc oc a x h4 W X g) h5
  | sc, oc, .minDf a c, e, h, W, X, g => by
    rw [chkE] at h
    cases q : asCallD e with
    | none => rw [q] at h; cases h
    | some r =>
      obtain ⟨y, x, k, c'⟩ := r
      rw [q] at h
      obtain ⟨h, h8⟩ := Bool.and_eq_true_iff.mp h
      obtain ⟨h, h7⟩ := Bool.and_eq_true_iff.mp h
      obtain ⟨h, h6⟩ := Bool.and_eq_true_iff.mp h
      obtain ⟨h, h5⟩ := Bool.and_eq_true_iff.mp h
      obtain ⟨h, h4⟩ := Bool.and_eq_true_iff.mp h
      obtain ⟨h, h3⟩ := Bool.and_eq_true_iff.mp h
      obtain ⟨h1, h2⟩ := Bool.and_eq_true_iff.mp h
      have e1 : y = "min" := of_decide_eq_true h1
      have e2 : k = "default" := of_decide_eq_true h4
      have e3 : c = c' := of_decide_eq_true h5
      subst e1
      subst e2
      subst e3
      obtain ⟨p, n, p1, p2, pos, rfl⟩ := asCallD_eq q
      obtain ⟨d, hd⟩ := Option.isSome_iff_exists.mp h6
      rw [evE]
      simp only [hd, Option.bind_some]
      exact ok_minDf g (gloB_ok h2) (hy.fr _ h3) (okE sc oc a x h7 W X g) h8 hd
  | sc, oc, .comp own t it c el, e, h, W, X, g => by
    rw [chkE] at h
    cases q : asComp e with
    | none => rw [q] at h; cases h
    | some r =>
      obtain ⟨elt, tg, iter, ifs, scope⟩ := r
      rw [q] at h
      obtain ⟨h, h7⟩ := Bool.and_eq_true_iff.mp h
      obtain ⟨h, h6⟩ := Bool.and_eq_true_iff.mp h
      obtain ⟨h, h5⟩ := Bool.and_eq_true_iff.mp h
      obtain ⟨h, h4⟩ := Bool.and_eq_true_iff.mp h
      obtain ⟨h, h3⟩ := Bool.and_eq_true_iff.mp h
      obtain ⟨h1, h2⟩ := Bool.and_eq_true_iff.mp h
      obtain ⟨p, rfl⟩ := asComp_eq q
      rw [evE]
      exact ok_comp g (okI sc oc it tg iter h3 W X g) h1 (fun X' g' => okg t tg h2 W0 X' g') (fun X' g' => okC (relab sc scope) scope c ifs h5 W0 X' g') (fun X' g' => okE (relab sc scope) scope el elt h6 W0 X' g') h4 (fun j hj => List.contains_iff_mem.mp (List.all_eq_true.mp h7 j hj))
  | sc, oc, .lm mt o es, e, h, W, X, g => by
    rw [chkE] at h
    cases q : asMeth e with
    | none => rw [q] at h; cases h
    | some r =>
      obtain ⟨x, y, xs, ln⟩ := r
      rw [q] at h
      obtain ⟨h, h7⟩ := Bool.and_eq_true_iff.mp h
      obtain ⟨h, h6⟩ := Bool.and_eq_true_iff.mp h
      obtain ⟨h, h5⟩ := Bool.and_eq_true_iff.mp h
      obtain ⟨h, h4⟩ := Bool.and_eq_true_iff.mp h
      obtain ⟨h, h3⟩ := Bool.and_eq_true_iff.mp h
      obtain ⟨h1, h2⟩ := Bool.and_eq_true_iff.mp h
      have e1 : y = mt.name := of_decide_eq_true h1
      subst e1
      obtain ⟨apos, cpos, rfl, e2⟩ := asMeth_eq q
      rw [e2] at h2
      rw [evE]
      exact ok_lmA g (okE sc oc o x h3 W X g) (okL sc oc es xs h5 W X g) (fun z => by subst z; exact evL_nil h5) h4 (chkL_star h5) (of_decide_eq_true h6) h2
  | sc, oc, .frz a, e, h, W, X, g => by
    rw [chkE] at h
    rw [evE]
    exact ok_frz (okE sc oc a e h W X g)
theorem okT {N : List Str} : ∀ (sc oc : Scope) (ir : IE) (e : Expr), chkE st N sc oc ir e = true → testB e = true → ∀ (W : WX) (X : Cx), Good G W N sc oc lv X → PT X e (tT G W fun ρ => evE C ir ρ >>= asB)
  | sc, oc, .cmp op a b, e, h, ht, W, X, g => by
    rw [chkE] at h
    cases q : asCmp1 e with
    | none => rw [q] at h; cases h
    | some t =>
      obtain ⟨l, o, r⟩ := t
      rw [q] at h
      obtain ⟨h, h4⟩ := Bool.and_eq_true_iff.mp h
      obtain ⟨h, h3⟩ := Bool.and_eq_true_iff.mp h
      obtain ⟨h1, h2⟩ := Bool.and_eq_true_iff.mp h
      have e1 : op = o := of_decide_eq_true h1
      subst e1
      obtain ⟨p, rfl⟩ := asCmp1_eq q
      simp only [evE]
      exact okt_cmp g (okE sc oc a l h2 W X g) (okE sc oc b r h3 W X g) h4
  | sc, oc, .chain o1 o2 a b c, e, h, ht, W, X, g => by
    rw [chkE] at h
    cases q : asCmp2 e with
    | none => rw [q] at h; cases h
    | some t =>
      obtain ⟨l, o, o', r, t⟩ := t
      rw [q] at h
      obtain ⟨h, h6⟩ := Bool.and_eq_true_iff.mp h
      obtain ⟨h, h5⟩ := Bool.and_eq_true_iff.mp h
      obtain ⟨h, h4⟩ := Bool.and_eq_true_iff.mp h
      obtain ⟨h, h3⟩ := Bool.and_eq_true_iff.mp h
      obtain ⟨h1, h2⟩ := Bool.and_eq_true_iff.mp h
      have e1 : o1 = o := of_decide_eq_true h1
      have e2 : o2 = o' := of_decide_eq_true h2
      subst e1
      subst e2
      obtain ⟨p, rfl⟩ := asCmp2_eq q
      simp only [evE]
      exact okt_chain g (okE sc oc a l h3 W X g) (okE sc oc b r h4 W X g) (okE sc oc c t h5 W X g) h6
  | sc, oc, .notE a, e, h, ht, W, X, g => by
    rw [chkE] at h
    cases q : asUn e with
    | none => rw [q] at h; cases h
    | some t =>
      obtain ⟨o, x⟩ := t
      rw [q] at h
      cases o with
      | Not =>
        obtain ⟨h1, h2⟩ := Bool.and_eq_true_iff.mp h
        obtain ⟨p, rfl⟩ := asUn_eq q
        simp only [evE]
        exact okt_not (okT sc oc a x h1 h2 W X g)
      | Invert => cases h
      | USub => cases h
      | UAdd => cases h
  | sc, oc, .andE a r, e, h, ht, W, X, g => by
    rw [chkE] at h
    cases q : asBool e with
    | none => rw [q] at h; cases h
    | some t =>
      obtain ⟨o, xs⟩ := t
      rw [q] at h
      cases o with
      | Or => cases h
      | And =>
        cases xs with
        | nil => cases h
        | cons x xs =>
          obtain ⟨h, h3⟩ := Bool.and_eq_true_iff.mp h
          obtain ⟨h1, h2⟩ := Bool.and_eq_true_iff.mp h
          obtain ⟨p, rfl⟩ := asBool_eq q
          simp only [evE]
          exact (okAndW sc oc r xs h3 x (evE C a) p W X g (okT sc oc a x h1 h2 W X g)).pt
  | sc, oc, .orE a r, e, h, ht, W, X, g => by
    rw [chkE] at h
    cases q : asBool e with
    | none => rw [q] at h; cases h
    | some t =>
      obtain ⟨o, xs⟩ := t
      rw [q] at h
      cases o with
      | And => cases h
      | Or =>
        cases xs with
        | nil => cases h
        | cons x xs =>
          obtain ⟨h, h3⟩ := Bool.and_eq_true_iff.mp h
          obtain ⟨h1, h2⟩ := Bool.and_eq_true_iff.mp h
          obtain ⟨p, rfl⟩ := asBool_eq q
          simp only [evE]
          exact (okOrW sc oc r xs h3 x (evE C a) p W X g (okT sc oc a x h1 h2 W X g)).pt
  | sc, oc, .frz a, e, h, ht, W, X, g => by
    rw [chkE] at h
    simp only [evE]
    exact PT.imp (okT sc oc a e h ht W X g) fun σ H Q q => rd_frzT σ H Q q
  | sc, oc, .var i, e, h, ht, W, X, g => by
    have h' := h
    rw [chkE] at h'
    cases q : asName e with
    | none => rw [q] at h'; cases h'
    | some x =>
      have hE := okE sc oc (.var i) e h W X g
      obtain ⟨p, rfl⟩ := asName_eq q
      exact okt_plain hE rfl
  | sc, oc, .cst c, e, h, ht, W, X, g => by
    have h' := h
    rw [chkE] at h'
    cases q : asConst e with
    | none => rw [q] at h'; cases h'
    | some x =>
      have hE := okE sc oc (.cst c) e h W X g
      obtain ⟨k, p, rfl⟩ := asConst_eq q
      exact okt_plain hE rfl
  | sc, oc, .glo x, e, h, ht, W, X, g => by
    have h' := h
    rw [chkE] at h'
    cases q : asName e with
    | none => rw [q] at h'; cases h'
    | some x' =>
      have hE := okE sc oc (.glo x) e h W X g
      obtain ⟨p, rfl⟩ := asName_eq q
      exact okt_plain hE rfl
  | sc, oc, .bin op a b, e, h, ht, W, X, g => by
    rw [chkE] at h
    cases q : asBin e with
    | none => rw [q] at h; cases h
    | some t =>
      obtain ⟨l, o, r⟩ := t
      obtain ⟨p, rfl⟩ := asBin_eq q
      cases ht
  | sc, oc, .neg a, e, h, ht, W, X, g => by
    rw [chkE] at h
    cases q : asUn e with
    | none => rw [q] at h; cases h
    | some t =>
      obtain ⟨o, x⟩ := t
      rw [q] at h
      obtain ⟨p, rfl⟩ := asUn_eq q
      cases o with
      | USub => cases ht
      | Invert => cases h
      | Not => cases h
      | UAdd => cases h
  | sc, oc, .ite c a b, e, h, ht, W, X, g => by
    rw [chkE] at h
    cases q : asIf e with
    | none => rw [q] at h; cases h
    | some t =>
      obtain ⟨l, o, r⟩ := t
      obtain ⟨p, rfl⟩ := asIf_eq q
      cases ht
  | sc, oc, .tup es, e, h, ht, W, X, g => by
    rw [chkE] at h
    cases q : asTup e with
    | none => rw [q] at h; cases h
    | some t =>
      obtain ⟨k, p, rfl⟩ := asTup_eq q
      cases ht
  | sc, oc, .lst es, e, h, ht, W, X, g => by
    rw [chkE] at h
    cases q : asLst e with
    | none => rw [q] at h; cases h
    | some t =>
      obtain ⟨p, rfl⟩ := asLst_eq q
      cases ht
  | sc, oc, .new es, e, h, ht, W, X, g => by
    rw [chkE] at h
    cases q : asLst e with
    | none => rw [q] at h; cases h
    | some t =>
      obtain ⟨p, rfl⟩ := asLst_eq q
      cases ht
  | sc, oc, .ix a b, e, h, ht, W, X, g => by
    have h' := h
    rw [chkE] at h'
    cases q : asSub e with
    | none => rw [q] at h'; cases h'
    | some t =>
      obtain ⟨x, y⟩ := t
      have hE := okE sc oc (.ix a b) e h W X g
      obtain ⟨p, rfl⟩ := asSub_eq q
      exact okt_plain hE rfl
  | sc, oc, .slc a lo hi, e, h, ht, W, X, g => by
    have h' := h
    rw [chkE] at h'
    cases q : asSub e with
    | none => rw [q] at h'; cases h'
    | some t =>
      obtain ⟨x, y⟩ := t
      have hE := okE sc oc (.slc a lo hi) e h W X g
      obtain ⟨p, rfl⟩ := asSub_eq q
      exact okt_plain hE rfl
  | sc, oc, .rev a, e, h, ht, W, X, g => by
    have h' := h
    rw [chkE] at h'
    cases q : asSub e with
    | none => rw [q] at h'; cases h'
    | some t =>
      obtain ⟨x, y⟩ := t
      have hE := okE sc oc (.rev a) e h W X g
      obtain ⟨p, rfl⟩ := asSub_eq q
      exact okt_plain hE rfl
  | sc, oc, .call f x n es, e, h, ht, W, X, g => by
    have h' := h
    rw [chkE] at h'
    cases q : asCall e with
    | none => rw [q] at h'; cases h'
    | some t =>
      obtain ⟨y, xs⟩ := t
      have hE := okE sc oc (.call f x n es) e h W X g
      obtain ⟨p, pos, rfl⟩ := asCall_eq q
      exact okt_plain hE rfl
  | sc, oc, .bi b es, e, h, ht, W, X, g => by
    have h' := h
    rw [chkE] at h'
    cases q : asCall e with
    | none => rw [q] at h'; cases h'
    | some t =>
      obtain ⟨y, xs⟩ := t
      have hE := okE sc oc (.bi b es) e h W X g
      obtain ⟨p, pos, rfl⟩ := asCall_eq q
      exact okt_plain hE rfl
  | sc, oc, .isa t a, e, h, ht, W, X, g => by
    have h' := h
    rw [chkE] at h'
    cases q : asCall e with
    | none => rw [q] at h'; cases h'
    | some r =>
      obtain ⟨y, xs⟩ := r
      have hE := okE sc oc (.isa t a) e h W X g
      obtain ⟨p, pos, rfl⟩ := asCall_eq q
      exact okt_plain hE rfl
  | sc, oc, .minDf a c, e, h, ht, W, X, g => by
    have h' := h
    rw [chkE] at h'
    cases q : asCallD e with
    | none => rw [q] at h'; cases h'
    | some r =>
      obtain ⟨y, x, k, c'⟩ := r
      have hE := okE sc oc (.minDf a c) e h W X g
      obtain ⟨p, n, p1, p2, pos, rfl⟩ := asCallD_eq q
      exact okt_plain hE rfl
  | sc, oc, .comp own t it c el, e, h, ht, W, X, g => by
    rw [chkE] at h
    cases q : asComp e with
    | none => rw [q] at h; cases h
    | some r =>
      obtain ⟨elt, tg, iter, ifs, scope⟩ := r
      obtain ⟨p, rfl⟩ := asComp_eq q
      cases ht
  | sc, oc, .lm mt o es, e, h, ht, W, X, g => by
    have h' := h
    rw [chkE] at h'
    cases q : asMeth e with
    | none => rw [q] at h'; cases h'
    | some r =>
      obtain ⟨x, y, xs, ln⟩ := r
      have hE := okE sc oc (.lm mt o es) e h W X g
      obtain ⟨apos, cpos, rfl, _⟩ := asMeth_eq q
      exact okt_plain hE rfl
theorem okL {N : List Str} : ∀ (sc oc : Scope) (es : IL) (xs : List Expr), chkL st N sc oc es xs = true → ∀ (W : WX) (X : Cx), Good G W N sc oc lv X → PA X xs (tA G W (evL C es))
  | sc, oc, .nil, [], h, W, X, g => by
    rw [evL]
    exact oka_nil
  | sc, oc, .cons e r, x :: xs, h, W, X, g => by
    rw [chkL] at h
    obtain ⟨h, h3⟩ := Bool.and_eq_true_iff.mp h
    obtain ⟨h1, h2⟩ := Bool.and_eq_true_iff.mp h
    rw [evL]
    exact oka_cons (okE sc oc e x h1 W X g) (okL sc oc r xs h3 W X g) h2
  | sc, oc, .nil, _ :: _, h, _, _, _ => by have h : false = true := h; cases h
  | sc, oc, .cons _ _, [], h, _, _, _ => by have h : false = true := h; cases h
theorem okO {N : List Str} : ∀ (sc oc : Scope) (o : IO) (x : Option Expr), chkO st N sc oc o x = true → ∀ (W : WX) (X : Cx), Good G W N sc oc lv X → PO X x (tO G W (evO C o))
  | sc, oc, .none, none, h, W, X, g => by
    rw [evO]
    exact oko_none
  | sc, oc, .some e, some x, h, W, X, g => by
    rw [chkO] at h
    rw [evO]
    exact oko_some (okE sc oc e x h W X g)
  | sc, oc, .none, some _, h, _, _, _ => by have h : false = true := h; cases h
  | sc, oc, .some _, none, h, _, _, _ => by have h : false = true := h; cases h
theorem okC {N : List Str} : ∀ (sc oc : Scope) (o : IO) (xs : List Expr), chkC st N sc oc o xs = true → ∀ (W : WX) (X : Cx), Good G W N sc oc lv X → PTs X xs (tT G W (evC C o))
  | sc, oc, .none, [], h, W, X, g => by
    rw [evC]
    exact okts_nil
  | sc, oc, .some e, [x], h, W, X, g => by
    rw [chkC] at h
    obtain ⟨h1, h2⟩ := Bool.and_eq_true_iff.mp h
    rw [evC]
    exact pts_one (okT sc oc e x h1 h2 W X g)
  | sc, oc, .none, _ :: _, h, _, _, _ => by have h : false = true := h; cases h
  | sc, oc, .some _, [], h, _, _, _ => by have h : false = true := h; cases h
  | sc, oc, .some _, _ :: _ :: _, h, _, _, _ => by have h : false = true := h; cases h
theorem okI {N : List Str} : ∀ (sc oc : Scope) (it : II) (tg e : Expr), chkI st N sc oc it tg e = true → ∀ (W : WX) (X : Cx), Good G W N sc oc lv X → PI X tg e (tI G W (evI C it))
  | sc, oc, .seq a, tg, e, h, W, X, g => by
    rw [chkI] at h
    rw [evI]
    exact oki_seq g (okE sc oc a e h W X g)
  | sc, oc, .rng es, tg, e, h, W, X, g => by
    rw [chkI] at h
    cases q : asCall e with
    | none => rw [q] at h; cases h
    | some t =>
      obtain ⟨y, xs⟩ := t
      rw [q] at h
      obtain ⟨h, h5⟩ := Bool.and_eq_true_iff.mp h
      obtain ⟨h, h4⟩ := Bool.and_eq_true_iff.mp h
      obtain ⟨h, h3⟩ := Bool.and_eq_true_iff.mp h
      obtain ⟨h1, h2⟩ := Bool.and_eq_true_iff.mp h
      have e1 : y = "range" := of_decide_eq_true h1
      subst e1
      obtain ⟨p, pos, rfl⟩ := asCall_eq q
      have hL := okL sc oc es xs h4 W X g
      have hst := chkL_star h4
      rw [evI]
      cases xs with
      | nil => cases h5
      | cons x xs =>
        rw [List.all_cons, Bool.and_eq_true] at hst
        cases xs with
        | nil => exact PI.imp (oki_range1 g (gloB_ok h2) (hy.fr _ h3) hL hst.1) (rd_len (n := 1) fun ρ S vs S' z => evL_len h4 ρ S vs S' z)
        | cons x2 xs =>
          cases xs with
          | cons _ _ => cases h5
          | nil =>
            rw [List.all_cons, Bool.and_eq_true] at hst
            exact PI.imp (oki_range2 g (gloB_ok h2) (hy.fr _ h3) hL hst.1 hst.2.1) (rd_len (n := 2) fun ρ S vs S' z => evL_len h4 ρ S vs S' z)
  | sc, oc, .enum a, tg, e, h, W, X, g => by
    rw [chkI] at h
    cases q : asCall e with
    | none => rw [q] at h; cases h
    | some t =>
      obtain ⟨y, xs⟩ := t
      rw [q] at h
      cases xs with
      | nil => cases h
      | cons x xs =>
        cases xs with
        | cons _ _ => cases h
        | nil =>
          obtain ⟨h, h6⟩ := Bool.and_eq_true_iff.mp h
          obtain ⟨h, h5⟩ := Bool.and_eq_true_iff.mp h
          obtain ⟨h, h4⟩ := Bool.and_eq_true_iff.mp h
          obtain ⟨h, h3⟩ := Bool.and_eq_true_iff.mp h
          obtain ⟨h1, h2⟩ := Bool.and_eq_true_iff.mp h
          have e1 : y = "enumerate" := of_decide_eq_true h1
          subst e1
          obtain ⟨p, pos, rfl⟩ := asCall_eq q
          obtain ⟨es, hes⟩ := Option.isSome_iff_exists.mp h6
          obtain ⟨kk, tp, rfl⟩ := asTup_eq hes
          rw [evI]
          exact PI.imp (oki_enum g (gloB_ok h2) (hy.fr _ h3) (oka_cons (okE sc oc a x h4 W X g) oka_nil h5) h5) (rd_one)
theorem okAnd {N : List Str} : ∀ (sc oc : Scope) (r : IL) (xs : List Expr), chkB st N sc oc r xs = true → ∀ (x : Expr) (f : Env → M Val) (p : Pos) (W : WX) (X : Cx), Good G W N sc oc lv X → PE X x (tE G W f) → PE X (.BoolOp .And (x :: xs) p) (tE G W (evAnd C f r))
  | sc, oc, .nil, [], h, x, f, p, W, X, g, hf => by
    rw [evAnd]
    exact pe_one hf
  | sc, oc, .cons e r, y :: ys, h, x, f, p, W, X, g, hf => by
    rw [chkB] at h
    obtain ⟨h, h3⟩ := Bool.and_eq_true_iff.mp h
    obtain ⟨h1, h2⟩ := Bool.and_eq_true_iff.mp h
    rw [evAnd]
    exact ok_and hf (okAnd sc oc r ys h3 y (evE C e) p W X g (okE sc oc e y h1 W X g))
  | sc, oc, .nil, _ :: _, h, _, _, _, _, _, _, _ => by have h : false = true := h; cases h
  | sc, oc, .cons _ _, [], h, _, _, _, _, _, _, _ => by have h : false = true := h; cases h
theorem okOr {N : List Str} : ∀ (sc oc : Scope) (r : IL) (xs : List Expr), chkB st N sc oc r xs = true → ∀ (x : Expr) (f : Env → M Val) (p : Pos) (W : WX) (X : Cx), Good G W N sc oc lv X → PE X x (tE G W f) → PE X (.BoolOp .Or (x :: xs) p) (tE G W (evOr C f r))
  | sc, oc, .nil, [], h, x, f, p, W, X, g, hf => by
    rw [evOr]
    exact pe_one hf
  | sc, oc, .cons e r, y :: ys, h, x, f, p, W, X, g, hf => by
    rw [chkB] at h
    obtain ⟨h, h3⟩ := Bool.and_eq_true_iff.mp h
    obtain ⟨h1, h2⟩ := Bool.and_eq_true_iff.mp h
    rw [evOr]
    exact ok_or hf (okOr sc oc r ys h3 y (evE C e) p W X g (okE sc oc e y h1 W X g))
  | sc, oc, .nil, _ :: _, h, _, _, _, _, _, _, _ => by have h : false = true := h; cases h
  | sc, oc, .cons _ _, [], h, _, _, _, _, _, _, _ => by have h : false = true := h; cases h
theorem okAndW {N : List Str} : ∀ (sc oc : Scope) (r : IL) (xs : List Expr), chkB st N sc oc r xs = true → ∀ (x : Expr) (f : Env → M Val) (p : Pos) (W : WX) (X : Cx), Good G W N sc oc lv X → PT X x (tT G W fun ρ => f ρ >>= asB) → PW X (.BoolOp .And (x :: xs) p) (tT G W fun ρ => evAnd C f r ρ >>= asB)
  | sc, oc, .nil, [], h, x, f, p, W, X, g, hf => by
    rw [evAnd]
    exact pw_and1 hf
  | sc, oc, .cons e r, y :: ys, h, x, f, p, W, X, g, hf => by
    rw [chkB] at h
    obtain ⟨h, h3⟩ := Bool.and_eq_true_iff.mp h
    obtain ⟨h1, h2⟩ := Bool.and_eq_true_iff.mp h
    rw [evAnd]
    exact okw_and hf (okAndW sc oc r ys h3 y (evE C e) p W X g (okT sc oc e y h1 h2 W X g))
  | sc, oc, .nil, _ :: _, h, _, _, _, _, _, _, _ => by have h : false = true := h; cases h
  | sc, oc, .cons _ _, [], h, _, _, _, _, _, _, _ => by have h : false = true := h; cases h
theorem okOrW {N : List Str} : ∀ (sc oc : Scope) (r : IL) (xs : List Expr), chkB st N sc oc r xs = true → ∀ (x : Expr) (f : Env → M Val) (p : Pos) (W : WX) (X : Cx), Good G W N sc oc lv X → PT X x (tT G W fun ρ => f ρ >>= asB) → PW X (.BoolOp .Or (x :: xs) p) (tT G W fun ρ => evOr C f r ρ >>= asB)
  | sc, oc, .nil, [], h, x, f, p, W, X, g, hf => by
    rw [evOr]
    exact pw_or1 hf
  | sc, oc, .cons e r, y :: ys, h, x, f, p, W, X, g, hf => by
    rw [chkB] at h
    obtain ⟨h, h3⟩ := Bool.and_eq_true_iff.mp h
    obtain ⟨h1, h2⟩ := Bool.and_eq_true_iff.mp h
    rw [evOr]
    exact okw_or hf (okOrW sc oc r ys h3 y (evE C e) p W X g (okT sc oc e y h1 h2 W X g))
  | sc, oc, .nil, _ :: _, h, _, _, _, _, _, _, _ => by have h : false = true := h; cases h
  | sc, oc, .cons _ _, [], h, _, _, _, _, _, _, _ => by have h : false = true := h; cases h
end
end
end PD

/-! PD12: statements, defs. -/
namespace PD
open PySem L2

/-! ### a, b = e1, e2 -/
def foldAll (vs : List Expr) : Bool := vs.all (foldedForSure 8)
def swapOk : Expr → Expr → Bool
  | .Tuple _ _ _, .Tuple vs _ _ => foldAll vs
  | .List _ _, .Tuple vs _ _ => foldAll vs
  | _, _ => true
theorem swapOk_of {tg e : Expr} {env : PySem.Env} (h : swapOk tg e = true) : swappedStores [tg] e env = pure none := by
  have key : ∀ (ts vs : List Expr), vs.all (foldedForSure 8) = true → (do
      if !(ts.length == 2 || ts.length == 3) || vs.length != ts.length || env.blockKind != .function then return none
      if vs.any fun | .Starred .. => true | _ => false then return none
      let line := (ts.head?.map (·.pos.line)).getD 0
      let names := ts.filterMap fun
        | .Name id pos => if env.kindOf id == some .local && pos.line == line then some id else none
        | _ => none
      if names.length != ts.length || names.eraseDups.length != names.length then return none
      if vs.all (foldedForSure 8) then return none
      if vs.all (constantsAlone 8) then unsupported "assign.tuple-of-constant-expressions:order-of-the-stores"
      return some names : Sem (Option (List Str))) = pure none := fun ts vs hv => by
    dsimp only
    split
    · rfl
    · split
      · rfl
      · split
        · rfl
        · rfl
  cases tg <;> cases e <;> first | rfl | (exact key _ _ h)
def parB (sc : Scope) (xs : List (Str × Nat)) (vs : List Expr) : Bool :=
  (match sc.kind with | .function => true | _ => false) && xs.all (fun x => (match sc.names.lookup x.1 with | some .local => true | _ => false)) && xs.all (fun x => x.2 == (xs.head?.map (·.2)).getD 0) && !(vs.all (foldedForSure 8)) && !(vs.all (constantsAlone 8)) && vs.all notStar
theorem block_fn {env : PySem.Env} (h : env.scope.kind = .function) : (env.blockKind != .function) = false := by
  unfold Env.blockKind
  rw [h]
  rfl
theorem any_star {vs : List Expr} (h : vs.all notStar = true) : (vs.any fun | .Starred .. => true | _ => false) = false := by
  rw [List.any_eq_false]
  intro e he
  have := List.all_eq_true.mp h e he
  cases e <;> first | (cases this; done) | (simp)
theorem swap2 {env : PySem.Env} {x y : Str} {px py pt pt2 : Pos} {kt k2 : Nat} {a b : Expr} (hk : env.scope.kind = .function) (hx : env.scope.names.lookup x = some .local) (hy : env.scope.names.lookup y = some .local) (hl : (py.line == px.line) = true) (hne : x ≠ y)
    (hf : [a, b].all (foldedForSure 8) = false) (hc : [a, b].all (constantsAlone 8) = false) (hs : [a, b].all notStar = true) :
    swappedStores [.Tuple [.Name x px, .Name y py] kt pt] (.Tuple [a, b] k2 pt2) env = pure (some [x, y]) := by
  have h1 := block_fn hk
  have h2 := any_star hs
  have kx : (env.kindOf x == some .local) = true := by unfold Env.kindOf; rw [hx]; rfl
  have ky : (env.kindOf y == some .local) = true := by unfold Env.kindOf; rw [hy]; rfl
  have hd : ([x, y].eraseDups.length != [x, y].length) = false := by
    have hxy : (y == x) = false := beq_eq_false_iff_ne.mpr (Ne.symm hne)
    simp [List.eraseDups_cons, hxy]
  have hn : List.filterMap (fun (e : Expr) => match e with
        | .Name id pos => if env.kindOf id == some .local && pos.line == (([Expr.Name x px, Expr.Name y py] : List Expr).head?.map (·.pos.line)).getD 0 then some id else none
        | _ => none) [.Name x px, .Name y py] = [x, y] := by
    have e0 : (([Expr.Name x px, Expr.Name y py] : List Expr).head?.map (·.pos.line)).getD 0 = px.line := rfl
    rw [e0]
    have b1 : (env.kindOf x == some .local && px.line == px.line) = true := by rw [kx]; simp
    have b2 : (env.kindOf y == some .local && py.line == px.line) = true := by rw [ky, hl]; rfl
    rw [List.filterMap_cons]
    simp only [b1, if_true]
    rw [List.filterMap_cons]
    simp only [b2, if_true, List.filterMap_nil]
  unfold swappedStores
  dsimp only
  rw [h1]
  simp only [List.length_cons, List.length_nil, Nat.zero_add, Nat.reduceAdd, beq_self_eq_true, Bool.true_or, Bool.not_true, bne_self_eq_false, Bool.or_self, Bool.false_eq_true, if_false, pure_bind]
  refine (if_neg fun z => Bool.noConfusion (z.symm.trans h2)).trans ?_
  refine (if_neg fun z => ?_).trans ?_
  · have z2 : (([x, y] : List Str).length != 2 || ([x, y] : List Str).eraseDups.length != ([x, y] : List Str).length) = true := by rw [← hn]; exact z
    rw [hd] at z2
    exact Bool.noConfusion z2
  · rw [if_neg (by rw [hf]; exact Bool.false_ne_true), if_neg (by rw [hc]; exact Bool.false_ne_true)]
    exact congrArg (fun l => (pure (some l) : Sem (Option (List Str)))) hn
theorem swap3 {env : PySem.Env} {x y z : Str} {px py pz pt pt2 : Pos} {kt k2 : Nat} {a b c : Expr} (hk : env.scope.kind = .function) (hx : env.scope.names.lookup x = some .local) (hy : env.scope.names.lookup y = some .local) (hz : env.scope.names.lookup z = some .local)
    (hl : (py.line == px.line) = true) (hl2 : (pz.line == px.line) = true) (hne : x ≠ y) (hne2 : x ≠ z) (hne3 : y ≠ z)
    (hf : [a, b, c].all (foldedForSure 8) = false) (hc : [a, b, c].all (constantsAlone 8) = false) (hs : [a, b, c].all notStar = true) :
    swappedStores [.Tuple [.Name x px, .Name y py, .Name z pz] kt pt] (.Tuple [a, b, c] k2 pt2) env = pure (some [x, y, z]) := by
  have h1 := block_fn hk
  have h2 := any_star hs
  have kx : (env.kindOf x == some .local) = true := by unfold Env.kindOf; rw [hx]; rfl
  have ky : (env.kindOf y == some .local) = true := by unfold Env.kindOf; rw [hy]; rfl
  have kz : (env.kindOf z == some .local) = true := by unfold Env.kindOf; rw [hz]; rfl
  have hd : ([x, y, z].eraseDups.length != [x, y, z].length) = false := by
    have hxy : (y == x) = false := beq_eq_false_iff_ne.mpr (Ne.symm hne)
    have hxz : (z == x) = false := beq_eq_false_iff_ne.mpr (Ne.symm hne2)
    have hyz : (z == y) = false := beq_eq_false_iff_ne.mpr (Ne.symm hne3)
    simp [List.eraseDups_cons, hxy, hxz, hyz]
  have hn : List.filterMap (fun (e : Expr) => match e with
        | .Name id pos => if env.kindOf id == some .local && pos.line == (([Expr.Name x px, Expr.Name y py, Expr.Name z pz] : List Expr).head?.map (·.pos.line)).getD 0 then some id else none
        | _ => none) [.Name x px, .Name y py, .Name z pz] = [x, y, z] := by
    have e0 : (([Expr.Name x px, Expr.Name y py, Expr.Name z pz] : List Expr).head?.map (·.pos.line)).getD 0 = px.line := rfl
    rw [e0]
    have b1 : (env.kindOf x == some .local && px.line == px.line) = true := by rw [kx]; simp
    have b2 : (env.kindOf y == some .local && py.line == px.line) = true := by rw [ky, hl]; rfl
    have b3 : (env.kindOf z == some .local && pz.line == px.line) = true := by rw [kz, hl2]; rfl
    rw [List.filterMap_cons]
    simp only [b1, if_true]
    rw [List.filterMap_cons]
    simp only [b2, if_true]
    rw [List.filterMap_cons]
    simp only [b3, if_true, List.filterMap_nil]
  unfold swappedStores
  dsimp only
  rw [h1]
  simp only [List.length_cons, List.length_nil, Nat.zero_add, Nat.reduceAdd, Nat.reduceBEq, beq_self_eq_true, Bool.or_true, Bool.not_true, bne_self_eq_false, Bool.or_self, Bool.false_eq_true, if_false, pure_bind]
  refine (if_neg fun z => Bool.noConfusion (z.symm.trans h2)).trans ?_
  refine (if_neg fun w => ?_).trans ?_
  · have z2 : (([x, y, z] : List Str).length != 3 || ([x, y, z] : List Str).eraseDups.length != ([x, y, z] : List Str).length) = true := by rw [← hn]; exact w
    rw [hd] at z2
    exact Bool.noConfusion z2
  · rw [if_neg (by rw [hf]; exact Bool.false_ne_true), if_neg (by rw [hc]; exact Bool.false_ne_true)]
    exact congrArg (fun l => (pure (some l) : Sem (Option (List Str)))) hn
section
variable {G : Gm} {W : WX} {N : List Str} {sc oc : Scope} {lv : Nat} {X : Cx}
theorem seqLS {σ : L2.St} {H : Hp} {B F0 F : Hp} {m : List Addr} {ρ : Env} {S : Store} {En : Ends} {fa : Env → M (List Val)} {k : List Val → Store → O} (a : At G σ H B F0 F m ρ S) (h : pS G W B F0 F m En ((fa ρ S).intoL ρ k)) :
    tA G W fa σ H (fun xs H1 => ∃ F1 m1 S1 vs, Ex F F1 ∧ m <+: m1 ∧ At G σ H1 B F0 F1 m1 ρ S1 ∧ VReps G.K F1 m1 xs vs ∧ pS G W B F0 F1 m1 En (k vs S1)) := by
  refine ⟨B, F0, F, m, ρ, S, a, ?_⟩
  cases q : fa ρ S with
  | ok v S1 =>
    rw [q] at h
    exact fun x H' F' m' e p r vr => ⟨F', m', S1, v, e, p, a.go e p r, vr, pS.mono e p h⟩
  | exc c y S1 =>
    rw [q] at h
    exact fun cls d H' F' m' e p r xr => h cls d σ H' F' m' e p (a.go e p r) xr
  | bad =>
    rw [q] at h
    exact h
theorem ok_par2 {i j : Nat} {x y : Str} {a b : Expr} {fs : Env → M (List Val)} {px py pt pt2 pos : Pos} {kt k2 : Nat} (g : Good G W N sc oc lv X) (hi : N[i]? = some x) (hj : N[j]? = some y) (hij : i ≠ j) (hk : sc.kind = .function) (hx : sc.names.lookup x = some .local) (hy : sc.names.lookup y = some .local) (hl : (py.line == px.line) = true)
    (hf : [a, b].all (foldedForSure 8) = false) (hc : [a, b].all (constantsAlone 8) = false) (hs : [a, b].all notStar = true) (ha : PA X [a, b] (tA G W fs)) :
    PS X (.Assign [.Tuple [.Name x px, .Name y py] kt pt] (.Tuple [a, b] k2 pt2) pos) (tS G W (sPar [i, j] fs)) := by
  have hne : x ≠ y := fun z => by
    subst z
    have h1 := (List.getElem?_eq_some_iff.mp hi).1
    exact hij ((List.getElem?_inj h1 g.nd).mp (hi.trans hj.symm))
  refine PS.imp (ps_par (i := i) (j := j) g.calm (by rw [g.hN]; exact g.nd) (by rw [g.hN]; exact hi) (by rw [g.hN]; exact hj) hij (by rw [g.hs]; exact hx) (by rw [g.hs]; exact hy) ha (swap2 (by rw [g.hs]; exact hk) (by rw [g.hs]; exact hx) (by rw [g.hs]; exact hy) hl hne hf hc hs) rfl) fun En σ H h => ?_
  obtain ⟨B, F0, F, m, ρ, S, at_, h⟩ := h
  obtain ⟨B', F0', F', m', ρ', S', a', h'⟩ := seqLS (fa := fs) at_ h
  refine ⟨B', F0', F', m', ρ', S', a', pA_imp h' fun xs H1 z => ?_⟩
  obtain ⟨F1, m1, S1, vs, e1, p1, a1, v1, h1⟩ := z
  cases v1 with
  | nil => exact h1.elim
  | cons r1 r2 =>
    cases r2 with
    | nil => exact h1.elim
    | cons r3 r4 =>
      cases r4 with
      | cons _ _ => exact h1.elim
      | nil => exact ⟨_, _, rfl, h1 _ H1 F1 m1 (Ex.refl _) (List.prefix_refl m1) ⟨(a1.env.set r1).set r3, a1.rl⟩⟩
theorem ok_par3 {i j l : Nat} {x y z : Str} {a b c : Expr} {fs : Env → M (List Val)} {px py pz pt pt2 pos : Pos} {kt k2 : Nat} (g : Good G W N sc oc lv X) (hi : N[i]? = some x) (hj : N[j]? = some y) (hll : N[l]? = some z) (hij : i ≠ j) (hil : i ≠ l) (hjl : j ≠ l) (hk : sc.kind = .function) (hx : sc.names.lookup x = some .local) (hy : sc.names.lookup y = some .local) (hz : sc.names.lookup z = some .local) (hl : (py.line == px.line) = true) (hl2 : (pz.line == px.line) = true)
    (hf : [a, b, c].all (foldedForSure 8) = false) (hc : [a, b, c].all (constantsAlone 8) = false) (hs : [a, b, c].all notStar = true) (ha : PA X [a, b, c] (tA G W fs)) :
    PS X (.Assign [.Tuple [.Name x px, .Name y py, .Name z pz] kt pt] (.Tuple [a, b, c] k2 pt2) pos) (tS G W (sPar [i, j, l] fs)) := by
  have ne : ∀ {i j : Nat} {x y : Str}, N[i]? = some x → N[j]? = some y → i ≠ j → x ≠ y := fun {i j x y} hi hj hij z => by
    subst z
    have h1 := (List.getElem?_eq_some_iff.mp hi).1
    exact hij ((List.getElem?_inj h1 g.nd).mp (hi.trans hj.symm))
  refine PS.imp (ps_par3 (i := i) (j := j) (l := l) g.calm (by rw [g.hN]; exact g.nd) (by rw [g.hN]; exact hi) (by rw [g.hN]; exact hj) (by rw [g.hN]; exact hll) hij hil hjl (by rw [g.hs]; exact hx) (by rw [g.hs]; exact hy) (by rw [g.hs]; exact hz) ha (swap3 (by rw [g.hs]; exact hk) (by rw [g.hs]; exact hx) (by rw [g.hs]; exact hy) (by rw [g.hs]; exact hz) hl hl2 (ne hi hj hij) (ne hi hll hil) (ne hj hll hjl) hf hc hs) rfl) fun En σ H h => ?_
  obtain ⟨B, F0, F, m, ρ, S, at_, h⟩ := h
  obtain ⟨B', F0', F', m', ρ', S', a', h'⟩ := seqLS (fa := fs) at_ h
  refine ⟨B', F0', F', m', ρ', S', a', pA_imp h' fun xs H1 z => ?_⟩
  obtain ⟨F1, m1, S1, vs, e1, p1, a1, v1, h1⟩ := z
  cases v1 with
  | nil => exact h1.elim
  | cons r1 r2 =>
    cases r2 with
    | nil => exact h1.elim
    | cons r3 r4 =>
      cases r4 with
      | nil => exact h1.elim
      | cons r5 r6 =>
        cases r6 with
        | cons _ _ => exact h1.elim
        | nil => exact ⟨_, _, _, rfl, h1 _ H1 F1 m1 (Ex.refl _) (List.prefix_refl m1) ⟨((a1.env.set r1).set r3).set r5, a1.rl⟩⟩
end

/-! ### the look at statements -/
def asAsg : Stmt → Option (Expr × Expr)
  | .Assign [tg] e _ => some (tg, e)
  | _ => none
def asAugS : Stmt → Option (Str × Operator × Expr)
  | .AugAssign (.Name x _) op e _ => some (x, op, e)
  | _ => none
def asRet : Stmt → Option Expr
  | .Return (some e) _ => some e
  | _ => none
def asExpr : Stmt → Option Expr
  | .Expr e _ => some e
  | _ => none
def asIfS : Stmt → Option (Expr × List Stmt × List Stmt)
  | .If c a b _ => some (c, a, b)
  | _ => none
def asFor : Stmt → Option (Expr × Expr × List Stmt)
  | .For tg it b [] _ => some (tg, it, b)
  | _ => none
def asWhl : Stmt → Option (Expr × List Stmt)
  | .While c b [] _ => some (c, b)
  | _ => none
def asPass : Stmt → Bool
  | .Pass _ => true
  | _ => false
def asBrk : Stmt → Bool
  | .Break _ => true
  | _ => false
def asCnt : Stmt → Bool
  | .Continue _ => true
  | _ => false
/-- names of a tuple of names, with their lines -/
def asNames : Expr → Option (List (Str × Nat))
  | .Tuple [.Name x px, .Name y py] _ _ => some [(x, px.line), (y, py.line)]
  | .Tuple [.Name x px, .Name y py, .Name z pz] _ _ => some [(x, px.line), (y, py.line), (z, pz.line)]
  | _ => none
def asNmPos : Expr → Option (Str × Pos)
  | .Name x p => some (x, p)
  | _ => none
def asCompP : Expr → Option (Expr × Expr × Expr × List Expr × Scope × Pos)
  | .ListComp elt [⟨tg, iter, ifs, 0⟩] scope pos => some (elt, tg, iter, ifs, scope, pos)
  | _ => none
def distinct : List Nat → Bool
  | [] => true
  | i :: r => !r.contains i && distinct r
def isFn (sc : Scope) : Bool := match sc.kind with
  | .function => true
  | _ => false
def isLoc (sc : Scope) (x : Str) : Bool := match sc.names.lookup x with
  | some .local => true
  | _ => false
mutual
def chkS (st : Stc) (N : List Str) (sc : Scope) : IS → Stmt → Bool
  | .asg t e, s => (match asAsg s with
    | some (tg, v) => chkG N sc sc t tg && chkE st N sc sc e v && notSwap v && swapOk tg v && notStar tg
    | none => false)
  | .par is es, s => (match asAsg s with
    | some (tg, v) => (match asNames tg, asTup v with
      | some xs, some vs => isFn sc && decide (is.length = xs.length) && decide (vs.length = xs.length) && decide (is.map (fun i => N[i]?) = xs.map (fun x => some x.1)) && distinct is && xs.all (fun x => isLoc sc x.1) && xs.all (fun x => x.2 == (xs.head?.map (·.2)).getD 0) && !(vs.all (foldedForSure 8)) && !(vs.all (constantsAlone 8)) && vs.all notStar && chkL st N sc sc es vs
      | _, _ => false)
    | none => false)
  | .asgC i own t it c el, s => (match asAsg s with
    | some (tg, v) => (match asNmPos tg, asCompP v with
      | some (y, py), some (elt, tg2, iter, ifs, scope, pos) => decide (N[i]? = some y) && isLoc sc y && swapC sc scope y py pos && blkC N sc scope own && chkG N (relab sc scope) scope t tg2 && chkI st N sc sc it tg2 iter && notSet iter && chkC st N (relab sc scope) scope c ifs && chkE st N (relab sc scope) scope el elt && t.slots.all (fun j => (own.map (·.2)).contains j)
      | _, _ => false)
    | none => false)
  | .aug i op e, s => (match asAugS s with
    | some (x, o, v) => decide (op = o) && decide (N[i]? = some x) && locB sc sc x && chkE st N sc sc e v
    | none => false)
  | .ret e, s => (match asRet s with
    | some v => chkE st N sc sc e v
    | none => false)
  | .expr e, s => (match asExpr s with
    | some v => chkE st N sc sc e v && notSwap v
    | none => false)
  | .ifS c a b, s => (match asIfS s with
    | some (x, y, z) => chkE st N sc sc c x && testB x && chkSs st N sc a y && chkSs st N sc b z
    | none => false)
  | .forS t it b, s => (match asFor s with
    | some (tg, iter, body) => chkG N sc sc t tg && chkI st N sc sc it tg iter && notSet iter && chkSs st N sc b body
    | none => false)
  | .whl c b, s => (match asWhl s with
    | some (x, body) => chkE st N sc sc c x && testB x && chkSs st N sc b body
    | none => false)
  | .pass, s => asPass s
  | .brk, s => asBrk s
  | .cnt, s => asCnt s
  | .never, _ => true
def chkSs (st : Stc) (N : List Str) (sc : Scope) : ISs → List Stmt → Bool
  | .nil, [] => true
  | .cons s r, x :: xs => chkS st N sc s x && chkSs st N sc r xs
  | .frz _ r, xs => chkSs st N sc r xs
  | _, _ => false
end
theorem asAsg_eq {s : Stmt} {tg e : Expr} (h : asAsg s = some (tg, e)) : ∃ p, s = .Assign [tg] e p := by
  unfold asAsg at h; split at h
  · cases h; exact ⟨_, rfl⟩
  · cases h
theorem asAugS_eq {s : Stmt} {x : Str} {op : Operator} {e : Expr} (h : asAugS s = some (x, op, e)) : ∃ p' p, s = .AugAssign (.Name x p') op e p := by
  unfold asAugS at h; split at h
  · cases h; exact ⟨_, _, rfl⟩
  · cases h
theorem asRet_eq {s : Stmt} {e : Expr} (h : asRet s = some e) : ∃ p, s = .Return (some e) p := by
  unfold asRet at h; split at h
  · cases h; exact ⟨_, rfl⟩
  · cases h
theorem asExpr_eq {s : Stmt} {e : Expr} (h : asExpr s = some e) : ∃ p, s = .Expr e p := by
  unfold asExpr at h; split at h
  · cases h; exact ⟨_, rfl⟩
  · cases h
theorem asIfS_eq {s : Stmt} {c : Expr} {a b : List Stmt} (h : asIfS s = some (c, a, b)) : ∃ p, s = .If c a b p := by
  unfold asIfS at h; split at h
  · cases h; exact ⟨_, rfl⟩
  · cases h
theorem asFor_eq {s : Stmt} {tg it : Expr} {b : List Stmt} (h : asFor s = some (tg, it, b)) : ∃ p, s = .For tg it b [] p := by
  unfold asFor at h; split at h
  · cases h; exact ⟨_, rfl⟩
  · cases h
theorem asWhl_eq {s : Stmt} {c : Expr} {b : List Stmt} (h : asWhl s = some (c, b)) : ∃ p, s = .While c b [] p := by
  unfold asWhl at h; split at h
  · cases h; exact ⟨_, rfl⟩
  · cases h
theorem asPass_eq {s : Stmt} (h : asPass s = true) : ∃ p, s = .Pass p := by
  unfold asPass at h; split at h
  · exact ⟨_, rfl⟩
  · cases h
theorem asBrk_eq {s : Stmt} (h : asBrk s = true) : ∃ p, s = .Break p := by
  unfold asBrk at h; split at h
  · exact ⟨_, rfl⟩
  · cases h
theorem asCnt_eq {s : Stmt} (h : asCnt s = true) : ∃ p, s = .Continue p := by
  unfold asCnt at h; split at h
  · exact ⟨_, rfl⟩
  · cases h
theorem asNmPos_eq {e : Expr} {x : Str} {p : Pos} (h : asNmPos e = some (x, p)) : e = .Name x p := by
  unfold asNmPos at h; split at h
  · cases h; rfl
  · cases h
theorem asCompP_eq {e elt tg iter : Expr} {ifs : List Expr} {scope : Scope} {pos : Pos} (h : asCompP e = some (elt, tg, iter, ifs, scope, pos)) : e = .ListComp elt [⟨tg, iter, ifs, 0⟩] scope pos := by
  unfold asCompP at h; split at h
  · cases h; rfl
  · cases h
theorem isFn_ok {sc : Scope} (h : isFn sc = true) : sc.kind = .function := by
  unfold isFn at h; split at h
  · assumption
  · cases h
theorem isLoc_ok {sc : Scope} {x : Str} (h : isLoc sc x = true) : sc.names.lookup x = some .local := by
  unfold isLoc at h; split at h
  · assumption
  · cases h
theorem ok_never {X : Cx} {G : Gm} {W : WX} {s : Stmt} : PS X s (tS G W fun _ _ => .bad) := ⟨fun pins s σ H D I h => by
  obtain ⟨B, F0, F, m, ρ, S, a, h⟩ := h
  exact h.elim⟩
section
variable {G : Gm} {st : Stc} {lv : Nat} {C : Ctx} (hy : Hyp G st lv C)
include hy
theorem okPar {N : List Str} {sc : Scope} {is : List Nat} {es : IL} {s : Stmt} (h : chkS st N sc (.par is es) s = true) {W : WX} {X : Cx} (g : Good G W N sc sc lv X) : PS X s (tS G W (sPar is (evL C es))) := by
  rw [chkS] at h
  cases q : asAsg s with
  | none => rw [q] at h; cases h
  | some r =>
    obtain ⟨tg, v⟩ := r
    rw [q] at h
    dsimp only at h
    obtain ⟨p, rfl⟩ := asAsg_eq q
    cases q1 : asNames tg with
    | none => rw [q1] at h; cases h
    | some xs =>
      cases q2 : asTup v with
      | none => rw [q1, q2] at h; cases h
      | some vs =>
        rw [q1, q2] at h
        dsimp only at h
        obtain ⟨h, h11⟩ := Bool.and_eq_true_iff.mp h
        obtain ⟨h, h10⟩ := Bool.and_eq_true_iff.mp h
        obtain ⟨h, h9⟩ := Bool.and_eq_true_iff.mp h
        obtain ⟨h, h8⟩ := Bool.and_eq_true_iff.mp h
        obtain ⟨h, h7⟩ := Bool.and_eq_true_iff.mp h
        obtain ⟨h, h6⟩ := Bool.and_eq_true_iff.mp h
        obtain ⟨h, h5⟩ := Bool.and_eq_true_iff.mp h
        obtain ⟨h, h4⟩ := Bool.and_eq_true_iff.mp h
        obtain ⟨h, h3⟩ := Bool.and_eq_true_iff.mp h
        obtain ⟨h1, h2⟩ := Bool.and_eq_true_iff.mp h
        have h2 := of_decide_eq_true h2
        have h3 := of_decide_eq_true h3
        have h4 := of_decide_eq_true h4
        obtain ⟨k2, pt2, rfl⟩ := asTup_eq q2
        have hL := okL hy sc sc es vs h11 W X g
        unfold asNames at q1
        split at q1
        · cases q1
          match is, h2, vs, h3 with
          | [i, j], _, [a, b], _ =>
            simp only [List.map_cons, List.map_nil, List.cons.injEq, and_true] at h4
            simp only [distinct, List.contains_cons, List.contains_nil, Bool.or_false, Bool.and_true, Bool.not_eq_true'] at h5
            simp only [List.all_cons, List.all_nil, Bool.and_true, Bool.and_eq_true] at h6 h7
            exact ok_par2 g h4.1 h4.2 (fun z => by subst z; simp at h5) (isFn_ok h1) (isLoc_ok h6.1) (isLoc_ok h6.2) h7.2 (bnot h8) (bnot h9) h10 hL
        · cases q1
          match is, h2, vs, h3 with
          | [i, j, l], _, [a, b, c], _ =>
            simp only [List.map_cons, List.map_nil, List.cons.injEq, and_true] at h4
            simp only [distinct, List.contains_cons, List.contains_nil, Bool.or_false, Bool.and_true, Bool.and_eq_true, Bool.not_eq_true', Bool.or_eq_false_iff] at h5
            simp only [List.all_cons, List.all_nil, Bool.and_true, Bool.and_eq_true] at h6 h7
            exact ok_par3 g h4.1 h4.2.1 h4.2.2 (fun z => by subst z; simp at h5) (fun z => by subst z; simp at h5) (fun z => by subst z; simp at h5) (isFn_ok h1) (isLoc_ok h6.1) (isLoc_ok h6.2.1) (isLoc_ok h6.2.2) h7.2.1 h7.2.2 (bnot h8) (bnot h9) h10 hL
        · cases q1
mutual
theorem okS {N : List Str} {sc : Scope} : ∀ (ir : IS) (s : Stmt), chkS st N sc ir s = true → ∀ (W : WX) (X : Cx), Good G W N sc sc lv X → PS X s (tS G W (evS C ir))
  | .asg t e, s, h, W, X, g => by
    rw [chkS] at h
    cases q : asAsg s with
    | none => rw [q] at h; cases h
    | some r =>
      obtain ⟨tg, v⟩ := r
      rw [q] at h
      obtain ⟨h, h5⟩ := Bool.and_eq_true_iff.mp h
      obtain ⟨h, h4⟩ := Bool.and_eq_true_iff.mp h
      obtain ⟨h, h3⟩ := Bool.and_eq_true_iff.mp h
      obtain ⟨h1, h2⟩ := Bool.and_eq_true_iff.mp h
      obtain ⟨p, rfl⟩ := asAsg_eq q
      rw [evS]
      exact PS.imp (ps_asg (okE hy sc sc e v h2 W X g) (okg t tg h1 W X g) (swaps_of h3) (swapOk_of h4) (assign1_of h5)) rd_asg
  | .par is es, s, h, W, X, g => by
    rw [evS]
    exact okPar hy h g
  | .asgC i own t it c el, s, h, W, X, g => by
    rw [chkS] at h
    cases q : asAsg s with
    | none => rw [q] at h; cases h
    | some r =>
      obtain ⟨tg, v⟩ := r
      rw [q] at h
      dsimp only at h
      obtain ⟨p, rfl⟩ := asAsg_eq q
      cases q1 : asNmPos tg with
      | none => rw [q1] at h; cases h
      | some r1 =>
        obtain ⟨y, py⟩ := r1
        cases q2 : asCompP v with
        | none => rw [q1, q2] at h; cases h
        | some r2 =>
          obtain ⟨elt, tg2, iter, ifs, scope, pos⟩ := r2
          rw [q1, q2] at h
          dsimp only at h
          obtain ⟨h, h10⟩ := Bool.and_eq_true_iff.mp h
          obtain ⟨h, h9⟩ := Bool.and_eq_true_iff.mp h
          obtain ⟨h, h8⟩ := Bool.and_eq_true_iff.mp h
          obtain ⟨h, h7⟩ := Bool.and_eq_true_iff.mp h
          obtain ⟨h, h6⟩ := Bool.and_eq_true_iff.mp h
          obtain ⟨h, h5⟩ := Bool.and_eq_true_iff.mp h
          obtain ⟨h, h4⟩ := Bool.and_eq_true_iff.mp h
          obtain ⟨h, h3⟩ := Bool.and_eq_true_iff.mp h
          obtain ⟨h1, h2⟩ := Bool.and_eq_true_iff.mp h
          have e1 := asNmPos_eq q1
          have e2 := asCompP_eq q2
          subst e1
          subst e2
          rw [evS]
          exact ok_asgComp g (of_decide_eq_true h1) (isLoc_ok h2) h3 (okI hy sc sc it tg2 iter h6 W X g) h4 (fun X' g' => okg t tg2 h5 W0 X' g') (fun X' g' => okC hy (relab sc scope) scope c ifs h8 W0 X' g') (fun X' g' => okE hy (relab sc scope) scope el elt h9 W0 X' g') h7 (fun j hj => List.contains_iff_mem.mp (List.all_eq_true.mp h10 j hj))
  | .aug i op e, s, h, W, X, g => by
    rw [chkS] at h
    cases q : asAugS s with
    | none => rw [q] at h; cases h
    | some r =>
      obtain ⟨x, o, v⟩ := r
      rw [q] at h
      obtain ⟨h, h4⟩ := Bool.and_eq_true_iff.mp h
      obtain ⟨h, h3⟩ := Bool.and_eq_true_iff.mp h
      obtain ⟨h1, h2⟩ := Bool.and_eq_true_iff.mp h
      have e1 : op = o := of_decide_eq_true h1
      subst e1
      obtain ⟨p', p, rfl⟩ := asAugS_eq q
      rw [evS]
      exact ok_aug g (of_decide_eq_true h2) (locB_ok h3) (okE hy sc sc e v h4 W X g)
  | .ret e, s, h, W, X, g => by
    rw [chkS] at h
    cases q : asRet s with
    | none => rw [q] at h; cases h
    | some v =>
      rw [q] at h
      obtain ⟨p, rfl⟩ := asRet_eq q
      rw [evS]
      exact ok_ret (okE hy sc sc e v h W X g)
  | .expr e, s, h, W, X, g => by
    rw [chkS] at h
    cases q : asExpr s with
    | none => rw [q] at h; cases h
    | some v =>
      rw [q] at h
      obtain ⟨h1, h2⟩ := Bool.and_eq_true_iff.mp h
      obtain ⟨p, rfl⟩ := asExpr_eq q
      rw [evS]
      exact ok_expr (okE hy sc sc e v h1 W X g) h2
  | .ifS c a b, s, h, W, X, g => by
    rw [chkS] at h
    cases q : asIfS s with
    | none => rw [q] at h; cases h
    | some r =>
      obtain ⟨x, y, z⟩ := r
      rw [q] at h
      obtain ⟨h, h4⟩ := Bool.and_eq_true_iff.mp h
      obtain ⟨h, h3⟩ := Bool.and_eq_true_iff.mp h
      obtain ⟨h1, h2⟩ := Bool.and_eq_true_iff.mp h
      obtain ⟨p, rfl⟩ := asIfS_eq q
      rw [evS]
      exact ok_if (okT hy sc sc c x h1 h2 W X g) (okSs a y h3 W X g) (okSs b z h4 W X g)
  | .forS t it b, s, h, W, X, g => by
    rw [chkS] at h
    cases q : asFor s with
    | none => rw [q] at h; cases h
    | some r =>
      obtain ⟨tg, iter, body⟩ := r
      rw [q] at h
      obtain ⟨h, h4⟩ := Bool.and_eq_true_iff.mp h
      obtain ⟨h, h3⟩ := Bool.and_eq_true_iff.mp h
      obtain ⟨h1, h2⟩ := Bool.and_eq_true_iff.mp h
      obtain ⟨p, rfl⟩ := asFor_eq q
      rw [evS]
      exact ok_for g (okI hy sc sc it tg iter h2 W X g) (okg t tg h1 W X g) (okSs b body h4 W X g) h3
  | .whl c b, s, h, W, X, g => by
    rw [chkS] at h
    cases q : asWhl s with
    | none => rw [q] at h; cases h
    | some r =>
      obtain ⟨x, body⟩ := r
      rw [q] at h
      obtain ⟨h, h3⟩ := Bool.and_eq_true_iff.mp h
      obtain ⟨h1, h2⟩ := Bool.and_eq_true_iff.mp h
      obtain ⟨p, rfl⟩ := asWhl_eq q
      rw [evS]
      exact ok_while g (okT hy sc sc c x h1 h2 W X g) (okSs b body h3 W X g)
  | .pass, s, h, W, X, g => by
    rw [chkS] at h
    obtain ⟨p, rfl⟩ := asPass_eq h
    rw [evS]
    exact ok_pass
  | .brk, s, h, W, X, g => by
    rw [chkS] at h
    obtain ⟨p, rfl⟩ := asBrk_eq h
    rw [evS]
    exact ok_brk
  | .cnt, s, h, W, X, g => by
    rw [chkS] at h
    obtain ⟨p, rfl⟩ := asCnt_eq h
    rw [evS]
    exact ok_cnt
  | .never, s, h, W, X, g => by
    rw [evS]
    exact ok_never
theorem okSs {N : List Str} {sc : Scope} : ∀ (ir : ISs) (ss : List Stmt), chkSs st N sc ir ss = true → ∀ (W : WX) (X : Cx), Good G W N sc sc lv X → PSs X ss (tS G W (evSs C ir))
  | .nil, [], h, W, X, g => by
    rw [evSs]
    exact oks_nil
  | .cons s r, x :: xs, h, W, X, g => by
    rw [chkSs] at h
    obtain ⟨h1, h2⟩ := Bool.and_eq_true_iff.mp h
    rw [evSs]
    exact oks_cons (okS s x h1 W X g) (okSs r xs h2 W X g)
  | .frz i r, xs, h, W, X, g => by
    rw [chkSs] at h
    rw [evSs]
    exact oks_frz (okSs r xs h W X g)
  | .nil, _ :: _, h, _, _, _ => by have h : false = true := h; cases h
  | .cons _ _, [], h, _, _, _ => by have h : false = true := h; cases h
end
end
end PD

/-! PD13: the defs of a text keep what the evaluator says; a law's end. -/
namespace PD
open PySem L2

theorem Rl.adopt {K : PySem.W.Frag} {B F0 F H : Hp} {m : List Addr} {S : Store} {a : Addr} {o : SO} (r : Rl K B F0 F H m S) (hB : B a = none) (hf : F a = none) (hm : a ∉ m) (ho : ORep K F H a o) : Rl K B F0 F H (m ++ [a]) (S ++ [some o]) where
  ex := r.ex
  exB := r.exB
  f0 := r.f0
  nw := r.nw
  len := by rw [List.length_append, List.length_append, r.len]; rfl
  nd := by
    rw [List.nodup_append]
    refine ⟨r.nd, by simp, fun b hb c hc => ?_⟩
    rw [List.mem_singleton] at hc
    rw [hc]
    exact ne_mem hm hb
  al := fun b hb => by
    rcases List.mem_append.mp hb with h | h
    · exact r.al b h
    · rw [List.mem_singleton] at h
      rw [h]
      exact ⟨hB, ho.some, r.f0.none hf⟩
  ob := fun n so h => by
    by_cases hn : n < S.length
    · rw [List.getElem?_append_left hn] at h
      obtain ⟨b, h1, h2, h3⟩ := r.ob n so h
      exact ⟨b, pre_get (List.prefix_append m [a]) h1, h2, h3⟩
    · have hn2 : n = S.length := by
        have := (List.getElem?_eq_some_iff.mp h).1
        rw [List.length_append] at this
        simp at this
        omega
      subst hn2
      rw [List.getElem?_append_right (Nat.le_refl _)] at h
      simp at h
      subst h
      refine ⟨a, ?_, hf, ho⟩
      rw [← r.len, List.getElem?_append_right (Nat.le_refl _)]
      simp
/-- the slots at a def's entry -/
def entry (slots : Nat) (ds : List D) : Env := ds.map (fun d => some (.d d)) ++ List.replicate (slots - ds.length) none
theorem entry_env {K : PySem.W.Frag} {F : Hp} {N : List Str} {xs : List V} {ds : List D} (r : Reps K F xs ds) : EnvR K F [] (L2.start N xs) (entry N.length ds) := by
  unfold L2.start entry
  refine ⟨by simp [r.length], fun i v h => ?_⟩
  by_cases hi : i < ds.length
  · rw [List.getElem?_append_left (by rw [List.length_map]; exact hi), List.getElem?_map] at h
    cases q : ds[i]? with
    | none => rw [q] at h; cases h
    | some d =>
      rw [q] at h
      cases h
      obtain ⟨x, h1, h2⟩ := r.get q
      refine ⟨x, ?_, h2⟩
      rw [List.getElem?_append_left (by rw [List.length_map, r.length]; exact hi), List.getElem?_map, h1]
      rfl
  · rw [List.getElem?_append_right (by rw [List.length_map]; omega)] at h
    rw [List.getElem?_replicate] at h
    split at h <;> cases h
/-- a def of the text -/
structure FDef where
  id : String
  nm : Str
  ps : List Str
  N : List Str
  body : ISs
/-- what stands of it behind the top -/
structure FnAt (K : PySem.W.Frag) (mg : Str → Option Value) (st : Stc) (d : FDef) (params : Arguments) (body : List Stmt) (scope : Scope) : Prop where
  fd : ∃ (f : Addr) (fd : FuncData) (x qual : Str) (kws : List (Str × V)), FunD K x qual params body scope [] kws f fd ∧ mg d.nm = some (.ref f) ∧ Binds K fd d.ps []
  sc : FnScope d.N d.ps scope
  ck : chkSs st d.N scope d.body body = true
/-- one def keeps its promise, if those that it calls do -/
theorem fn_stepO {G : Gm} {st : Stc} {lv : Nat} {C : Ctx} (hy : Hyp G st lv C) {x qual : Str} {params : Arguments} {body : List Stmt} {scope : Scope} {kws : List (Str × V)} {f : Addr} {fd : FuncData} (FF : FunD G.K x qual params body scope [] kws f fd) {N ps : List Str} (hs : FnScope N ps scope) {ir : ISs} (hc : chkSs st N scope ir body = true) :
    FnOk G.P G.w G.K G.mg G.base (L2.CX G.P G.w) (lv + 1) f fd ps (spS G ps.length (callP C N.length ir)) := by
    refine FF.ok hs (fun vs H Q E h => h.1) fun cdv A outer s H xs Q E hr h => ?_
    obtain ⟨hl, B, F0, F, m, S, vs, rl, vr, h⟩ := h
    have good : Good G (fun cls d _ H => E cls d H) N scope scope lv (cxOf (L2.CX G.P G.w) G.P G.w G.K G.mg G.base N qual scope f cdv A outer s H E) :=
      { prog := rfl, w := rfl, K := rfl, mg := rfl, base := rfl, hN := rfl, hs := rfl, calm := rfl, room := hr, tk := takes_of rfl rfl rfl rfl, nd := hs.nd, fn := fun _ _ => rfl, po := passes_of rfl }
    refine ⟨_, okSs hy ir body hc _ _ good, ?_⟩
    unfold callP at h
    cases q : asPs vs with
    | none =>
      rw [q] at h
      exact h.elim
    | some ds =>
      rw [q] at h
      have rr := asPs_reps vr q
      refine ⟨H, F, F, [], entry N.length ds, [], ⟨entry_env rr, Rl.entry rl.ex⟩, ?_⟩
      have h : (match (runP C N.length ir ds).at_ S with
        | .ok v S' => ∀ x H' F' m', Ex F F' → m <+: m' → Rl G.K B F0 F' H' m' S' → VRep G.K F' m' x v → Q x H'
        | .exc c y S' => ∀ cls d H' F' m', Ex F F' → m <+: m' → Rl G.K B F0 F' H' m' S' → XRep G F' c y cls d → E cls d H'
        | .bad => False) := h
      have hrun : runP C N.length ir ds = outP (evSs C ir (entry N.length ds) []) := rfl
      rw [hrun] at h
      cases o : evSs C ir (entry N.length ds) [] with
      | nx ρ' S' =>
        rw [o] at h
        exact fun σ' H' F' m' e p a => h .non H' F' m e (List.prefix_refl m) (rl.ext a.rl.leave) .non
      | ret v S' =>
        rw [o] at h
        cases v with
        | d y => exact fun z H' F' m' e p r vr => h z H' F' m e (List.prefix_refl m) (rl.ext r.leave) vr
        | loc n =>
          intro z H' F' m' e p r vr
          obtain ⟨a, ha, rfl⟩ := vr
          have h : (match (match S'[n]? with | some (some o) => RP.new o | _ => .bad).at_ S with
            | .ok v S' => ∀ x H' F' m', Ex F F' → m <+: m' → Rl G.K B F0 F' H' m' S' → VRep G.K F' m' x v → Q x H'
            | .exc c y S' => ∀ cls d H' F' m', Ex F F' → m <+: m' → Rl G.K B F0 F' H' m' S' → XRep G F' c y cls d → E cls d H'
            | .bad => False) := h
          cases q2 : S'[n]? with
          | none => rw [q2] at h; exact h.elim
          | some so =>
            cases so with
            | none => rw [q2] at h; exact h.elim
            | some ob =>
              rw [q2] at h
              obtain ⟨b, hb', hf, ho⟩ := r.ob n ob q2
              rw [ha] at hb'
              cases hb'
              have hH : H a = none := (r.al a (List.mem_of_getElem? ha)).1
              have rl' := rl.ext r.leave
              refine h _ H' F' (m ++ [a]) e (List.prefix_append _ _) (rl'.adopt (rl.exB.none hH) hf (fun hm => (rl.al a hm).2.1 hH) ho) ⟨a, ?_, rfl⟩
              rw [← rl.len, List.getElem?_append_right (Nat.le_refl _)]
              simp
      | brk ρ' S' => rw [o] at h; exact h.elim
      | cnt ρ' S' => rw [o] at h; exact h.elim
      | exc c y ρ' S' =>
        rw [o] at h
        exact fun cls d σ' H' F' m' e p a xr => h cls d H' F' m e (List.prefix_refl m) (rl.ext a.rl.leave) xr
      | bad => rw [o] at h; exact h.elim
theorem fn_step {G : Gm} {st : Stc} {lv : Nat} {C : Ctx} (hy : Hyp G st lv C) {x qual : Str} {params : Arguments} {body : List Stmt} {scope : Scope} {kws : List (Str × V)} {f : Addr} {fd : FuncData} (FF : FunD G.K x qual params body scope [] kws f fd) {N ps : List Str} (hs : FnScope N ps scope) {ir : ISs} (hc : chkSs st N scope ir body = true) (hb : Binds G.K fd ps []) :
    FnIs G (lv + 1) f ps.length (callP C N.length ir) where
  kp := FF.kp
  ok := ⟨fd, ps, rfl, hb, fn_stepO hy FF hs hc⟩
/-- a def of which nothing is said -/
theorem fn_none {G : Gm} {lv n : Nat} {x qual : Str} {params : Arguments} {body : List Stmt} {scope : Scope} {kws : List (Str × V)} {f : Addr} {fd : FuncData} (FF : FunD G.K x qual params body scope [] kws f fd) {ps : List Str} (hn : ps.length = n) (hb : Binds G.K fd ps []) : FnIs G lv f n (fun _ => M.fail) where
  kp := FF.kp
  ok := ⟨fd, ps, hn, hb, fun vs H Q E h => by rw [hn]; exact h.1, fun A outer s H args us vs Q E _ _ _ _ h => by
    obtain ⟨_, _, _, _, _, _, _, _, _, h⟩ := h
    exact h.elim⟩

/-! ### the table -/
def stOf (fr : List Str) (gs : List (Str × D)) (T : List FDef) : Stc := ⟨fr, gs, T.map fun d => (d.id, d.nm, d.ps.length)⟩
noncomputable def cfN (gs : List (Str × D)) (T : List FDef) : Nat → String → List Val → M Val
  | 0, _ => fun _ => M.fail
  | n + 1, f => match T.find? (fun d => decide (d.id = f)) with
    | some d => callP ⟨cfN gs T n, fun x => gs.lookup x⟩ d.N.length d.body
    | none => fun _ => M.fail
noncomputable def cxN (gs : List (Str × D)) (T : List FDef) (n : Nat) : Ctx := ⟨cfN gs T n, fun x => gs.lookup x⟩
/-- all that stands behind the top -/
structure TabAt (G : Gm) (fr : List Str) (gs : List (Str × D)) (T : List FDef) : Prop where
  hfr : ∀ x, fr.contains x = true → G.mg x = none
  hgs : ∀ x d, gs.lookup x = some d → GloIs G x d
  fs : ∀ d ∈ T, ∃ params body scope, FnAt G.K G.mg (stOf fr gs T) d params body scope
  un : ∀ d ∈ T, T.find? (fun e => decide (e.id = d.id)) = some d
theorem hyp_all {G : Gm} {fr : List Str} {gs : List (Str × D)} {T : List FDef} (h : TabAt G fr gs T) : ∀ n, Hyp G (stOf fr gs T) n (cxN gs T n)
  | 0 => ⟨h.hfr, h.hgs, fun _ => rfl, fun t ht => by
    obtain ⟨d, hd, rfl⟩ := List.mem_map.mp ht
    obtain ⟨params, body, scope, FA⟩ := h.fs d hd
    obtain ⟨f, fd, x, qual, kws, FF, hm, hb⟩ := FA.fd
    exact ⟨f, hm, fn_none FF rfl hb⟩⟩
  | n + 1 => ⟨h.hfr, h.hgs, fun _ => rfl, fun t ht => by
    obtain ⟨d, hd, rfl⟩ := List.mem_map.mp ht
    obtain ⟨params, body, scope, FA⟩ := h.fs d hd
    obtain ⟨f, fd, x, qual, kws, FF, hm, hb⟩ := FA.fd
    refine ⟨f, hm, ?_⟩
    have e : (cxN gs T (n + 1)).cf d.id = callP (cxN gs T n) d.N.length d.body := by
      show cfN gs T (n + 1) d.id = _
      rw [cfN, h.un d hd]
      rfl
    show FnIs G (n + 1) f d.ps.length ((cxN gs T (n + 1)).cf d.id)
    rw [e]
    exact fn_step (hyp_all h n) FF FA.sc FA.ck hb⟩

/-! ### a law's end -/
theorem walk_ofP {l : PySem.W.OpenLaw} {n k : Nat} {q : Program} {loose : List Str} {XP : (Str → Option Value) → Heap → Prop} {YP : World → Heap → Prop} {d : DefRec} {x : Str}
    (hn : l.most = some n) (hn2 : n ≤ sizeLine) (hdf : d.params.defaults = []) (hr : Room k callerA)
    (F : ∀ (w : World) (mg : Str → Option Value) (fa : Addr) (h : Heap), YP w h → h.Ns mainGlobals mg → mg d.name = some (.ref fa) →
      ∃ (K : PySem.W.Frag) (fd : FuncData) (sp : Sp), K.In h ∧ (∀ (s : Shared) (u : Value), BindsTo s fd ⟨[u], []⟩ [(x, u)]) ∧
        (∀ (H : Hp) (a : Addr) (ns : List Int), ns.length ≤ n → SqL K H a (ns.map V.int) → sp [.ref a] H (fun v _ => v = .bl true) fun _ _ _ => False) ∧
        ∀ base : Heap, K.In base → base.Ns mainGlobals mg → FnOk l.prog w K mg base (L2.CX l.prog w) k fa fd [x] sp) :
    PySem.W.WalkO q loose XP YP l.row.toRowW d [] (fun f vs => PySem.call f vs) := by
  refine Att.attach_call hn hdf fun w s₀ s₁ mg mb fa o pm cd doc a vs ns G Y ho hd hcd hmg hobj hints hlen hg => ?_
  obtain ⟨K, fd, sp, KX, hb, hsp, hF⟩ := F w mg fa _ Y G.T.g hmg
  refine law_call KX G.T.g G.T.b G.T.builtins G.T.nolimit hg hobj hints (Nat.le_trans hlen hn2) hr hF hb (fun H hO hS => hsp H a ns hlen hS) fun H e s' z => ?_
  obtain ⟨_, _, _, _, _, _, _, _, _, _, _, _, w⟩ := z
  exact w
/-- the law's run on a script says True -/
def LawOk (gs : List (Str × D)) (T : List FDef) (k : Nat) (f : String) (n : Nat) : Prop := ∀ ns : List Int, ns.length ≤ n → cfN gs T k f [.d (.scr ns)] [] = .ok (.d (.bl true)) []
theorem law_sp {G : Gm} {sem : List Val → M Val} {H : Hp} {a : Addr} {ns : List Int} (hS : SqL G.K H a (ns.map V.int)) (h : ∀ S, sem [.d (.scr ns)] S = .ok (.d (.bl true)) S) : spS G 1 sem [.ref a] H (fun v _ => v = .bl true) fun _ _ _ => False := by
  refine ⟨rfl, H, H, H, [], [], [.d (.scr ns)], Rl.entry (Ex.refl _), .cons (.scr hS) .nil, ?_⟩
  rw [h]
  exact fun x H' F' m' _ _ _ vr => Rep.bl_ vr
theorem callP_store {C : Ctx} {n : Nat} {ir : ISs} {ds : List D} {y : D} (h : callP C n ir (ds.map .d) [] = .ok (.d y) []) (S : Store) : callP C n ir (ds.map .d) S = .ok (.d y) S := by
  have e : asPs (ds.map Val.d) = some ds := by
    clear h
    induction ds with
    | nil => rfl
    | cons d ds ih =>
      show (asPs (ds.map Val.d)).map (d :: ·) = _
      rw [ih]
      rfl
  unfold callP at h ⊢
  rw [e] at h ⊢
  dsimp only at h ⊢
  cases q : runP C n ir ds with
  | ok d =>
    rw [q] at h
    have h : (R.ok (Val.d d) [] : R Val) = .ok (.d y) [] := h
    cases h
    rfl
  | new o =>
    rw [q] at h
    cases h
  | exc c x =>
    rw [q] at h
    cases h
  | bad =>
    rw [q] at h
    cases h
end PD

/-! PD14: what the head tells, read by one Bool. -/
namespace PD
open PySem L2

/-! ### constants of the module -/
mutual
def repB (K : PySem.W.Frag) : D → Value → Bool
  | .non, u => (match u with | .none => true | _ => false)
  | .bl b, u => (match u with | .bool c => b == c | _ => false)
  | .int i, u => (match u with | .int j _ => decide (i = j) | _ => false)
  | .str s, u => (match u with | .str t _ => decide (s = t) | _ => false)
  | .tup ds, u => (match u with
    | .ref a => (match K.lookup a with
      | some ⟨.type c, _, .seq its _, _⟩ => decide (c = "tuple") && (decide (its.size ≤ sizeLine) && repBs K ds its.toList)
      | _ => false)
    | _ => false)
  | _, _ => false
def repBs (K : PySem.W.Frag) : List D → List Value → Bool
  | [], [] => true
  | d :: ds, u :: us => repB K d u && repBs K ds us
  | _, _ => false
end
mutual
theorem repB_ok {K : PySem.W.Frag} : ∀ {d : D} {u : Value}, repB K d u = true → ∃ v, RelV v u ∧ ∀ F, Rep K F v d
  | .non, u, h => by
    cases u <;> first | (have h : false = true := h; cases h; done) | exact ⟨.non, rfl, fun _ => .non⟩
  | .bl b, u, h => by
    cases u <;> first | (have h : false = true := h; cases h; done) | skip
    rename_i c
    have h : (b == c) = true := h
    rw [beq_iff_eq] at h
    subst h
    exact ⟨.bl b, rfl, fun _ => .bl b⟩
  | .int i, u, h => by
    cases u <;> first | (have h : false = true := h; cases h; done) | skip
    rename_i j t
    have h : decide (i = j) = true := h
    have h := of_decide_eq_true h
    subst h
    exact ⟨.int i, ⟨t, rfl⟩, fun _ => .int i⟩
  | .str s, u, h => by
    cases u <;> first | (have h : false = true := h; cases h; done) | skip
    rename_i j t
    have h : decide (s = j) = true := h
    have h := of_decide_eq_true h
    subst h
    exact ⟨.str s, ⟨t, rfl⟩, fun _ => .str s⟩
  | .tup ds, u, h => by
    cases u <;> first | (have h : false = true := h; cases h; done) | skip
    rename_i a
    have h : (match K.lookup a with
      | some ⟨.type c, _, .seq its _, _⟩ => decide (c = "tuple") && (decide (its.size ≤ sizeLine) && repBs K ds its.toList)
      | _ => false) = true := h
    cases q : K.lookup a with
    | none => rw [q] at h; cases h
    | some o =>
      obtain ⟨oc, od, dt, osl⟩ := o
      rw [q] at h
      cases oc <;> first | (cases h; done) | skip
      rename_i c
      cases dt <;> first | (cases h; done) | skip
      rename_i its n
      obtain ⟨h1, h2⟩ := Bool.and_eq_true_iff.mp h
      obtain ⟨h3, h4⟩ := Bool.and_eq_true_iff.mp h2
      obtain ⟨vs, r1, r2⟩ := repBs_ok h4
      exact ⟨.ref a, rfl, fun F => .tup (.inr ⟨_, its, n, q, congrArg Value.type (of_decide_eq_true h1), rfl, of_decide_eq_true h3, r1⟩) (r2 F)⟩
  | .lst _, _, h => by have h : false = true := h; cases h
  | .dct _, _, h => by have h : false = true := h; cases h
  | .obj _ _, _, h => by have h : false = true := h; cases h
  | .scr _, _, h => by have h : false = true := h; cases h
theorem repBs_ok {K : PySem.W.Frag} : ∀ {ds : List D} {us : List Value}, repBs K ds us = true → ∃ vs, Vals vs us ∧ ∀ F, Reps K F vs ds
  | [], [], h => ⟨[], .nil, fun _ => .nil⟩
  | d :: ds, u :: us, h => by
    rw [repBs, Bool.and_eq_true] at h
    obtain ⟨v, h1, h2⟩ := repB_ok h.1
    obtain ⟨vs, h3, h4⟩ := repBs_ok h.2
    exact ⟨v :: vs, .cons h1 h3, fun F => .cons (h2 F) (h4 F)⟩
  | [], _ :: _, h => by have h : false = true := h; cases h
  | _ :: _, [], h => by have h : false = true := h; cases h
end
def gloKB (K : PySem.W.Frag) (x : Str) (d : D) : Bool := match PySem.W.nsIn K mainGlobals x with
  | some (some u) => repB K d u
  | _ => false
theorem gloKB_ok {K : PySem.W.Frag} {h : Heap} {mg : Str → Option Value} (X : K.In h) (G : h.Ns mainGlobals mg) {x : Str} {d : D} (c : gloKB K x d = true) : ∃ (u : Value) (v : V), mg x = some u ∧ RelV v u ∧ ∀ F, Rep K F v d := by
  unfold gloKB at c
  cases q : PySem.W.nsIn K mainGlobals x with
  | none => rw [q] at c; cases c
  | some o =>
    rw [q] at c
    cases o with
    | none => cases c
    | some u =>
      obtain ⟨v, h1, h2⟩ := repB_ok c
      exact ⟨u, v, PySem.W.mg_of X G q, h1, h2⟩

/-! ### the Hook -/
def obsP (fa : List He.Fa) (fn : List He.DefD) (ex : PySem.W.Frag → Bool) (K : PySem.W.Frag) : He.AlD := ((fa.all fun f => f.ok K) && (fn.all fun d => d.ok K) && ex K, fn.map fun d => He.fnW K d.at_)
def SaysP (fa : List He.Fa) (fn : List He.DefD) (ex : PySem.W.Frag → Bool) (K : PySem.W.Frag) : Prop := obsP fa fn ex K = He.valD fn
def obsPG (n : Nat) (fa : List He.Fa) (fn : List He.DefD) (ex : PySem.W.Frag → Bool) (g : Addr → Option Obj) : He.AlD := obsP fa fn ex (He.frG g (He.asD g n))
def hookP (n : Nat) (fa : List He.Fa) (fn : List He.DefD) (ex : PySem.W.Frag → Bool) : PySem.W.Hook where
  α := He.AlD
  obs := fun s => obsPG n fa fn ex s.heap.get?
  val := fun _ => He.valD fn
  says := fun _ h => ∃ K : PySem.W.Frag, K.In h ∧ SaysP fa fn ex K
  of := fun _ _ e => ⟨_, He.frG_in, e⟩
  keeps := fun _ _ _ ⟨K, hK, c⟩ k => ⟨K, PySem.W.Frag.In.keeps hK k, c⟩
theorem obsPG_eq {n : Nat} {fa : List He.Fa} {fn : List He.DefD} {ex : PySem.W.Frag → Bool} {g : Addr → Option Obj} {s : Shared} (h : ∀ a, g a = s.heap.get? a) : obsPG n fa fn ex g = (hookP n fa fn ex).obs s := by
  have e : g = s.heap.get? := funext h
  rw [e] <;> rfl
section
variable {fa : List He.Fa} {fn : List He.DefD} {ex : PySem.W.Frag → Bool} {K : PySem.W.Frag}
theorem SaysP.parts (c : SaysP fa fn ex K) : (∀ f ∈ fa, f.ok K = true) ∧ (∀ d ∈ fn, d.ok K = true) ∧ ex K = true := by
  have c1 : ((fa.all fun f => f.ok K) && (fn.all fun d => d.ok K) && ex K) = true := congrArg (fun z : He.AlD => z.1) c
  obtain ⟨c2, c3⟩ := Bool.and_eq_true_iff.mp c1
  obtain ⟨c4, c5⟩ := Bool.and_eq_true_iff.mp c2
  exact ⟨List.all_eq_true.mp c4, List.all_eq_true.mp c5, c3⟩
theorem SaysP.def_ (c : SaysP fa fn ex K) {d : He.DefD} (h : d ∈ fn) : ∃ fd, FunD K d.name d.qual d.params d.body d.scope (d.dvs K) (d.kws K) (He.fAd K d.at_) fd := by
  have e : fn.map (fun d => He.fnW K d.at_) = fn.map He.DefD.val := congrArg (fun z : He.AlD => z.2) c
  obtain ⟨i, hi⟩ := List.mem_iff_getElem?.mp h
  have e2 : (fn.map fun d => He.fnW K d.at_)[i]? = (fn.map He.DefD.val)[i]? := by rw [e]
  rw [List.getElem?_map, List.getElem?_map, hi] at e2
  exact He.DefD.funD (Option.some.inj e2) (c.parts.2.1 d h)
end

/-! ### the defs -/
def BindP (d : FDef) (s : Stmt) : Prop := ∀ (kV doc pm : Value) (an : Option Addr) (cdv ct : Value) (us : List Value), us.length = d.ps.length → bindArgs (PySem.W.fnOf d.nm d.nm (defArgs s) (defBody s) (defScope s) .none kV doc pm an cdv ct) ⟨us, []⟩ = pure (d.ps.zip us)
def AllB : List (FDef × Stmt) → Prop
  | [] => True
  | p :: T => BindP p.1 p.2 ∧ AllB T
theorem AllB.mem : ∀ {T : List (FDef × Stmt)}, AllB T → ∀ p ∈ T, BindP p.1 p.2
  | [], _, p, hp => by cases hp
  | q :: T, h, p, hp => by
    rcases List.mem_cons.mp hp with e | hp
    · subst e; exact h.1
    · exact h.2.mem p hp
theorem lookup_mem {x : Str} {d : D} : ∀ {gs : List (Str × D)}, gs.lookup x = some d → (x, d) ∈ gs
  | [], h => by cases h
  | p :: gs, hd => by
    rw [List.lookup_cons] at hd
    cases q : (x == p.1) with
    | true =>
      rw [q] at hd
      cases hd
      rw [beq_iff_eq] at q
      subst q
      exact List.mem_cons_self ..
    | false =>
      rw [q] at hd
      exact List.mem_cons_of_mem _ (lookup_mem hd)
def scopeB (N P : List Str) (sc : Scope) : Bool := isFn sc && !sc.isCoroutine && !sc.isGenerator && decide N.Nodup && decide (N.take P.length = P) && P.all (fun x => (match sc.names.lookup x with | some .local => true | some .cell => true | _ => false)) && sc.names.all (fun y => (match y.2 with | .free => false | _ => true))
theorem scopeB_ok {N P : List Str} {sc : Scope} (h : scopeB N P sc = true) : FnScope N P sc := by
  obtain ⟨h, h7⟩ := Bool.and_eq_true_iff.mp h
  obtain ⟨h, h6⟩ := Bool.and_eq_true_iff.mp h
  obtain ⟨h, h5⟩ := Bool.and_eq_true_iff.mp h
  obtain ⟨h, h4⟩ := Bool.and_eq_true_iff.mp h
  obtain ⟨h, h3⟩ := Bool.and_eq_true_iff.mp h
  obtain ⟨h1, h2⟩ := Bool.and_eq_true_iff.mp h
  refine ⟨isFn_ok h1, bnot h2, bnot h3, of_decide_eq_true h4, of_decide_eq_true h5, fun x hx => ?_, fun y hy z => ?_⟩
  · have := List.all_eq_true.mp h6 x hx
    split at this
    · exact .inl (by assumption)
    · exact .inr (by assumption)
    · cases this
  · have := List.all_eq_true.mp h7 y hy
    rw [z] at this
    cases this
/-- one def against its text -/
def defB (st : Stc) (d : FDef) (s : Stmt) : Bool := scopeB d.N d.ps (defScope s) && chkSs st d.N (defScope s) d.body (defBody s)
def tabB (fr : List Str) (gs : List (Str × D)) (T : List (FDef × Stmt)) : Bool := T.all (fun p => defB (stOf fr gs (T.map (·.1))) p.1 p.2)
def unB (T : List FDef) : Bool := decide (T.map (·.id)).Nodup
theorem find_of {T : List FDef} (h : (T.map (·.id)).Nodup) : ∀ d ∈ T, T.find? (fun e => decide (e.id = d.id)) = some d := by
  induction T with
  | nil => intro d hd; cases hd
  | cons a T ih =>
    rw [List.map_cons, List.nodup_cons] at h
    intro d hd
    rcases List.mem_cons.mp hd with e | hd
    · subst e
      rw [List.find?_cons, decide_eq_true rfl]
    · have hne : ¬ a.id = d.id := fun z => h.1 (by rw [z]; exact List.mem_map_of_mem hd)
      rw [List.find?_cons, decide_eq_false hne]
      exact ih h.2 d hd
/-- what the head is asked -/
def faOf (fr : List Str) (T : List (FDef × Stmt)) : List He.Fa := fr.map .free ++ T.map fun p => .glo p.1.nm
def fnOfT (T : List (FDef × Stmt)) : List He.DefD := T.map fun p => ⟨(p.1.nm, none), p.1.nm, p.1.nm, defArgs p.2, defBody p.2, defScope p.2, [], []⟩
def exOf (gs : List (Str × D)) (K : PySem.W.Frag) : Bool := gs.all fun p => gloKB K p.1 p.2
theorem tab_of {P : Program} {w : World} {K : PySem.W.Frag} {h : Heap} {mg : Str → Option Value} {fld : Str → Str} {fr : List Str} {gs : List (Str × D)} {T : List (FDef × Stmt)} (X : K.In h) (G : h.Ns mainGlobals mg) (c : SaysP (faOf fr T) (fnOfT T) (exOf gs) K) (hT : tabB fr gs T = true) (hu : unB (T.map (·.1)) = true) (hB : AllB T) (base : Heap) :
    TabAt ⟨P, w, K, mg, base, fld⟩ fr gs (T.map (·.1)) where
  hfr := fun x hx => by
    have := c.parts.1 (.free x) (List.mem_append_left _ (List.mem_map_of_mem (List.contains_iff_mem.mp hx)))
    exact He.free_ok X G this
  hgs := fun x d hd => by
    have hm : (x, d) ∈ gs := lookup_mem hd
    exact gloKB_ok X G (List.all_eq_true.mp c.parts.2.2 (x, d) hm)
  fs := fun d hd => by
    obtain ⟨p, hp, rfl⟩ := List.mem_map.mp hd
    have hb := List.all_eq_true.mp hT p hp
    obtain ⟨h2, h3⟩ := Bool.and_eq_true_iff.mp hb
    obtain ⟨fd, FF⟩ := c.def_ (List.mem_map_of_mem (f := fun p : FDef × Stmt => (⟨(p.1.nm, none), p.1.nm, p.1.nm, defArgs p.2, defBody p.2, defScope p.2, [], []⟩ : He.DefD)) hp)
    have hg := c.parts.1 (.glo p.1.nm) (List.mem_append_right _ (List.mem_map_of_mem (f := fun p : FDef × Stmt => He.Fa.glo p.1.nm) hp))
    exact ⟨defArgs p.2, defBody p.2, defScope p.2, ⟨_, fd, _, _, _, FF, He.glo_ok X G hg, FF.bindsN (hB.mem p hp)⟩, scopeB_ok h2, h3⟩
  un := find_of (of_decide_eq_true hu)
end PD

/-! PD15: a law from its evaluator's answer. -/
namespace PD
open PySem L2
theorem callP_any {C : Ctx} {n : Nat} {ir : ISs} {vs : List Val} {d : D} (h : callP C n ir vs [] = .ok (.d d) []) (S : Store) : callP C n ir vs S = .ok (.d d) S := by
  unfold callP at h ⊢
  cases q : asPs vs with
  | none => rw [q] at h; cases h
  | some ds =>
    rw [q] at h
    have h : (runP C n ir ds).at_ [] = .ok (.d d) [] := h
    show (runP C n ir ds).at_ S = .ok (.d d) S
    cases q2 : runP C n ir ds with
    | ok e => rw [q2] at h; cases h; rfl
    | new o => rw [q2] at h; cases h
    | exc c y => rw [q2] at h; cases h
    | bad => rw [q2] at h; cases h
theorem law_end {P : Program} {n k : Nat} {fr : List Str} {gs : List (Str × D)} {T : List (FDef × Stmt)} {p : FDef × Stmt} {x : Str} (hT : tabB fr gs T = true) (hu : unB (T.map (·.1)) = true) (hB : AllB T) (hp : p ∈ T) (hid : p.1.id = "law") (hnm : p.1.nm = "law") (hps : p.1.ps = [x]) (hL : LawOk gs (T.map (·.1)) (k + 1) "law" n) (fld : Str → Str)
    (w : World) (mg : Str → Option Value) (fa : Addr) (h : Heap) (Y : ∃ K : PySem.W.Frag, K.In h ∧ SaysP (faOf fr T) (fnOfT T) (exOf gs) K) (G : h.Ns mainGlobals mg) (hmg : mg ("law" : Str) = some (.ref fa)) :
    ∃ (K : PySem.W.Frag) (fd : FuncData) (sp : Sp), K.In h ∧ (∀ (s : Shared) (u : Value), BindsTo s fd ⟨[u], []⟩ [(x, u)]) ∧
        (∀ (H : Hp) (a : Addr) (ns : List Int), ns.length ≤ n → SqL K H a (ns.map V.int) → sp [.ref a] H (fun v _ => v = .bl true) fun _ _ _ => False) ∧
        ∀ base : Heap, K.In base → base.Ns mainGlobals mg → FnOk P w K mg base (L2.CX P w) (k + 1) fa fd [x] sp := by
  obtain ⟨K, X, c⟩ := Y
  obtain ⟨fd, FF⟩ := c.def_ (List.mem_map_of_mem (f := fun p : FDef × Stmt => (⟨(p.1.nm, none), p.1.nm, p.1.nm, defArgs p.2, defBody p.2, defScope p.2, [], []⟩ : He.DefD)) hp)
  have hg := c.parts.1 (.glo p.1.nm) (List.mem_append_right _ (List.mem_map_of_mem (f := fun p : FDef × Stmt => He.Fa.glo p.1.nm) hp))
  have hga := He.glo_ok X G hg
  have e : He.fAd K (p.1.nm, none) = fa := by
    rw [hnm] at hga ⊢
    have := hga.symm.trans hmg
    cases this
    rfl
  have TA : ∀ base, TabAt ⟨P, w, K, mg, base, fld⟩ fr gs (T.map (·.1)) := fun base => tab_of X G c hT hu hB base
  have FF2 : FunD K p.1.nm p.1.nm (defArgs p.2) (defBody p.2) (defScope p.2) [] [] fa fd := e ▸ FF
  have hb := List.all_eq_true.mp hT p hp
  obtain ⟨h2, h3⟩ := Bool.and_eq_true_iff.mp hb
  have ecf : cfN gs (T.map (·.1)) (k + 1) "law" = callP (cxN gs (T.map (·.1)) k) p.1.N.length p.1.body := by
    rw [cfN]
    have := (TA h).un p.1 (List.mem_map_of_mem hp)
    rw [hid] at this
    rw [this]
    rfl
  refine ⟨K, fd, spS ⟨P, w, K, mg, h, fld⟩ 1 (callP (cxN gs (T.map (·.1)) k) p.1.N.length p.1.body), X, ?_, ?_, ?_⟩
  · intro s u
    have b := FunD.bindsA FF2 (hB.mem p hp) s [u] (by rw [hps]; rfl)
    rw [hps] at b
    exact b
  · intro H a ns hl hS
    refine law_sp (G := ⟨P, w, K, mg, h, fld⟩) hS fun S => callP_any ?_ S
    have := hL ns hl
    rw [ecf] at this
    exact this
  · intro base X' G'
    have := fn_stepO (hyp_all (TA base) k) FF2 (scopeB_ok h2) h3
    rw [hps] at this
    exact this
end PD

/-! PE1: equations to run the evaluator by. -/
namespace PD
open PySem L2
def R.opt (o : Option D) (S : Store) : R Val := match o with
  | some d => .ok (.d d) S
  | none => .bad
def R.go {α β : Type} (r : R α) (k : α → Store → R β) : R β := match r with
  | .ok a S => k a S
  | .exc c x S => .exc c x S
  | .bad => .bad
def R.pp {α β : Type} (r : R α) (k : α → M β) : R β := match r with
  | .ok a S => k a S
  | .exc c x S => .exc c x S
  | .bad => .bad
theorem pp_ {α β : Type} : (∀ (a : α) S (k : α → M β), (R.ok a S).pp k = k a S) ∧ (∀ c x S (k : α → M β), (R.exc c x S : R α).pp k = .exc c x S) ∧ (∀ (k : α → M β), (R.bad : R α).pp k = .bad) ∧ (∀ (x : M α) (k : α → M β) S, (x >>= k) S = (x S).pp k) :=
  ⟨fun _ _ _ => rfl, fun _ _ _ _ => rfl, fun _ => rfl, fun _ _ _ => rfl⟩
theorem go_eq {α β : Type} (r : R α) (k : α → M β) : r.bind k = r.go k := by cases r <;> rfl
def R.tupO (o : Option (List D)) (S : Store) : R Val := match o with
  | some ds => if ds.length ≤ sizeLine then .ok (.d (.tup ds)) S else .bad
  | none => .bad
def R.lstO (o : Option (List D)) (S : Store) : R Val := match o with
  | some ds => if ds.length ≤ sizeLine then .ok (.d (.lst ds)) S else .bad
  | none => .bad
def R.newO (o : Option (List D)) (S : Store) : R Val := match o with
  | some ds => if ds.length ≤ sizeLine then .ok (.loc S.length) (S ++ [some (.lst ds)]) else .bad
  | none => .bad
def R.optA (g : List D → Option D) (o : Option (List D)) (S : Store) : R Val := match o with
  | some ds => R.opt (g ds) S
  | none => .bad
def O.nxt (o : O) (k : MS) : O := match o with
  | .nx ρ S => k ρ S
  | o => o
theorem nxt_ : (∀ ρ S (k : MS), (O.nx ρ S).nxt k = k ρ S) ∧ (∀ v S (k : MS), (O.ret v S).nxt k = .ret v S) ∧ (∀ ρ S (k : MS), (O.brk ρ S).nxt k = .brk ρ S) ∧ (∀ ρ S (k : MS), (O.cnt ρ S).nxt k = .cnt ρ S) ∧ (∀ c x ρ S (k : MS), (O.exc c x ρ S).nxt k = .exc c x ρ S) ∧ (∀ (k : MS), O.bad.nxt k = .bad) :=
  ⟨fun _ _ _ => rfl, fun _ _ _ => rfl, fun _ _ _ => rfl, fun _ _ _ => rfl, fun _ _ _ _ _ => rfl, fun _ => rfl⟩
theorem run_ss (C : PD.Ctx) : (∀ ρ S, evSs C .nil ρ S = .nx ρ S) ∧ (∀ s r ρ S, evSs C (.cons s r) ρ S = (evS C s ρ S).nxt (evSs C r)) ∧ (∀ i r ρ S, evSs C (.frz i r) ρ S = (sFrz i ρ S).nxt (evSs C r)) := by
  refine ⟨fun ρ S => ?_, fun s r ρ S => ?_, fun i r ρ S => ?_⟩
  · rw [evSs]; rfl
  · rw [evSs]; show sSeq _ _ ρ S = _; unfold sSeq O.nxt; split <;> simp_all
  · rw [evSs]; show sSeq _ _ ρ S = _; unfold sSeq O.nxt; split <;> simp_all
/-- set by a target, then on -/
def O.ofBind (o : Option Env) (S : Store) : O := match o with
  | some ρ => .nx ρ S
  | none => .bad
theorem run_s (C : PD.Ctx) : (∀ t e ρ S, evS C (.asg t e) ρ S = (evE C e ρ S).into ρ fun v S' => .ofBind (t.bind v ρ) S') ∧
    (∀ is es ρ S, evS C (.par is es) ρ S = (evL C es ρ S).intoL ρ fun vs S' => .ofBind (setAll is vs ρ) S') ∧
    (∀ i own t it c e ρ S, evS C (.asgC i own t it c e) ρ S = (evE C (.comp own t it c e) ρ S).into ρ fun v S' => .nx (ρ.set i (some v)) S') ∧
    (∀ i op e ρ S, evS C (.aug i op e) ρ S = (evVar i ρ S).into ρ fun v S1 => (evE C e ρ S1).into ρ fun w S2 => (op2 (augD op) v w S2).into ρ fun z S3 => .nx (ρ.set i (some z)) S3) ∧
    (∀ e ρ S, evS C (.ret e) ρ S = (evE C e ρ S).into ρ fun v S' => .ret v S') ∧
    (∀ e ρ S, evS C (.expr e) ρ S = (evE C e ρ S).into ρ fun _ S' => .nx ρ S') ∧
    (∀ c a b ρ S, evS C (.ifS c a b) ρ S = ((evE C c ρ S).pp asB).intoT ρ fun k S' => if k = true then evSs C a ρ S' else evSs C b ρ S') ∧
    (∀ t it b ρ S, evS C (.forS t it b) ρ S = (evI C it ρ S).intoI ρ fun ds S' => forL t (evSs C b) ds ρ S') ∧
    (∀ ρ S, evS C .pass ρ S = .nx ρ S) ∧ (∀ ρ S, evS C .brk ρ S = .brk ρ S) ∧ (∀ ρ S, evS C .cnt ρ S = .cnt ρ S) ∧ (∀ ρ S, evS C .never ρ S = .bad) := by
  refine ⟨fun t e ρ S => ?_, fun is es ρ S => ?_, fun i own t it c e ρ S => ?_, fun i op e ρ S => ?_, fun e ρ S => ?_, fun e ρ S => ?_, fun c a b ρ S => ?_, fun t it b ρ S => ?_, fun ρ S => ?_, fun ρ S => ?_, fun ρ S => ?_, fun ρ S => ?_⟩
  all_goals (rw [evS]; first | rfl | skip)
section
variable {C : PD.Ctx} {c : IE} {b : ISs} {ρ ρ2 : Env} {S S1 S2 : Store}
theorem whl_sw : evS C (.whl c b) ρ S = sWhl (fun ρ => evE C c ρ >>= asB) (evSs C b) ρ S := by rw [evS]
theorem whl_stop (hc : evE C c ρ S = .ok (.d (.bl false)) S1) : evS C (.whl c b) ρ S = .nx ρ S1 := by
  have e : (evE C c ρ >>= asB) S = .ok false S1 := by rw [bind_at, hc]; rfl
  rw [whl_sw, sWhl_eq, e]
theorem whl_go (hc : evE C c ρ S = .ok (.d (.bl true)) S1) (hb : evSs C b ρ S1 = .nx ρ2 S2) : evS C (.whl c b) ρ S = evS C (.whl c b) ρ2 S2 := by
  have e : (evE C c ρ >>= asB) S = .ok true S1 := by rw [bind_at, hc]; rfl
  rw [whl_sw, sWhl_eq, e]
  dsimp only
  rw [hb, whl_sw]
theorem whl_ret {v : Val} (hc : evE C c ρ S = .ok (.d (.bl true)) S1) (hb : evSs C b ρ S1 = .ret v S2) : evS C (.whl c b) ρ S = .ret v S2 := by
  have e : (evE C c ρ >>= asB) S = .ok true S1 := by rw [bind_at, hc]; rfl
  rw [whl_sw, sWhl_eq, e]
  dsimp only
  rw [hb]
theorem whl_brk (hc : evE C c ρ S = .ok (.d (.bl true)) S1) (hb : evSs C b ρ S1 = .brk ρ2 S2) : evS C (.whl c b) ρ S = .nx ρ2 S2 := by
  have e : (evE C c ρ >>= asB) S = .ok true S1 := by rw [bind_at, hc]; rfl
  rw [whl_sw, sWhl_eq, e]
  dsimp only
  rw [hb]
end
theorem into_ : (∀ v S ρ k, (R.ok v S).into ρ k = k v S) ∧ (∀ c x S ρ k, (R.exc c x S).into ρ k = .exc c x ρ S) ∧ (∀ ρ k, R.bad.into ρ k = .bad) ∧ (∀ v S ρ k, (R.ok v S).intoT ρ k = k v S) ∧ (∀ c x S ρ k, (R.exc c x S).intoT ρ k = .exc c x ρ S) ∧ (∀ ρ k, R.bad.intoT ρ k = .bad) ∧
    (∀ v S ρ k, (R.ok v S).intoI ρ k = k v S) ∧ (∀ c x S ρ k, (R.exc c x S).intoI ρ k = .exc c x ρ S) ∧ (∀ ρ k, R.bad.intoI ρ k = .bad) ∧ (∀ v S ρ k, (R.ok v S).intoL ρ k = k v S) ∧ (∀ c x S ρ k, (R.exc c x S).intoL ρ k = .exc c x ρ S) ∧ (∀ ρ k, R.bad.intoL ρ k = .bad) ∧
    (∀ ρ S, O.ofBind (some ρ) S = .nx ρ S) :=
  ⟨fun _ _ _ _ => rfl, fun _ _ _ _ _ => rfl, fun _ _ => rfl, fun _ _ _ _ => rfl, fun _ _ _ _ _ => rfl, fun _ _ => rfl, fun _ _ _ _ => rfl, fun _ _ _ _ _ => rfl, fun _ _ => rfl, fun _ _ _ _ => rfl, fun _ _ _ _ _ => rfl, fun _ _ => rfl, fun _ _ => rfl⟩
theorem bind_ {α β : Type} : (∀ (a : α) S (k : α → Store → R β), (R.ok a S).go k = k a S) ∧ (∀ c x S (k : α → Store → R β), (R.exc c x S : R α).go k = .exc c x S) ∧ (∀ (k : α → Store → R β), (R.bad : R α).go k = .bad) :=
  ⟨fun _ _ _ => rfl, fun _ _ _ _ => rfl, fun _ => rfl⟩
theorem mret_ {α : Type} : (∀ (a : α) S, M.ret a S = .ok a S) ∧ (∀ S, (M.fail : M α) S = .bad) ∧ (∀ (a : α) S, M.of (some a) S = .ok a S) ∧ (∀ S, M.of (none : Option α) S = .bad) :=
  ⟨fun _ _ => rfl, fun _ => rfl, fun _ _ => rfl, fun _ => rfl⟩
/-- the slot i -/
def slotR (o : Option (Option Val)) (S : Store) : R Val := match o with
  | some (some v) => .ok v S
  | _ => .bad
theorem slot_ : (∀ v S, slotR (some (some v)) S = .ok v S) ∧ (∀ S, slotR (some none) S = .bad) ∧ (∀ S, slotR none S = .bad) := ⟨fun _ _ => rfl, fun _ => rfl, fun _ => rfl⟩
theorem run_e (C : PD.Ctx) : (∀ i ρ S, evE C (.var i) ρ S = slotR ρ[i]? S) ∧ (∀ c ρ S, evE C (.cst c) ρ S = M.of ((cstD c).map .d) S) ∧ (∀ x ρ S, evE C (.glo x) ρ S = M.of ((C.gv x).map .d) S) ∧
    (∀ op a b ρ S, evE C (.bin op a b) ρ S = (evE C a ρ S).go fun v S1 => (evE C b ρ S1).pp (op2 (binD op) v)) ∧
    (∀ op a b ρ S, evE C (.cmp op a b) ρ S = (evE C a ρ S).go fun v S1 => (evE C b ρ S1).pp (op2 (cmpD op) v)) ∧
    (∀ o1 o2 a b c ρ S, evE C (.chain o1 o2 a b c) ρ S = (evE C a ρ S).go fun v S1 => (evE C b ρ S1).go fun w S2 => ((op2 (cmpD o1) v w S2).pp asB).go fun k S3 => if k = true then (evE C c ρ S3).pp (op2 (cmpD o2) w) else .ok (.d (.bl false)) S3) ∧
    (∀ a ρ S, evE C (.neg a) ρ S = (evE C a ρ S).pp (op1 negD)) ∧
    (∀ a ρ S, evE C (.notE a) ρ S = ((evE C a ρ S).pp asB).go fun c S' => .ok (.d (.bl (!c))) S') ∧
    (∀ a r ρ S, evE C (.andE a r) ρ S = evAnd C (evE C a) r ρ S) ∧ (∀ a r ρ S, evE C (.orE a r) ρ S = evOr C (evE C a) r ρ S) ∧
    (∀ c a b ρ S, evE C (.ite c a b) ρ S = ((evE C c ρ S).pp asB).go fun k S' => if k = true then evE C a ρ S' else evE C b ρ S') ∧
    (∀ es ρ S, evE C (.tup es) ρ S = (evL C es ρ S).pp mkTup) ∧ (∀ es ρ S, evE C (.lst es) ρ S = (evL C es ρ S).pp mkLst) ∧ (∀ es ρ S, evE C (.new es) ρ S = (evL C es ρ S).pp mkNew) ∧
    (∀ a b ρ S, evE C (.ix a b) ρ S = (evE C a ρ S).go fun v S1 => (evE C b ρ S1).pp (op2 ixD v)) ∧
    (∀ a lo hi ρ S, evE C (.slc a lo hi) ρ S = (evE C a ρ S).go fun v S1 => (evO C lo ρ S1).go fun l S2 => (evO C hi ρ S2).pp (fun u => op1 (slcD l u) v)) ∧
    (∀ a ρ S, evE C (.rev a) ρ S = (evE C a ρ S).pp (op1 revD)) := by
  refine ⟨fun i ρ S => ?_, fun c ρ S => rfl, fun x ρ S => rfl, fun op a b ρ S => rfl, fun op a b ρ S => rfl, fun o1 o2 a b c ρ S => ?_, fun a ρ S => rfl, fun a ρ S => rfl, fun a r ρ S => rfl, fun a r ρ S => rfl, fun c a b ρ S => ?_, fun es ρ S => rfl, fun es ρ S => rfl, fun es ρ S => rfl, fun a b ρ S => rfl, fun a lo hi ρ S => rfl, fun a ρ S => rfl⟩
  · show evVar i ρ S = _
    unfold evVar slotR
    split <;> simp_all
    · rfl
    · rfl
  · show ((evE C a ρ S).go fun v => evE C b ρ >>= fun w => chain2 o1 o2 v w (evE C c ρ)) = _
    congr 1
    funext v S1
    show (evE C b ρ S1).go _ = _
    congr 1
    funext w S2
    show ((op2 (cmpD o1) v w S2).pp asB).go _ = _
    congr 1
    funext k S3
    cases k <;> rfl
  · show ((evE C c ρ S).pp asB).go _ = _
    congr 1
    funext k S3
    cases k <;> rfl
theorem run_e2 (C : PD.Ctx) : (∀ f x n es ρ S, evE C (.call f x n es) ρ S = (evL C es ρ S).pp (callN n (C.cf f))) ∧ (∀ b es ρ S, evE C (.bi b es) ρ S = (evL C es ρ S).pp (opA (biD b))) ∧
    (∀ t a ρ S, evE C (.isa t a) ρ S = (evE C a ρ S).pp (op1 fun d => (isaB t d).map .bl)) ∧ (∀ a c ρ S, evE C (.minDf a c) ρ S = (evE C a ρ S).pp (op1 fun d => (cstD c).bind fun z => minDf z d)) ∧
    (∀ own t it c e ρ S, evE C (.comp own t it c e) ρ S = (evI C it ρ S).go fun ds S1 => (compL t (evC C c) (evE C e) ds (wipeR ρ (own.map (·.2))) [] S1).go fun l S2 => .ok (.d (.lst l)) S2) ∧
    (∀ m o es ρ S, evE C (.lm m o es) ρ S = (evE C o ρ S).go fun v S1 => (needL v S1).go fun _ S2 => (evL C es ρ S2).pp (onList m.k v)) ∧
    (∀ a ρ S, evE C (.frz a) ρ S = (evE C a ρ S).pp frzM) :=
  ⟨fun _ _ _ _ _ _ => rfl, fun _ _ _ _ => rfl, fun _ _ _ _ => rfl, fun _ _ _ _ => rfl, fun _ _ _ _ _ _ _ => rfl, fun _ _ _ _ _ => rfl, fun _ _ _ => rfl⟩
theorem run_l (C : PD.Ctx) : (∀ ρ S, evL C .nil ρ S = .ok [] S) ∧ (∀ e r ρ S, evL C (.cons e r) ρ S = (evE C e ρ S).go fun v S1 => (evL C r ρ S1).go fun vs S2 => .ok (v :: vs) S2) ∧ (∀ ρ S, evO C .none ρ S = .ok none S) ∧ (∀ e ρ S, evO C (.some e) ρ S = (evE C e ρ S).pp asI) ∧
    (∀ ρ S, evC C .none ρ S = .ok true S) ∧ (∀ e ρ S, evC C (.some e) ρ S = (evE C e ρ S).pp asB) ∧ (∀ e ρ S, evI C (.seq e) ρ S = (evE C e ρ S).pp asIt) ∧ (∀ es ρ S, evI C (.rng es) ρ S = (evL C es ρ S).pp rangeD) ∧ (∀ e ρ S, evI C (.enum e) ρ S = (evE C e ρ S).pp (fun v => enumD [v])) ∧
    (∀ f ρ S, evAnd C f .nil ρ S = f ρ S) ∧ (∀ f e r ρ S, evAnd C f (.cons e r) ρ S = ((f ρ S).pp asB).go fun c S' => if c = true then evAnd C (evE C e) r ρ S' else .ok (.d (.bl false)) S') ∧
    (∀ f ρ S, evOr C f .nil ρ S = f ρ S) ∧ (∀ f e r ρ S, evOr C f (.cons e r) ρ S = ((f ρ S).pp asB).go fun c S' => if c = true then .ok (.d (.bl true)) S' else evOr C (evE C e) r ρ S') := by
  refine ⟨fun _ _ => rfl, fun _ _ _ _ => rfl, fun _ _ => rfl, fun _ _ _ => rfl, fun _ _ => rfl, fun _ _ _ => rfl, fun _ _ _ => rfl, fun _ _ _ => rfl, fun _ _ _ => rfl, fun _ _ _ => rfl, fun f e r ρ S => ?_, fun _ _ _ => rfl, fun f e r ρ S => ?_⟩
  · show ((f ρ S).pp asB).go _ = _
    congr 1
    funext k S3
    cases k <;> rfl
  · show ((f ρ S).pp asB).go _ = _
    congr 1
    funext k S3
    cases k <;> rfl
theorem ops_ : (∀ g a b S, op2 g (.d a) (.d b) S = R.opt (g a b) S) ∧ (∀ g a S, op1 g (.d a) S = R.opt (g a) S) ∧ (∀ d S, R.opt (some d) S = .ok (.d d) S) ∧ (∀ S, R.opt none S = .bad) ∧ (∀ b S, asB (.d (.bl b)) S = .ok b S) ∧ (∀ i S, asI (.d (.int i)) S = .ok (some i) S) ∧
    (∀ vs n sem S, callN n sem vs S = if vs.length = n then sem vs S else .bad) ∧ (∀ d S, frzM (.d d) S = .ok (.d d) S) ∧ (∀ d S, asIt (.d d) S = M.of (iterD d) S) ∧
    (∀ vs S, mkTup vs S = R.tupO (asPs vs) S) ∧ (∀ vs S, mkLst vs S = R.lstO (asPs vs) S) ∧ (∀ vs S, mkNew vs S = R.newO (asPs vs) S) ∧ (∀ g vs S, opA g vs S = R.optA g (asDs S vs) S) := by
  refine ⟨fun _ _ _ _ => rfl, fun _ _ _ => rfl, fun _ _ => rfl, fun _ => rfl, fun _ _ => rfl, fun _ _ => rfl, fun vs n sem S => ?_, fun _ _ => rfl, fun _ _ => rfl, fun vs S => ?_, fun vs S => ?_, fun vs S => ?_, fun g vs S => ?_⟩
  · unfold callN; split <;> rfl
  · unfold mkTup R.tupO
    cases asPs vs with
    | none => rfl
    | some ds => dsimp only; split <;> rfl
  · unfold mkLst R.lstO
    cases asPs vs with
    | none => rfl
    | some ds => dsimp only; split <;> rfl
  · unfold mkNew R.newO
    cases asPs vs with
    | none => rfl
    | some ds => dsimp only; split <;> rfl
  · unfold opA R.optA
    cases asDs S vs <;> rfl
theorem asl_ : (asPs [] = some []) ∧ (∀ x r, asPs (.d x :: r) = (asPs r).map (x :: ·)) ∧ (∀ S, asDs S [] = some []) ∧ (∀ x r S, asDs S (.d x :: r) = (asDs S r).map (x :: ·)) ∧ (∀ ds S, ds.length ≤ sizeLine → R.tupO (some ds) S = .ok (.d (.tup ds)) S) ∧ (∀ ds S, ds.length ≤ sizeLine → R.lstO (some ds) S = .ok (.d (.lst ds)) S) ∧ (∀ ds S, ds.length ≤ sizeLine → R.newO (some ds) S = .ok (.loc S.length) (S ++ [some (.lst ds)])) ∧ (∀ g ds S, R.optA g (some ds) S = R.opt (g ds) S) := by
  refine ⟨rfl, fun _ _ => rfl, fun _ => rfl, fun x r S => ?_, fun ds S h => if_pos h, fun ds S h => if_pos h, fun ds S h => if_pos h, fun _ _ _ => rfl⟩
  show (match asD S (.d x), asDs S r with | some x, some xs => some (x :: xs) | _, _ => none) = _
  cases asDs S r <;> rfl
theorem bins_ : (∀ i j, binD .Add (.int i) (.int j) = some (.int (i + j))) ∧ (∀ i j, binD .Sub (.int i) (.int j) = some (.int (i - j))) ∧ (∀ i j, mulFits i j = true → binD .Mult (.int i) (.int j) = some (.int (i * j))) ∧ (∀ i j, divFits i j = true → binD .FloorDiv (.int i) (.int j) = some (.int (i.fdiv j))) ∧ (∀ i j, j ≠ 0 → binD .Mod (.int i) (.int j) = some (.int (i.fmod j))) ∧ (∀ i j, powFits i j = true → binD .Pow (.int i) (.int j) = some (.int (i ^ j.toNat))) ∧
    (∀ i j, cmpD .Lt (.int i) (.int j) = some (.bl (decide (i < j)))) ∧ (∀ i j, cmpD .LtE (.int i) (.int j) = some (.bl (decide (i ≤ j)))) ∧ (∀ i j, cmpD .Gt (.int i) (.int j) = some (.bl (decide (j < i)))) ∧ (∀ i j, cmpD .GtE (.int i) (.int j) = some (.bl (decide (j ≤ i)))) ∧
    (∀ i j, cmpD .Eq (.int i) (.int j) = some (.bl (decide (i = j)))) ∧ (∀ i j, cmpD .NotEq (.int i) (.int j) = some (.bl (!decide (i = j)))) ∧ (∀ i, negD (.int i) = some (.int (-i))) ∧
    (∀ i j, augD .Add (.int i) (.int j) = some (.int (i + j))) ∧ (∀ i j, augD .Sub (.int i) (.int j) = some (.int (i - j))) ∧ (∀ i j, mulFits i j = true → augD .Mult (.int i) (.int j) = some (.int (i * j))) ∧ (∀ i j, divFits i j = true → augD .FloorDiv (.int i) (.int j) = some (.int (i.fdiv j))) := by
  refine ⟨fun _ _ => rfl, fun _ _ => rfl, fun i j h => ?_, fun i j h => ?_, fun i j h => ?_, fun i j h => ?_, fun _ _ => rfl, fun _ _ => rfl, fun _ _ => rfl, fun _ _ => rfl, fun i j => ?_, fun i j => ?_, fun _ => rfl, fun _ _ => rfl, fun _ _ => rfl, fun i j h => ?_, fun i j h => ?_⟩
  · show (if mulFits i j then _ else _) = _; rw [if_pos h]
  · show (if divFits i j then _ else _) = _; rw [if_pos h]
  · show (if j = 0 then _ else _) = _; rw [if_neg h]
  · show (if powFits i j then _ else _) = _; rw [if_pos h]
  · show some (D.bl (PyData.eqv (.int i) (.int j))) = _
    congr 2
  · show some (D.bl (!PyData.eqv (.int i) (.int j))) = _
    congr 3
  · show (if mulFits i j then _ else _) = _; rw [if_pos h]
  · show (if divFits i j then _ else _) = _; rw [if_pos h]
end PD

/-! PE2: sizes; powers. -/
namespace PD
open PySem L2
/-- at most n bits -/
def Sz (n : Nat) (i : Int) : Prop := i.natAbs < 2 ^ n
theorem Sz.log {n : Nat} {i : Int} (h : Sz n i) : i.natAbs.log2 ≤ n := by
  by_cases z : i.natAbs = 0
  · rw [z]; exact Nat.zero_le _
  · exact Nat.le_of_lt ((Nat.log2_lt z).mpr h)
theorem Sz.mulFits {a b : Nat} {i j : Int} (hi : Sz a i) (hj : Sz b j) (h : a + b < 130000000) : mulFits i j = true := by
  have h1 := hi.log
  have h2 := hj.log
  exact decide_eq_true (by omega)
theorem Sz.mul {a b : Nat} {i j : Int} (hi : Sz a i) (hj : Sz b j) : Sz (a + b) (i * j) := by
  unfold Sz at *
  rw [Int.natAbs_mul, Nat.pow_add]
  exact Nat.mul_lt_mul'' hi hj
theorem Sz.mono {a b : Nat} {i : Int} (hi : Sz a i) (h : a ≤ b) : Sz b i := Nat.lt_of_lt_of_le hi (Nat.pow_le_pow_right (by decide) h)
theorem Sz.add {a : Nat} {i j : Int} (hi : Sz a i) (hj : Sz a j) : Sz (a + 1) (i + j) := by
  unfold Sz at *
  have := Int.natAbs_add_le i j
  rw [Nat.pow_succ]
  omega
theorem Sz.neg {a : Nat} {i : Int} (hi : Sz a i) : Sz a (-i) := by
  unfold Sz at *
  rw [Int.natAbs_neg]
  exact hi
theorem Sz.pow {a : Nat} {i : Int} (hi : Sz a i) : ∀ n : Nat, Sz (a * n + 1) (i ^ n)
  | 0 => by show (i ^ 0).natAbs < _; rw [Int.pow_zero]; exact Nat.lt_of_lt_of_le (by decide : (1 : Int).natAbs < 2 ^ 1) (Nat.pow_le_pow_right (by decide) (by omega))
  | n + 1 => by
    rw [Int.pow_succ]
    exact ((hi.pow n).mul hi).mono (by rw [Nat.mul_succ]; omega)
theorem Sz.of_lt {n : Nat} {i : Int} (h1 : -(2 ^ n) < i) (h2 : i < 2 ^ n) : Sz n i := by
  unfold Sz
  have : ((2 ^ n : Nat) : Int) = (2 : Int) ^ n := by simp
  omega
theorem divFits_small {i j : Int} (h0 : j ≠ 0) (h : Sz 9000 j) : divFits i j = true := by
  unfold divFits
  rw [decide_eq_true h0, Bool.true_and]
  unfold Builtin.divisionGoesByPylong
  have h1 := h.log
  have : decide ((if (j == 0) = true then 0 else j.natAbs.log2 / 30 + 1) > 300) = false ∨ j.natAbs.log2 = 9000 := by
    by_cases z : j.natAbs.log2 = 9000
    · exact .inr z
    · refine .inl (decide_eq_false ?_)
      split <;> omega
  rcases this with h2 | h2
  · dsimp only
    rw [h2]
    rfl
  · exfalso
    have := (Nat.log2_lt (n := j.natAbs) (by omega) (k := 9000)).mpr h
    omega
theorem fdiv2 (k : Nat) : (Int.fdiv (k : Int) 2) = ((k / 2 : Nat) : Int) := by
  rw [Int.fdiv_eq_ediv_of_nonneg _ (by decide)]; rfl
theorem fmod2 (k : Nat) : (Int.fmod (k : Int) 2) = ((k % 2 : Nat) : Int) := by
  rw [Int.fmod_eq_emod_of_nonneg _ (by decide)]; rfl
end PD

/-! PE3: calls, lists, reduced numbers. -/
namespace PD
open PySem L2
theorem asPs_map : ∀ ds : List D, asPs (ds.map .d) = some ds
  | [] => rfl
  | d :: ds => by show (asPs (ds.map .d)).map (d :: ·) = _; rw [asPs_map ds]; rfl
section
variable {C : PD.Ctx} {n : Nat} {ir : ISs} {ds : List D} {S S' : Store} {ρ' : Env}
theorem callP_ret {x : D} (h : evSs C ir (entry n ds) [] = .ret (.d x) S') : callP C n ir (ds.map .d) S = .ok (.d x) S := by
  unfold callP
  rw [asPs_map]
  have e : runP C n ir ds = .ok x := by
    show outP (evSs C ir (entry n ds) []) = _
    rw [h]; rfl
  show (runP C n ir ds).at_ S = _
  rw [e]; rfl
theorem callP_nx (h : evSs C ir (entry n ds) [] = .nx ρ' S') : callP C n ir (ds.map .d) S = .ok (.d .non) S := by
  unfold callP
  rw [asPs_map]
  have e : runP C n ir ds = .ok .non := by
    show outP (evSs C ir (entry n ds) []) = _
    rw [h]; rfl
  show (runP C n ir ds).at_ S = _
  rw [e]; rfl
theorem callP_new {k : Nat} {o : SO} (h : evSs C ir (entry n ds) [] = .ret (.loc k) S') (hk : S'[k]? = some (some o)) : callP C n ir (ds.map .d) S = .ok (.loc S.length) (S ++ [some o]) := by
  unfold callP
  rw [asPs_map]
  have e : runP C n ir ds = .new o := by
    show outP (evSs C ir (entry n ds) []) = _
    rw [h]
    show (match S'[k]? with | some (some o) => RP.new o | _ => .bad) = _
    rw [hk]
  show (runP C n ir ds).at_ S = _
  rw [e]; rfl
end
/-! ### small tuples -/
theorem small {n : Nat} (h : n ≤ 1000) : n ≤ sizeLine := Nat.le_trans h (by decide)
theorem tupO_s {ds : List D} {S : Store} (h : ds.length ≤ 1000) : R.tupO (some ds) S = .ok (.d (.tup ds)) S := if_pos (small h)
theorem lstO_s {ds : List D} {S : Store} (h : ds.length ≤ 1000) : R.lstO (some ds) S = .ok (.d (.lst ds)) S := if_pos (small h)
theorem newO_s {ds : List D} {S : Store} (h : ds.length ≤ 1000) : R.newO (some ds) S = .ok (.loc S.length) (S ++ [some (.lst ds)]) := if_pos (small h)
theorem mk_ : (∀  S, R.tupO (some []) S = .ok (.d (.tup [])) S) ∧
    (∀ a0  S, R.tupO (some [a0]) S = .ok (.d (.tup [a0])) S) ∧
    (∀ a0 a1  S, R.tupO (some [a0, a1]) S = .ok (.d (.tup [a0, a1])) S) ∧
    (∀ a0 a1 a2  S, R.tupO (some [a0, a1, a2]) S = .ok (.d (.tup [a0, a1, a2])) S) ∧
    (∀ a0 a1 a2 a3  S, R.tupO (some [a0, a1, a2, a3]) S = .ok (.d (.tup [a0, a1, a2, a3])) S) ∧
    (∀ a0 a1 a2 a3 a4  S, R.tupO (some [a0, a1, a2, a3, a4]) S = .ok (.d (.tup [a0, a1, a2, a3, a4])) S) ∧
    (∀ a0 a1 a2 a3 a4 a5  S, R.tupO (some [a0, a1, a2, a3, a4, a5]) S = .ok (.d (.tup [a0, a1, a2, a3, a4, a5])) S) ∧
    (∀ a0 a1 a2 a3 a4 a5 a6  S, R.tupO (some [a0, a1, a2, a3, a4, a5, a6]) S = .ok (.d (.tup [a0, a1, a2, a3, a4, a5, a6])) S) ∧
    (∀  S, R.lstO (some []) S = .ok (.d (.lst [])) S) ∧
    (∀ a0  S, R.lstO (some [a0]) S = .ok (.d (.lst [a0])) S) ∧
    (∀ a0 a1  S, R.lstO (some [a0, a1]) S = .ok (.d (.lst [a0, a1])) S) ∧
    (∀ a0 a1 a2  S, R.lstO (some [a0, a1, a2]) S = .ok (.d (.lst [a0, a1, a2])) S) ∧
    (∀ a0 a1 a2 a3  S, R.lstO (some [a0, a1, a2, a3]) S = .ok (.d (.lst [a0, a1, a2, a3])) S) ∧
    (∀ a0 a1 a2 a3 a4  S, R.lstO (some [a0, a1, a2, a3, a4]) S = .ok (.d (.lst [a0, a1, a2, a3, a4])) S) ∧
    (∀ a0 a1 a2 a3 a4 a5  S, R.lstO (some [a0, a1, a2, a3, a4, a5]) S = .ok (.d (.lst [a0, a1, a2, a3, a4, a5])) S) ∧
    (∀ a0 a1 a2 a3 a4 a5 a6  S, R.lstO (some [a0, a1, a2, a3, a4, a5, a6]) S = .ok (.d (.lst [a0, a1, a2, a3, a4, a5, a6])) S) ∧
    (∀  S, R.newO (some []) S = .ok (.loc S.length) (S ++ [some (.lst [])])) ∧
    (∀ a0  S, R.newO (some [a0]) S = .ok (.loc S.length) (S ++ [some (.lst [a0])])) ∧
    (∀ a0 a1  S, R.newO (some [a0, a1]) S = .ok (.loc S.length) (S ++ [some (.lst [a0, a1])])) ∧
    (∀ a0 a1 a2  S, R.newO (some [a0, a1, a2]) S = .ok (.loc S.length) (S ++ [some (.lst [a0, a1, a2])])) ∧
    (∀ a0 a1 a2 a3  S, R.newO (some [a0, a1, a2, a3]) S = .ok (.loc S.length) (S ++ [some (.lst [a0, a1, a2, a3])])) ∧
    (∀ a0 a1 a2 a3 a4  S, R.newO (some [a0, a1, a2, a3, a4]) S = .ok (.loc S.length) (S ++ [some (.lst [a0, a1, a2, a3, a4])])) ∧
    (∀ a0 a1 a2 a3 a4 a5  S, R.newO (some [a0, a1, a2, a3, a4, a5]) S = .ok (.loc S.length) (S ++ [some (.lst [a0, a1, a2, a3, a4, a5])])) ∧
    (∀ a0 a1 a2 a3 a4 a5 a6  S, R.newO (some [a0, a1, a2, a3, a4, a5, a6]) S = .ok (.loc S.length) (S ++ [some (.lst [a0, a1, a2, a3, a4, a5, a6])])) :=
  ⟨fun _ => tupO_s (by simp), fun _ _ => tupO_s (by simp), fun _ _ _ => tupO_s (by simp), fun _ _ _ _ => tupO_s (by simp), fun _ _ _ _ _ => tupO_s (by simp), fun _ _ _ _ _ _ => tupO_s (by simp), fun _ _ _ _ _ _ _ => tupO_s (by simp), fun _ _ _ _ _ _ _ _ => tupO_s (by simp), fun _ => lstO_s (by simp), fun _ _ => lstO_s (by simp), fun _ _ _ => lstO_s (by simp), fun _ _ _ _ => lstO_s (by simp), fun _ _ _ _ _ => lstO_s (by simp), fun _ _ _ _ _ _ => lstO_s (by simp), fun _ _ _ _ _ _ _ => lstO_s (by simp), fun _ _ _ _ _ _ _ _ => lstO_s (by simp), fun _ => newO_s (by simp), fun _ _ => newO_s (by simp), fun _ _ _ => newO_s (by simp), fun _ _ _ _ => newO_s (by simp), fun _ _ _ _ _ => newO_s (by simp), fun _ _ _ _ _ _ => newO_s (by simp), fun _ _ _ _ _ _ _ => newO_s (by simp), fun _ _ _ _ _ _ _ _ => newO_s (by simp)⟩
/-! ### items -/
theorem atI_nat {α : Type} {ds : List α} {i : Nat} {x : α} (h : ds[i]? = some x) : atI ds (i : Int) = some x := by
  have := (List.getElem?_eq_some_iff.mp h).1
  unfold atI ixN
  rw [if_pos (by omega), if_pos (by omega)]
  exact h
theorem ix_ : (∀ a r, ixD (.tup (a :: r)) (.int 0) = some a) ∧ (∀ a b r, ixD (.tup (a :: b :: r)) (.int 1) = some b) ∧ (∀ a b c r, ixD (.tup (a :: b :: c :: r)) (.int 2) = some c) :=
  ⟨fun a r => atI_nat (i := 0) rfl, fun a b r => atI_nat (i := 1) rfl, fun a b c r => atI_nat (i := 2) rfl⟩
theorem ix_lst {ds : List D} {i : Nat} {x : D} (h : ds[i]? = some x) : ixD (.lst ds) (.int i) = some x := atI_nat h
/-! ### reduced numbers -/
/-- n·b^e in its only form -/
def IsRed (b n e n' e' : Int) : Prop := (n = 0 ∧ n' = 0 ∧ e' = 0) ∨ (n ≠ 0 ∧ ∃ k : Nat, n = n' * b ^ k ∧ e' = e + k ∧ ¬ b ∣ n')
theorem IsRed.uniq {b n e n1 e1 n2 e2 : Int} (hb : 2 ≤ b) (h1 : IsRed b n e n1 e1) (h2 : IsRed b n e n2 e2) : n1 = n2 ∧ e1 = e2 := by
  rcases h1 with ⟨h, h3, h4⟩ | ⟨h, k, h3, h4, h5⟩
  · rcases h2 with ⟨_, h6, h7⟩ | ⟨h', _⟩
    · exact ⟨h3.trans h6.symm, h4.trans h7.symm⟩
    · exact absurd h h'
  · rcases h2 with ⟨h', _⟩ | ⟨_, j, h6, h7, h8⟩
    · exact absurd h' h
    · have key : ∀ (x y : Int) (k j : Nat), x * b ^ k = y * b ^ j → ¬ b ∣ x → k ≤ j → k = j ∧ x = y := fun x y k j e hx hkj => by
        have hp : b ^ k ≠ 0 := Int.pow_ne_zero (by omega)
        have e2 : x * b ^ k = (y * b ^ (j - k)) * b ^ k := by
          rw [e, Int.mul_assoc, ← Int.pow_add]
          congr 2
          omega
        have e3 := Int.eq_of_mul_eq_mul_right hp e2
        by_cases z : j - k = 0
        · rw [z, Int.pow_zero, Int.mul_one] at e3
          exact ⟨by omega, e3⟩
        · exfalso
          refine hx ⟨y * b ^ (j - k - 1), ?_⟩
          rw [e3]
          have : j - k = (j - k - 1) + 1 := by omega
          conv => lhs; rw [this, Int.pow_succ]
          rw [← Int.mul_assoc, Int.mul_comm]
      rcases Nat.le_total k j with hkj | hkj
      · obtain ⟨h9, h10⟩ := key n1 n2 k j (h3.symm.trans h6) h5 hkj
        exact ⟨h10, by omega⟩
      · obtain ⟨h9, h10⟩ := key n2 n1 j k (h6.symm.trans h3) h8 hkj
        exact ⟨h10.symm, by omega⟩
theorem IsRed.of_pow {b n e n' e' : Int} {k : Nat} (hb : 2 ≤ b) (h : IsRed b n (e + k) n' e') : IsRed b (n * b ^ k) e n' e' := by
  have hp : b ^ k ≠ 0 := Int.pow_ne_zero (by omega)
  rcases h with ⟨h, h3, h4⟩ | ⟨h, j, h3, h4, h5⟩
  · exact .inl ⟨by rw [h, Int.zero_mul], h3, h4⟩
  · refine .inr ⟨Int.mul_ne_zero h hp, j + k, ?_, by omega, h5⟩
    rw [h3, Int.pow_add, Int.mul_assoc]
end PD
namespace PD
open PySem L2
theorem cf_at {gs : List (Str × D)} {T : List FDef} (hu : unB T = true) {d : FDef} (hd : d ∈ T) (n : Nat) : (cxN gs T (n + 1)).cf d.id = callP (cxN gs T n) d.N.length d.body := by
  show cfN gs T (n + 1) d.id = _
  rw [cfN, find_of (of_decide_eq_true hu) d hd]
  rfl
end PD
namespace PD
open PySem L2
def nmD (p : Int × Int) : D := .tup [.int p.1, .int p.2]
theorem nm_ : (∀ p, ixD (nmD p) (.int 0) = some (.int p.1)) ∧ (∀ p, ixD (nmD p) (.int 1) = some (.int p.2)) ∧ (∀ a b S, (R.ok (.d (.tup [.int a, .int b])) S : R Val) = .ok (.d (nmD (a, b))) S) := ⟨fun p => ix_.1 _ _, fun p => ix_.2.1 _ _ _, fun _ _ _ => rfl⟩
theorem minDf_ : (∀ z, minDf z (.lst []) = some z) ∧ (∀ z a, minDf z (.lst [.int a]) = some (.int a)) ∧ (∀ z a b, minDf z (.lst [.int a, .int b]) = some (.int (if b < a then b else a))) := ⟨fun _ => rfl, fun _ _ => rfl, fun _ _ _ => rfl⟩
theorem szl_ : (0 < sizeLine) ∧ (1 < sizeLine) ∧ (2 < sizeLine) ∧ (3 < sizeLine) := by decide
end PD

/-! PE4: numbers n·b^e, plain. -/
namespace PD
open PySem L2
def redF (b : Int) : Nat → Int → Int → Int × Int
  | 0, n, e => (n, e)
  | f + 1, n, e => if n = 0 then (0, 0) else if b ∣ n then redF b f (n / b) (e + 1) else (n, e)
def red (b n e : Int) : Int × Int := redF b (n.natAbs + 1) n e
theorem redF_spec {b : Int} (hb : 2 ≤ b) : ∀ (f : Nat) (n e : Int), n.natAbs < f → IsRed b n e (redF b f n e).1 (redF b f n e).2
  | 0, n, e, h => by omega
  | f + 1, n, e, h => by
    unfold redF
    by_cases z : n = 0
    · rw [if_pos z]; exact .inl ⟨z, rfl, rfl⟩
    · rw [if_neg z]
      by_cases d : b ∣ n
      · rw [if_pos d]
        obtain ⟨q, hq⟩ := d
        have hb0 : b ≠ 0 := by omega
        have hdiv : n / b = q := by rw [hq]; exact Int.mul_ediv_cancel_left _ hb0
        have hq0 : q ≠ 0 := fun z' => z (by rw [hq, z', Int.mul_zero])
        have hlt : q.natAbs < n.natAbs := by
          rw [hq, Int.natAbs_mul]
          have : 2 ≤ b.natAbs := by omega
          calc q.natAbs < 2 * q.natAbs := by omega
            _ ≤ b.natAbs * q.natAbs := Nat.mul_le_mul_right _ this
        have ih := redF_spec hb f q (e + 1) (by omega)
        rw [hdiv]
        have := IsRed.of_pow (k := 1) hb ih
        rw [Int.pow_one] at this
        rw [hq, Int.mul_comm]
        exact this
      · rw [if_neg d]
        exact .inr ⟨z, 0, by rw [Int.pow_zero, Int.mul_one], by omega, d⟩
theorem red_spec {b : Int} (hb : 2 ≤ b) (n e : Int) : IsRed b n e (red b n e).1 (red b n e).2 := redF_spec hb _ n e (by omega)
theorem red_eq {b n e n' e' : Int} (hb : 2 ≤ b) (h : IsRed b n e n' e') : red b n e = (n', e') := by
  obtain ⟨h1, h2⟩ := (red_spec hb n e).uniq hb h
  exact Prod.ext h1 h2
/-! ### powers -/
def pw (b i : Int) : Int := b ^ i.toNat
theorem pw_zero (b : Int) : pw b 0 = 1 := by unfold pw; simp
theorem pw_one (b : Int) : pw b 1 = b := by
  show b ^ 1 = b
  exact Int.pow_one b
theorem pw_add (b : Int) {i j : Int} (hi : 0 ≤ i) (hj : 0 ≤ j) : pw b (i + j) = pw b i * pw b j := by
  unfold pw
  rw [← Int.pow_add]
  congr 1
  omega
theorem pw_pos {b : Int} (hb : 2 ≤ b) (i : Int) : 0 < pw b i := Int.pow_pos (by omega)
theorem pw_sz {b : Int} (hb : Sz 6 b) {i : Int} {k : Nat} (h : i ≤ k) : Sz (6 * k + 1) (pw b i) := (Sz.pow hb i.toNat).mono (by omega)
/-! ### forms -/
def Can (b : Int) (p : Int × Int) : Prop := (p.1 = 0 ∧ p.2 = 0) ∨ (p.1 ≠ 0 ∧ ¬ b ∣ p.1)
/-- the value, times b^m -/
def vl (b m : Int) (p : Int × Int) : Int := p.1 * pw b (p.2 + m)
theorem Can.isRed {b m : Int} {p : Int × Int} (h : Can b p) (hm : 0 ≤ p.2 + m) (hb : 2 ≤ b) : IsRed b (vl b m p) (-m) p.1 p.2 := by
  unfold vl pw
  rcases h with ⟨h1, h2⟩ | ⟨h1, h2⟩
  · exact .inl ⟨by rw [h1, Int.zero_mul], h1, h2⟩
  · exact .inr ⟨Int.mul_ne_zero h1 (Int.pow_ne_zero (by omega)), (p.2 + m).toNat, rfl, by omega, h2⟩
theorem Can.uniq {b m : Int} {p q : Int × Int} (hb : 2 ≤ b) (hp : Can b p) (hq : Can b q) (h1 : 0 ≤ p.2 + m) (h2 : 0 ≤ q.2 + m) (h : vl b m p = vl b m q) : p = q := by
  have a := hp.isRed h1 hb
  rw [h] at a
  obtain ⟨e1, e2⟩ := a.uniq hb (hq.isRed h2 hb)
  exact Prod.ext e1 e2
theorem red_can {b : Int} (hb : 2 ≤ b) (n e : Int) : Can b (red b n e) := by
  rcases red_spec hb n e with ⟨_, h1, h2⟩ | ⟨h, k, h1, h2, h3⟩
  · exact .inl ⟨h1, h2⟩
  · exact .inr ⟨fun z => h (by rw [h1, z, Int.zero_mul]), h3⟩
theorem red_ge {b : Int} (hb : 2 ≤ b) (n e : Int) {m : Int} (h0 : 0 ≤ m) (h : 0 ≤ e + m) : 0 ≤ (red b n e).2 + m := by
  rcases red_spec hb n e with ⟨_, h1, h2⟩ | ⟨_, k, h1, h2, h3⟩
  · rw [h2]; omega
  · rw [h2]; omega
theorem red_vl {b : Int} (hb : 2 ≤ b) (n e : Int) {m : Int} (h : 0 ≤ e + m) : vl b m (red b n e) = n * pw b (e + m) := by
  unfold vl
  rcases red_spec hb n e with ⟨z, h1, h2⟩ | ⟨_, k, h1, h2, h3⟩
  · rw [h1, z, Int.zero_mul, Int.zero_mul]
  · conv => rhs; rw [h1]
    rw [h2]
    have : e + (k : Int) + m = (k : Int) + (e + m) := by omega
    rw [this, pw_add b (by omega) h, Int.mul_assoc]
    congr 1
theorem vl_shift {b m : Int} {p : Int × Int} {c : Int} (h : 0 ≤ p.2 + m) (hc : 0 ≤ c) : vl b (m + c) p = vl b m p * pw b c := by
  unfold vl
  rw [show p.2 + (m + c) = (p.2 + m) + c by omega, pw_add b h hc, Int.mul_assoc]
/-- bounded: at place -m fewer than k bits -/
structure Bd (b m : Int) (k : Nat) (p : Int × Int) : Prop where
  can : Can b p
  ge : 0 ≤ p.2 + m
  sz : Sz k (vl b m p)
theorem Bd.num {b m : Int} {k : Nat} {p : Int × Int} (hb : 2 ≤ b) (h : Bd b m k p) : Sz k p.1 := by
  have h1 := h.sz
  unfold Sz vl at *
  rw [Int.natAbs_mul] at h1
  have h2 : 1 ≤ (pw b (p.2 + m)).natAbs := by have := pw_pos hb (p.2 + m); omega
  calc p.1.natAbs = p.1.natAbs * 1 := by rw [Nat.mul_one]
    _ ≤ p.1.natAbs * (pw b (p.2 + m)).natAbs := Nat.mul_le_mul_left _ h2
    _ < _ := h1
theorem pw_lt {b : Int} (hb : 2 ≤ b) {i : Int} {k : Nat} (hi : 0 ≤ i) (h : Sz k (pw b i)) : i < k := by
  unfold Sz pw at h
  have h1 : (2 : Int) ^ i.toNat ≤ b ^ i.toNat := by
    induction i.toNat with
    | zero => simp
    | succ t ih =>
      rw [Int.pow_succ, Int.pow_succ]
      have h0 : (0 : Int) ≤ 2 ^ t := Int.pow_nonneg (by decide)
      exact Int.mul_le_mul ih hb (by decide) (Int.le_trans h0 ih)
  have e1 : ((2 ^ i.toNat : Nat) : Int) = (2 : Int) ^ i.toNat := by simp
  have h4 : 2 ^ i.toNat < 2 ^ k := by omega
  have := (Nat.pow_lt_pow_iff_right (by decide : 1 < 2)).mp h4
  omega
theorem Bd.exp {b m : Int} {k : Nat} {p : Int × Int} (hb : 2 ≤ b) (h : Bd b m k p) (hm : 0 ≤ m) (hk : m < k) : p.2 + m < k := by
  rcases h.can with ⟨h1, h2⟩ | ⟨h1, h2⟩
  · rw [h2]; omega
  · refine pw_lt hb h.ge ?_
    have h1' := h.sz
    unfold Sz vl at *
    rw [Int.natAbs_mul] at h1'
    have h3 : 1 ≤ p.1.natAbs := by omega
    calc (pw b (p.2 + m)).natAbs = 1 * (pw b (p.2 + m)).natAbs := by rw [Nat.one_mul]
      _ ≤ p.1.natAbs * (pw b (p.2 + m)).natAbs := Nat.mul_le_mul_right _ h3
      _ < _ := h1'
theorem Bd.up {b m : Int} {k : Nat} {p : Int × Int} (hs : Sz 6 b) (h : Bd b m k p) {m' : Int} {k' : Nat} {c : Nat} (hc : m' = m + c) (hk : k + (6 * c + 1) ≤ k') : Bd b m' k' p := by
  subst hc
  refine ⟨h.can, by have := h.ge; omega, ?_⟩
  rw [vl_shift h.ge (by omega)]
  exact ((h.sz.mul (pw_sz hs (by omega))).mono hk)
theorem Bd.mono {b m : Int} {k k' : Nat} {p : Int × Int} (h : Bd b m k p) (hk : k ≤ k') : Bd b m k' p := ⟨h.can, h.ge, h.sz.mono hk⟩
theorem red_bd {b : Int} (hb : 2 ≤ b) (hs : Sz 6 b) {n e m : Int} {k c : Nat} (hn : Sz k n) (h0 : 0 ≤ m) (h : 0 ≤ e + m) (hc : e + m ≤ c) {k' : Nat} (hk : k + (6 * c + 1) ≤ k') : Bd b m k' (red b n e) :=
  ⟨red_can hb n e, red_ge hb n e h0 h, by rw [red_vl hb n e h]; exact (hn.mul (pw_sz hs hc)).mono hk⟩
/-! ### operations -/
def mvd (p : Int × Int) (t : Int) : Int × Int := if p.1 ≠ 0 then (p.1, p.2 + t) else (0, 0)
def ngd (p : Int × Int) : Int × Int := (-p.1, p.2)
theorem mvd_bd {b m : Int} {k : Nat} {p : Int × Int} {t : Int} (h : Bd b m k p) (hm : 0 ≤ m - t) : Bd b (m - t) k (mvd p t) ∧ vl b (m - t) (mvd p t) = vl b m p := by
  have e : vl b (m - t) (mvd p t) = vl b m p := by
    unfold vl mvd
    by_cases z : p.1 = 0
    · rw [if_neg (fun q => q z), z, Int.zero_mul, Int.zero_mul]
    · rw [if_pos z]
      show p.1 * pw b (p.2 + t + (m - t)) = _
      congr 2
      omega
  refine ⟨⟨?_, ?_, by rw [e]; exact h.sz⟩, e⟩
  · unfold mvd
    rcases h.can with ⟨h1, h2⟩ | ⟨h1, h2⟩
    · rw [if_neg (fun q => q h1)]; exact .inl ⟨rfl, rfl⟩
    · rw [if_pos h1]; exact .inr ⟨h1, h2⟩
  · unfold mvd
    by_cases z : p.1 = 0
    · rw [if_neg (fun q => q z)]; show 0 ≤ 0 + (m - t); omega
    · rw [if_pos z]
      have := h.ge
      show 0 ≤ p.2 + t + (m - t)
      omega
theorem ngd_bd {b m : Int} {k : Nat} {p : Int × Int} (h : Bd b m k p) : Bd b m k (ngd p) ∧ vl b m (ngd p) = -vl b m p := by
  have e : vl b m (ngd p) = -vl b m p := by
    unfold vl ngd
    exact Int.neg_mul _ _
  refine ⟨⟨?_, h.ge, by rw [e]; exact h.sz.neg⟩, e⟩
  unfold ngd
  rcases h.can with ⟨h1, h2⟩ | ⟨h1, h2⟩
  · exact .inl ⟨by show -p.1 = 0; omega, h2⟩
  · exact .inr ⟨by show -p.1 ≠ 0; omega, fun z => h2 (by have := Int.dvd_neg.mpr z; simpa using this)⟩
def plc (p q : Int × Int) : Int := if p.1 ≠ 0 then (if q.1 ≠ 0 then (if q.2 < p.2 then q.2 else p.2) else p.2) else (if q.1 ≠ 0 then q.2 else 0)
def atp (b : Int) (p : Int × Int) (l : Int) : Int := if p.1 ≠ 0 then p.1 * pw b (p.2 - l) else 0
def tot (b : Int) (p q : Int × Int) : Int × Int := red b (atp b p (plc p q) + atp b q (plc p q)) (plc p q)
theorem atp_vl {b m l : Int} {p : Int × Int} (h1 : p.1 ≠ 0 → l ≤ p.2) (h2 : 0 ≤ l + m) : atp b p l * pw b (l + m) = vl b m p := by
  unfold atp vl
  by_cases z : p.1 = 0
  · rw [if_neg (fun q => q z), z, Int.zero_mul, Int.zero_mul]
  · rw [if_pos z, Int.mul_assoc, ← pw_add b (by have := h1 z; omega) h2]
    congr 2
    omega
theorem plc_le {p q : Int × Int} : (p.1 ≠ 0 → plc p q ≤ p.2) ∧ (q.1 ≠ 0 → plc p q ≤ q.2) := by
  unfold plc
  constructor
  · intro h
    rw [if_pos h]
    split
    · split <;> omega
    · omega
  · intro h
    rw [if_pos h]
    split
    · split <;> omega
    · omega
theorem plc_ge {b m : Int} {k : Nat} {p q : Int × Int} (hp : Bd b m k p) (hq : Bd b m k q) (hm : 0 ≤ m) : 0 ≤ plc p q + m := by
  have h1 := hp.ge
  have h2 := hq.ge
  unfold plc
  split
  · split
    · split <;> omega
    · omega
  · split <;> omega
theorem tot_num {b m : Int} {k : Nat} {p q : Int × Int} (hb : 2 ≤ b) (hp : Bd b m k p) (hq : Bd b m k q) (hm : 0 ≤ m) : (atp b p (plc p q) + atp b q (plc p q)) * pw b (plc p q + m) = vl b m p + vl b m q := by
  rw [Int.add_mul, atp_vl plc_le.1 (plc_ge hp hq hm), atp_vl plc_le.2 (plc_ge hp hq hm)]
theorem sz_of_mul {x y : Int} {k : Nat} (hy : 0 < y) (h : Sz k (x * y)) : Sz k x := by
  unfold Sz at *
  rw [Int.natAbs_mul] at h
  calc x.natAbs = x.natAbs * 1 := by rw [Nat.mul_one]
    _ ≤ x.natAbs * y.natAbs := Nat.mul_le_mul_left _ (by omega)
    _ < _ := h
theorem tot_sz {b m : Int} {k : Nat} {p q : Int × Int} (hb : 2 ≤ b) (hp : Bd b m k p) (hq : Bd b m k q) (hm : 0 ≤ m) : Sz (k + 1) (atp b p (plc p q) + atp b q (plc p q)) := by
  refine sz_of_mul (pw_pos hb (plc p q + m)) ?_
  rw [tot_num hb hp hq hm]
  exact hp.sz.add hq.sz
theorem tot_bd {b m : Int} {k : Nat} {p q : Int × Int} (hb : 2 ≤ b) (hp : Bd b m k p) (hq : Bd b m k q) (hm : 0 ≤ m) : Bd b m (k + 1) (tot b p q) ∧ vl b m (tot b p q) = vl b m p + vl b m q := by
  have e : vl b m (tot b p q) = vl b m p + vl b m q := by
    unfold tot
    rw [red_vl hb _ _ (plc_ge hp hq hm), tot_num hb hp hq hm]
  exact ⟨⟨red_can hb _ _, red_ge hb _ _ hm (plc_ge hp hq hm), by rw [e]; exact hp.sz.add hq.sz⟩, e⟩
end PD

/-! PE5: equality of plain things; lists of ints. -/
namespace PD
open PySem L2
theorem toPys_ints : ∀ ns : List Int, toPys (ns.map .int) = some (ns.map .int)
  | [] => rfl
  | n :: ns => by
    show (match toPy (.int n), toPys (ns.map .int) with | some x, some xs => some (x :: xs) | _, _ => none) = _
    rw [toPys_ints ns]; rfl
theorem lay_ints : ∀ ns : List Int, PyData.canLayAll0 (ns.map .int) = true
  | [] => by simp [PyData.canLayAll0]
  | n :: ns => by
    show (PyData.canLay0 (.int n) && PyData.canLayAll0 (ns.map .int)) = true
    rw [lay_ints ns]; simp [PyData.canLay0]
theorem depth_ints : ∀ ns : List Int, PyData.depthAll (ns.map .int) = 0
  | [] => by simp [PyData.depthAll]
  | n :: ns => by
    show max (PyData.depth (.int n)) (PyData.depthAll (ns.map .int)) = 0
    rw [depth_ints ns]; simp [PyData.depth]
theorem eqv_ints : ∀ xs ys : List Int, PyData.eqvAll (xs.map .int) (ys.map .int) = decide (xs = ys)
  | [], [] => by simp [PyData.eqvAll]
  | [], _ :: _ => by simp [PyData.eqvAll]
  | _ :: _, [] => by simp [PyData.eqvAll]
  | x :: xs, y :: ys => by
    show (PyData.eqv (.int x) (.int y) && PyData.eqvAll (xs.map .int) (ys.map .int)) = _
    rw [eqv_ints xs ys]
    simp [PyData.eqv, Bool.beq_eq_decide_eq]
theorem eqB_ints (xs ys : List Int) : eqB (.lst (xs.map .int)) (.lst (ys.map .int)) = some (decide (xs = ys)) := by
  unfold eqB
  have e : ∀ zs : List Int, toPy (.lst (zs.map .int)) = some (.list (zs.map .int)) := fun zs => by
    show (toPys (zs.map .int)).map PyData.list = _
    rw [toPys_ints]; rfl
  rw [e, e]
  have s : ∀ zs : List Int, SeqAt.shaped (.list (zs.map .int)) = true := fun zs => by
    unfold SeqAt.shaped
    have h1 : PyData.canLay0 (.list (zs.map .int)) = true := by
      simp only [PyData.canLay0]; exact lay_ints zs
    have h2 : PyData.depth (.list (zs.map .int)) = 1 := by
      simp only [PyData.depth]; rw [depth_ints]
    rw [h1, h2]; decide
  dsimp only
  rw [s, s]
  show some (PyData.eqv (.list (xs.map .int)) (.list (ys.map .int))) = _
  simp only [PyData.eqv]
  rw [eqv_ints]
theorem eqB_nm (p q : Int × Int) : eqB (nmD p) (nmD q) = some (decide (p = q)) := by
  have e : eqB (nmD p) (nmD q) = some (PyData.eqv (.tuple [.int p.1, .int p.2]) (.tuple [.int q.1, .int q.2])) := rfl
  rw [e]
  congr 1
  simp only [PyData.eqv, PyData.eqvAll, Bool.and_true]
  rw [Bool.beq_eq_decide_eq, Bool.beq_eq_decide_eq, ← Bool.decide_and, decide_eq_decide]
  exact ⟨fun h => Prod.ext h.1 h.2, fun h => by rw [h]; exact ⟨rfl, rfl⟩⟩
theorem eqs_ : (∀ xs ys : List Int, cmpD .Eq (.lst (xs.map .int)) (.lst (ys.map .int)) = some (.bl (decide (xs = ys)))) ∧ (∀ xs ys : List Int, cmpD .NotEq (.lst (xs.map .int)) (.lst (ys.map .int)) = some (.bl (!decide (xs = ys)))) ∧
    (∀ p q, cmpD .Eq (nmD p) (nmD q) = some (.bl (decide (p = q)))) ∧ (∀ p q, cmpD .NotEq (nmD p) (nmD q) = some (.bl (!decide (p = q)))) := by
  refine ⟨fun xs ys => ?_, fun xs ys => ?_, fun p q => ?_, fun p q => ?_⟩
  · show (eqB _ _).map D.bl = _; rw [eqB_ints]; rfl
  · show (eqB _ _).map (fun c => D.bl (!c)) = _; rw [eqB_ints]; rfl
  · show (eqB (nmD p) (nmD q)).map D.bl = _; rw [eqB_nm]; rfl
  · show (eqB (nmD p) (nmD q)).map (fun c => D.bl (!c)) = _; rw [eqB_nm]; rfl
/-- effects -/
def efD (p : Int × Int) (s : Int) : D := .tup [nmD p, .int s]
theorem ef_ : (∀ p s, ixD (efD p s) (.int 0) = some (nmD p)) ∧ (∀ p s, ixD (efD p s) (.int 1) = some (.int s)) := ⟨fun p s => ix_.1 _ _, fun p s => ix_.2.1 _ _ _⟩
theorem bi_ : (∀ p, biD .len [nmD p] = some (.int 2)) ∧ (∀ p s, biD .len [efD p s] = some (.int 2)) ∧ (∀ i, biD .abs [.int i] = some (.int (if i < 0 then -i else i))) ∧ (∀ i j, biD .min [.int i, .int j] = some (.int (if j < i then j else i))) ∧ (∀ i j, biD .max [.int i, .int j] = some (.int (if i < j then j else i))) ∧ (∀ b, biD .int [.bl b] = some (.int (if b = true then 1 else 0))) ∧ (∀ xs, biD .len [.lst xs] = some (.int (xs.length : Int))) ∧
    (∀ p, isaB .tuple (nmD p) = some true) ∧ (∀ p s, isaB .tuple (efD p s) = some true) ∧ (∀ i, isaB .int (.int i) = some true) ∧ (∀ i, isaB .bool (.int i) = some false) := by
  refine ⟨fun _ => rfl, fun _ _ => rfl, fun _ => rfl, fun _ _ => rfl, fun _ _ => rfl, fun b => ?_, fun _ => rfl, fun _ => rfl, fun _ _ => rfl, fun _ => rfl, fun _ => rfl⟩
  cases b <;> rfl
theorem bind_nm (i j : Nat) (p : Int × Int) (ρ : Env) : (Tg.tp [.nm i, .nm j]).bind (.d (nmD p)) ρ = some ((ρ.set i (some (.d (.int p.1)))).set j (some (.d (.int p.2)))) := rfl
end PD
namespace PD
open PySem L2
theorem nl_ : (∀ ds, needL (.loc 0) [some (.lst ds)] = .ok () [some (.lst ds)]) ∧ (∀ ds x, ds.length < sizeLine → onList kAppend (.loc 0) [.d x] [some (.lst ds)] = .ok (.d .non) [some (.lst (ds ++ [x]))]) ∧ (∀ ds, frzM (.loc 0) [some (.lst ds)] = .ok (.d (.lst ds)) [none]) ∧ LM.k .append = kAppend := by
  refine ⟨fun ds => rfl, fun ds x h => ?_, fun ds => rfl, rfl⟩
  have e : kAppend ds [x] = some (ds ++ [x], .non) := if_pos h
  unfold onList
  show (match kAppend ds [x] with | some (ds', y) => R.ok (Val.d y) (([some (SO.lst ds)] : Store).set 0 (some (SO.lst ds'))) | none => .bad) = _
  rw [e]
  rfl
theorem upTo_zero (lo : Int) : upTo lo 0 = [] := rfl
theorem upTo_succ (lo : Int) (n : Nat) : upTo lo (n + 1) = .int lo :: upTo (lo + 1) n := by
  unfold upTo
  rw [List.range_succ_eq_map, List.map_cons, List.map_map]
  congr 1
  · show D.int (lo + ((0 : Nat) : Int)) = _
    congr 1
    omega
  · apply List.map_congr_left
    intro i _
    show D.int (lo + ((i + 1 : Nat) : Int)) = D.int (lo + 1 + (i : Int))
    congr 1
    omega
theorem forL_nil {t : Tg} {f : MS} {ρ : Env} {S : Store} : forL t f [] ρ S = .nx ρ S := rfl
theorem forL_go {t : Tg} {f : MS} {d : D} {ds : List D} {ρ ρ1 ρ2 : Env} {S S2 : Store} (h1 : t.bind (.d d) ρ = some ρ1) (h2 : f ρ1 S = .nx ρ2 S2) : forL t f (d :: ds) ρ S = forL t f ds ρ2 S2 := by
  show (match t.bind (.d d) ρ with | none => O.bad | some ρ1 => match f ρ1 S with | .nx ρ2 S2 => forL t f ds ρ2 S2 | .cnt ρ2 S2 => forL t f ds ρ2 S2 | .brk ρ2 S2 => .nx ρ2 S2 | o => o) = _
  rw [h1]; dsimp only; rw [h2]
theorem forL_cnt {t : Tg} {f : MS} {d : D} {ds : List D} {ρ ρ1 ρ2 : Env} {S S2 : Store} (h1 : t.bind (.d d) ρ = some ρ1) (h2 : f ρ1 S = .cnt ρ2 S2) : forL t f (d :: ds) ρ S = forL t f ds ρ2 S2 := by
  show (match t.bind (.d d) ρ with | none => O.bad | some ρ1 => match f ρ1 S with | .nx ρ2 S2 => forL t f ds ρ2 S2 | .cnt ρ2 S2 => forL t f ds ρ2 S2 | .brk ρ2 S2 => .nx ρ2 S2 | o => o) = _
  rw [h1]; dsimp only; rw [h2]
end PD
namespace PD
open PySem L2
theorem range_1 {j : Int} (h1 : -1000000000 ≤ j) (h2 : j ≤ 1000000000) (S : Store) : rangeD [.d (.int j)] S = .ok (upTo 0 j.toNat) S := by
  have e : rangeD [.d (.int j)] = if decide (-(2 ^ 62) ≤ j) && decide (j < 2 ^ 62) then M.ret (upTo 0 j.toNat) else M.fail := rfl
  rw [e, decide_eq_true (by omega), decide_eq_true (by omega)]
  rfl
theorem range_2 {i j : Int} (h1 : -1000000000 ≤ j) (h2 : j ≤ 1000000000) (h3 : -1000000000 ≤ i) (h4 : i ≤ 1000000000) (S : Store) : rangeD [.d (.int i), .d (.int j)] S = .ok (upTo i (j - i).toNat) S := by
  have e : rangeD [.d (.int i), .d (.int j)] = if decide (-(2 ^ 62) ≤ i) && decide (i < 2 ^ 62) && decide (-(2 ^ 62) ≤ j) && decide (j < 2 ^ 62) then M.ret (upTo i (j - i).toNat) else M.fail := rfl
  rw [e, decide_eq_true (by omega), decide_eq_true (by omega), decide_eq_true (by omega), decide_eq_true (by omega)]
  rfl
theorem rep_flat (c : D) : ∀ n : Nat, (List.replicate n [c]).flatten = List.replicate n c
  | 0 => rfl
  | n + 1 => by rw [List.replicate_succ, List.flatten_cons, rep_flat c n]; rfl
theorem rep_mul {c k : Int} (h1 : 0 ≤ k) (h2 : k ≤ 1000) : binD .Mult (.lst [.int c]) (.int k) = some (.lst ((List.replicate k.toNat c).map .int)) := by
  have e : binD .Mult (.lst [.int c]) (.int k) = if decide (-(2 ^ 63) ≤ k) && decide (k < 2 ^ 63) && decide ([D.int c].length * k.toNat ≤ sizeLine) then some (.lst (List.replicate k.toNat [D.int c]).flatten) else none := rfl
  rw [e, decide_eq_true (by omega), decide_eq_true (by omega), decide_eq_true (by
    refine small ?_
    show 1 * k.toNat ≤ 1000
    omega), rep_flat, List.map_replicate]
  rfl
end PD

/-! PE6: slices; residues. -/
namespace PD
open PySem L2
theorem slc_from {xs : List D} {i : Int} (h : 0 ≤ i) : slcD (some i) none (.lst xs) = some (.lst (xs.drop i.toNat)) := by
  have e : slcD (some i) none (.lst xs) = some (.lst (cutL xs (some i) none)) := rfl
  rw [e]
  unfold cutL
  obtain ⟨k, rfl⟩ := Int.eq_ofNat_of_zero_le h
  rw [HT.sIx_nat, HT.sIx_none, Int.toNat_natCast]
  congr 2
  rw [List.take_of_length_le (by rw [List.length_drop]; omega)]
  by_cases hk : k ≤ xs.length
  · rw [Nat.min_eq_left hk]
  · rw [Nat.min_eq_right (by omega), List.drop_eq_nil_of_le (by omega), List.drop_eq_nil_of_le (by omega)]
theorem slc_to {xs : List D} {i : Int} (h : 0 ≤ i) : slcD none (some i) (.lst xs) = some (.lst (xs.take i.toNat)) := by
  have e : slcD none (some i) (.lst xs) = some (.lst (cutL xs none (some i))) := rfl
  rw [e]
  unfold cutL
  obtain ⟨k, rfl⟩ := Int.eq_ofNat_of_zero_le h
  rw [HT.sIx_nat, HT.sIx_none, Int.toNat_natCast, List.drop_zero, Nat.sub_zero]
  congr 2
  by_cases hk : k ≤ xs.length
  · rw [Nat.min_eq_left hk]
  · rw [Nat.min_eq_right (by omega), List.take_of_length_le (by omega), List.take_of_length_le (by omega)]
theorem slc_scr_to {ns : List Int} {i : Int} (h : 0 ≤ i) : slcD none (some i) (.scr ns) = some (.lst ((ns.take i.toNat).map .int)) := by
  have e : slcD none (some i) (.scr ns) = some (.lst ((cutL ns none (some i)).map .int)) := rfl
  rw [e]
  unfold cutL
  obtain ⟨k, rfl⟩ := Int.eq_ofNat_of_zero_le h
  rw [HT.sIx_nat, HT.sIx_none, Int.toNat_natCast, List.drop_zero, Nat.sub_zero]
  congr 3
  by_cases hk : k ≤ ns.length
  · rw [Nat.min_eq_left hk]
  · rw [Nat.min_eq_right (by omega), List.take_of_length_le (by omega), List.take_of_length_le (by omega)]
theorem slc_mid {xs : List D} {i j : Int} (hi : 0 ≤ i) (hj : 0 ≤ j) : ∃ ys, slcD (some i) (some j) (.lst xs) = some (.lst ys) ∧ ys.length ≤ (j - i).toNat ∧ ∀ y ∈ ys, y ∈ xs := by
  refine ⟨cutL xs (some i) (some j), rfl, ?_, fun y hy => ?_⟩
  · unfold cutL
    obtain ⟨k, rfl⟩ := Int.eq_ofNat_of_zero_le hi
    obtain ⟨l, rfl⟩ := Int.eq_ofNat_of_zero_le hj
    rw [HT.sIx_nat, HT.sIx_nat, List.length_take, List.length_drop]
    omega
  · unfold cutL at hy
    exact List.mem_of_mem_drop (List.mem_of_mem_take hy)
/-! ### residues of powers -/
section
variable {b s : Int}
theorem dvd_pw_add (hs : 0 < s) {i : Int} (hi : 0 ≤ i) : ∀ k : Nat, pw b s - 1 ∣ pw b (i + s * k) - pw b i
  | 0 => by
    have : i + s * ((0 : Nat) : Int) = i := by simp
    rw [this, Int.sub_self]
    exact Int.dvd_zero _
  | k + 1 => by
    have ih := dvd_pw_add hs hi k
    have h0 : 0 ≤ s * (k : Int) := Int.mul_nonneg (by omega) (by omega)
    have e : i + s * ((k + 1 : Nat) : Int) = (i + s * (k : Int)) + s := by
      push_cast
      rw [Int.mul_add, Int.mul_one]
      omega
    rw [e, pw_add b (by omega) (by omega)]
    have e2 : pw b (i + s * (k : Int)) * pw b s - pw b i = pw b (i + s * (k : Int)) * (pw b s - 1) + (pw b (i + s * (k : Int)) - pw b i) := by
      rw [Int.mul_sub, Int.mul_one]; omega
    rw [e2]
    exact Int.dvd_add (Int.dvd_mul_left _ _) ih
theorem dvd_pw (hs : 0 < s) {i j : Int} (hi : 0 ≤ i) (hj : 0 ≤ j) (h : s ∣ i - j) : pw b s - 1 ∣ pw b i - pw b j := by
  obtain ⟨k, hk⟩ := h
  by_cases z : 0 ≤ k
  · obtain ⟨m, rfl⟩ := Int.eq_ofNat_of_zero_le z
    have : i = j + s * (m : Int) := by omega
    rw [this]
    exact dvd_pw_add hs hj m
  · obtain ⟨m, hm⟩ := Int.eq_ofNat_of_zero_le (a := -k) (by omega)
    have : j = i + s * (m : Int) := by
      have : s * (-k) = s * (m : Int) := by rw [hm]
      rw [Int.mul_neg] at this
      omega
    have h2 := dvd_pw_add (b := b) hs hi m
    rw [← this] at h2
    have e : pw b i - pw b j = -(pw b j - pw b i) := by omega
    rw [e]
    exact Int.dvd_neg.mpr h2
theorem dvd_cancel (hs : 0 < s) {x c : Int} (hc : 0 ≤ c) (h : pw b s - 1 ∣ x * pw b c) : pw b s - 1 ∣ x := by
  obtain ⟨m, rfl⟩ := Int.eq_ofNat_of_zero_le hc
  have h1 : (m : Int) ≤ s * (m : Int) := by
    have : 1 * (m : Int) ≤ s * (m : Int) := Int.mul_le_mul_of_nonneg_right (by omega) (by omega)
    omega
  have h2 : pw b s - 1 ∣ pw b (0 + s * (m : Int)) - pw b 0 := dvd_pw_add hs (by decide) m
  rw [pw_zero, Int.zero_add] at h2
  have e1 : pw b (s * (m : Int)) = pw b (m : Int) * pw b (s * (m : Int) - m) := by
    rw [← pw_add b (by omega) (by omega)]
    congr 1
    omega
  have h3 : pw b s - 1 ∣ x * pw b (s * (m : Int)) := by
    rw [e1, ← Int.mul_assoc]
    exact Int.dvd_mul_of_dvd_left h
  have e2 : x = x * pw b (s * (m : Int)) - x * (pw b (s * (m : Int)) - 1) := by
    rw [Int.mul_sub, Int.mul_one]; omega
  rw [e2]
  exact Int.dvd_sub h3 (Int.dvd_mul_of_dvd_right h2)
theorem fmod_eq_iff {x y m : Int} (hm : 0 < m) : x.fmod m = y.fmod m ↔ m ∣ x - y := by
  rw [Int.fmod_eq_emod_of_nonneg _ (by omega), Int.fmod_eq_emod_of_nonneg _ (by omega)]
  rw [Int.emod_eq_emod_iff_emod_sub_eq_zero, ← Int.dvd_iff_emod_eq_zero]
theorem fmod_rep (x : Int) (hs : 0 < s) : s ∣ x - x.fmod s := by
  rw [Int.fmod_eq_emod_of_nonneg _ (by omega)]
  exact ⟨x / s, by have := Int.emod_def x s; omega⟩
/-- n1·b^i ≡ n2·b^j, moved -/
theorem cong_move (hs : 0 < s) {n1 n2 i j i' j' c : Int} (hi : 0 ≤ i) (hj : 0 ≤ j) (hi' : 0 ≤ i') (hj' : 0 ≤ j') (hc : 0 ≤ c) (h1 : s ∣ i + c - i') (h2 : s ∣ j + c - j') :
    (pw b s - 1 ∣ n1 * pw b i - n2 * pw b j) ↔ (pw b s - 1 ∣ n1 * pw b i' - n2 * pw b j') := by
  have a1 : pw b s - 1 ∣ pw b (i + c) - pw b i' := dvd_pw hs (by omega) hi' h1
  have a2 : pw b s - 1 ∣ pw b (j + c) - pw b j' := dvd_pw hs (by omega) hj' h2
  have e1 : (n1 * pw b i - n2 * pw b j) * pw b c = n1 * pw b (i + c) - n2 * pw b (j + c) := by
    rw [Int.sub_mul, Int.mul_assoc, Int.mul_assoc, ← pw_add b hi hc, ← pw_add b hj hc]
  have e2 : n1 * pw b (i + c) - n2 * pw b (j + c) = (n1 * pw b i' - n2 * pw b j') + (n1 * (pw b (i + c) - pw b i') - n2 * (pw b (j + c) - pw b j')) := by
    rw [Int.mul_sub, Int.mul_sub]; omega
  have a3 : pw b s - 1 ∣ n1 * (pw b (i + c) - pw b i') - n2 * (pw b (j + c) - pw b j') := Int.dvd_sub (Int.dvd_mul_of_dvd_right a1) (Int.dvd_mul_of_dvd_right a2)
  constructor
  · intro h
    have h3 : pw b s - 1 ∣ (n1 * pw b i - n2 * pw b j) * pw b c := Int.dvd_mul_of_dvd_left h
    rw [e1, e2] at h3
    exact (Int.dvd_add_left a3).mp h3
  · intro h
    refine dvd_cancel hs hc ?_
    rw [e1, e2]
    exact Int.dvd_add h a3
end
/-- the sum that a law makes -/
def lowN (p q : Int × Int) : Int := if q.2 < p.2 then q.2 else p.2
def sumN (b : Int) (p q : Int × Int) : Int × Int := red b (p.1 * pw b (p.2 - lowN p q) + q.1 * pw b (q.2 - lowN p q)) (lowN p q)
theorem sumN_dvd {b s : Int} (hb : 2 ≤ b) (hs : 0 < s) (p q : Int × Int) : (pw b s - 1 ∣ (sumN b p q).1) ↔ (pw b s - 1 ∣ p.1 * pw b (p.2 - lowN p q) + q.1 * pw b (q.2 - lowN p q)) := by
  unfold sumN
  rcases red_spec hb (p.1 * pw b (p.2 - lowN p q) + q.1 * pw b (q.2 - lowN p q)) (lowN p q) with ⟨h1, h2, _⟩ | ⟨_, k, h1, _, _⟩
  · rw [h2, h1]
  · have e : b ^ k = pw b (k : Int) := rfl
    rw [e] at h1
    constructor
    · intro h; have h2 := Int.dvd_mul_of_dvd_left (c := pw b (k : Int)) h; rw [← h1] at h2; exact h2
    · intro h; exact dvd_cancel (c := (k : Int)) hs (by omega) (by rw [← h1]; exact h)
theorem lowN_le (p q : Int × Int) : lowN p q ≤ p.2 ∧ lowN p q ≤ q.2 := by unfold lowN; split <;> omega
theorem conj_iff {b s : Int} (hb : 2 ≤ b) (hs : 0 < s) (p q : Int × Int) {o : Int} (ho : 0 ≤ o) :
    ((p.1 * pw b (p.2.fmod s) * pw b o).fmod (pw b s - 1) = (q.1 * pw b (q.2.fmod s)).fmod (pw b s - 1)) ↔ (pw b s - 1 ∣ (sumN b q (-p.1, p.2 + o)).1) := by
  have hpos : 0 < pw b s - 1 := by
    have : s = 1 + (s - 1) := by omega
    rw [this, pw_add b (by decide) (by omega), pw_one]
    have h1 := pw_pos hb (s - 1)
    have : b * 1 ≤ b * pw b (s - 1) := Int.mul_le_mul_of_nonneg_left (by omega) (by omega)
    omega
  have fnn : ∀ x : Int, 0 ≤ x.fmod s := fun x => by rw [Int.fmod_eq_emod_of_nonneg _ (by omega)]; exact Int.emod_nonneg _ (by omega)
  rw [fmod_eq_iff hpos, sumN_dvd hb hs, Int.mul_assoc, ← pw_add b (fnn _) ho]
  obtain ⟨l1, l2⟩ := lowN_le q (-p.1, p.2 + o)
  have l2 : lowN q (-p.1, p.2 + o) ≤ p.2 + o := l2
  generalize lowN q (-p.1, p.2 + o) = l at *
  show _ ↔ pw b s - 1 ∣ q.1 * pw b (q.2 - l) + -p.1 * pw b (p.2 + o - l)
  have r1 := fmod_rep p.2 hs
  have r2 := fmod_rep q.2 hs
  have r3 := fmod_rep l hs
  have n1 := fnn p.2
  have n2 := fnn q.2
  have n3 := fnn l
  have key := cong_move (b := b) hs (n1 := p.1) (n2 := q.1) (i := p.2 + o - l) (j := q.2 - l) (i' := p.2.fmod s + o) (j' := q.2.fmod s) (c := l.fmod s) (by omega) (by omega) (by omega) n2 n3
    (by
      have : p.2 + o - l + l.fmod s - (p.2.fmod s + o) = (p.2 - p.2.fmod s) - (l - l.fmod s) := by omega
      rw [this]; exact Int.dvd_sub r1 r3)
    (by
      have : q.2 - l + l.fmod s - q.2.fmod s = (q.2 - q.2.fmod s) - (l - l.fmod s) := by omega
      rw [this]; exact Int.dvd_sub r2 r3)
  rw [← key]
  have e : q.1 * pw b (q.2 - l) + -p.1 * pw b (p.2 + o - l) = -(p.1 * pw b (p.2 + o - l) - q.1 * pw b (q.2 - l)) := by
    rw [Int.neg_mul]; omega
  rw [e, Int.dvd_neg]
/-- the offsets that pass -/
def fil (P : Int → Bool) : Nat → Int → List Int
  | 0, _ => []
  | k + 1, o => (if P o = true then [o] else []) ++ fil P k (o + 1)
theorem fil_congr {P Q : Int → Bool} : ∀ (k : Nat) (o : Int), 0 ≤ o → (∀ x, 0 ≤ x → P x = Q x) → fil P k o = fil Q k o
  | 0, _, _, _ => rfl
  | k + 1, o, ho, h => by rw [fil, fil, h o ho, fil_congr k (o + 1) (by omega) h]
theorem mem_fil {P : Int → Bool} {x : Int} : ∀ (k : Nat) (o : Int), x ∈ fil P k o ↔ o ≤ x ∧ x < o + k ∧ P x = true
  | 0, o => by rw [fil]; simp; omega
  | k + 1, o => by
    rw [fil, List.mem_append, mem_fil k (o + 1)]
    constructor
    · rintro (h | ⟨h1, h2, h3⟩)
      · split at h
        · rw [List.mem_singleton] at h
          subst h
          exact ⟨by omega, by omega, by assumption⟩
        · cases h
      · exact ⟨by omega, by omega, h3⟩
    · rintro ⟨h1, h2, h3⟩
      by_cases z : x = o
      · subst z
        left
        rw [if_pos h3]
        exact List.mem_singleton.mpr rfl
      · right
        exact ⟨by omega, by omega, h3⟩
end PD
namespace PD
open PySem L2
section
variable {S : Store} {n : Nat} {ds : List D}
theorem op2_loc {g : D → D → Option D} {b : D} (h : S[n]? = some (some (.lst ds))) : op2 g (.loc n) (.d b) S = R.opt (g (.lst ds) b) S := by
  have e : asD S (.loc n) = some (.lst ds) := by
    show soD S[n]? = _
    rw [h]; rfl
  unfold op2 R.opt
  rw [e]
  show (match g (.lst ds) b with | some d => R.ok (Val.d d) S | none => .bad) = _
  cases g (.lst ds) b <;> rfl
theorem needL_loc (h : S[n]? = some (some (.lst ds))) : needL (.loc n) S = .ok () S := by
  show (match S[n]? with | some (some (.lst _)) => R.ok () S | _ => .bad) = _
  rw [h]
theorem app_loc {x : D} (h : S[n]? = some (some (.lst ds))) (hl : ds.length < sizeLine) : onList kAppend (.loc n) [.d x] S = .ok (.d .non) (S.set n (some (.lst (ds ++ [x])))) := by
  have e : kAppend ds [x] = some (ds ++ [x], .non) := if_pos hl
  show (match S[n]?, asPs [.d x] with
    | some (some (.lst ds)), some es => (match kAppend ds es with
      | some (ds', y) => R.ok (Val.d y) (S.set n (some (SO.lst ds')))
      | none => .bad)
    | _, _ => .bad) = _
  rw [h]
  show (match kAppend ds [x] with
      | some (ds', y) => R.ok (Val.d y) (S.set n (some (SO.lst ds')))
      | none => .bad) = _
  rw [e]
theorem frz_new : frzM (.loc S.length) (S ++ [some (.lst ds)]) = .ok (.d (.lst ds)) (S ++ [none]) := by
  have e : (S ++ [some (SO.lst ds)])[S.length]? = some (some (.lst ds)) := by simp
  show (match soD (S ++ [some (SO.lst ds)])[S.length]? with
    | some d => R.ok (Val.d d) ((S ++ [some (SO.lst ds)]).set S.length none)
    | none => .bad) = _
  rw [e]
  show R.ok (Val.d (.lst ds)) ((S ++ [some (SO.lst ds)]).set S.length none) = _
  rw [List.set_append_right _ _ (Nat.le_refl _), Nat.sub_self]
  rfl
end
theorem fil_len {P : Int → Bool} : ∀ (k : Nat) (o : Int), (fil P k o).length ≤ k
  | 0, _ => by rw [fil]; exact Nat.le_refl _
  | k + 1, o => by
    rw [fil, List.length_append]
    have := fil_len (P := P) k (o + 1)
    split <;> simp <;> omega
theorem in_ints {x : Int} {xs : List Int} : cmpD .NotIn (.int x) (.lst (xs.map .int)) = some (.bl (!decide (x ∈ xs))) := by
  have hf : ∀ ys : List Int, (ys.map D.int).all flatD = true := fun ys => by
    rw [List.all_map]; exact List.all_eq_true.mpr fun _ _ => rfl
  have hm : ∀ ys : List Int, memF (.int x) (ys.map .int) = decide (x ∈ ys) := fun ys => by
    induction ys with
    | nil => rfl
    | cons y ys ih =>
      show (eqF (.int y) (.int x) || memF (.int x) (ys.map .int)) = _
      rw [ih]
      show ((y == x) || decide (x ∈ ys)) = _
      by_cases h : y = x
      · subst h
        simp
      · have h2 : ¬ x = y := fun z => h z.symm
        simp [h, h2]
  show (inB (.int x) (.lst (xs.map .int))).map (fun c => D.bl (!c)) = _
  have e : inB (.int x) (.lst (xs.map .int)) = if flatD (.int x) && (xs.map D.int).all flatD then some (memF (.int x) (xs.map .int)) else none := rfl
  rw [e, hf, hm]
  rfl
end PD

namespace Q
open PySem L2 PD
def ir_is_integer : ISs := (.cons (.ret (.andE (.isa .int (.var 0)) (.cons (.notE (.isa .bool (.var 0))) .nil))) .nil)
def d_is_integer : FDef := ⟨"is_integer", "is_integer", ["value"], ["value"], ir_is_integer⟩
def ir_is_between : ISs := (.cons (.ret (.andE (.call "is_integer" "is_integer" 1 (.cons (.var 0) .nil)) (.cons (.chain .LtE .LtE (.var 1) (.var 0) (.var 2)) .nil))) .nil)
def d_is_between : FDef := ⟨"is_between", "is_between", ["value", "least", "most"], ["value", "least", "most"], ir_is_between⟩
def c1_raised : IE := (.cmp .Gt (.var 1) (.cst (.int 0)))
def b1_raised : ISs := (.cons (.ifS (.cmp .Eq (.bin .Mod (.var 1) (.cst (.int 2))) (.cst (.int 1))) (.cons (.aug 2 .Mult (.var 0)) .nil) .nil) (.cons (.aug 0 .Mult (.var 0)) (.cons (.aug 1 .FloorDiv (.cst (.int 2))) .nil)))
def ir_raised : ISs := (.cons (.asg (.nm 2) (.cst (.int 1))) (.cons (.whl c1_raised b1_raised) (.cons (.ret (.var 2)) .nil)))
def d_raised : FDef := ⟨"raised", "raised", ["base", "count"], ["base", "count", "result"], ir_raised⟩
def c1_reduced : IE := (.cmp .Gt (.var 3) (.cst (.int 0)))
def b1_reduced : ISs := (.cons (.asg (.nm 4) (.call "raised" "raised" 2 (.cons (.var 0) (.cons (.var 3) .nil)))) (.cons (.ifS (.cmp .Eq (.bin .Mod (.var 1) (.var 4)) (.cst (.int 0))) (.cons (.aug 1 .FloorDiv (.var 4)) (.cons (.aug 2 .Add (.var 3)) (.cons (.aug 3 .Mult (.cst (.int 2))) .nil))) (.cons (.aug 3 .FloorDiv (.cst (.int 2))) .nil)) .nil))
def ir_reduced : ISs := (.cons (.ifS (.cmp .Eq (.var 1) (.cst (.int 0))) (.cons (.ret (.tup (.cons (.cst (.int 0)) (.cons (.cst (.int 0)) .nil)))) .nil) .nil) (.cons (.asg (.nm 3) (.cst (.int 1))) (.cons (.whl c1_reduced b1_reduced) (.cons (.ret (.tup (.cons (.var 1) (.cons (.var 2) .nil)))) .nil))))
def d_reduced : FDef := ⟨"reduced", "reduced", ["base", "numerator", "exponent"], ["base", "numerator", "exponent", "step", "divisor"], ir_reduced⟩
def ir_at_place : ISs := (.cons (.ret (.ite (.cmp .NotEq (.ix (.var 1) (.cst (.int 0))) (.cst (.int 0))) (.bin .Mult (.ix (.var 1) (.cst (.int 0))) (.call "raised" "raised" 2 (.cons (.var 0) (.cons (.bin .Sub (.ix (.var 1) (.cst (.int 1))) (.var 2)) .nil)))) (.cst (.int 0)))) .nil)
def d_at_place : FDef := ⟨"at_place", "at_place", ["base", "number", "place"], ["base", "number", "place"], ir_at_place⟩
def ir_total : ISs := (.cons (.asg (.nm 3) (.minDf (.comp [("number", 4)] (.nm 4) (.seq (.tup (.cons (.var 1) (.cons (.var 2) .nil)))) (.some (.cmp .NotEq (.ix (.var 4) (.cst (.int 0))) (.cst (.int 0)))) (.ix (.var 4) (.cst (.int 1)))) (.int 0))) (.cons (.ret (.call "reduced" "reduced" 3 (.cons (.var 0) (.cons (.bin .Add (.call "at_place" "at_place" 3 (.cons (.var 0) (.cons (.var 1) (.cons (.var 3) .nil)))) (.call "at_place" "at_place" 3 (.cons (.var 0) (.cons (.var 2) (.cons (.var 3) .nil))))) (.cons (.var 3) .nil))))) .nil))
def d_total : FDef := ⟨"total", "total", ["base", "one", "other"], ["base", "one", "other", "place", "number"], ir_total⟩
def ir_negated : ISs := (.cons (.ret (.tup (.cons (.neg (.ix (.var 0) (.cst (.int 0)))) (.cons (.ix (.var 0) (.cst (.int 1))) .nil)))) .nil)
def d_negated : FDef := ⟨"negated", "negated", ["number"], ["number"], ir_negated⟩
def ir_moved : ISs := (.cons (.ret (.ite (.cmp .NotEq (.ix (.var 0) (.cst (.int 0))) (.cst (.int 0))) (.tup (.cons (.ix (.var 0) (.cst (.int 0))) (.cons (.bin .Add (.ix (.var 0) (.cst (.int 1))) (.var 1)) .nil))) (.tup (.cons (.cst (.int 0)) (.cons (.cst (.int 0)) .nil))))) .nil)
def d_moved : FDef := ⟨"moved", "moved", ["number", "places"], ["number", "places"], ir_moved⟩
def ir_is_pair : ISs := (.cons (.ret (.andE (.isa .tuple (.var 0)) (.cons (.cmp .Eq (.bi .len (.cons (.var 0) .nil)) (.cst (.int 2))) .nil))) .nil)
def d_is_pair : FDef := ⟨"is_pair", "is_pair", ["value"], ["value"], ir_is_pair⟩
def ir_is_number : ISs := (.cons (.ifS (.orE (.notE (.call "is_pair" "is_pair" 1 (.cons (.var 1) .nil))) (.cons (.notE (.call "is_integer" "is_integer" 1 (.cons (.ix (.var 1) (.cst (.int 0))) .nil))) (.cons (.notE (.call "is_between" "is_between" 3 (.cons (.ix (.var 1) (.cst (.int 1))) (.cons (.neg (.glo "MAX_PLACE")) (.cons (.glo "MAX_PLACE") .nil))))) .nil))) (.cons (.ret (.cst (.bool false))) .nil) .nil) (.cons (.asg (.tp [(.nm 2), (.nm 3)]) (.var 1)) (.cons (.ifS (.cmp .Eq (.var 2) (.cst (.int 0))) (.cons (.ret (.cmp .Eq (.var 3) (.cst (.int 0)))) .nil) .nil) (.cons (.ret (.andE (.cmp .Lt (.bi .abs (.cons (.var 2) .nil)) (.glo "TOO_LONG")) (.cons (.cmp .NotEq (.bin .Mod (.var 2) (.var 0)) (.cst (.int 0))) .nil))) .nil))))
def d_is_number : FDef := ⟨"is_number", "is_number", ["base", "value"], ["base", "value", "numerator", "exponent"], ir_is_number⟩
def ir_within_limits : ISs := (.cons (.ifS (.cmp .GtE (.bi .abs (.cons (.ix (.var 0) (.cst (.int 0))) .nil)) (.glo "TOO_LONG")) (.cons .never .nil) .nil) (.cons (.ifS (.notE (.call "is_between" "is_between" 3 (.cons (.ix (.var 0) (.cst (.int 1))) (.cons (.neg (.glo "MAX_PLACE")) (.cons (.glo "MAX_PLACE") .nil))))) (.cons .never .nil) .nil) (.cons (.ret (.var 0)) .nil)))
def d_within_limits : FDef := ⟨"within_limits", "within_limits", ["number"], ["number"], ir_within_limits⟩
def ir_is_effect : ISs := (.cons (.ifS (.orE (.notE (.isa .tuple (.var 1))) (.cons (.cmp .NotEq (.bi .len (.cons (.var 1) .nil)) (.cst (.int 2))) (.cons (.notE (.call "is_number" "is_number" 2 (.cons (.var 0) (.cons (.ix (.var 1) (.cst (.int 0))) .nil)))) .nil))) (.cons (.ret (.cst (.bool false))) .nil) .nil) (.cons (.ret (.call "is_between" "is_between" 3 (.cons (.ix (.var 1) (.cst (.int 1))) (.cons (.neg (.glo "MAX_PLACE")) (.cons (.glo "MAX_PLACE") .nil))))) .nil))
def d_is_effect : FDef := ⟨"is_effect", "is_effect", ["base", "value"], ["base", "value"], ir_is_effect⟩
def ir_require_effect : ISs := (.cons (.ifS (.notE (.call "is_effect" "is_effect" 2 (.cons (.var 0) (.cons (.var 1) .nil)))) (.cons .never .nil) .nil) .nil)
def d_require_effect : FDef := ⟨"require_effect", "require_effect", ["base", "value"], ["base", "value"], ir_require_effect⟩
def ir_require_offset : ISs := (.cons (.ifS (.notE (.call "is_between" "is_between" 3 (.cons (.var 0) (.cons (.neg (.glo "MAX_PLACE")) (.cons (.glo "MAX_PLACE") .nil))))) (.cons .never .nil) .nil) .nil)
def d_require_offset : FDef := ⟨"require_offset", "require_offset", ["offset"], ["offset"], ir_require_offset⟩
def ir_put_together : ISs := (.cons (.ret (.tup (.cons (.call "total" "total" 3 (.cons (.var 0) (.cons (.ix (.var 1) (.cst (.int 0))) (.cons (.call "moved" "moved" 2 (.cons (.ix (.var 2) (.cst (.int 0))) (.cons (.ix (.var 1) (.cst (.int 1))) .nil))) .nil)))) (.cons (.bin .Add (.ix (.var 1) (.cst (.int 1))) (.ix (.var 2) (.cst (.int 1)))) .nil)))) .nil)
def d_put_together : FDef := ⟨"put_together", "put_together", ["base", "first", "second"], ["base", "first", "second"], ir_put_together⟩
def ir_turned_back : ISs := (.cons (.ret (.tup (.cons (.call "moved" "moved" 2 (.cons (.call "negated" "negated" 1 (.cons (.ix (.var 0) (.cst (.int 0))) .nil)) (.cons (.neg (.ix (.var 0) (.cst (.int 1)))) .nil))) (.cons (.neg (.ix (.var 0) (.cst (.int 1)))) .nil)))) .nil)
def d_turned_back : FDef := ⟨"turned_back", "turned_back", ["pair"], ["pair"], ir_turned_back⟩
def ir_checked : ISs := (.cons (.expr (.call "require_offset" "require_offset" 1 (.cons (.ix (.var 0) (.cst (.int 1))) .nil))) (.cons (.ret (.tup (.cons (.call "within_limits" "within_limits" 1 (.cons (.ix (.var 0) (.cst (.int 0))) .nil)) (.cons (.ix (.var 0) (.cst (.int 1))) .nil)))) .nil))
def d_checked : FDef := ⟨"checked", "checked", ["pair"], ["pair"], ir_checked⟩
def ir_conjugate : ISs := (.cons (.expr (.call "require_effect" "require_effect" 2 (.cons (.var 0) (.cons (.var 1) .nil)))) (.cons (.expr (.call "require_effect" "require_effect" 2 (.cons (.var 0) (.cons (.var 2) .nil)))) (.cons (.ret (.call "checked" "checked" 1 (.cons (.call "put_together" "put_together" 3 (.cons (.var 0) (.cons (.call "put_together" "put_together" 3 (.cons (.var 0) (.cons (.var 2) (.cons (.var 1) .nil)))) (.cons (.call "turned_back" "turned_back" 1 (.cons (.var 2) .nil)) .nil)))) .nil))) .nil)))
def d_conjugate : FDef := ⟨"conjugate", "conjugate", ["base", "one", "by"], ["base", "one", "by"], ir_conjugate⟩
def ir_residue : ISs := (.cons (.ret (.bin .Mod (.bin .Mult (.ix (.var 1) (.cst (.int 0))) (.call "raised" "raised" 2 (.cons (.var 0) (.cons (.bin .Mod (.ix (.var 1) (.cst (.int 1))) (.var 2)) .nil)))) (.var 3))) .nil)
def d_residue : FDef := ⟨"residue", "residue", ["base", "number", "step", "modulus"], ["base", "number", "step", "modulus"], ir_residue⟩
def b1_conjugators : ISs := (.cons (.ifS (.cmp .Eq (.var 7) (.var 8)) (.cons (.expr (.lm .append (.var 5) (.cons (.var 6) .nil))) .nil) .nil) (.cons (.asg (.nm 7) (.bin .Mod (.bin .Mult (.var 7) (.var 0)) (.var 4))) .nil))
def ir_conjugators : ISs := (.cons (.expr (.call "require_effect" "require_effect" 2 (.cons (.var 0) (.cons (.var 1) .nil)))) (.cons (.expr (.call "require_effect" "require_effect" 2 (.cons (.var 0) (.cons (.var 2) .nil)))) (.cons (.ifS (.cmp .NotEq (.ix (.var 1) (.cst (.int 1))) (.ix (.var 2) (.cst (.int 1)))) (.cons (.ret (.new .nil)) .nil) .nil) (.cons (.ifS (.cmp .Eq (.ix (.var 1) (.cst (.int 1))) (.cst (.int 0))) (.cons (.ret (.call "resting" "resting" 2 (.cons (.ix (.var 1) (.cst (.int 0))) (.cons (.ix (.var 2) (.cst (.int 0))) .nil)))) .nil) .nil) (.cons (.asg (.nm 3) (.bi .abs (.cons (.ix (.var 1) (.cst (.int 1))) .nil))) (.cons (.asg (.nm 4) (.bin .Sub (.call "raised" "raised" 2 (.cons (.var 0) (.cons (.var 3) .nil))) (.cst (.int 1)))) (.cons (.par [7, 8] (.cons (.call "residue" "residue" 4 (.cons (.var 0) (.cons (.ix (.var 1) (.cst (.int 0))) (.cons (.var 3) (.cons (.var 4) .nil))))) (.cons (.call "residue" "residue" 4 (.cons (.var 0) (.cons (.ix (.var 2) (.cst (.int 0))) (.cons (.var 3) (.cons (.var 4) .nil))))) .nil))) (.cons (.asg (.nm 5) (.new .nil)) (.cons (.forS (.nm 6) (.rng (.cons (.var 3) .nil)) b1_conjugators) (.cons (.ret (.var 5)) .nil))))))))))
def d_conjugators : FDef := ⟨"conjugators", "conjugators", ["base", "one", "other"], ["base", "one", "other", "step", "modulus", "found", "offset", "first", "second"], ir_conjugators⟩
def ir_resting : ISs := (.cons (.ifS (.andE (.cmp .Eq (.var 0) (.tup (.cons (.cst (.int 0)) (.cons (.cst (.int 0)) .nil)))) (.cons (.cmp .Eq (.var 1) (.tup (.cons (.cst (.int 0)) (.cons (.cst (.int 0)) .nil)))) .nil)) (.cons (.ret (.new (.cons (.cst (.int 0)) .nil))) .nil) .nil) (.cons (.asg (.nm 2) (.bin .Sub (.ix (.var 1) (.cst (.int 1))) (.ix (.var 0) (.cst (.int 1))))) (.cons (.asg (.nm 3) (.andE (.cmp .Eq (.ix (.var 0) (.cst (.int 0))) (.ix (.var 1) (.cst (.int 0)))) (.cons (.cmp .NotEq (.ix (.var 0) (.cst (.int 0))) (.cst (.int 0))) .nil))) (.cons (.ret (.ite (.andE (.var 3) (.cons (.chain .LtE .LtE (.neg (.glo "MAX_PLACE")) (.var 2) (.glo "MAX_PLACE")) .nil)) (.new (.cons (.var 2) .nil)) (.new .nil))) .nil))))
def d_resting : FDef := ⟨"resting", "resting", ["one", "other"], ["one", "other", "offset", "is_alike"], ir_resting⟩
def b1__law_numbers : ISs := (.cons (.ifS (.andE (.cmp .GtE (.var 3) (.bin .Pow (.cst (.int 10)) (.cst (.int 18)))) (.cons (.cmp .Gt (.var 4) (.cst (.int 0))) .nil)) (.cons (.expr (.lm .append (.var 5) (.cons (.bin .Mod (.var 4) (.ix (.var 2) (.var 6))) .nil))) (.cons (.asg (.nm 4) (.bin .FloorDiv (.var 4) (.ix (.var 2) (.var 6)))) .nil)) (.cons (.asg (.nm 7) (.bin .Mod (.bin .Pow (.bin .Add (.bin .Add (.bin .Mod (.var 3) (.cst (.int 2147483629))) (.bin .Mult (.cst (.int 7919)) (.var 1))) (.cst (.int 1))) (.cst (.int 3))) (.cst (.int 2147483647)))) (.cons (.asg (.nm 7) (.bin .Mod (.bin .Mult (.bin .Add (.var 7) (.bin .Mult (.cst (.int 104729)) (.bin .Add (.var 6) (.cst (.int 1))))) (.bin .Add (.var 6) (.cst (.int 3)))) (.cst (.int 2147483629)))) (.cons (.asg (.nm 7) (.bin .Mod (.bin .Mult (.bin .Mod (.bin .Pow (.var 7) (.cst (.int 5))) (.cst (.int 2147483647))) (.cst (.int 48271))) (.cst (.int 2147483629)))) (.cons (.expr (.lm .append (.var 5) (.cons (.bin .Mod (.bin .FloorDiv (.var 7) (.cst (.int 16))) (.ix (.var 2) (.var 6))) .nil))) .nil))))) .nil)
def ir__law_numbers : ISs := (.cons (.asg (.nm 3) (.bi .max (.cons (.var 0) (.cons (.bin .Sub (.neg (.cst (.int 1))) (.var 0)) .nil)))) (.cons (.asg (.nm 4) (.var 3)) (.cons (.asg (.nm 5) (.new .nil)) (.cons (.forS (.nm 6) (.rng (.cons (.bi .len (.cons (.var 2) .nil)) .nil)) b1__law_numbers) (.cons (.ret (.frz (.var 5))) .nil)))))
def d__law_numbers : FDef := ⟨"_law_numbers", "_law_numbers", ["_law_cell", "_law_salt", "_law_sizes"], ["_law_cell", "_law_salt", "_law_sizes", "_law_number_here", "_law_left", "_law_result", "_law_k", "_law_one"], ir__law_numbers⟩
def c1__law_power : IE := (.cmp .Gt (.var 1) (.cst (.int 0)))
def b1__law_power : ISs := (.cons (.ifS (.cmp .Eq (.bin .Mod (.var 1) (.cst (.int 2))) (.cst (.int 1))) (.cons (.asg (.nm 2) (.bin .Mult (.var 2) (.var 0))) .nil) .nil) (.cons (.par [0, 1] (.cons (.bin .Mult (.var 0) (.var 0)) (.cons (.bin .FloorDiv (.var 1) (.cst (.int 2))) .nil))) .nil))
def ir__law_power : ISs := (.cons (.asg (.nm 2) (.cst (.int 1))) (.cons (.whl c1__law_power b1__law_power) (.cons (.ret (.var 2)) .nil)))
def d__law_power : FDef := ⟨"_law_power", "_law_power", ["_law_base", "_law_count"], ["_law_base", "_law_count", "_law_result"], ir__law_power⟩
def c1__law_reduced : IE := (.andE (.cmp .NotEq (.var 1) (.cst (.int 0))) (.cons (.cmp .Eq (.bin .Mod (.var 1) (.var 0)) (.cst (.int 0))) .nil))
def b1__law_reduced : ISs := (.cons (.par [1, 2] (.cons (.bin .FloorDiv (.var 1) (.var 0)) (.cons (.bin .Add (.var 2) (.cst (.int 1))) .nil))) .nil)
def ir__law_reduced : ISs := (.cons (.whl c1__law_reduced b1__law_reduced) (.cons (.ret (.ite (.cmp .NotEq (.var 1) (.cst (.int 0))) (.tup (.cons (.var 1) (.cons (.var 2) .nil))) (.tup (.cons (.cst (.int 0)) (.cons (.cst (.int 0)) .nil))))) .nil))
def d__law_reduced : FDef := ⟨"_law_reduced", "_law_reduced", ["_law_base", "_law_numerator", "_law_exponent"], ["_law_base", "_law_numerator", "_law_exponent"], ir__law_reduced⟩
def ir__law_sum : ISs := (.cons (.asg (.nm 3) (.bi .min (.cons (.ix (.var 1) (.cst (.int 1))) (.cons (.ix (.var 2) (.cst (.int 1))) .nil)))) (.cons (.asg (.nm 4) (.bin .Mult (.ix (.var 1) (.cst (.int 0))) (.call "_law_power" "_law_power" 2 (.cons (.var 0) (.cons (.bin .Sub (.ix (.var 1) (.cst (.int 1))) (.var 3)) .nil))))) (.cons (.ret (.call "_law_reduced" "_law_reduced" 3 (.cons (.var 0) (.cons (.bin .Add (.var 4) (.bin .Mult (.ix (.var 2) (.cst (.int 0))) (.call "_law_power" "_law_power" 2 (.cons (.var 0) (.cons (.bin .Sub (.ix (.var 2) (.cst (.int 1))) (.var 3)) .nil))))) (.cons (.var 3) .nil))))) .nil)))
def d__law_sum : FDef := ⟨"_law_sum", "_law_sum", ["_law_base", "_law_one", "_law_other"], ["_law_base", "_law_one", "_law_other", "_law_low", "_law_left"], ir__law_sum⟩
def b1__law_integer : ISs := (.cons (.asg (.nm 1) (.bin .Add (.bin .Mult (.var 1) (.cst (.int 420))) (.var 2))) .nil)
def ir__law_integer : ISs := (.cons (.par [3, 4] (.cons (.bin .Mod (.ix (.var 0) (.cst (.int 0))) (.cst (.int 5))) (.cons (.ix (.lst (.cons (.cst (.int 1)) (.cons (.neg (.cst (.int 1))) .nil))) (.bin .Mod (.ix (.var 0) (.cst (.int 1))) (.cst (.int 2)))) .nil))) (.cons (.ifS (.cmp .Lt (.var 3) (.cst (.int 3))) (.cons (.ret (.bin .Mult (.var 4) (.ix (.lst (.cons (.cst (.int 0)) (.cons (.bin .Mod (.ix (.var 0) (.cst (.int 2))) (.cst (.int 40))) (.cons (.bin .Add (.bin .Mult (.ix (.var 0) (.cst (.int 2))) (.cst (.int 420))) (.ix (.var 0) (.cst (.int 3)))) .nil)))) (.var 3)))) .nil) .nil) (.cons (.asg (.nm 1) (.cst (.int 0))) (.cons (.forS (.nm 2) (.seq (.slc (.var 0) (.some (.cst (.int 2))) (.some (.bin .Add (.cst (.int 2)) (.ix (.lst (.cons (.cst (.int 8)) (.cons (.cst (.int 30)) .nil))) (.bin .Sub (.var 3) (.cst (.int 3)))))))) b1__law_integer) (.cons (.ret (.bin .Mult (.var 4) (.var 1))) .nil)))))
def d__law_integer : FDef := ⟨"_law_integer", "_law_integer", ["_law_digits"], ["_law_digits", "_law_result", "_law_digit", "_law_size", "_law_sign"], ir__law_integer⟩
def ir__law_offset_effect : ISs := (.cons (.asg (.nm 2) (.call "_law_reduced" "_law_reduced" 3 (.cons (.var 0) (.cons (.call "_law_integer" "_law_integer" 1 (.cons (.slc (.var 1) (.some (.cst (.int 2))) .none) .nil)) (.cons (.bin .Sub (.bin .Mod (.ix (.var 1) (.cst (.int 0))) (.cst (.int 9))) (.cst (.int 4))) .nil))))) (.cons (.ret (.tup (.cons (.var 2) (.cons (.bin .Sub (.bin .Mod (.ix (.var 1) (.cst (.int 1))) (.cst (.int 9))) (.cst (.int 4))) .nil)))) .nil))
def d__law_offset_effect : FDef := ⟨"_law_offset_effect", "_law_offset_effect", ["_law_base", "_law_digits"], ["_law_base", "_law_digits", "_law_number_here"], ir__law_offset_effect⟩
def b1__law_want : ISs := (.cons (.asg (.nm 7) (.tup (.cons (.neg (.ix (.ix (.var 1) (.cst (.int 0))) (.cst (.int 0)))) (.cons (.bin .Add (.ix (.ix (.var 1) (.cst (.int 0))) (.cst (.int 1))) (.var 6)) .nil)))) (.cons (.ifS (.cmp .Eq (.bin .Mod (.ix (.call "_law_sum" "_law_sum" 3 (.cons (.var 0) (.cons (.ix (.var 2) (.cst (.int 0))) (.cons (.var 7) .nil)))) (.cst (.int 0))) (.var 4)) (.cst (.int 0))) (.cons (.expr (.lm .append (.var 5) (.cons (.var 6) .nil))) .nil) .nil) .nil))
def ir__law_want : ISs := (.cons (.ifS (.cmp .NotEq (.ix (.var 1) (.cst (.int 1))) (.ix (.var 2) (.cst (.int 1)))) (.cons (.ret (.lst .nil)) .nil) .nil) (.cons (.ifS (.cmp .Eq (.ix (.var 1) (.cst (.int 1))) (.cst (.int 0))) (.cons (.ifS (.andE (.cmp .Eq (.ix (.ix (.var 1) (.cst (.int 0))) (.cst (.int 0))) (.cst (.int 0))) (.cons (.cmp .Eq (.ix (.ix (.var 2) (.cst (.int 0))) (.cst (.int 0))) (.cst (.int 0))) .nil)) (.cons (.ret (.lst (.cons (.cst (.int 0)) .nil))) .nil) .nil) (.cons (.asg (.nm 6) (.bin .Sub (.ix (.ix (.var 2) (.cst (.int 0))) (.cst (.int 1))) (.ix (.ix (.var 1) (.cst (.int 0))) (.cst (.int 1))))) (.cons (.ret (.ite (.cmp .Eq (.ix (.ix (.var 1) (.cst (.int 0))) (.cst (.int 0))) (.ix (.ix (.var 2) (.cst (.int 0))) (.cst (.int 0)))) (.lst (.cons (.var 6) .nil)) (.lst .nil))) .nil))) .nil) (.cons (.asg (.nm 3) (.bi .max (.cons (.ix (.var 1) (.cst (.int 1))) (.cons (.neg (.ix (.var 1) (.cst (.int 1)))) .nil)))) (.cons (.asg (.nm 4) (.bin .Sub (.call "_law_power" "_law_power" 2 (.cons (.var 0) (.cons (.var 3) .nil))) (.cst (.int 1)))) (.cons (.asg (.nm 5) (.new .nil)) (.cons (.forS (.nm 6) (.rng (.cons (.var 3) .nil)) b1__law_want) (.cons (.ret (.frz (.var 5))) .nil)))))))
def d__law_want : FDef := ⟨"_law_want", "_law_want", ["_law_base", "_law_one", "_law_other"], ["_law_base", "_law_one", "_law_other", "_law_size", "_law_divisor", "_law_result", "_law_by", "_law_placed"], ir__law_want⟩
def b1_law_1 : IS := (.asg (.nm 3) (.call "_law_numbers" "_law_numbers" 3 (.cons (.var 2) (.cons (.bin .Add (.cst (.int 5700)) (.var 1)) (.cons (.bin .Mult (.lst (.cons (.cst (.int 420)) .nil)) (.cst (.int 90))) .nil)))))
def b1_law_2 : IS := (.asg (.nm 4) (.bin .Add (.cst (.int 2)) (.bin .Mod (.ix (.var 3) (.cst (.int 0))) (.cst (.int 35)))))
def b1_law_3 : IS := (.par [11, 12] (.cons (.call "_law_offset_effect" "_law_offset_effect" 2 (.cons (.var 4) (.cons (.slc (.var 3) (.some (.cst (.int 1))) .none) .nil))) (.cons (.call "_law_offset_effect" "_law_offset_effect" 2 (.cons (.var 4) (.cons (.slc (.var 3) (.some (.cst (.int 40))) .none) .nil))) .nil)))
def b1_law_4 : IS := (.asg (.nm 5) (.call "conjugate" "conjugate" 3 (.cons (.var 4) (.cons (.var 11) (.cons (.var 12) .nil)))))
def b1_law_5 : IS := (.asg (.nm 6) (.ite (.cmp .NotEq (.ix (.var 11) (.cst (.int 1))) (.cst (.int 0))) (.bin .Mod (.ix (.var 12) (.cst (.int 1))) (.bi .max (.cons (.ix (.var 11) (.cst (.int 1))) (.cons (.neg (.ix (.var 11) (.cst (.int 1)))) .nil)))) (.ix (.var 12) (.cst (.int 1)))))
def b1_law_6 : IS := (.ifS (.andE (.cmp .NotEq (.ix (.var 11) (.cst (.int 1))) (.cst (.int 0))) (.cons (.cmp .NotIn (.var 6) (.frz (.call "conjugators" "conjugators" 3 (.cons (.var 4) (.cons (.var 11) (.cons (.var 5) .nil)))))) .nil)) (.cons (.ret (.cst (.bool false))) .nil) .nil)
def b1_law_7 : IS := (.ifS (.andE (.cmp .Eq (.ix (.var 11) (.cst (.int 1))) (.cst (.int 0))) (.cons (.cmp .NotEq (.ix (.ix (.var 11) (.cst (.int 0))) (.cst (.int 0))) (.cst (.int 0))) (.cons (.cmp .NotEq (.frz (.call "conjugators" "conjugators" 3 (.cons (.var 4) (.cons (.var 11) (.cons (.var 5) .nil))))) (.lst (.cons (.var 6) .nil))) .nil))) (.cons (.ret (.cst (.bool false))) .nil) .nil)
def b1_law_8 : IS := (.asg (.nm 7) (.lst (.cons (.tup (.cons (.tup (.cons (.cst (.int 1)) (.cons (.cst (.int 1000)) .nil))) (.cons (.cst (.int 0)) .nil))) (.cons (.tup (.cons (.tup (.cons (.cst (.int 1)) (.cons (.cst (.int 0)) .nil))) (.cons (.cst (.int 0)) .nil))) (.cons (.tup (.cons (.tup (.cons (.cst (.int 1)) (.cons (.neg (.cst (.int 1000))) .nil))) (.cons (.cst (.int 0)) .nil))) (.cons (.tup (.cons (.tup (.cons (.cst (.int 1)) (.cons (.neg (.cst (.int 1))) .nil))) (.cons (.cst (.int 0)) .nil))) .nil))))))
def b1_law_9 : IS := (.ifS (.cmp .NotEq (.comp [("_law_end", 15)] (.nm 15) (.seq (.slc (.var 7) (.some (.cst (.int 1))) .none)) .none (.frz (.call "conjugators" "conjugators" 3 (.cons (.var 4) (.cons (.ix (.var 7) (.cst (.int 0))) (.cons (.var 15) .nil)))))) (.lst (.cons (.lst (.cons (.neg (.cst (.int 1000))) .nil)) (.cons (.lst .nil) (.cons (.lst .nil) .nil))))) (.cons (.ret (.cst (.bool false))) .nil) .nil)
def b1_law_10 : IS := (.ifS (.cmp .NotEq (.comp [("_law_end", 15)] (.nm 15) (.seq (.slc (.var 7) (.some (.cst (.int 1))) .none)) .none (.frz (.call "conjugators" "conjugators" 3 (.cons (.var 4) (.cons (.var 15) (.cons (.ix (.var 7) (.cst (.int 0))) .nil)))))) (.lst (.cons (.lst (.cons (.cst (.int 1000)) .nil)) (.cons (.lst .nil) (.cons (.lst .nil) .nil))))) (.cons (.ret (.cst (.bool false))) .nil) .nil)
def b1_law_11 : IS := (.asg (.nm 8) (.call "_law_reduced" "_law_reduced" 3 (.cons (.var 4) (.cons (.ix (.ix (.var 12) (.cst (.int 0))) (.cst (.int 0))) (.cons (.bin .Sub (.bin .Mod (.ix (.var 3) (.cst (.int 80))) (.cst (.int 9))) (.cst (.int 4))) .nil)))))
def b1_law_12 : IS := (.asg (.nm 9) (.lst (.cons (.var 5) (.cons (.var 11) (.cons (.tup (.cons (.var 8) (.cons (.ix (.var 11) (.cst (.int 1))) .nil))) (.cons (.tup (.cons (.ix (.var 11) (.cst (.int 0))) (.cons (.bin .Add (.ix (.var 11) (.cst (.int 1))) (.cst (.int 1))) .nil))) (.cons (.tup (.cons (.tup (.cons (.cst (.int 0)) (.cons (.cst (.int 0)) .nil))) (.cons (.ix (.var 11) (.cst (.int 1))) .nil))) (.cons (.tup (.cons (.ix (.var 11) (.cst (.int 0))) (.cons (.neg (.ix (.var 11) (.cst (.int 1)))) .nil))) .nil))))))))
def b3_law : ISs := (.cons (.asg (.nm 14) (.call "conjugators" "conjugators" 3 (.cons (.var 4) (.cons (.var 11) (.cons (.var 10) .nil))))) (.cons (.ifS (.orE (.cmp .NotEq (.var 14) (.call "_law_want" "_law_want" 3 (.cons (.var 4) (.cons (.var 11) (.cons (.var 10) .nil))))) (.cons (.cmp .NotEq (.frz (.call "conjugators" "conjugators" 3 (.cons (.var 4) (.cons (.var 10) (.cons (.var 11) .nil))))) (.call "_law_want" "_law_want" 3 (.cons (.var 4) (.cons (.var 10) (.cons (.var 11) .nil))))) .nil)) (.cons (.ret (.cst (.bool false))) .nil) .nil) (.cons (.expr (.lm .append (.var 14) (.cons (.cst .none) .nil))) .nil)))
def b2_law : ISs := (.cons (.forS (.nm 13) (.rng (.cons (.cst (.int 2)) .nil)) b3_law) .nil)
def b1_law_13 : IS := (.forS (.nm 10) (.seq (.var 9)) b2_law)
def b1_law : ISs := (.cons b1_law_1 (.cons b1_law_2 (.cons b1_law_3 (.cons b1_law_4 (.cons b1_law_5 (.cons b1_law_6 (.cons b1_law_7 (.cons b1_law_8 (.cons b1_law_9 (.cons b1_law_10 (.cons b1_law_11 (.cons b1_law_12 (.cons b1_law_13 .nil)))))))))))))
def ir_law : ISs := (.cons (.forS (.tp [(.nm 1), (.nm 2)]) (.enum (.bin .Add (.slc (.var 0) .none (.some (.cst (.int 6)))) (.bin .Mult (.lst (.cons (.cst (.int 7)) .nil)) (.bi .int (.cons (.cmp .Eq (.var 0) (.lst .nil)) .nil))))) b1_law) (.cons (.ret (.cst (.bool true))) .nil))
def d_law : FDef := ⟨"law", "law", ["_law_script"], ["_law_script", "_law_k", "_law_cell", "_law_digits", "_law_base", "_law_other", "_law_known", "_law_ends", "_law_far", "_law_others", "_law_two", "_law_one", "_law_by", "_law_turn", "_law_got", "_law_end"], ir_law⟩
def fr : List Str := (["abs", "bool", "enumerate", "int", "isinstance", "len", "max", "min", "range", "tuple"] : List Str)
def gs : List (Str × D) := [("MAX_PLACE", (.int 1000)), ("TOO_LONG", (.int 1000000000000000000000000000000000000000000000000000000000000000000000000000000000000000000000000000000000000000000000000000000000000000000000000000000000000000000000000000000000000000000000000000000000000000000000000000000000000000000000000000000000000000000000000000000000000000000000000000000000000))]
def TF : List FDef := [d_is_integer, d_is_between, d_raised, d_reduced, d_at_place, d_total, d_negated, d_moved, d_is_pair, d_is_number, d_within_limits, d_is_effect, d_require_effect, d_require_offset, d_put_together, d_turned_back, d_checked, d_conjugate, d_residue, d_conjugators, d_resting, d__law_numbers, d__law_power, d__law_reduced, d__law_sum, d__law_integer, d__law_offset_effect, d__law_want, d_law]
theorem tabF : unB TF = true := by decide +kernel
noncomputable abbrev cx (n : Nat) : PD.Ctx := cxN gs TF n
theorem at_ {d : FDef} (hd : d ∈ TF) (n : Nat) : (cx (n + 1)).cf d.id = callP (cx n) d.N.length d.body := cf_at tabF hd n
theorem at_is_integer (n : Nat) : (cx (n + 1)).cf "is_integer" = callP (cx n) 1 ir_is_integer := at_ (d := d_is_integer) (by simp [TF]) n
theorem at_is_between (n : Nat) : (cx (n + 1)).cf "is_between" = callP (cx n) 3 ir_is_between := at_ (d := d_is_between) (by simp [TF]) n
theorem at_raised (n : Nat) : (cx (n + 1)).cf "raised" = callP (cx n) 3 ir_raised := at_ (d := d_raised) (by simp [TF]) n
theorem at_reduced (n : Nat) : (cx (n + 1)).cf "reduced" = callP (cx n) 5 ir_reduced := at_ (d := d_reduced) (by simp [TF]) n
theorem at_at_place (n : Nat) : (cx (n + 1)).cf "at_place" = callP (cx n) 3 ir_at_place := at_ (d := d_at_place) (by simp [TF]) n
theorem at_total (n : Nat) : (cx (n + 1)).cf "total" = callP (cx n) 5 ir_total := at_ (d := d_total) (by simp [TF]) n
theorem at_negated (n : Nat) : (cx (n + 1)).cf "negated" = callP (cx n) 1 ir_negated := at_ (d := d_negated) (by simp [TF]) n
theorem at_moved (n : Nat) : (cx (n + 1)).cf "moved" = callP (cx n) 2 ir_moved := at_ (d := d_moved) (by simp [TF]) n
theorem at_is_pair (n : Nat) : (cx (n + 1)).cf "is_pair" = callP (cx n) 1 ir_is_pair := at_ (d := d_is_pair) (by simp [TF]) n
theorem at_is_number (n : Nat) : (cx (n + 1)).cf "is_number" = callP (cx n) 4 ir_is_number := at_ (d := d_is_number) (by simp [TF]) n
theorem at_within_limits (n : Nat) : (cx (n + 1)).cf "within_limits" = callP (cx n) 1 ir_within_limits := at_ (d := d_within_limits) (by simp [TF]) n
theorem at_is_effect (n : Nat) : (cx (n + 1)).cf "is_effect" = callP (cx n) 2 ir_is_effect := at_ (d := d_is_effect) (by simp [TF]) n
theorem at_require_effect (n : Nat) : (cx (n + 1)).cf "require_effect" = callP (cx n) 2 ir_require_effect := at_ (d := d_require_effect) (by simp [TF]) n
theorem at_require_offset (n : Nat) : (cx (n + 1)).cf "require_offset" = callP (cx n) 1 ir_require_offset := at_ (d := d_require_offset) (by simp [TF]) n
theorem at_put_together (n : Nat) : (cx (n + 1)).cf "put_together" = callP (cx n) 3 ir_put_together := at_ (d := d_put_together) (by simp [TF]) n
theorem at_turned_back (n : Nat) : (cx (n + 1)).cf "turned_back" = callP (cx n) 1 ir_turned_back := at_ (d := d_turned_back) (by simp [TF]) n
theorem at_checked (n : Nat) : (cx (n + 1)).cf "checked" = callP (cx n) 1 ir_checked := at_ (d := d_checked) (by simp [TF]) n
theorem at_conjugate (n : Nat) : (cx (n + 1)).cf "conjugate" = callP (cx n) 3 ir_conjugate := at_ (d := d_conjugate) (by simp [TF]) n
theorem at_residue (n : Nat) : (cx (n + 1)).cf "residue" = callP (cx n) 4 ir_residue := at_ (d := d_residue) (by simp [TF]) n
theorem at_conjugators (n : Nat) : (cx (n + 1)).cf "conjugators" = callP (cx n) 9 ir_conjugators := at_ (d := d_conjugators) (by simp [TF]) n
theorem at_resting (n : Nat) : (cx (n + 1)).cf "resting" = callP (cx n) 4 ir_resting := at_ (d := d_resting) (by simp [TF]) n
theorem at__law_numbers (n : Nat) : (cx (n + 1)).cf "_law_numbers" = callP (cx n) 8 ir__law_numbers := at_ (d := d__law_numbers) (by simp [TF]) n
theorem at__law_power (n : Nat) : (cx (n + 1)).cf "_law_power" = callP (cx n) 3 ir__law_power := at_ (d := d__law_power) (by simp [TF]) n
theorem at__law_reduced (n : Nat) : (cx (n + 1)).cf "_law_reduced" = callP (cx n) 3 ir__law_reduced := at_ (d := d__law_reduced) (by simp [TF]) n
theorem at__law_sum (n : Nat) : (cx (n + 1)).cf "_law_sum" = callP (cx n) 5 ir__law_sum := at_ (d := d__law_sum) (by simp [TF]) n
theorem at__law_integer (n : Nat) : (cx (n + 1)).cf "_law_integer" = callP (cx n) 5 ir__law_integer := at_ (d := d__law_integer) (by simp [TF]) n
theorem at__law_offset_effect (n : Nat) : (cx (n + 1)).cf "_law_offset_effect" = callP (cx n) 3 ir__law_offset_effect := at_ (d := d__law_offset_effect) (by simp [TF]) n
theorem at__law_want (n : Nat) : (cx (n + 1)).cf "_law_want" = callP (cx n) 8 ir__law_want := at_ (d := d__law_want) (by simp [TF]) n
theorem at_law (n : Nat) : (cx (n + 1)).cf "law" = callP (cx n) 16 ir_law := at_ (d := d_law) (by simp [TF]) n
theorem gv_MAX_PLACE (n : Nat) : (cx n).gv "MAX_PLACE" = some (.int 1000) := by first | rfl | decide +kernel
theorem gv_TOO_LONG (n : Nat) : (cx n).gv "TOO_LONG" = some (.int 1000000000000000000000000000000000000000000000000000000000000000000000000000000000000000000000000000000000000000000000000000000000000000000000000000000000000000000000000000000000000000000000000000000000000000000000000000000000000000000000000000000000000000000000000000000000000000000000000000000000000) := by first | rfl | decide +kernel
end Q
namespace Q
open PySem L2 PD
theorem raised_loop (C : PD.Ctx) : ∀ (n k : Nat), k ≤ n → ∀ (b r : Int) (a m : Nat) (S : Store), Sz a b → Sz m r → a * (2 * k) < 130000000 → m + a * k < 130000000 →
    ∃ b', evS C (.whl c1_raised b1_raised) [some (.d (.int b)), some (.d (.int k)), some (.d (.int r))] S = .nx [some (.d (.int b')), some (.d (.int 0)), some (.d (.int (r * b ^ k)))] S := by
  intro n
  induction n with
  | zero =>
    intro k hk b r a m S _ _ _ _
    have : k = 0 := by omega
    subst this
    refine ⟨b, ?_⟩
    rw [whl_stop (S1 := S)]
    · simp
    · simp [c1_raised, bind_, pp_, mret_, run_e, slot_, cstD, ops_, bins_]
  | succ n ih =>
    intro k hk b r a m S hb hr h1 h2
    by_cases z : k = 0
    · exact ih k (by omega) b r a m S hb hr h1 h2
    have hk0 : (0 : Int) < (k : Int) := by omega
    have hbb : mulFits b b = true := hb.mulFits hb (by have : a * (2 * 1) ≤ a * (2 * k) := Nat.mul_le_mul_left a (by omega); omega)
    have hrb : mulFits r b = true := hr.mulFits hb (by have : a * 1 ≤ a * k := Nat.mul_le_mul_left a (by omega); omega)
    have hd : divFits (k : Int) 2 = true := divFits_small (by decide) (by unfold Sz; exact Nat.lt_of_lt_of_le (by decide : (2 : Int).natAbs < 2 ^ 2) (Nat.pow_le_pow_right (by decide) (by decide)))
    have e2 : k = 2 * (k / 2) + k % 2 := by omega
    have hm : ((k : Int).fmod 2 = 1) = (k % 2 = 1) := by rw [fmod2]; exact propext ⟨fun h => by omega, fun h => by omega⟩
    have hc : evE C c1_raised [some (.d (.int b)), some (.d (.int k)), some (.d (.int r))] S = .ok (.d (.bl true)) S := by
      simp [c1_raised, bind_, pp_, mret_, run_e, slot_, cstD, ops_, bins_, hk0]
      try omega
    by_cases o : k % 2 = 1
    · obtain ⟨b', h⟩ := ih (k / 2) (by omega) (b * b) (r * b) (a + a) (m + a) S (hb.mul hb) (hr.mul hb) (by
        have : (a + a) * (2 * (k / 2)) ≤ a * (2 * k) := by
          have : a * (2 * (2 * (k / 2))) ≤ a * (2 * k) := Nat.mul_le_mul_left a (by omega)
          calc (a + a) * (2 * (k / 2)) = a * (2 * (2 * (k / 2))) := by rw [← Nat.two_mul, Nat.mul_comm 2 a, Nat.mul_assoc]
            _ ≤ _ := this
        omega) (by
        have : a + (a + a) * (k / 2) = a * k := by
          rw [← Nat.two_mul, Nat.mul_comm 2 a, Nat.mul_assoc]
          conv => rhs; rw [e2, o, Nat.mul_add, Nat.mul_one]
          omega
        omega)
      refine ⟨b', ?_⟩
      have e3 : r * b * (b * b) ^ (k / 2) = r * b ^ k := by
        conv => rhs; rw [e2, o, Int.pow_succ, Int.pow_mul]
        rw [show b ^ 2 = b * b by rw [Int.pow_succ, Int.pow_succ, Int.pow_zero, Int.one_mul], Int.mul_assoc, Int.mul_comm b]
      rw [e3] at h
      rw [whl_go hc (S2 := S) (ρ2 := [some (.d (.int (b * b))), some (.d (.int (k / 2 : Nat))), some (.d (.int (r * b)))]), h]
      simp [b1_raised, bind_, pp_, mret_, run_e, slot_, cstD, ops_, bins_, run_ss, run_s, into_, nxt_, hbb, hrb, hd, hm, o, hk0, z, evVar, fdiv2]
    · obtain ⟨b', h⟩ := ih (k / 2) (by omega) (b * b) r (a + a) m S (hb.mul hb) hr (by
        have : (a + a) * (2 * (k / 2)) ≤ a * (2 * k) := by
          have : a * (2 * (2 * (k / 2))) ≤ a * (2 * k) := Nat.mul_le_mul_left a (by omega)
          calc (a + a) * (2 * (k / 2)) = a * (2 * (2 * (k / 2))) := by rw [← Nat.two_mul, Nat.mul_comm 2 a, Nat.mul_assoc]
            _ ≤ _ := this
        omega) (by
        have : (a + a) * (k / 2) = a * k := by
          rw [← Nat.two_mul, Nat.mul_comm 2 a, Nat.mul_assoc]
          congr 1
          omega
        omega)
      refine ⟨b', ?_⟩
      have o2 : k % 2 = 0 := by omega
      have e3 : r * (b * b) ^ (k / 2) = r * b ^ k := by
        conv => rhs; rw [e2, o2, Nat.add_zero, Int.pow_mul]
        rw [show b ^ 2 = b * b by rw [Int.pow_succ, Int.pow_succ, Int.pow_zero, Int.one_mul]]
      rw [e3] at h
      rw [whl_go hc (S2 := S) (ρ2 := [some (.d (.int (b * b))), some (.d (.int (k / 2 : Nat))), some (.d (.int r))]), h]
      simp [b1_raised, bind_, pp_, mret_, run_e, slot_, cstD, ops_, bins_, run_ss, run_s, into_, nxt_, hbb, hrb, hd, hm, o, hk0, z, evVar, fdiv2]
def RaisedOk (C : PD.Ctx) : Prop := ∀ (b e : Int) (a : Nat) (S : Store), Sz a b → a * (2 * e.toNat) + 2 < 130000000 → C.cf "raised" [.d (.int b), .d (.int e)] S = .ok (.d (.int (b ^ e.toNat))) S
theorem raised_run (C : PD.Ctx) (b e : Int) (a : Nat) (S : Store) (hb : Sz a b) (h : a * (2 * e.toNat) + 2 < 130000000) : callP C 3 ir_raised [.d (.int b), .d (.int e)] S = .ok (.d (.int (b ^ e.toNat))) S := by
  have h1 : a * e.toNat ≤ a * (2 * e.toNat) := Nat.mul_le_mul_left a (by omega)
  refine callP_ret (ds := [.int b, .int e]) (S' := []) ?_
  show evSs C ir_raised [some (.d (.int b)), some (.d (.int e)), none] [] = _
  have hw : ∃ b' e', evS C (.whl c1_raised b1_raised) [some (.d (.int b)), some (.d (.int e)), some (.d (.int 1))] [] = .nx [some (.d (.int b')), some (.d (.int e')), some (.d (.int (b ^ e.toNat)))] [] := by
    by_cases he : 0 < e
    · obtain ⟨b', h'⟩ := raised_loop C e.toNat e.toNat (Nat.le_refl _) b 1 a 1 [] hb (by unfold Sz; decide) (by omega) (by omega)
      rw [Int.toNat_of_nonneg (by omega), Int.one_mul] at h'
      exact ⟨b', 0, h'⟩
    · refine ⟨b, e, ?_⟩
      have z : e.toNat = 0 := by omega
      rw [whl_stop (S1 := [])]
      · rw [z, Int.pow_zero]
      · simp [c1_raised, bind_, pp_, mret_, run_e, slot_, cstD, ops_, bins_]
        omega
  obtain ⟨b', e', hw⟩ := hw
  simp [ir_raised, bind_, pp_, mret_, run_e, slot_, cstD, ops_, bins_, run_ss, run_s, into_, nxt_, Tg.bind, hw]
theorem dvd_test {n d : Int} (hd : 0 < d) : (n.fmod d = 0) = (d ∣ n) := by
  rw [Int.fmod_eq_emod_of_nonneg _ (Int.le_of_lt hd)]
  exact propext (Int.dvd_iff_emod_eq_zero).symm
theorem pow_ge2 {b : Int} (hb : 2 ≤ b) (t : Nat) : (2 : Int) ^ t ≤ b ^ t := by
  induction t with
  | zero => simp
  | succ t ih =>
    rw [Int.pow_succ, Int.pow_succ]
    have h0 : (0 : Int) ≤ 2 ^ t := Int.pow_nonneg (by decide)
    exact Int.mul_le_mul ih hb (by decide) (Int.le_trans h0 ih)
theorem pow_pos' {b : Int} (hb : 2 ≤ b) (t : Nat) : 0 < b ^ t := Int.pow_pos (by omega)
theorem pow_le_sz {b n : Int} {t m : Nat} (hb : 2 ≤ b) (hn : n ≠ 0) (h : b ^ t ∣ n) (hs : Sz m n) : t < m ∧ Sz m (b ^ t) := by
  have h1 := pow_ge2 hb t
  have h0 := pow_pos' hb t
  have h2 : (b ^ t).natAbs ≤ n.natAbs := Nat.le_of_dvd (by omega) (Int.natAbs_dvd_natAbs.mpr h)
  have h3 : (b ^ t).natAbs < 2 ^ m := Nat.lt_of_le_of_lt h2 hs
  refine ⟨?_, h3⟩
  have e1 : ((2 ^ t : Nat) : Int) = (2 : Int) ^ t := by simp
  have h4 : 2 ^ t < 2 ^ m := by omega
  exact (Nat.pow_lt_pow_iff_right (by decide)).mp h4
theorem reduced_loop {C : PD.Ctx} (hR : RaisedOk C) {b : Int} (hb : 2 ≤ b) (hs : Sz 6 b) : ∀ (N t : Nat) (n e : Int) (d : Option Val) (S : Store), n.natAbs ≤ N → n ≠ 0 → Sz 9000 n → t ≤ 20000 → (t = 0 → ¬ b ∣ n) →
    ∃ n' e' d', evS C (.whl c1_reduced b1_reduced) [some (.d (.int b)), some (.d (.int n)), some (.d (.int e)), some (.d (.int t)), d] S = .nx [some (.d (.int b)), some (.d (.int n')), some (.d (.int e')), some (.d (.int 0)), d'] S ∧ IsRed b n e n' e' := by
  intro N
  induction N with
  | zero => intro t n e d S h1 h2; omega
  | succ N ihN =>
    intro t
    induction t using Nat.strongRecOn with
    | _ t iht =>
      intro n e d S h1 h2 h3 h4 h5
      by_cases z : t = 0
      · subst z
        refine ⟨n, e, d, ?_, .inr ⟨h2, 0, by rw [Int.pow_zero, Int.mul_one], by omega, h5 rfl⟩⟩
        rw [whl_stop (S1 := S)]
        · rfl
        · simp [c1_reduced, bind_, pp_, mret_, run_e, slot_, cstD, ops_, bins_]
      · have hc : evE C c1_reduced [some (.d (.int b)), some (.d (.int n)), some (.d (.int e)), some (.d (.int t)), d] S = .ok (.d (.bl true)) S := by
          simp [c1_reduced, bind_, pp_, mret_, run_e, slot_, cstD, ops_, bins_]
          omega
        have hcall : C.cf "raised" [.d (.int b), .d (.int t)] S = .ok (.d (.int (b ^ t))) S := by
          have := hR b t 6 S hs (by simp; omega)
          simpa using this
        have hpos := pow_pos' hb t
        have hne : b ^ t ≠ 0 := by omega
        have htest := dvd_test (n := n) hpos
        by_cases hd : b ^ t ∣ n
        · obtain ⟨q, hq⟩ := hd
          obtain ⟨k1, k2⟩ := pow_le_sz hb h2 ⟨q, hq⟩ h3
          have hdf : divFits n (b ^ t) = true := divFits_small hne k2
          have hfd : n.fdiv (b ^ t) = q := by rw [hq, Int.mul_comm]; exact Int.mul_fdiv_cancel _ hne
          have hq0 : q ≠ 0 := fun z => h2 (by rw [hq, z, Int.mul_zero])
          have hmf : mulFits t 2 = true := (Sz.mulFits (a := 20) (b := 2) (by unfold Sz; simp; omega) (by unfold Sz; decide) (by decide))
          have hlt : q.natAbs < n.natAbs := by
            rw [hq, Int.natAbs_mul]
            have h6 : 2 ≤ (b ^ t).natAbs := by
              have := pow_ge2 hb t
              have h7 : (2 : Int) ^ 1 ≤ 2 ^ t := by
                have : 2 ^ 1 ≤ 2 ^ t := Nat.pow_le_pow_right (by decide) (by omega)
                have e1 : ((2 ^ t : Nat) : Int) = (2 : Int) ^ t := by simp
                omega
              omega
            have h8 : 0 < q.natAbs := by omega
            calc q.natAbs < 2 * q.natAbs := by omega
              _ ≤ (b ^ t).natAbs * q.natAbs := Nat.mul_le_mul_right _ h6
          obtain ⟨n', e', d', h9, h10⟩ := ihN (2 * t) q (e + t) (some (.d (.int (b ^ t)))) S (by omega) hq0 (Nat.lt_trans hlt h3) (by omega) (by omega)
          refine ⟨n', e', d', ?_, ?_⟩
          · rw [whl_go hc (S2 := S) (ρ2 := [some (.d (.int b)), some (.d (.int q)), some (.d (.int (e + t))), some (.d (.int (2 * t : Nat))), some (.d (.int (b ^ t)))]), h9]
            have hz : n.fmod (b ^ t) = 0 := by rw [htest]; exact ⟨q, hq⟩
            simp [b1_reduced, bind_, pp_, mret_, run_e, run_e2, run_l, slot_, cstD, ops_, bins_, run_ss, run_s, into_, nxt_, Tg.bind, hcall, hne, hz, hdf, hfd, hmf, evVar, Int.mul_comm]
          · have := h10.of_pow hb
            rw [hq, Int.mul_comm]
            exact this
        · have hdf : divFits (t : Int) 2 = true := divFits_small (by decide) (Sz.mono (a := 2) (by unfold Sz; decide) (by decide))
          obtain ⟨n', e', d', h9, h10⟩ := iht (t / 2) (by omega) n e (some (.d (.int (b ^ t)))) S h1 h2 h3 (by omega) (fun z => by
            have : t = 1 := by omega
            subst this
            rw [Int.pow_one] at hd
            exact hd)
          refine ⟨n', e', d', ?_, h10⟩
          have hz : ¬ n.fmod (b ^ t) = 0 := by rw [htest]; exact hd
          rw [whl_go hc (S2 := S) (ρ2 := [some (.d (.int b)), some (.d (.int n)), some (.d (.int e)), some (.d (.int (t / 2 : Nat))), some (.d (.int (b ^ t)))]), h9]
          simp [b1_reduced, bind_, pp_, mret_, run_e, run_e2, run_l, slot_, cstD, ops_, bins_, run_ss, run_s, into_, nxt_, Tg.bind, hcall, hne, hz, hdf, evVar, fdiv2]
def ReducedOk (C : PD.Ctx) : Prop := ∀ (b n e : Int) (S : Store), 2 ≤ b → Sz 6 b → Sz 9000 n → C.cf "reduced" [.d (.int b), .d (.int n), .d (.int e)] S = .ok (.d (nmD (red b n e))) S
theorem reduced_run {C : PD.Ctx} (hR : RaisedOk C) (b n e : Int) (S : Store) (hb : 2 ≤ b) (hs : Sz 6 b) (hn : Sz 9000 n) : callP C 5 ir_reduced [.d (.int b), .d (.int n), .d (.int e)] S = .ok (.d (nmD (red b n e))) S := by
  refine callP_ret (ds := [.int b, .int n, .int e]) (S' := []) ?_
  show evSs C ir_reduced [some (.d (.int b)), some (.d (.int n)), some (.d (.int e)), none, none] [] = _
  by_cases z : n = 0
  · rw [red_eq hb (n' := 0) (e' := 0) (.inl ⟨z, rfl, rfl⟩)]
    simp [ir_reduced, bind_, pp_, mret_, run_e, run_l, slot_, cstD, ops_, bins_, run_ss, run_s, into_, nxt_, z, asl_, mk_, nmD]
  · obtain ⟨n', e', d', h, hr⟩ := reduced_loop hR hb hs n.natAbs 1 n e none [] (Nat.le_refl _) z hn (by decide) (fun q => absurd q (by decide))
    rw [red_eq hb hr]
    have h : evS C (.whl c1_reduced b1_reduced) [some (.d (.int b)), some (.d (.int n)), some (.d (.int e)), some (.d (.int 1)), none] [] = _ := h
    simp [ir_reduced, bind_, pp_, mret_, run_e, run_l, slot_, cstD, ops_, bins_, run_ss, run_s, into_, nxt_, z, asl_, mk_, nmD, Tg.bind, h]
def AtPlaceOk (C : PD.Ctx) : Prop := ∀ (b : Int) (p : Int × Int) (l : Int) (S : Store), 2 ≤ b → Sz 6 b → Sz 20000 p.1 → p.2 - l ≤ 20000 → C.cf "at_place" [.d (.int b), .d (nmD p), .d (.int l)] S = .ok (.d (.int (atp b p l))) S
theorem at_place_run {C : PD.Ctx} (hR : RaisedOk C) (b : Int) (p : Int × Int) (l : Int) (S : Store) (hb : 2 ≤ b) (hs : Sz 6 b) (hn : Sz 20000 p.1) (hl : p.2 - l ≤ 20000) : callP C 3 ir_at_place [.d (.int b), .d (nmD p), .d (.int l)] S = .ok (.d (.int (atp b p l))) S := by
  refine callP_ret (ds := [.int b, nmD p, .int l]) (S' := []) ?_
  show evSs C ir_at_place [some (.d (.int b)), some (.d (nmD p)), some (.d (.int l))] [] = _
  have hcall : C.cf "raised" [.d (.int b), .d (.int (p.2 - l))] [] = .ok (.d (.int (pw b (p.2 - l)))) [] := hR b (p.2 - l) 6 [] hs (by omega)
  have hm : mulFits p.1 (pw b (p.2 - l)) = true := hn.mulFits (pw_sz hs (k := 20000) hl) (by decide)
  by_cases z : p.1 = 0
  · simp [ir_at_place, bind_, pp_, mret_, run_e, run_e2, run_l, slot_, cstD, ops_, bins_, run_ss, run_s, into_, nxt_, z, asl_, nmD, ix_, atp]
  · simp [ir_at_place, bind_, pp_, mret_, run_e, run_e2, run_l, slot_, cstD, ops_, bins_, run_ss, run_s, into_, nxt_, z, asl_, nmD, ix_, atp, hcall, hm]
end Q

namespace Q
open PySem L2 PD
theorem raised_c (n : Nat) : RaisedOk (cx (n + 1)) := fun b e a S hb h => by rw [at_raised]; exact raised_run _ b e a S hb h
theorem reduced_c (n : Nat) : ReducedOk (cx (n + 2)) := fun b m e S hb hs hn => by rw [at_reduced]; exact reduced_run (raised_c n) b m e S hb hs hn
theorem at_place_c (n : Nat) : AtPlaceOk (cx (n + 2)) := fun b p l S hb hs hn hl => by rw [at_at_place]; exact at_place_run (raised_c n) b p l S hb hs hn hl
theorem total_c (n : Nat) {b m : Int} {k : Nat} {p q : Int × Int} (S : Store) (hb : 2 ≤ b) (hs : Sz 6 b) (hp : Bd b m k p) (hq : Bd b m k q) (hm : 0 ≤ m) (hk : m < k) (hk2 : k < 9000) :
    (cx (n + 3)).cf "total" [.d (.int b), .d (nmD p), .d (nmD q)] S = .ok (.d (nmD (tot b p q))) S := by
  rw [at_total]
  refine callP_ret (ds := [.int b, nmD p, nmD q]) (S' := []) ?_
  show evSs (cx (n + 2)) ir_total [some (.d (.int b)), some (.d (nmD p)), some (.d (nmD q)), none, none] [] = _
  have e1 := hp.exp hb hm hk
  have e2 := hq.exp hb hm hk
  have h1 := plc_ge hp hq hm
  have a1 := at_place_c n b p (plc p q) [] hb hs ((hp.num hb).mono (by omega)) (by omega)
  have a2 := at_place_c n b q (plc p q) [] hb hs ((hq.num hb).mono (by omega)) (by omega)
  have a3 := reduced_c n b (atp b p (plc p q) + atp b q (plc p q)) (plc p q) [] hb hs ((tot_sz hb hp hq hm).mono (by omega))
  unfold tot
  have hpl : (if p.1 = 0 then (if q.1 = 0 then (0 : Int) else q.2) else (if q.1 = 0 then p.2 else (if q.2 < p.2 then q.2 else p.2))) = plc p q := by
    unfold plc; simp only [ne_eq, ite_not]
  by_cases z1 : p.1 = 0
  · by_cases z2 : q.1 = 0
    · rw [if_pos z1, if_pos z2] at hpl
      rw [← hpl] at a1 a2 a3 ⊢
      simp [ir_total, bind_, pp_, mret_, run_e, run_e2, run_l, slot_, cstD, ops_, bins_, run_ss, run_s, into_, nxt_, z1, z2, asl_, mk_, nm_, iterD, compL, wipeR, Tg.bind, minDf_, a1, a2, a3, szl_]
    · rw [if_pos z1, if_neg z2] at hpl
      rw [← hpl] at a1 a2 a3 ⊢
      simp [ir_total, bind_, pp_, mret_, run_e, run_e2, run_l, slot_, cstD, ops_, bins_, run_ss, run_s, into_, nxt_, z1, z2, asl_, mk_, nm_, iterD, compL, wipeR, Tg.bind, minDf_, a1, a2, a3, szl_]
  · by_cases z2 : q.1 = 0
    · rw [if_neg z1, if_pos z2] at hpl
      rw [← hpl] at a1 a2 a3 ⊢
      simp [ir_total, bind_, pp_, mret_, run_e, run_e2, run_l, slot_, cstD, ops_, bins_, run_ss, run_s, into_, nxt_, z1, z2, asl_, mk_, nm_, iterD, compL, wipeR, Tg.bind, minDf_, a1, a2, a3, szl_]
    · rw [if_neg z1, if_neg z2] at hpl
      rw [← hpl] at a1 a2 a3 ⊢
      simp [ir_total, bind_, pp_, mret_, run_e, run_e2, run_l, slot_, cstD, ops_, bins_, run_ss, run_s, into_, nxt_, z1, z2, asl_, mk_, nm_, iterD, compL, wipeR, Tg.bind, minDf_, a1, a2, a3, szl_]
theorem negated_c (n : Nat) (p : Int × Int) (S : Store) : (cx (n + 1)).cf "negated" [.d (nmD p)] S = .ok (.d (nmD (ngd p))) S := by
  rw [at_negated]
  refine callP_ret (ds := [nmD p]) (S' := []) ?_
  show evSs (cx n) ir_negated [some (.d (nmD p))] [] = _
  simp [ir_negated, bind_, pp_, mret_, run_e, run_e2, run_l, slot_, cstD, ops_, bins_, run_ss, run_s, into_, nxt_, asl_, mk_, ix_, nmD, ngd]
theorem moved_c (n : Nat) (p : Int × Int) (t : Int) (S : Store) : (cx (n + 1)).cf "moved" [.d (nmD p), .d (.int t)] S = .ok (.d (nmD (mvd p t))) S := by
  rw [at_moved]
  refine callP_ret (ds := [nmD p, .int t]) (S' := []) ?_
  show evSs (cx n) ir_moved [some (.d (nmD p)), some (.d (.int t))] [] = _
  unfold mvd
  by_cases z : p.1 = 0
  · simp [ir_moved, bind_, pp_, mret_, run_e, run_e2, run_l, slot_, cstD, ops_, bins_, run_ss, run_s, into_, nxt_, asl_, mk_, ix_, nmD, z]
  · simp [ir_moved, bind_, pp_, mret_, run_e, run_e2, run_l, slot_, cstD, ops_, bins_, run_ss, run_s, into_, nxt_, asl_, mk_, ix_, nmD, z]
theorem is_integer_c (n : Nat) (i : Int) (S : Store) : (cx (n + 1)).cf "is_integer" [.d (.int i)] S = .ok (.d (.bl true)) S := by
  rw [at_is_integer]
  refine callP_ret (ds := [.int i]) (S' := []) ?_
  show evSs (cx n) ir_is_integer [some (.d (.int i))] [] = _
  simp [ir_is_integer, bind_, pp_, mret_, run_e, run_e2, run_l, slot_, cstD, ops_, bins_, run_ss, run_s, into_, nxt_, isaB]
theorem is_between_c (n : Nat) (i l u : Int) (S : Store) : (cx (n + 2)).cf "is_between" [.d (.int i), .d (.int l), .d (.int u)] S = .ok (.d (.bl (decide (l ≤ i) && decide (i ≤ u)))) S := by
  rw [at_is_between]
  refine callP_ret (ds := [.int i, .int l, .int u]) (S' := []) ?_
  show evSs (cx (n + 1)) ir_is_between [some (.d (.int i)), some (.d (.int l)), some (.d (.int u))] [] = _
  have h := is_integer_c n i []
  by_cases z : l ≤ i
  · simp [ir_is_between, bind_, pp_, mret_, run_e, run_e2, run_l, slot_, cstD, ops_, bins_, run_ss, run_s, into_, nxt_, h, z]
  · simp [ir_is_between, bind_, pp_, mret_, run_e, run_e2, run_l, slot_, cstD, ops_, bins_, run_ss, run_s, into_, nxt_, h, z]
end Q

namespace Q
open PySem L2 PD
/-- a number that the program takes -/
structure NumOk (b : Int) (p : Int × Int) : Prop where
  can : Can b p
  lo : -1000 ≤ p.2
  hi : p.2 ≤ 1000
  sz : Sz 996 p.1
def TL : Int := 10 ^ 300
theorem sz_TL {i : Int} (h : Sz 996 i) : (if i < 0 then -i else i) < TL := by
  unfold Sz at h
  have e : (2 : Nat) ^ 996 < 10 ^ 300 := by decide +kernel
  have e2 : TL = ((10 ^ 300 : Nat) : Int) := by decide +kernel
  rw [e2]
  have : i.natAbs < 10 ^ 300 := Nat.lt_trans h e
  generalize (10 ^ 300 : Nat) = N at this
  split <;> omega
theorem gv_TL (n : Nat) : (cx n).gv "TOO_LONG" = some (.int TL) := by
  rw [gv_TOO_LONG]
  have : TL = 10 ^ 300 := rfl
  rw [this]
  congr 2
theorem is_pair_c (n : Nat) (p : Int × Int) (S : Store) : (cx (n + 1)).cf "is_pair" [.d (nmD p)] S = .ok (.d (.bl true)) S := by
  rw [at_is_pair]
  refine callP_ret (ds := [nmD p]) (S' := []) ?_
  show evSs (cx n) ir_is_pair [some (.d (nmD p))] [] = _
  simp [ir_is_pair, bind_, pp_, mret_, run_e, run_e2, run_l, slot_, cstD, ops_, bins_, run_ss, run_s, into_, nxt_, bi_, asl_]
theorem is_number_c (n : Nat) {b : Int} {p : Int × Int} (hb : 2 ≤ b) (h : NumOk b p) (S : Store) : (cx (n + 3)).cf "is_number" [.d (.int b), .d (nmD p)] S = .ok (.d (.bl true)) S := by
  rw [at_is_number]
  refine callP_ret (ds := [.int b, nmD p]) (S' := []) ?_
  show evSs (cx (n + 2)) ir_is_number [some (.d (.int b)), some (.d (nmD p)), none, none] [] = _
  have a1 := is_pair_c (n + 1) p []
  have a2 := is_integer_c (n + 1) p.1 []
  have a3 := is_between_c n p.2 (-1000) 1000 []
  rw [decide_eq_true h.lo, decide_eq_true h.hi] at a3
  have hne : b ≠ 0 := by omega
  have htl := sz_TL h.sz
  rcases h.can with ⟨h1, h2⟩ | ⟨h1, h2⟩
  · simp [ir_is_number, bind_, pp_, mret_, run_e, run_e2, run_l, slot_, cstD, ops_, bins_, run_ss, run_s, into_, nxt_, bi_, asl_, a1, a2, a3, nm_, gv_MAX_PLACE, gv_TL, bind_nm, h1, h2]
    rw [h1] at a2
    rw [h2] at a3
    simp [ir_is_number, bind_, pp_, mret_, run_e, run_e2, run_l, slot_, cstD, ops_, bins_, run_ss, run_s, into_, nxt_, bi_, asl_, a1, a2, a3, nm_, gv_MAX_PLACE, gv_TL, bind_nm, h1, h2]
  · have h3 : ¬ p.1.fmod b = 0 := by rw [dvd_test (by omega)]; exact h2
    simp [ir_is_number, bind_, pp_, mret_, run_e, run_e2, run_l, slot_, cstD, ops_, bins_, run_ss, run_s, into_, nxt_, bi_, asl_, a1, a2, a3, nm_, gv_MAX_PLACE, gv_TL, bind_nm, h1, h3, hne, htl]
theorem is_effect_c (n : Nat) {b : Int} {p : Int × Int} {s : Int} (hb : 2 ≤ b) (h : NumOk b p) (h1 : -1000 ≤ s) (h2 : s ≤ 1000) (S : Store) : (cx (n + 4)).cf "is_effect" [.d (.int b), .d (efD p s)] S = .ok (.d (.bl true)) S := by
  rw [at_is_effect]
  refine callP_ret (ds := [.int b, efD p s]) (S' := []) ?_
  show evSs (cx (n + 3)) ir_is_effect [some (.d (.int b)), some (.d (efD p s))] [] = _
  have a1 := is_number_c n hb h []
  have a3 := is_between_c (n + 1) s (-1000) 1000 []
  rw [decide_eq_true h1, decide_eq_true h2] at a3
  simp [ir_is_effect, bind_, pp_, mret_, run_e, run_e2, run_l, slot_, cstD, ops_, bins_, run_ss, run_s, into_, nxt_, bi_, asl_, a1, a3, ef_, gv_MAX_PLACE]
theorem require_effect_c (n : Nat) {b : Int} {p : Int × Int} {s : Int} (hb : 2 ≤ b) (h : NumOk b p) (h1 : -1000 ≤ s) (h2 : s ≤ 1000) (S : Store) : (cx (n + 5)).cf "require_effect" [.d (.int b), .d (efD p s)] S = .ok (.d .non) S := by
  rw [at_require_effect]
  refine callP_nx (ds := [.int b, efD p s]) (S' := []) (ρ' := [some (.d (.int b)), some (.d (efD p s))]) ?_
  show evSs (cx (n + 4)) ir_require_effect [some (.d (.int b)), some (.d (efD p s))] [] = _
  have a1 := is_effect_c n hb h h1 h2 []
  simp [ir_require_effect, bind_, pp_, mret_, run_e, run_e2, run_l, slot_, cstD, ops_, bins_, run_ss, run_s, into_, nxt_, a1]
theorem require_offset_c (n : Nat) {s : Int} (h1 : -1000 ≤ s) (h2 : s ≤ 1000) (S : Store) : (cx (n + 3)).cf "require_offset" [.d (.int s)] S = .ok (.d .non) S := by
  rw [at_require_offset]
  refine callP_nx (ds := [.int s]) (S' := []) (ρ' := [some (.d (.int s))]) ?_
  show evSs (cx (n + 2)) ir_require_offset [some (.d (.int s))] [] = _
  have a3 := is_between_c n s (-1000) 1000 []
  rw [decide_eq_true h1, decide_eq_true h2] at a3
  simp [ir_require_offset, bind_, pp_, mret_, run_e, run_e2, run_l, slot_, cstD, ops_, bins_, run_ss, run_s, into_, nxt_, a3, gv_MAX_PLACE]
theorem within_limits_c (n : Nat) {b : Int} {p : Int × Int} (h : NumOk b p) (S : Store) : (cx (n + 3)).cf "within_limits" [.d (nmD p)] S = .ok (.d (nmD p)) S := by
  rw [at_within_limits]
  refine callP_ret (ds := [nmD p]) (S' := []) ?_
  show evSs (cx (n + 2)) ir_within_limits [some (.d (nmD p))] [] = _
  have a3 := is_between_c n p.2 (-1000) 1000 []
  rw [decide_eq_true h.lo, decide_eq_true h.hi] at a3
  have htl : ¬ TL ≤ (if p.1 < 0 then -p.1 else p.1) := by have := sz_TL h.sz; omega
  simp [ir_within_limits, bind_, pp_, mret_, run_e, run_e2, run_l, slot_, cstD, ops_, bins_, run_ss, run_s, into_, nxt_, bi_, asl_, a3, nm_, gv_MAX_PLACE, gv_TL, htl]
theorem checked_c (n : Nat) {b : Int} {p : Int × Int} {s : Int} (h : NumOk b p) (h1 : -1000 ≤ s) (h2 : s ≤ 1000) (S : Store) : (cx (n + 4)).cf "checked" [.d (efD p s)] S = .ok (.d (efD p s)) S := by
  rw [at_checked]
  refine callP_ret (ds := [efD p s]) (S' := []) ?_
  show evSs (cx (n + 3)) ir_checked [some (.d (efD p s))] [] = _
  have a1 := require_offset_c n h1 h2 []
  have a2 := within_limits_c n h []
  simp [ir_checked, bind_, pp_, mret_, run_e, run_e2, run_l, slot_, cstD, ops_, bins_, run_ss, run_s, into_, nxt_, asl_, mk_, a1, a2, ef_]
  rfl
theorem turned_back_c (n : Nat) (p : Int × Int) (s : Int) (S : Store) : (cx (n + 2)).cf "turned_back" [.d (efD p s)] S = .ok (.d (efD (mvd (ngd p) (-s)) (-s))) S := by
  rw [at_turned_back]
  refine callP_ret (ds := [efD p s]) (S' := []) ?_
  show evSs (cx (n + 1)) ir_turned_back [some (.d (efD p s))] [] = _
  have a1 := negated_c n p []
  have a2 := moved_c n (ngd p) (-s) []
  simp [ir_turned_back, bind_, pp_, mret_, run_e, run_e2, run_l, slot_, cstD, ops_, bins_, run_ss, run_s, into_, nxt_, asl_, mk_, a1, a2, ef_]
  rfl
theorem put_together_c (n : Nat) {b m : Int} {k : Nat} {p q : Int × Int} {s t : Int} (S : Store) (hb : 2 ≤ b) (hs : Sz 6 b) (hp : Bd b m k p) (hq : Bd b m k (mvd q s)) (hm : 0 ≤ m) (hk : m < k) (hk2 : k < 9000) :
    (cx (n + 4)).cf "put_together" [.d (.int b), .d (efD p s), .d (efD q t)] S = .ok (.d (efD (tot b p (mvd q s)) (s + t))) S := by
  rw [at_put_together]
  refine callP_ret (ds := [.int b, efD p s, efD q t]) (S' := []) ?_
  show evSs (cx (n + 3)) ir_put_together [some (.d (.int b)), some (.d (efD p s)), some (.d (efD q t))] [] = _
  have a1 := moved_c (n + 2) q s []
  have a2 := total_c n [] hb hs hp hq hm hk hk2
  simp [ir_put_together, bind_, pp_, mret_, run_e, run_e2, run_l, slot_, cstD, ops_, bins_, run_ss, run_s, into_, nxt_, asl_, mk_, a1, a2, ef_]
  rfl
end Q

namespace Q
open PySem L2 PD
theorem conjugate_c (n : Nat) {b m : Int} {k : Nat} {p y : Int × Int} {s t : Int} (S : Store) (hb : 2 ≤ b) (hs : Sz 6 b) (hp : NumOk b p) (hy : NumOk b y) (h1 : -1000 ≤ s) (h2 : s ≤ 1000) (h3 : -1000 ≤ t) (h4 : t ≤ 1000)
    (by1 : Bd b m k y) (bm : Bd b m k (mvd p t)) (bm2 : Bd b m (k + 1) (mvd (mvd (ngd y) (-t)) (t + s))) (hm : 0 ≤ m) (hk : m < k) (hk2 : k + 1 < 9000)
    (hr : NumOk b (tot b (tot b y (mvd p t)) (mvd (mvd (ngd y) (-t)) (t + s)))) :
    (cx (n + 6)).cf "conjugate" [.d (.int b), .d (efD p s), .d (efD y t)] S = .ok (.d (efD (tot b (tot b y (mvd p t)) (mvd (mvd (ngd y) (-t)) (t + s))) s)) S := by
  rw [at_conjugate]
  refine callP_ret (ds := [.int b, efD p s, efD y t]) (S' := []) ?_
  show evSs (cx (n + 5)) ir_conjugate [some (.d (.int b)), some (.d (efD p s)), some (.d (efD y t))] [] = _
  have a1 := require_effect_c n hb hp h1 h2 []
  have a2 := require_effect_c n hb hy h3 h4 []
  have a3 := put_together_c (n + 1) (s := t) (t := s) [] hb hs by1 bm hm hk (by omega)
  have a4 := turned_back_c (n + 3) y t []
  have a5 := put_together_c (n + 1) (s := t + s) (t := -t) [] hb hs (tot_bd hb by1 bm hm).1 bm2 hm (by omega) hk2
  have e : t + s + -t = s := by omega
  rw [e] at a5
  have a6 := checked_c (n + 1) hr h1 h2 []
  simp [ir_conjugate, bind_, pp_, mret_, run_e, run_e2, run_l, slot_, cstD, ops_, bins_, run_ss, run_s, into_, nxt_, a1, a2, a3, a4, a5, a6]
theorem residue_c (n : Nat) {b : Int} {p : Int × Int} {st md : Int} (S : Store) (hb : 2 ≤ b) (hs : Sz 6 b) (hst : 0 < st) (hst2 : st ≤ 1000) (hmd : md ≠ 0) (hp : Sz 9000 p.1) :
    (cx (n + 2)).cf "residue" [.d (.int b), .d (nmD p), .d (.int st), .d (.int md)] S = .ok (.d (.int ((p.1 * pw b (p.2.fmod st)).fmod md))) S := by
  rw [at_residue]
  refine callP_ret (ds := [.int b, nmD p, .int st, .int md]) (S' := []) ?_
  show evSs (cx (n + 1)) ir_residue [some (.d (.int b)), some (.d (nmD p)), some (.d (.int st)), some (.d (.int md))] [] = _
  have hlt : p.2.fmod st < st := by rw [Int.fmod_eq_emod_of_nonneg _ (by omega)]; exact Int.emod_lt_of_pos _ hst
  have a1 : (cx (n + 1)).cf "raised" [.d (.int b), .d (.int (p.2.fmod st))] [] = .ok (.d (.int (pw b (p.2.fmod st)))) [] := raised_c n b (p.2.fmod st) 6 [] hs (by omega)
  have hst0 : st ≠ 0 := by omega
  have hm : mulFits p.1 (pw b (p.2.fmod st)) = true := hp.mulFits (pw_sz hs (k := 1000) (by omega)) (by decide)
  simp [ir_residue, bind_, pp_, mret_, run_e, run_e2, run_l, slot_, cstD, ops_, bins_, run_ss, run_s, into_, nxt_, a1, hst0, hmd, hm, nm_]
def restL (p q : Int × Int) : List Int := if p = (0, 0) ∧ q = (0, 0) then [0] else if p.1 = q.1 ∧ p.1 ≠ 0 ∧ -1000 ≤ q.2 - p.2 ∧ q.2 - p.2 ≤ 1000 then [q.2 - p.2] else []
theorem resting_c (n : Nat) (p q : Int × Int) (S : Store) : (cx (n + 1)).cf "resting" [.d (nmD p), .d (nmD q)] S = .ok (.loc S.length) (S ++ [some (.lst ((restL p q).map .int))]) := by
  rw [at_resting]
  have key : ∃ k S', evSs (cx n) ir_resting (entry 4 [nmD p, nmD q]) [] = .ret (.loc k) S' ∧ S'[k]? = some (some (.lst ((restL p q).map .int))) := by
    show ∃ k S', evSs (cx n) ir_resting [some (.d (nmD p)), some (.d (nmD q)), none, none] [] = .ret (.loc k) S' ∧ _
    have z0 : (D.tup [D.int 0, D.int 0]) = nmD (0, 0) := rfl
    refine ⟨0, [some (.lst ((restL p q).map .int))], ?_, rfl⟩
    unfold restL
    by_cases z1 : p = (0, 0)
    · by_cases z2 : q = (0, 0)
      · simp [ir_resting, bind_, pp_, mret_, run_e, run_e2, run_l, slot_, cstD, ops_, bins_, run_ss, run_s, into_, nxt_, asl_, mk_, z0, eqs_, z1, z2]
      · simp [ir_resting, bind_, pp_, mret_, run_e, run_e2, run_l, slot_, cstD, ops_, bins_, run_ss, run_s, into_, nxt_, asl_, mk_, z0, eqs_, nm_, z1, z2, Tg.bind]
    · by_cases z3 : p.1 = q.1
      · by_cases z4 : q.1 = 0
        · simp [ir_resting, bind_, pp_, mret_, run_e, run_e2, run_l, slot_, cstD, ops_, bins_, run_ss, run_s, into_, nxt_, asl_, mk_, z0, eqs_, nm_, z1, Tg.bind, gv_MAX_PLACE, z3, z4]
        · by_cases z5 : -1000 ≤ q.2 - p.2
          · by_cases z6 : q.2 - p.2 ≤ 1000
            · simp [ir_resting, bind_, pp_, mret_, run_e, run_e2, run_l, slot_, cstD, ops_, bins_, run_ss, run_s, into_, nxt_, asl_, mk_, z0, eqs_, nm_, z1, Tg.bind, gv_MAX_PLACE, z3, z4, z5, z6]
            · simp [ir_resting, bind_, pp_, mret_, run_e, run_e2, run_l, slot_, cstD, ops_, bins_, run_ss, run_s, into_, nxt_, asl_, mk_, z0, eqs_, nm_, z1, Tg.bind, gv_MAX_PLACE, z3, z4, z5, z6]
          · simp [ir_resting, bind_, pp_, mret_, run_e, run_e2, run_l, slot_, cstD, ops_, bins_, run_ss, run_s, into_, nxt_, asl_, mk_, z0, eqs_, nm_, z1, Tg.bind, gv_MAX_PLACE, z3, z4, z5]
      · simp [ir_resting, bind_, pp_, mret_, run_e, run_e2, run_l, slot_, cstD, ops_, bins_, run_ss, run_s, into_, nxt_, asl_, mk_, z0, eqs_, nm_, z1, Tg.bind, gv_MAX_PLACE, z3]
  obtain ⟨k, S', h1, h2⟩ := key
  exact callP_new (ds := [nmD p, nmD q]) h1 h2
/-- the offsets o, o + 1, .. (k of them) at which f·b^.. meets g -/
def goL (b md g : Int) : Nat → Int → Int → List Int
  | 0, _, _ => []
  | k + 1, o, f => (if f = g then [o] else []) ++ goL b md g k (o + 1) ((f * b).fmod md)
theorem fmod_sz {i md : Int} {k : Nat} (h0 : 0 < md) (h : Sz k md) : Sz k (i.fmod md) := by
  rw [Int.fmod_eq_emod_of_nonneg _ (by omega)]
  have h1 := Int.emod_nonneg i (by omega : md ≠ 0)
  have h2 := Int.emod_lt_of_pos i h0
  unfold Sz at *
  omega
theorem conj_loop (C : PD.Ctx) {b md g st : Int} {x y : D} (hs : Sz 6 b) (hmd : 0 < md) (hz : Sz 9000 md) : ∀ (k : Nat) (o f : Int) (acc : List Int) (v6 : Option Val), Sz 9000 f → acc.length + k ≤ 1000 →
    ∃ f' v6', forL (.nm 6) (evSs C b1_conjugators) (upTo o k) [some (.d (.int b)), some (.d x), some (.d y), some (.d (.int st)), some (.d (.int md)), some (.loc 0), v6, some (.d (.int f)), some (.d (.int g))] [some (.lst (acc.map .int))] =
      .nx [some (.d (.int b)), some (.d x), some (.d y), some (.d (.int st)), some (.d (.int md)), some (.loc 0), v6', some (.d (.int f')), some (.d (.int g))] [some (.lst ((acc ++ goL b md g k o f).map .int))]
  | 0, o, f, acc, v6, _, _ => ⟨f, v6, by rw [upTo_zero, forL_nil, goL, List.append_nil]⟩
  | k + 1, o, f, acc, v6, hf, hl => by
    have hm : mulFits f b = true := hf.mulFits hs (by decide)
    have hmd0 : md ≠ 0 := by omega
    obtain ⟨f', v6', h⟩ := conj_loop C (st := st) (x := x) (y := y) (g := g) hs hmd hz k (o + 1) ((f * b).fmod md) (acc ++ (if f = g then [o] else [])) (some (.d (.int o))) (fmod_sz hmd hz) (by
      rw [List.length_append]; split <;> simp <;> omega)
    refine ⟨f', v6', ?_⟩
    rw [upTo_succ, forL_go (ρ1 := [some (.d (.int b)), some (.d x), some (.d y), some (.d (.int st)), some (.d (.int md)), some (.loc 0), some (.d (.int o)), some (.d (.int f)), some (.d (.int g))]) rfl (ρ2 := [some (.d (.int b)), some (.d x), some (.d y), some (.d (.int st)), some (.d (.int md)), some (.loc 0), some (.d (.int o)), some (.d (.int ((f * b).fmod md))), some (.d (.int g))]) (S2 := [some (.lst ((acc ++ (if f = g then [o] else [])).map .int))]), h, goL, List.append_assoc]
    have hlen : acc.length < sizeLine := Nat.lt_of_lt_of_le (by omega : acc.length < 1001) (by decide)
    by_cases z : f = g
    · simp [b1_conjugators, bind_, pp_, mret_, run_e, run_e2, run_l, slot_, cstD, ops_, bins_, run_ss, run_s, into_, nxt_, nl_, hlen, hm, hmd0, z, Tg.bind]
      subst z
      simp [b1_conjugators, bind_, pp_, mret_, run_e, run_e2, run_l, slot_, cstD, ops_, bins_, run_ss, run_s, into_, nxt_, nl_, hlen, hm, hmd0, Tg.bind]
    · simp [b1_conjugators, bind_, pp_, mret_, run_e, run_e2, run_l, slot_, cstD, ops_, bins_, run_ss, run_s, into_, nxt_, nl_, hlen, hm, hmd0, z, Tg.bind]
def absI (i : Int) : Int := if i < 0 then -i else i
def conjL (b : Int) (p : Int × Int) (s : Int) (q : Int × Int) (t : Int) : List Int :=
  if s ≠ t then [] else if s = 0 then restL p q else
    goL b (pw b (absI s) - 1) ((q.1 * pw b (q.2.fmod (absI s))).fmod (pw b (absI s) - 1)) (absI s).toNat 0 ((p.1 * pw b (p.2.fmod (absI s))).fmod (pw b (absI s) - 1))
theorem pw_ge2 {b i : Int} (hb : 2 ≤ b) (hi : 0 < i) : 2 ≤ pw b i := by
  have : i = 1 + (i - 1) := by omega
  rw [this, pw_add b (by decide) (by omega), pw_one]
  have h1 := pw_pos hb (i - 1)
  have : b * 1 ≤ b * pw b (i - 1) := Int.mul_le_mul_of_nonneg_left (by omega) (by omega)
  omega
theorem conjugators_c (n : Nat) {b : Int} {p q : Int × Int} {s t : Int} (S : Store) (hb : 2 ≤ b) (hs : Sz 6 b) (hp : NumOk b p) (hq : NumOk b q) (h1 : -1000 ≤ s) (h2 : s ≤ 1000) (h3 : -1000 ≤ t) (h4 : t ≤ 1000) :
    (cx (n + 6)).cf "conjugators" [.d (.int b), .d (efD p s), .d (efD q t)] S = .ok (.loc S.length) (S ++ [some (.lst ((conjL b p s q t).map .int))]) := by
  rw [at_conjugators]
  have key : ∃ k S', evSs (cx (n + 5)) ir_conjugators (entry 9 [.int b, efD p s, efD q t]) [] = .ret (.loc k) S' ∧ S'[k]? = some (some (.lst ((conjL b p s q t).map .int))) := by
    show ∃ k S', evSs (cx (n + 5)) ir_conjugators [some (.d (.int b)), some (.d (efD p s)), some (.d (efD q t)), none, none, none, none, none, none] [] = .ret (.loc k) S' ∧ _
    refine ⟨0, [some (.lst ((conjL b p s q t).map .int))], ?_, rfl⟩
    have a1 := require_effect_c n hb hp h1 h2 []
    have a2 := require_effect_c n hb hq h3 h4 []
    unfold conjL
    by_cases z1 : s = t
    · subst z1
      by_cases z2 : s = 0
      · have a3 := resting_c (n + 4) p q []
        simp [ir_conjugators, bind_, pp_, mret_, run_e, run_e2, run_l, slot_, cstD, ops_, bins_, run_ss, run_s, into_, nxt_, asl_, mk_, ef_, z2]
        subst z2
        simp [ir_conjugators, bind_, pp_, mret_, run_e, run_e2, run_l, slot_, cstD, ops_, bins_, run_ss, run_s, into_, nxt_, asl_, mk_, ef_, a1, a2, a3]
      · have hst : 0 < absI s := by unfold absI; split <;> omega
        have hst2 : absI s ≤ 1000 := by unfold absI; split <;> omega
        have hmd : 0 < pw b (absI s) - 1 := by have := pw_ge2 hb hst; omega
        have hmz : Sz 9000 (pw b (absI s) - 1) := by
          have h5 : Sz 6001 (pw b (absI s)) := pw_sz hs (k := 1000) hst2
          have h6 := Sz.add (j := -1) h5 (Sz.mono (a := 1) (by unfold Sz; decide) (by decide))
          exact h6.mono (by decide)
        have a3 : (cx (n + 5)).cf "raised" [.d (.int b), .d (.int (absI s))] [] = .ok (.d (.int (pw b (absI s)))) [] := raised_c (n + 4) b (absI s) 6 [] hs (by omega)
        have a4 := residue_c (n + 3) (p := p) (st := absI s) (md := pw b (absI s) - 1) [] hb hs hst hst2 (by omega) (hp.sz.mono (by decide))
        have a5 := residue_c (n + 3) (p := q) (st := absI s) (md := pw b (absI s) - 1) [] hb hs hst hst2 (by omega) (hq.sz.mono (by decide))
        obtain ⟨f', v6', h⟩ := conj_loop (cx (n + 5)) (b := b) (md := pw b (absI s) - 1) (g := (q.1 * pw b (q.2.fmod (absI s))).fmod (pw b (absI s) - 1)) (st := absI s) (x := efD p s) (y := efD q s) hs hmd hmz (absI s).toNat 0 ((p.1 * pw b (p.2.fmod (absI s))).fmod (pw b (absI s) - 1)) [] none (fmod_sz hmd hmz) (by simp; omega)
        have hr : rangeD [.d (.int (absI s))] [some (.lst [])] = .ok (upTo 0 (absI s).toNat) [some (.lst [])] := by
          show (if decide (-(2 ^ 62) ≤ absI s) && decide (absI s < 2 ^ 62) then M.ret (upTo 0 (absI s).toNat) else M.fail) _ = _
          rw [decide_eq_true (by omega), decide_eq_true (by omega)]
          rfl
        have ha : biD .abs [.int s] = some (.int (absI s)) := rfl
        simp only [List.nil_append, List.map_nil] at h
        simp [ir_conjugators, bind_, pp_, mret_, run_e, run_e2, run_l, slot_, cstD, ops_, bins_, run_ss, run_s, into_, nxt_, asl_, mk_, ef_, a1, a2, a3, a4, a5, z2, ha, Tg.bind, setAll, hr, h]
    · simp [ir_conjugators, bind_, pp_, mret_, run_e, run_e2, run_l, slot_, cstD, ops_, bins_, run_ss, run_s, into_, nxt_, asl_, mk_, ef_, a1, a2, z1]
  obtain ⟨k, S', e1, e2⟩ := key
  exact callP_new (ds := [.int b, efD p s, efD q t]) e1 e2
end Q

namespace Q
open PySem L2 PD
theorem fm (i : Int) {m : Int} (h : 0 < m) : 0 ≤ i.fmod m ∧ i.fmod m < m := by
  rw [Int.fmod_eq_emod_of_nonneg _ (by omega)]
  exact ⟨Int.emod_nonneg i (by omega), Int.emod_lt_of_pos i h⟩
theorem sz40 {i : Int} (h1 : -(2 ^ 40) < i) (h2 : i < 2 ^ 40) : Sz 40 i := Sz.of_lt h1 h2
theorem powFits_40 {i : Int} (h : Sz 40 i) {k : Int} (h0 : 0 ≤ k) (h1 : k ≤ 100) : powFits i k = true := by
  unfold powFits
  rw [decide_eq_true h0, Bool.true_and]
  have := h.log
  refine decide_eq_true ?_
  have h2 : (i.natAbs.log2 + 1 : Int) ≤ 41 := by omega
  have h3 : (i.natAbs.log2 + 1 : Int) * k ≤ 41 * 100 := Int.mul_le_mul h2 h1 h0 (by decide)
  omega
/-- the digits that a cell gives -/
def DigOk (ds zs : List Int) : Prop := ds.length = zs.length ∧ ∀ i z d : Int, ∀ j : Nat, zs[j]? = some z → ds[j]? = some d → 0 ≤ d ∧ d < z
theorem numbers_loop (C : PD.Ctx) {cell salt nh : Int} {zs : List Int} (hsalt : 0 ≤ salt ∧ salt ≤ 10000000) (hzs : ∀ z ∈ zs, 0 < z ∧ z < 2 ^ 40) (hlen : zs.length ≤ 1000) :
    ∀ (k i : Nat) (left : Int) (acc : List Int) (v6 v7 : Option Val), i + k = zs.length → acc.length = i → (∀ (z d : Int) (j : Nat), zs[j]? = some z → acc[j]? = some d → 0 ≤ d ∧ d < z) →
    ∃ ds left' v6' v7', DigOk ds zs ∧ forL (.nm 6) (evSs C b1__law_numbers) (upTo i k) [some (.d (.int cell)), some (.d (.int salt)), some (.d (.lst (zs.map .int))), some (.d (.int nh)), some (.d (.int left)), some (.loc 0), v6, v7] [some (.lst (acc.map .int))] =
      .nx [some (.d (.int cell)), some (.d (.int salt)), some (.d (.lst (zs.map .int))), some (.d (.int nh)), some (.d (.int left')), some (.loc 0), v6', v7'] [some (.lst (ds.map .int))]
  | 0, i, left, acc, v6, v7, h1, h2, h3 => ⟨acc, left, v6, v7, ⟨by omega, fun _ z d j => h3 z d j⟩, by rw [upTo_zero, forL_nil]⟩
  | k + 1, i, left, acc, v6, v7, h1, h2, h3 => by
    have hi : i < zs.length := by omega
    obtain ⟨z, hz⟩ : ∃ z, zs[i]? = some z := ⟨zs[i], by simp [hi]⟩
    obtain ⟨hz1, hz2⟩ := hzs z (List.mem_of_getElem? hz)
    have hix : ixD (.lst (zs.map .int)) (.int i) = some (.int z) := ix_lst (by rw [List.getElem?_map, hz]; rfl)
    have hz0 : z ≠ 0 := by omega
    have hlt : acc.length < sizeLine := Nat.lt_of_lt_of_le (by omega : acc.length < 1001) (by decide)
    have hp18 : powFits 10 18 = true := by decide
    have step : ∀ (d left2 : Int) (v7' : Option Val), 0 ≤ d → d < z → evSs C b1__law_numbers [some (.d (.int cell)), some (.d (.int salt)), some (.d (.lst (zs.map .int))), some (.d (.int nh)), some (.d (.int left)), some (.loc 0), some (.d (.int i)), v7] [some (.lst (acc.map .int))] = .nx [some (.d (.int cell)), some (.d (.int salt)), some (.d (.lst (zs.map .int))), some (.d (.int nh)), some (.d (.int left2)), some (.loc 0), some (.d (.int i)), v7'] [some (.lst ((acc ++ [d]).map .int))] →
        ∃ ds left' v6' v7', DigOk ds zs ∧ forL (.nm 6) (evSs C b1__law_numbers) (upTo i (k + 1)) [some (.d (.int cell)), some (.d (.int salt)), some (.d (.lst (zs.map .int))), some (.d (.int nh)), some (.d (.int left)), some (.loc 0), v6, v7] [some (.lst (acc.map .int))] =
          .nx [some (.d (.int cell)), some (.d (.int salt)), some (.d (.lst (zs.map .int))), some (.d (.int nh)), some (.d (.int left')), some (.loc 0), v6', v7'] [some (.lst (ds.map .int))] := fun d left2 v7' hd1 hd2 hrun => by
      obtain ⟨ds, left', v6', v7'', hok, h⟩ := numbers_loop C hsalt hzs hlen k (i + 1) left2 (acc ++ [d]) (some (.d (.int i))) v7' (by omega) (by simp [h2]) (fun z' d' j hz' hd' => by
        by_cases hj : j < acc.length
        · rw [List.getElem?_append_left hj] at hd'
          exact h3 z' d' j hz' hd'
        · rw [List.getElem?_append_right (by omega)] at hd'
          have hj2 : j = i := by
            have := (List.getElem?_eq_some_iff.mp hd').1
            simp at this
            omega
          subst hj2
          rw [hz] at hz'
          cases hz'
          rw [h2, Nat.sub_self] at hd'
          cases hd'
          exact ⟨hd1, hd2⟩)
      refine ⟨ds, left', v6', v7'', hok, ?_⟩
      rw [upTo_succ, forL_go (ρ1 := [some (.d (.int cell)), some (.d (.int salt)), some (.d (.lst (zs.map .int))), some (.d (.int nh)), some (.d (.int left)), some (.loc 0), some (.d (.int i)), v7]) rfl hrun]
      exact h
    by_cases hbig : 1000000000000000000 ≤ nh ∧ 0 < left
    · have hd : divFits left z = true := divFits_small hz0 (Sz.mono (a := 40) (sz40 (by omega) hz2) (by decide))
      refine step (left.fmod z) (left.fdiv z) v7 (fm left hz1).1 (fm left hz1).2 ?_
      have hb1 : 1000000000000000000 ≤ nh := hbig.1
      simp [b1__law_numbers, bind_, pp_, mret_, run_e, run_e2, run_l, slot_, cstD, ops_, bins_, run_ss, run_s, into_, nxt_, asl_, nl_, hlt, hix, hz0, hd, hp18, hb1, hbig.2, Tg.bind]
    · have x0 := fm nh (m := 2147483629) (by decide)
      have m1 : mulFits 7919 salt = true := Sz.mulFits (a := 40) (b := 40) (sz40 (by decide) (by decide)) (sz40 (by omega) (by omega)) (by decide)
      have p1 : powFits (nh.fmod 2147483629 + 7919 * salt + 1) 3 = true := powFits_40 (sz40 (by omega) (by omega)) (by decide) (by decide)
      have c1 := fm ((nh.fmod 2147483629 + 7919 * salt + 1) ^ 3) (m := 2147483647) (by decide)
      generalize hc1 : ((nh.fmod 2147483629 + 7919 * salt + 1) ^ 3).fmod 2147483647 = q1 at c1
      have m2 : mulFits 104729 ((i : Int) + 1) = true := Sz.mulFits (a := 40) (b := 40) (sz40 (by decide) (by decide)) (sz40 (by omega) (by omega)) (by decide)
      have m3 : mulFits (q1 + 104729 * ((i : Int) + 1)) ((i : Int) + 3) = true := Sz.mulFits (a := 40) (b := 40) (sz40 (by omega) (by omega)) (sz40 (by omega) (by omega)) (by decide)
      have c2 := fm ((q1 + 104729 * ((i : Int) + 1)) * ((i : Int) + 3)) (m := 2147483629) (by decide)
      generalize hc2 : ((q1 + 104729 * ((i : Int) + 1)) * ((i : Int) + 3)).fmod 2147483629 = q2 at c2
      have p2 : powFits q2 5 = true := powFits_40 (sz40 (by omega) (by omega)) (by decide) (by decide)
      have c3 := fm (q2 ^ 5) (m := 2147483647) (by decide)
      generalize hc3 : (q2 ^ 5).fmod 2147483647 = q3 at c3
      have m4 : mulFits q3 48271 = true := Sz.mulFits (a := 40) (b := 40) (sz40 (by omega) (by omega)) (sz40 (by decide) (by decide)) (by decide)
      have d1 : divFits ((q3 * 48271).fmod 2147483629) 16 = true := divFits_small (by decide) (Sz.mono (a := 40) (sz40 (by decide) (by decide)) (by decide))
      refine step ((((q3 * 48271).fmod 2147483629).fdiv 16).fmod z) left (some (.d (.int ((q3 * 48271).fmod 2147483629)))) (fm _ hz1).1 (fm _ hz1).2 ?_
      have p1' : powFits (nh.fmod 2147483629 + 7919 * salt + 1) 3 = true := p1
      by_cases hb1 : 1000000000000000000 ≤ nh
      · have hl : ¬ 0 < left := fun z => hbig ⟨hb1, z⟩
        have hb1' : 1000000000000000000 ≤ nh := hb1
        simp [b1__law_numbers, bind_, pp_, mret_, run_e, run_e2, run_l, slot_, cstD, ops_, bins_, run_ss, run_s, into_, nxt_, asl_, nl_, hlt, hix, hz0, hp18, hb1', hl, Tg.bind, m1, p1, hc1, m2, m3, hc2, p2, hc3, m4, d1]
      · have hb1' : ¬ 1000000000000000000 ≤ nh := hb1
        simp [b1__law_numbers, bind_, pp_, mret_, run_e, run_e2, run_l, slot_, cstD, ops_, bins_, run_ss, run_s, into_, nxt_, asl_, nl_, hlt, hix, hz0, hp18, hb1', Tg.bind, m1, p1, hc1, m2, m3, hc2, p2, hc3, m4, d1]
end Q

namespace Q
open PySem L2 PD
theorem law_numbers_c (n : Nat) {cell salt : Int} {zs : List Int} (hsalt : 0 ≤ salt ∧ salt ≤ 10000000) (hzs : ∀ z ∈ zs, 0 < z ∧ z < 2 ^ 40) (hlen : zs.length ≤ 1000) :
    ∃ ds : List Int, DigOk ds zs ∧ ∀ S, (cx (n + 1)).cf "_law_numbers" [.d (.int cell), .d (.int salt), .d (.lst (zs.map .int))] S = .ok (.d (.lst (ds.map .int))) S := by
  obtain ⟨ds, left', v6', v7', hok, h⟩ := numbers_loop (cx n) (cell := cell) (nh := if cell < -1 - cell then -1 - cell else cell) hsalt hzs hlen zs.length 0 (if cell < -1 - cell then -1 - cell else cell) [] none none (by omega) rfl (fun z d j _ h => by simp at h)
  refine ⟨ds, hok, fun S => ?_⟩
  rw [at__law_numbers]
  refine callP_ret (ds := [.int cell, .int salt, .lst (zs.map .int)]) (S' := [none]) ?_
  show evSs (cx n) ir__law_numbers [some (.d (.int cell)), some (.d (.int salt)), some (.d (.lst (zs.map .int))), none, none, none, none, none] [] = _
  have hr : rangeD [.d (.int (zs.length : Int))] [some (.lst [])] = .ok (upTo 0 zs.length) [some (.lst [])] := range_1 (by omega) (by omega) _
  have h : forL (.nm 6) (evSs (cx n) b1__law_numbers) (upTo 0 zs.length) _ [some (.lst [])] = _ := h
  simp [ir__law_numbers, bind_, pp_, mret_, run_e, run_e2, run_l, slot_, cstD, ops_, bins_, run_ss, run_s, into_, nxt_, asl_, mk_, bi_, nl_, Tg.bind, hr, h]
theorem law_power_loop (C : PD.Ctx) : ∀ (n k : Nat), k ≤ n → ∀ (b r : Int) (a m : Nat) (S : Store), Sz a b → Sz m r → a * (2 * k) < 130000000 → m + a * k < 130000000 →
    ∃ b', evS C (.whl c1__law_power b1__law_power) [some (.d (.int b)), some (.d (.int k)), some (.d (.int r))] S = .nx [some (.d (.int b')), some (.d (.int 0)), some (.d (.int (r * b ^ k)))] S := by
  intro n
  induction n with
  | zero =>
    intro k hk b r a m S _ _ _ _
    have : k = 0 := by omega
    subst this
    refine ⟨b, ?_⟩
    rw [whl_stop (S1 := S)]
    · simp
    · simp [c1__law_power, bind_, pp_, mret_, run_e, slot_, cstD, ops_, bins_]
  | succ n ih =>
    intro k hk b r a m S hb hr h1 h2
    by_cases z : k = 0
    · exact ih k (by omega) b r a m S hb hr h1 h2
    have hk0 : (0 : Int) < (k : Int) := by omega
    have hbb : mulFits b b = true := hb.mulFits hb (by have : a * (2 * 1) ≤ a * (2 * k) := Nat.mul_le_mul_left a (by omega); omega)
    have hrb : mulFits r b = true := hr.mulFits hb (by have : a * 1 ≤ a * k := Nat.mul_le_mul_left a (by omega); omega)
    have hd : divFits (k : Int) 2 = true := divFits_small (by decide) (Sz.mono (a := 2) (by unfold Sz; decide) (by decide))
    have e2 : k = 2 * (k / 2) + k % 2 := by omega
    have hm : ((k : Int).fmod 2 = 1) = (k % 2 = 1) := by rw [fmod2]; exact propext ⟨fun h => by omega, fun h => by omega⟩
    have hc : evE C c1__law_power [some (.d (.int b)), some (.d (.int k)), some (.d (.int r))] S = .ok (.d (.bl true)) S := by
      simp [c1__law_power, bind_, pp_, mret_, run_e, slot_, cstD, ops_, bins_, hk0]
      try omega
    by_cases o : k % 2 = 1
    · obtain ⟨b', h⟩ := ih (k / 2) (by omega) (b * b) (r * b) (a + a) (m + a) S (hb.mul hb) (hr.mul hb) (by
        have : (a + a) * (2 * (k / 2)) ≤ a * (2 * k) := by
          have : a * (2 * (2 * (k / 2))) ≤ a * (2 * k) := Nat.mul_le_mul_left a (by omega)
          calc (a + a) * (2 * (k / 2)) = a * (2 * (2 * (k / 2))) := by rw [← Nat.two_mul, Nat.mul_comm 2 a, Nat.mul_assoc]
            _ ≤ _ := this
        omega) (by
        have : a + (a + a) * (k / 2) = a * k := by
          rw [← Nat.two_mul, Nat.mul_comm 2 a, Nat.mul_assoc]
          conv => rhs; rw [e2, o, Nat.mul_add, Nat.mul_one]
          omega
        omega)
      refine ⟨b', ?_⟩
      have e3 : r * b * (b * b) ^ (k / 2) = r * b ^ k := by
        conv => rhs; rw [e2, o, Int.pow_succ, Int.pow_mul]
        rw [show b ^ 2 = b * b by rw [Int.pow_succ, Int.pow_succ, Int.pow_zero, Int.one_mul], Int.mul_assoc, Int.mul_comm b]
      rw [e3] at h
      rw [whl_go hc (S2 := S) (ρ2 := [some (.d (.int (b * b))), some (.d (.int (k / 2 : Nat))), some (.d (.int (r * b)))]), h]
      simp [b1__law_power, bind_, pp_, mret_, run_e, run_l, slot_, cstD, ops_, bins_, run_ss, run_s, into_, nxt_, hbb, hrb, hd, hm, o, hk0, z, evVar, fdiv2, Tg.bind, setAll]
    · obtain ⟨b', h⟩ := ih (k / 2) (by omega) (b * b) r (a + a) m S (hb.mul hb) hr (by
        have : (a + a) * (2 * (k / 2)) ≤ a * (2 * k) := by
          have : a * (2 * (2 * (k / 2))) ≤ a * (2 * k) := Nat.mul_le_mul_left a (by omega)
          calc (a + a) * (2 * (k / 2)) = a * (2 * (2 * (k / 2))) := by rw [← Nat.two_mul, Nat.mul_comm 2 a, Nat.mul_assoc]
            _ ≤ _ := this
        omega) (by
        have : (a + a) * (k / 2) = a * k := by
          rw [← Nat.two_mul, Nat.mul_comm 2 a, Nat.mul_assoc]
          congr 1
          omega
        omega)
      refine ⟨b', ?_⟩
      have o2 : k % 2 = 0 := by omega
      have e3 : r * (b * b) ^ (k / 2) = r * b ^ k := by
        conv => rhs; rw [e2, o2, Nat.add_zero, Int.pow_mul]
        rw [show b ^ 2 = b * b by rw [Int.pow_succ, Int.pow_succ, Int.pow_zero, Int.one_mul]]
      rw [e3] at h
      rw [whl_go hc (S2 := S) (ρ2 := [some (.d (.int (b * b))), some (.d (.int (k / 2 : Nat))), some (.d (.int r))]), h]
      simp [b1__law_power, bind_, pp_, mret_, run_e, run_l, slot_, cstD, ops_, bins_, run_ss, run_s, into_, nxt_, hbb, hrb, hd, hm, o, hk0, z, evVar, fdiv2, Tg.bind, setAll]
theorem law_power_c (n : Nat) {b e : Int} {a : Nat} (S : Store) (hb : Sz a b) (h : a * (2 * e.toNat) + 2 < 130000000) : (cx (n + 1)).cf "_law_power" [.d (.int b), .d (.int e)] S = .ok (.d (.int (pw b e))) S := by
  rw [at__law_power]
  have h1 : a * e.toNat ≤ a * (2 * e.toNat) := Nat.mul_le_mul_left a (by omega)
  refine callP_ret (ds := [.int b, .int e]) (S' := []) ?_
  show evSs (cx n) ir__law_power [some (.d (.int b)), some (.d (.int e)), none] [] = _
  have hw : ∃ b' e', evS (cx n) (.whl c1__law_power b1__law_power) [some (.d (.int b)), some (.d (.int e)), some (.d (.int 1))] [] = .nx [some (.d (.int b')), some (.d (.int e')), some (.d (.int (b ^ e.toNat)))] [] := by
    by_cases he : 0 < e
    · obtain ⟨b', h'⟩ := law_power_loop (cx n) e.toNat e.toNat (Nat.le_refl _) b 1 a 1 [] hb (by unfold Sz; decide) (by omega) (by omega)
      rw [Int.toNat_of_nonneg (by omega), Int.one_mul] at h'
      exact ⟨b', 0, h'⟩
    · refine ⟨b, e, ?_⟩
      have z : e.toNat = 0 := by omega
      rw [whl_stop (S1 := [])]
      · rw [z, Int.pow_zero]
      · simp [c1__law_power, bind_, pp_, mret_, run_e, slot_, cstD, ops_, bins_]
        omega
  obtain ⟨b', e', hw⟩ := hw
  simp [ir__law_power, bind_, pp_, mret_, run_e, slot_, cstD, ops_, bins_, run_ss, run_s, into_, nxt_, Tg.bind, hw, pw]
theorem law_reduced_loop (C : PD.Ctx) {b : Int} (hb : 2 ≤ b) (hs : Sz 6 b) : ∀ (f : Nat) (n e : Int) (S : Store), n ≠ 0 → n.natAbs < f →
    evS C (.whl c1__law_reduced b1__law_reduced) [some (.d (.int b)), some (.d (.int n)), some (.d (.int e))] S = .nx [some (.d (.int b)), some (.d (.int (red b n e).1)), some (.d (.int (red b n e).2))] S
  | 0, n, e, S, _, h => by omega
  | f + 1, n, e, S, h0, h => by
    have hb0 : b ≠ 0 := by omega
    by_cases d : b ∣ n
    · obtain ⟨q, hq⟩ := d
      have hq0 : q ≠ 0 := fun z => h0 (by rw [hq, z, Int.mul_zero])
      have hlt : q.natAbs < n.natAbs := by
        rw [hq, Int.natAbs_mul]
        have : 2 ≤ b.natAbs := by omega
        calc q.natAbs < 2 * q.natAbs := by omega
          _ ≤ b.natAbs * q.natAbs := Nat.mul_le_mul_right _ this
      have ih := law_reduced_loop C hb hs f q (e + 1) S hq0 (by omega)
      have hred : red b n e = red b q (e + 1) := by
        have h1 := red_spec hb q (e + 1)
        have h2 := IsRed.of_pow (k := 1) hb h1
        rw [Int.pow_one, Int.mul_comm, ← hq] at h2
        exact red_eq hb h2
      rw [hred, ← ih]
      have hfm : n.fmod b = 0 := by rw [dvd_test (by omega)]; exact ⟨q, hq⟩
      have hfd : n.fdiv b = q := by rw [hq, Int.mul_comm]; exact Int.mul_fdiv_cancel _ hb0
      have hdf : divFits n b = true := divFits_small hb0 (hs.mono (by decide))
      refine whl_go (S1 := S) ?_ ?_
      · simp [c1__law_reduced, bind_, pp_, mret_, run_e, run_l, slot_, cstD, ops_, bins_, h0, hb0, hfm]
      · simp [b1__law_reduced, bind_, pp_, mret_, run_e, run_l, slot_, cstD, ops_, bins_, run_ss, run_s, into_, nxt_, setAll, hdf, hfd]
    · rw [red_eq hb (n' := n) (e' := e) (.inr ⟨h0, 0, by rw [Int.pow_zero, Int.mul_one], by omega, d⟩)]
      have hfm : ¬ n.fmod b = 0 := by rw [dvd_test (by omega)]; exact d
      refine whl_stop ?_
      simp [c1__law_reduced, bind_, pp_, mret_, run_e, run_l, slot_, cstD, ops_, bins_, h0, hb0, hfm]
theorem law_reduced_c (k : Nat) {b n e : Int} (S : Store) (hb : 2 ≤ b) (hs : Sz 6 b) : (cx (k + 1)).cf "_law_reduced" [.d (.int b), .d (.int n), .d (.int e)] S = .ok (.d (nmD (red b n e))) S := by
  rw [at__law_reduced]
  refine callP_ret (ds := [.int b, .int n, .int e]) (S' := []) ?_
  show evSs (cx k) ir__law_reduced [some (.d (.int b)), some (.d (.int n)), some (.d (.int e))] [] = _
  by_cases z : n = 0
  · rw [red_eq hb (n' := 0) (e' := 0) (.inl ⟨z, rfl, rfl⟩)]
    have hw : evS (cx k) (.whl c1__law_reduced b1__law_reduced) [some (.d (.int b)), some (.d (.int n)), some (.d (.int e))] [] = .nx [some (.d (.int b)), some (.d (.int n)), some (.d (.int e))] [] := by
      refine whl_stop ?_
      simp [c1__law_reduced, bind_, pp_, mret_, run_e, run_l, slot_, cstD, ops_, bins_, z]
    simp [ir__law_reduced, bind_, pp_, mret_, run_e, run_l, slot_, cstD, ops_, bins_, run_ss, run_s, into_, nxt_, hw, asl_, mk_]
    simp [z, bind_, pp_, asl_, mk_, ops_, run_e, run_l, mret_, cstD, into_, nxt_, nm_]
  · have hw := law_reduced_loop (cx k) hb hs (n.natAbs + 1) n e [] z (by omega)
    have hn0 : (red b n e).1 ≠ 0 := by
      rcases red_spec hb n e with ⟨z', _⟩ | ⟨_, j, h1, _⟩
      · exact absurd z' z
      · exact fun q => z (by rw [h1, q, Int.zero_mul])
    simp [ir__law_reduced, bind_, pp_, mret_, run_e, run_l, slot_, cstD, ops_, bins_, run_ss, run_s, into_, nxt_, hw, asl_, mk_, hn0, nm_]
end Q

namespace Q
open PySem L2 PD
theorem law_sum_c (n : Nat) {b : Int} {p q : Int × Int} (S : Store) (hb : 2 ≤ b) (hs : Sz 6 b) (hp : Sz 20000 p.1) (hq : Sz 20000 q.1) (h1 : p.2 - q.2 ≤ 20000) (h2 : q.2 - p.2 ≤ 20000) :
    (cx (n + 2)).cf "_law_sum" [.d (.int b), .d (nmD p), .d (nmD q)] S = .ok (.d (nmD (sumN b p q))) S := by
  rw [at__law_sum]
  refine callP_ret (ds := [.int b, nmD p, nmD q]) (S' := []) ?_
  show evSs (cx (n + 1)) ir__law_sum [some (.d (.int b)), some (.d (nmD p)), some (.d (nmD q)), none, none] [] = _
  have hl : (if q.2 < p.2 then q.2 else p.2) = lowN p q := rfl
  have l1 : p.2 - lowN p q ≤ 20000 := by unfold lowN; split <;> omega
  have l2 : q.2 - lowN p q ≤ 20000 := by unfold lowN; split <;> omega
  have a1 := law_power_c n (e := p.2 - lowN p q) [] hs (by omega)
  have a2 := law_power_c n (e := q.2 - lowN p q) [] hs (by omega)
  have a3 := law_reduced_c n (n := p.1 * pw b (p.2 - lowN p q) + q.1 * pw b (q.2 - lowN p q)) (e := lowN p q) [] hb hs
  have m1 : mulFits p.1 (pw b (p.2 - lowN p q)) = true := hp.mulFits (pw_sz hs (k := 20000) l1) (by decide)
  have m2 : mulFits q.1 (pw b (q.2 - lowN p q)) = true := hq.mulFits (pw_sz hs (k := 20000) l2) (by decide)
  simp [ir__law_sum, bind_, pp_, mret_, run_e, run_e2, run_l, slot_, cstD, ops_, bins_, run_ss, run_s, into_, nxt_, asl_, mk_, nm_, bi_, Tg.bind, hl, a1, a2, a3, m1, m2]
  rfl
theorem want_loop (n : Nat) {b md st : Int} {p q : Int × Int} {s t : Int} (hb : 2 ≤ b) (hs : Sz 6 b) (hmd : 0 < md) (hp : Sz 9000 p.1) (hq : Sz 9000 q.1) (e1 : -2000 ≤ p.2) (e2 : p.2 ≤ 2000) (e3 : -2000 ≤ q.2) (e4 : q.2 ≤ 2000) :
    ∀ (k : Nat) (o : Int) (acc : List Int) (v6 v7 : Option Val), 0 ≤ o → o + k ≤ 1000 → acc.length ≤ o.toNat →
    ∃ v6' v7', forL (.nm 6) (evSs (cx (n + 2)) b1__law_want) (upTo o k) [some (.d (.int b)), some (.d (efD p s)), some (.d (efD q t)), some (.d (.int st)), some (.d (.int md)), some (.loc 0), v6, v7] [some (.lst (acc.map .int))] =
      .nx [some (.d (.int b)), some (.d (efD p s)), some (.d (efD q t)), some (.d (.int st)), some (.d (.int md)), some (.loc 0), v6', v7'] [some (.lst ((acc ++ fil (fun o => decide (md ∣ (sumN b q (-p.1, p.2 + o)).1)) k o).map .int))]
  | 0, o, acc, v6, v7, _, _, _ => ⟨v6, v7, by rw [upTo_zero, forL_nil, fil, List.append_nil]⟩
  | k + 1, o, acc, v6, v7, h0, h1, h2 => by
    have hmd0 : md ≠ 0 := by omega
    obtain ⟨v6', v7', h⟩ := want_loop n (st := st) (s := s) (t := t) hb hs hmd hp hq e1 e2 e3 e4 k (o + 1) (acc ++ (if md ∣ (sumN b q (-p.1, p.2 + o)).1 then [o] else [])) (some (.d (.int o))) (some (.d (nmD (-p.1, p.2 + o)))) (by omega) (by omega) (by
      rw [List.length_append]; split <;> simp <;> omega)
    refine ⟨v6', v7', ?_⟩
    rw [upTo_succ, forL_go (ρ1 := [some (.d (.int b)), some (.d (efD p s)), some (.d (efD q t)), some (.d (.int st)), some (.d (.int md)), some (.loc 0), some (.d (.int o)), v7]) rfl (ρ2 := [some (.d (.int b)), some (.d (efD p s)), some (.d (efD q t)), some (.d (.int st)), some (.d (.int md)), some (.loc 0), some (.d (.int o)), some (.d (nmD (-p.1, p.2 + o)))]) (S2 := [some (.lst ((acc ++ (if md ∣ (sumN b q (-p.1, p.2 + o)).1 then [o] else [])).map .int))]), h, fil, List.append_assoc]
    · simp
    · have a1 := fun S => law_sum_c n (p := q) (q := (-p.1, p.2 + o)) S hb hs (hq.mono (by decide)) (hp.neg.mono (by decide)) (by show q.2 - (p.2 + o) ≤ _; omega) (by show p.2 + o - q.2 ≤ _; omega)
      have hlen : acc.length < sizeLine := Nat.lt_of_lt_of_le (by omega : acc.length < 1001) (by decide)
      have ht := dvd_test (n := (sumN b q (-p.1, p.2 + o)).1) hmd
      by_cases z : md ∣ (sumN b q (-p.1, p.2 + o)).1
      · simp [b1__law_want, bind_, pp_, mret_, run_e, run_e2, run_l, slot_, cstD, ops_, bins_, run_ss, run_s, into_, nxt_, asl_, mk_, nm_, ef_, nl_, hlen, hmd0, Tg.bind, a1, ht, z]
      · simp [b1__law_want, bind_, pp_, mret_, run_e, run_e2, run_l, slot_, cstD, ops_, bins_, run_ss, run_s, into_, nxt_, asl_, mk_, nm_, ef_, nl_, hlen, hmd0, Tg.bind, a1, ht, z]
def wantL (b : Int) (p : Int × Int) (s : Int) (q : Int × Int) (t : Int) : List Int :=
  if s ≠ t then [] else if s = 0 then (if p.1 = 0 ∧ q.1 = 0 then [0] else if p.1 = q.1 then [q.2 - p.2] else []) else
    fil (fun o => decide (pw b (absI s) - 1 ∣ (sumN b q (-p.1, p.2 + o)).1)) (absI s).toNat 0
theorem law_want_c (n : Nat) {b : Int} {p q : Int × Int} {s t : Int} (S : Store) (hb : 2 ≤ b) (hs : Sz 6 b) (hp : Sz 9000 p.1) (hq : Sz 9000 q.1) (e1 : -2000 ≤ p.2) (e2 : p.2 ≤ 2000) (e3 : -2000 ≤ q.2) (e4 : q.2 ≤ 2000) (h1 : -1000 ≤ s) (h2 : s ≤ 1000) :
    (cx (n + 3)).cf "_law_want" [.d (.int b), .d (efD p s), .d (efD q t)] S = .ok (.d (.lst ((wantL b p s q t).map .int))) S := by
  rw [at__law_want]
  unfold wantL
  by_cases z1 : s = t
  · subst z1
    by_cases z2 : s = 0
    · refine callP_ret (ds := [.int b, efD p s, efD q s]) (S' := []) ?_
      show evSs (cx (n + 2)) ir__law_want [some (.d (.int b)), some (.d (efD p s)), some (.d (efD q s)), none, none, none, none, none] [] = _
      by_cases z3 : p.1 = 0
      · by_cases z4 : q.1 = 0
        · simp [ir__law_want, bind_, pp_, mret_, run_e, run_e2, run_l, slot_, cstD, ops_, bins_, run_ss, run_s, into_, nxt_, asl_, mk_, nm_, ef_, Tg.bind, z2, z3, z4]
        · simp [ir__law_want, bind_, pp_, mret_, run_e, run_e2, run_l, slot_, cstD, ops_, bins_, run_ss, run_s, into_, nxt_, asl_, mk_, nm_, ef_, Tg.bind, z2, z3, z4, Ne.symm z4]
      · by_cases z4 : p.1 = q.1
        · have z5 : ¬ q.1 = 0 := by rw [← z4]; exact z3
          simp [ir__law_want, bind_, pp_, mret_, run_e, run_e2, run_l, slot_, cstD, ops_, bins_, run_ss, run_s, into_, nxt_, asl_, mk_, nm_, ef_, Tg.bind, z2, z4, z5]
        · simp [ir__law_want, bind_, pp_, mret_, run_e, run_e2, run_l, slot_, cstD, ops_, bins_, run_ss, run_s, into_, nxt_, asl_, mk_, nm_, ef_, Tg.bind, z2, z3, z4]
    · refine callP_ret (ds := [.int b, efD p s, efD q s]) (S' := [none]) ?_
      show evSs (cx (n + 2)) ir__law_want [some (.d (.int b)), some (.d (efD p s)), some (.d (efD q s)), none, none, none, none, none] [] = _
      have hst : 0 < absI s := by unfold absI; split <;> omega
      have hst2 : absI s ≤ 1000 := by unfold absI; split <;> omega
      have hmd : 0 < pw b (absI s) - 1 := by have := pw_ge2 hb hst; omega
      have a3 := law_power_c (n + 1) (e := absI s) [] hs (by omega)
      have hm : (if s < -s then -s else s) = absI s := by unfold absI; split <;> split <;> omega
      obtain ⟨v6', v7', h⟩ := want_loop n (st := absI s) (s := s) (t := s) hb hs hmd hp hq e1 e2 e3 e4 (absI s).toNat 0 [] none none (by decide) (by omega) (by simp)
      have hr := range_1 (j := absI s) (by omega) (by omega) [some (.lst [])]
      simp only [List.nil_append, List.map_nil] at h
      simp [ir__law_want, bind_, pp_, mret_, run_e, run_e2, run_l, slot_, cstD, ops_, bins_, run_ss, run_s, into_, nxt_, asl_, mk_, nm_, ef_, nl_, bi_, Tg.bind, z2, hm, a3, hr, h]
  · refine callP_ret (ds := [.int b, efD p s, efD q t]) (S' := []) ?_
    show evSs (cx (n + 2)) ir__law_want [some (.d (.int b)), some (.d (efD p s)), some (.d (efD q t)), none, none, none, none, none] [] = _
    simp [ir__law_want, bind_, pp_, mret_, run_e, run_e2, run_l, slot_, cstD, ops_, bins_, run_ss, run_s, into_, nxt_, asl_, mk_, nm_, ef_, Tg.bind, z1]
theorem goL_fil {b md g X : Int} (hmd : 0 < md) : ∀ (k : Nat) (o : Int), 0 ≤ o → goL b md g k o ((X * pw b o).fmod md) = fil (fun o => decide ((X * pw b o).fmod md = g)) k o
  | 0, _, _ => rfl
  | k + 1, o, ho => by
    rw [goL, fil]
    have e : (((X * pw b o).fmod md) * b).fmod md = (X * pw b (o + 1)).fmod md := by
      rw [pw_add b ho (by decide), pw_one]
      rw [Int.fmod_eq_emod_of_nonneg _ (by omega), Int.fmod_eq_emod_of_nonneg _ (by omega), Int.fmod_eq_emod_of_nonneg _ (by omega)]
      rw [Int.mul_emod, Int.emod_emod_of_dvd _ (Int.dvd_refl _), ← Int.mul_emod, Int.mul_assoc]
    rw [e, goL_fil hmd k (o + 1) (by omega)]
    congr 1
    by_cases z : (X * pw b o).fmod md = g
    · rw [if_pos z, if_pos (decide_eq_true z)]
    · rw [if_neg z, if_neg (by rw [decide_eq_false z]; exact Bool.false_ne_true)]
theorem conj_want {b : Int} (hb : 2 ≤ b) {p q : Int × Int} {s t : Int} (hp : Can b p) (hq : Can b q) (h1 : -1000 ≤ q.2 - p.2) (h2 : q.2 - p.2 ≤ 1000) : conjL b p s q t = wantL b p s q t := by
  unfold conjL wantL
  by_cases z1 : s = t
  · have zz : ¬ (s ≠ t) := fun h => h z1
    rw [if_neg zz, if_neg zz]
    by_cases z2 : s = 0
    · rw [if_pos z2, if_pos z2]
      unfold restL
      by_cases z3 : p.1 = 0
      · have p0 : p = (0, 0) := by
          rcases hp with ⟨_, h⟩ | ⟨h, _⟩
          · exact Prod.ext z3 h
          · exact absurd z3 h
        by_cases z4 : q.1 = 0
        · have q0 : q = (0, 0) := by
            rcases hq with ⟨_, h⟩ | ⟨h, _⟩
            · exact Prod.ext z4 h
            · exact absurd z4 h
          rw [if_pos ⟨p0, q0⟩, if_pos ⟨z3, z4⟩]
        · rw [if_neg (fun h => z4 (by rw [h.2])), if_neg (fun h => h.2.1 z3), if_neg (fun h => z4 h.2), if_neg (fun h => z4 (by rw [← h, z3]))]
      · rw [if_neg (fun h => z3 (by rw [h.1])), if_neg (fun h : p.1 = 0 ∧ q.1 = 0 => z3 h.1)]
        by_cases z4 : p.1 = q.1
        · rw [if_pos ⟨z4, z3, h1, h2⟩, if_pos z4]
        · rw [if_neg (fun h => z4 h.1), if_neg z4]
    · rw [if_neg z2, if_neg z2]
      have hst : 0 < absI s := by unfold absI; split <;> omega
      have hmd : 0 < pw b (absI s) - 1 := by have := pw_ge2 hb hst; omega
      have e := goL_fil (b := b) (g := (q.1 * pw b (q.2.fmod (absI s))).fmod (pw b (absI s) - 1)) (X := p.1 * pw b (p.2.fmod (absI s))) hmd (absI s).toNat 0 (by decide)
      rw [pw_zero, Int.mul_one] at e
      rw [e]
      refine fil_congr _ _ (by decide) fun o ho => ?_
      rw [decide_eq_decide]
      exact conj_iff hb hst p q ho
  · rw [if_pos z1, if_pos z1]
end Q

namespace Q
open PySem L2 PD
theorem slc_ints {ds : List Int} {i j : Int} (hi : 0 ≤ i) (hj : 0 ≤ j) : ∃ es : List Int, slcD (some i) (some j) (.lst (ds.map .int)) = some (.lst (es.map .int)) ∧ es.length ≤ (j - i).toNat ∧ ∀ y ∈ es, y ∈ ds := by
  refine ⟨cutL ds (some i) (some j), ?_, ?_, fun y hy => ?_⟩
  · show some (D.lst (cutL (ds.map .int) (some i) (some j))) = _
    unfold cutL
    rw [List.map_take, List.map_drop, List.length_map]
  · unfold cutL
    obtain ⟨k, rfl⟩ := Int.eq_ofNat_of_zero_le hi
    obtain ⟨l, rfl⟩ := Int.eq_ofNat_of_zero_le hj
    rw [HT.sIx_nat, HT.sIx_nat, List.length_take, List.length_drop]
    omega
  · unfold cutL at hy
    exact List.mem_of_mem_drop (List.mem_of_mem_take hy)
theorem ixl_ : (∀ a r, ixD (.lst (a :: r)) (.int 0) = some a) ∧ (∀ a b r, ixD (.lst (a :: b :: r)) (.int 1) = some b) ∧ (∀ a b c r, ixD (.lst (a :: b :: c :: r)) (.int 2) = some c) :=
  ⟨fun a r => atI_nat (i := 0) rfl, fun a b r => atI_nat (i := 1) rfl, fun a b c r => atI_nat (i := 2) rfl⟩
theorem integer_loop (C : PD.Ctx) {x : D} {v3 v4 : Option Val} (S : Store) : ∀ (es : List Int) (r : Int) (a : Nat) (v2 : Option Val), (∀ d ∈ es, 0 ≤ d ∧ d < 420) → 0 ≤ r → r < 2 ^ a → a + 9 * es.length ≤ 20000 →
    ∃ r' v2', 0 ≤ r' ∧ r' < 2 ^ (a + 9 * es.length) ∧ forL (.nm 2) (evSs C b1__law_integer) (es.map .int) [some (.d x), some (.d (.int r)), v2, v3, v4] S = .nx [some (.d x), some (.d (.int r')), v2', v3, v4] S
  | [], r, a, v2, _, h0, h1, _ => ⟨r, v2, h0, h1, rfl⟩
  | d :: es, r, a, v2, hd, h0, h1, h2 => by
    obtain ⟨d1, d2⟩ := hd d (List.mem_cons_self ..)
    rw [List.length_cons] at h2
    have hm : mulFits r 420 = true := Sz.mulFits (a := a) (b := 40) (Sz.of_lt (by have : (0 : Int) ≤ 2 ^ a := Int.pow_nonneg (by decide); omega) h1) (sz40 (by decide) (by decide)) (by omega)
    have hlt : r * 420 + d < 2 ^ (a + 9) := by
      rw [Int.pow_add]
      have : (2 : Int) ^ 9 = 512 := by decide
      rw [this]
      omega
    obtain ⟨r', v2', h3, h4, h5⟩ := integer_loop C (x := x) (v3 := v3) (v4 := v4) S es (r * 420 + d) (a + 9) (some (.d (.int d))) (fun y hy => hd y (List.mem_cons_of_mem _ hy)) (by omega) hlt (by omega)
    refine ⟨r', v2', h3, by rw [List.length_cons, show a + 9 * (es.length + 1) = a + 9 + 9 * es.length by omega]; exact h4, ?_⟩
    rw [List.map_cons, forL_go (ρ1 := [some (.d x), some (.d (.int r)), some (.d (.int d)), v3, v4]) rfl (ρ2 := [some (.d x), some (.d (.int (r * 420 + d))), some (.d (.int d)), v3, v4]) (S2 := S), h5]
    simp [b1__law_integer, bind_, pp_, mret_, run_e, run_e2, run_l, slot_, cstD, ops_, bins_, run_ss, run_s, into_, nxt_, Tg.bind, hm]
theorem sz_sign {i : Int} {k : Nat} (h : Sz k i) {s : Int} (hs : s = 1 ∨ s = -1) : Sz k (s * i) := by
  rcases hs with rfl | rfl
  · rw [Int.one_mul]; exact h
  · rw [Int.neg_one_mul]; exact h.neg
theorem law_integer_c (n : Nat) {ds : List Int} (h4 : 4 ≤ ds.length) (hd : ∀ d ∈ ds, 0 ≤ d ∧ d < 420) : ∃ v : Int, Sz 280 v ∧ ∀ S, (cx (n + 1)).cf "_law_integer" [.d (.lst (ds.map .int))] S = .ok (.d (.int v)) S := by
  have gi : ∀ i : Nat, i < 4 → ∃ d : Int, 0 ≤ d ∧ d < 420 ∧ ixD (.lst (ds.map .int)) (.int (i : Int)) = some (.int d) := fun i hi => by
    have hl : i < ds.length := by omega
    have hm := hd ds[i] (List.getElem_mem ..)
    exact ⟨ds[i], hm.1, hm.2, ix_lst (by rw [List.getElem?_map, List.getElem?_eq_getElem hl]; rfl)⟩
  obtain ⟨d0, _, _, i0⟩ := gi 0 (by decide)
  obtain ⟨d1, _, _, i1⟩ := gi 1 (by decide)
  obtain ⟨d2, a2, b2, i2⟩ := gi 2 (by decide)
  obtain ⟨d3, a3, b3, i3⟩ := gi 3 (by decide)
  have i0 : ixD (.lst (ds.map .int)) (.int 0) = some (.int d0) := i0
  have i1 : ixD (.lst (ds.map .int)) (.int 1) = some (.int d1) := i1
  have i2 : ixD (.lst (ds.map .int)) (.int 2) = some (.int d2) := i2
  have i3 : ixD (.lst (ds.map .int)) (.int 3) = some (.int d3) := i3
  obtain ⟨s, hs, hsx⟩ : ∃ s : Int, (s = 1 ∨ s = -1) ∧ ixD (.lst [.int 1, .int (-1)]) (.int (d1.fmod 2)) = some (.int s) := by
    have h := fm d1 (m := 2) (by decide)
    have : d1.fmod 2 = 0 ∨ d1.fmod 2 = 1 := by omega
    rcases this with e | e
    · exact ⟨1, .inl rfl, by rw [e]; exact ixl_.1 _ _⟩
    · exact ⟨-1, .inr rfl, by rw [e]; exact ixl_.2.1 _ _ _⟩
  have hsz : Sz 2 s := by rcases hs with rfl | rfl <;> (unfold Sz; decide)
  have ms : ∀ {v : Int}, Sz 280 v → mulFits s v = true := fun h => hsz.mulFits h (by decide)
  have h5 := fm d0 (m := 5) (by decide)
  have mf : mulFits d2 420 = true := Sz.mulFits (a := 40) (b := 40) (sz40 (by omega) (by omega)) (sz40 (by decide) (by decide)) (by decide)
  have h40 := fm d2 (m := 40) (by decide)
  have small : ∀ v : Int, Sz 280 v → (∀ S : Store, evSs (cx n) ir__law_integer [some (.d (.lst (ds.map .int))), none, none, none, none] [] = .ret (.d (.int (s * v))) []) → ∃ v : Int, Sz 280 v ∧ ∀ S, (cx (n + 1)).cf "_law_integer" [.d (.lst (ds.map .int))] S = .ok (.d (.int v)) S := fun v hv h => by
    refine ⟨s * v, sz_sign hv hs, fun S => ?_⟩
    rw [at__law_integer]
    exact callP_ret (ds := [.lst (ds.map .int)]) (S' := []) (h S)
  by_cases hc : d0.fmod 5 < 3
  · have : d0.fmod 5 = 0 ∨ d0.fmod 5 = 1 ∨ d0.fmod 5 = 2 := by omega
    rcases this with e | e | e
    · refine small 0 (by unfold Sz; decide) fun S => ?_
      have hm := ms (v := 0) (by unfold Sz; decide)
      simp [ir__law_integer, bind_, pp_, mret_, run_e, run_e2, run_l, slot_, cstD, ops_, bins_, run_ss, run_s, into_, nxt_, asl_, mk_, Tg.bind, setAll, i0, i1, i2, i3, hsx, e, mf, ixl_, hm]
    · have hz : Sz 280 (d2.fmod 40) := (sz40 (by omega) (by omega)).mono (by decide)
      refine small (d2.fmod 40) hz fun S => ?_
      have hm := ms hz
      simp [ir__law_integer, bind_, pp_, mret_, run_e, run_e2, run_l, slot_, cstD, ops_, bins_, run_ss, run_s, into_, nxt_, asl_, mk_, Tg.bind, setAll, i0, i1, i2, i3, hsx, e, mf, ixl_, hm]
    · have hz : Sz 280 (d2 * 420 + d3) := (sz40 (by omega) (by omega)).mono (by decide)
      refine small (d2 * 420 + d3) hz fun S => ?_
      have hm := ms hz
      simp [ir__law_integer, bind_, pp_, mret_, run_e, run_e2, run_l, slot_, cstD, ops_, bins_, run_ss, run_s, into_, nxt_, asl_, mk_, Tg.bind, setAll, i0, i1, i2, i3, hsx, e, mf, ixl_, hm]
  · have long : ∀ L : Int, (L = 8 ∨ L = 30) → ixD (.lst [.int 8, .int 30]) (.int (d0.fmod 5 - 3)) = some (.int L) → ∃ v : Int, Sz 280 v ∧ ∀ S, (cx (n + 1)).cf "_law_integer" [.d (.lst (ds.map .int))] S = .ok (.d (.int v)) S := fun L hL hix => by
      obtain ⟨es, e1, e2, e3⟩ := slc_ints (ds := ds) (i := 2) (j := 2 + L) (by decide) (by omega)
      obtain ⟨r', v2', r1, r2, r3⟩ := integer_loop (cx n) (x := .lst (ds.map .int)) (v3 := some (.d (.int (d0.fmod 5)))) (v4 := some (.d (.int s))) [] es 0 0 none (fun d h => hd d (e3 d h)) (by decide) (by decide) (by omega)
      have hz : Sz 280 r' := (Sz.of_lt (n := 0 + 9 * es.length) (by have : (0 : Int) ≤ 2 ^ (0 + 9 * es.length) := Int.pow_nonneg (by decide); have : (0 : Int) < 2 ^ (0 + 9 * es.length) := Int.pow_pos (by decide); omega) r2).mono (by omega)
      refine small r' hz fun S => ?_
      have hm := ms hz
      simp [ir__law_integer, bind_, pp_, mret_, run_e, run_e2, run_l, slot_, cstD, ops_, bins_, run_ss, run_s, into_, nxt_, asl_, mk_, Tg.bind, setAll, i0, i1, hsx, hc, hix, e1, iterD, r3, hm]
    have : d0.fmod 5 = 3 ∨ d0.fmod 5 = 4 := by omega
    rcases this with e | e
    · exact long 8 (.inl rfl) (by rw [e]; exact ixl_.1 _ _)
    · exact long 30 (.inr rfl) (by rw [e]; exact ixl_.2.1 _ _ _)
theorem law_offset_effect_c (n : Nat) {b : Int} {ds : List Int} (hb : 2 ≤ b) (hs : Sz 6 b) (h6 : 6 ≤ ds.length) (hd : ∀ d ∈ ds, 0 ≤ d ∧ d < 420) :
    ∃ (p : Int × Int) (s : Int), Bd b 4 332 p ∧ -4 ≤ s ∧ s ≤ 4 ∧ ∀ S, (cx (n + 2)).cf "_law_offset_effect" [.d (.int b), .d (.lst (ds.map .int))] S = .ok (.d (efD p s)) S := by
  obtain ⟨v, hv, hcall⟩ := law_integer_c n (ds := ds.drop 2) (by rw [List.length_drop]; omega) (fun d h => hd d (List.mem_of_mem_drop h))
  have g0 : ixD (.lst (ds.map .int)) (.int 0) = some (.int ds[0]) := ix_lst (i := 0) (by rw [List.getElem?_map, List.getElem?_eq_getElem (by omega)]; rfl)
  have g1 : ixD (.lst (ds.map .int)) (.int 1) = some (.int ds[1]) := ix_lst (i := 1) (by rw [List.getElem?_map, List.getElem?_eq_getElem (by omega)]; rfl)
  have h0 := fm ds[0] (m := 9) (by decide)
  have h1 := fm ds[1] (m := 9) (by decide)
  refine ⟨red b v (ds[0].fmod 9 - 4), ds[1].fmod 9 - 4, red_bd hb hs (c := 8) hv (by decide) (by omega) (by omega) (by decide), by omega, by omega, fun S => ?_⟩
  rw [at__law_offset_effect]
  refine callP_ret (ds := [.int b, .lst (ds.map .int)]) (S' := []) ?_
  show evSs (cx (n + 1)) ir__law_offset_effect [some (.d (.int b)), some (.d (.lst (ds.map .int))), none] [] = _
  have hsl : slcD (some 2) none (.lst (ds.map .int)) = some (.lst ((ds.drop 2).map .int)) := by
    rw [slc_from (by decide), List.map_drop]; rfl
  have a1 := law_reduced_c n (n := v) (e := ds[0].fmod 9 - 4) [] hb hs
  simp only [List.map_drop] at hcall hsl
  simp [ir__law_offset_effect, bind_, pp_, mret_, run_e, run_e2, run_l, slot_, cstD, ops_, bins_, run_ss, run_s, into_, nxt_, asl_, mk_, Tg.bind, g0, g1, hsl, hcall, a1]
  rfl
end Q

namespace Q
open PySem L2 PD
theorem absI_pos {s : Int} (h : s ≠ 0) : 0 < absI s := by unfold absI; split <;> omega
theorem absI_dvd (s : Int) : absI s ∣ s := by
  unfold absI
  split
  · exact Int.neg_dvd.mpr (Int.dvd_refl _)
  · exact Int.dvd_refl _
theorem known_mem {b : Int} (hb : 2 ≤ b) {p y z : Int × Int} {s t : Int} (hs : s ≠ 0) (h1 : 0 ≤ z.2 + 8) (h2 : 0 ≤ p.2 + (8 + t)) (h3 : 0 ≤ y.2 + 8) (h4 : 0 ≤ y.2 + (8 + s)) (e : vl b 8 z = vl b 8 y + vl b (8 + t) p - vl b (8 + s) y) :
    t.fmod (absI s) ∈ wantL b p s z s := by
  have ha := absI_pos hs
  unfold wantL
  rw [if_neg (fun h => h rfl), if_neg hs]
  rw [mem_fil]
  have hf := fm t ha
  refine ⟨hf.1, by omega, decide_eq_true ?_⟩
  rw [sumN_dvd hb ha]
  obtain ⟨l1, l2⟩ := lowN_le z (-p.1, p.2 + t.fmod (absI s))
  have l2 : lowN z (-p.1, p.2 + t.fmod (absI s)) ≤ p.2 + t.fmod (absI s) := l2
  generalize lowN z (-p.1, p.2 + t.fmod (absI s)) = l at *
  show pw b (absI s) - 1 ∣ z.1 * pw b (z.2 - l) + -p.1 * pw b (p.2 + t.fmod (absI s) - l)
  have e2 : z.1 * pw b (z.2 - l) + -p.1 * pw b (p.2 + t.fmod (absI s) - l) = z.1 * pw b (z.2 - l) - p.1 * pw b (p.2 + t.fmod (absI s) - l) := by rw [Int.neg_mul]; omega
  rw [e2]
  have r1 := fmod_rep t ha
  have r2 := fmod_rep (-(8 + l)) ha
  have n2 := fm (-(8 + l)) ha
  refine (cong_move (b := b) ha (n1 := z.1) (n2 := p.1) (i := z.2 + 8) (j := p.2 + (8 + t)) (i' := z.2 - l) (j' := p.2 + t.fmod (absI s) - l) (c := (-(8 + l)).fmod (absI s)) h1 h2 (by omega) (by omega) n2.1 ?_ ?_).mp ?_
  · have : z.2 + 8 + (-(8 + l)).fmod (absI s) - (z.2 - l) = -(-(8 + l) - (-(8 + l)).fmod (absI s)) := by omega
    rw [this]; exact Int.dvd_neg.mpr r2
  · have : p.2 + (8 + t) + (-(8 + l)).fmod (absI s) - (p.2 + t.fmod (absI s) - l) = (t - t.fmod (absI s)) - (-(8 + l) - (-(8 + l)).fmod (absI s)) := by omega
    rw [this]; exact Int.dvd_sub r1 r2
  · unfold vl at e
    have e3 : z.1 * pw b (z.2 + 8) - p.1 * pw b (p.2 + (8 + t)) = y.1 * (pw b (y.2 + 8) - pw b (y.2 + (8 + s))) := by
      rw [Int.mul_sub]; omega
    rw [e3]
    refine Int.dvd_mul_of_dvd_right (dvd_pw ha h3 h4 ?_)
    have : y.2 + 8 - (y.2 + (8 + s)) = -s := by omega
    rw [this]
    exact Int.dvd_neg.mpr (absI_dvd s)
/-- an effect of the law -/
structure EfOk (b : Int) (p : Int × Int) (s : Int) : Prop where
  can : Can b p
  lo : -8 ≤ p.2
  hi : p.2 ≤ 492
  sz : Sz 900 p.1
  s1 : -5 ≤ s
  s2 : s ≤ 5
theorem EfOk.num {b : Int} {p : Int × Int} {s : Int} (h : EfOk b p s) : NumOk b p := ⟨h.can, by have := h.lo; omega, by have := h.hi; omega, h.sz.mono (by decide)⟩
theorem EfOk.of {b m : Int} {k : Nat} {p : Int × Int} {s : Int} (hb : 2 ≤ b) (h : Bd b m k p) (h0 : 0 ≤ m) (hm : m ≤ 8) (hk : k ≤ 490) (hk2 : 8 < k) (s1 : -5 ≤ s) (s2 : s ≤ 5) : EfOk b p s := by
  have h1 := h.exp hb h0 (by omega)
  have h2 := h.ge
  exact ⟨h.can, by omega, by omega, (h.num hb).mono (by omega), s1, s2⟩
theorem wantL_len {b : Int} {p q : Int × Int} {s t : Int} (h : absI s ≤ 1000) : (wantL b p s q t).length ≤ 1000 := by
  unfold wantL
  split
  · simp
  · split
    · split
      · simp
      · split <;> simp
    · exact Nat.le_trans (fil_len _ _) (by omega)
theorem pair_conj {b : Int} (n : Nat) (hb : 2 ≤ b) (hs : Sz 6 b) {p q : Int × Int} {s t : Int} (h1 : EfOk b p s) (h2 : EfOk b q t) (S : Store) :
    (cx (n + 6)).cf "conjugators" [.d (.int b), .d (efD p s), .d (efD q t)] S = .ok (.loc S.length) (S ++ [some (.lst ((wantL b p s q t).map .int))]) := by
  have a1 := h1.lo; have a2 := h1.hi; have a3 := h2.lo; have a4 := h2.hi; have a5 := h1.s1; have a6 := h1.s2; have a7 := h2.s1; have a8 := h2.s2
  rw [conjugators_c n S hb hs h1.num h2.num (by omega) (by omega) (by omega) (by omega), conj_want hb h1.can h2.can (by omega) (by omega)]
theorem pair_want {b : Int} (n : Nat) (hb : 2 ≤ b) (hs : Sz 6 b) {p q : Int × Int} {s t : Int} (h1 : EfOk b p s) (h2 : EfOk b q t) (S : Store) :
    (cx (n + 3)).cf "_law_want" [.d (.int b), .d (efD p s), .d (efD q t)] S = .ok (.d (.lst ((wantL b p s q t).map .int))) S := by
  have a1 := h1.lo; have a2 := h1.hi; have a3 := h2.lo; have a4 := h2.hi; have a5 := h1.s1; have a6 := h1.s2
  exact law_want_c n S hb hs (h1.sz.mono (by decide)) (h2.sz.mono (by decide)) (by omega) (by omega) (by omega) (by omega) (by omega) (by omega)
theorem b3_run (n : Nat) {b : Int} (hb : 2 ≤ b) (hs : Sz 6 b) {p q : Int × Int} {s t : Int} (h1 : EfOk b p s) (h2 : EfOk b q t) (x0 x1 x2 x3 x5 x6 x7 x8 x9 x12 x13 x14 x15 : Option Val) (S : Store) :
    ∃ v S', evSs (cx (n + 6)) b3_law [x0, x1, x2, x3, some (.d (.int b)), x5, x6, x7, x8, x9, some (.d (efD q t)), some (.d (efD p s)), x12, x13, x14, x15] S = .nx [x0, x1, x2, x3, some (.d (.int b)), x5, x6, x7, x8, x9, some (.d (efD q t)), some (.d (efD p s)), x12, x13, v, x15] S' := by
  have c1 := fun S => pair_conj n hb hs h1 h2 S
  have c2 := fun S => pair_conj n hb hs h2 h1 S
  have w1 : ∀ S, (cx (n + 6)).cf "_law_want" [.d (.int b), .d (efD p s), .d (efD q t)] S = .ok (.d (.lst ((wantL b p s q t).map .int))) S := fun S => pair_want (n + 3) hb hs h1 h2 S
  have w2 : ∀ S, (cx (n + 6)).cf "_law_want" [.d (.int b), .d (efD q t), .d (efD p s)] S = .ok (.d (.lst ((wantL b q t p s).map .int))) S := fun S => pair_want (n + 3) hb hs h2 h1 S
  have hl : ((wantL b p s q t).map D.int).length < sizeLine := by
    rw [List.length_map]
    have a5 := h1.s1; have a6 := h1.s2
    exact Nat.lt_of_le_of_lt (wantL_len (by unfold absI; split <;> omega)) (by decide)
  obtain ⟨S1, hS1⟩ : ∃ S1, S1 = S ++ [some (SO.lst ((wantL b p s q t).map .int))] := ⟨_, rfl⟩
  have g1 : S1[S.length]? = some (some (.lst ((wantL b p s q t).map .int))) := by rw [hS1]; simp
  obtain ⟨S2, hS2⟩ : ∃ S2, S2 = S1 ++ [none] := ⟨_, rfl⟩
  have g2 : S2[S.length]? = some (some (.lst ((wantL b p s q t).map .int))) := by
    rw [hS2, List.getElem?_append_left (List.getElem?_eq_some_iff.mp g1).1]; exact g1
  refine ⟨some (.loc S.length), S2.set S.length (some (.lst ((wantL b p s q t).map .int ++ [.non]))), ?_⟩
  have r1 : (evL (cx (n + 6)) (.cons (.var 4) (.cons (.var 11) (.cons (.var 10) .nil))) [x0, x1, x2, x3, some (.d (.int b)), x5, x6, x7, x8, x9, some (.d (efD q t)), some (.d (efD p s)), x12, x13, x14, x15] S).pp (callN 3 ((cx (n + 6)).cf "conjugators")) = .ok (.loc S.length) S1 := by
    rw [hS1, ← c1 S]
    simp [bind_, pp_, mret_, run_e, run_e2, run_l, slot_, ops_]
  have r2 : evS (cx (n + 6)) (.ifS (.orE (.cmp .NotEq (.var 14) (.call "_law_want" "_law_want" 3 (.cons (.var 4) (.cons (.var 11) (.cons (.var 10) .nil))))) (.cons (.cmp .NotEq (.frz (.call "conjugators" "conjugators" 3 (.cons (.var 4) (.cons (.var 10) (.cons (.var 11) .nil))))) (.call "_law_want" "_law_want" 3 (.cons (.var 4) (.cons (.var 10) (.cons (.var 11) .nil))))) .nil)) (.cons (.ret (.cst (.bool false))) .nil) .nil) [x0, x1, x2, x3, some (.d (.int b)), x5, x6, x7, x8, x9, some (.d (efD q t)), some (.d (efD p s)), x12, x13, some (.loc S.length), x15] S1 = .nx [x0, x1, x2, x3, some (.d (.int b)), x5, x6, x7, x8, x9, some (.d (efD q t)), some (.d (efD p s)), x12, x13, some (.loc S.length), x15] S2 := by
    rw [hS2]
    simp [bind_, pp_, mret_, run_e, run_e2, run_l, slot_, ops_, run_s, run_ss, into_, w1, w2, c2, op2_loc g1, frz_new, eqs_]
  have r3 : evS (cx (n + 6)) (.expr (.lm .append (.var 14) (.cons (.cst .none) .nil))) [x0, x1, x2, x3, some (.d (.int b)), x5, x6, x7, x8, x9, some (.d (efD q t)), some (.d (efD p s)), x12, x13, some (.loc S.length), x15] S2 = .nx [x0, x1, x2, x3, some (.d (.int b)), x5, x6, x7, x8, x9, some (.d (efD q t)), some (.d (efD p s)), x12, x13, some (.loc S.length), x15] (S2.set S.length (some (.lst ((wantL b p s q t).map .int ++ [.non])))) := by
    simp [bind_, pp_, mret_, run_e, run_e2, run_l, slot_, ops_, run_s, run_ss, into_, cstD, needL_loc g2, nl_, app_loc g2 hl]
  simp only [b3_law, run_ss, r2, r3, run_s, run_e2, r1, into_, Tg.bind, nxt_, List.set_cons_succ, List.set_cons_zero]
end Q

namespace Q
open PySem L2 PD
theorem b2_run (n : Nat) {b : Int} (hb : 2 ≤ b) (hs : Sz 6 b) {p q : Int × Int} {s t : Int} (h1 : EfOk b p s) (h2 : EfOk b q t) (x0 x1 x2 x3 x5 x6 x7 x8 x9 x12 x13 x14 x15 : Option Val) (S : Store) :
    ∃ u v S', evSs (cx (n + 6)) b2_law [x0, x1, x2, x3, some (.d (.int b)), x5, x6, x7, x8, x9, some (.d (efD q t)), some (.d (efD p s)), x12, x13, x14, x15] S = .nx [x0, x1, x2, x3, some (.d (.int b)), x5, x6, x7, x8, x9, some (.d (efD q t)), some (.d (efD p s)), x12, u, v, x15] S' := by
  obtain ⟨v1, S1, r1⟩ := b3_run n hb hs h1 h2 x0 x1 x2 x3 x5 x6 x7 x8 x9 x12 (some (.d (.int 0))) x14 x15 S
  obtain ⟨v2, S2, r2⟩ := b3_run n hb hs h1 h2 x0 x1 x2 x3 x5 x6 x7 x8 x9 x12 (some (.d (.int 1))) v1 x15 S1
  refine ⟨some (.d (.int 1)), v2, S2, ?_⟩
  have hr := range_1 (j := 2) (by decide) (by decide) S
  have hu : upTo 0 (2 : Int).toNat = [.int 0, .int 1] := rfl
  have f1 : forL (.nm 13) (evSs (cx (n + 6)) b3_law) [.int 0, .int 1] [x0, x1, x2, x3, some (.d (.int b)), x5, x6, x7, x8, x9, some (.d (efD q t)), some (.d (efD p s)), x12, x13, x14, x15] S = .nx [x0, x1, x2, x3, some (.d (.int b)), x5, x6, x7, x8, x9, some (.d (efD q t)), some (.d (efD p s)), x12, some (.d (.int 1)), v2, x15] S2 := by
    rw [forL_go (ρ1 := [x0, x1, x2, x3, some (.d (.int b)), x5, x6, x7, x8, x9, some (.d (efD q t)), some (.d (efD p s)), x12, some (.d (.int 0)), x14, x15]) rfl r1]
    rw [forL_go (ρ1 := [x0, x1, x2, x3, some (.d (.int b)), x5, x6, x7, x8, x9, some (.d (efD q t)), some (.d (efD p s)), x12, some (.d (.int 1)), v1, x15]) rfl r2, forL_nil]
  rw [hu] at hr
  simp [b2_law, bind_, pp_, mret_, run_e, run_l, slot_, cstD, run_ss, run_s, into_, nxt_, hr, f1]
theorem others_loop (n : Nat) {b : Int} (hb : 2 ≤ b) (hs : Sz 6 b) {p : Int × Int} {s : Int} (h1 : EfOk b p s) (x0 x1 x2 x3 x5 x6 x7 x8 x9 x12 x15 : Option Val) : ∀ (l : List ((Int × Int) × Int)), (∀ e ∈ l, EfOk b e.1 e.2) → ∀ (x10 x13 x14 : Option Val) (S : Store),
    ∃ w u v S', forL (.nm 10) (evSs (cx (n + 6)) b2_law) (l.map fun e => efD e.1 e.2) [x0, x1, x2, x3, some (.d (.int b)), x5, x6, x7, x8, x9, x10, some (.d (efD p s)), x12, x13, x14, x15] S = .nx [x0, x1, x2, x3, some (.d (.int b)), x5, x6, x7, x8, x9, w, some (.d (efD p s)), x12, u, v, x15] S'
  | [], _, x10, x13, x14, S => ⟨x10, x13, x14, S, rfl⟩
  | e :: l, h, x10, x13, x14, S => by
    obtain ⟨u, v, S1, r⟩ := b2_run n hb hs h1 (h e (List.mem_cons_self ..)) x0 x1 x2 x3 x5 x6 x7 x8 x9 x12 x13 x14 x15 S
    obtain ⟨w', u', v', S', r'⟩ := others_loop n hb hs h1 x0 x1 x2 x3 x5 x6 x7 x8 x9 x12 x15 l (fun y hy => h y (List.mem_cons_of_mem _ hy)) (some (.d (efD e.1 e.2))) u v S1
    refine ⟨w', u', v', S', ?_⟩
    rw [List.map_cons, forL_go (ρ1 := [x0, x1, x2, x3, some (.d (.int b)), x5, x6, x7, x8, x9, some (.d (efD e.1 e.2)), some (.d (efD p s)), x12, x13, x14, x15]) rfl r]
    exact r'
theorem can_one {b : Int} (hb : 2 ≤ b) (e : Int) : Can b (1, e) := .inr ⟨by show (1 : Int) ≠ 0; decide, fun h => by have h : b ∣ 1 := h; have := Int.le_of_dvd (by decide) h; omega⟩
theorem num_one {b : Int} (hb : 2 ≤ b) {e : Int} (h1 : -1000 ≤ e) (h2 : e ≤ 1000) : NumOk b (1, e) := ⟨can_one hb e, h1, h2, by show Sz 996 1; exact Sz.mono (a := 1) (by unfold Sz; decide) (by decide)⟩
theorem frz_conj (n : Nat) {b : Int} {p q : Int × Int} (S : Store) (hb : 2 ≤ b) (hs : Sz 6 b) (hp : NumOk b p) (hq : NumOk b q) :
    (cx (n + 6)).cf "conjugators" [.d (.int b), .d (efD p 0), .d (efD q 0)] S = .ok (.loc S.length) (S ++ [some (.lst ((restL p q).map .int))]) := by
  rw [conjugators_c n S hb hs hp hq (by decide) (by decide) (by decide) (by decide)]
  rfl
theorem ef_fold (p : Int × Int) (s : Int) (S : Store) : (R.ok (.d (.tup [nmD p, .int s])) S : R Val) = .ok (.d (efD p s)) S := rfl
theorem ef_fold2 (p : Int × Int) (s : Int) (S : Store) (r : List D) : D.tup [nmD p, .int s] = efD p s := rfl
theorem dig_facts {ds : List Int} {k : Nat} {c : Int} (h : DigOk ds (List.replicate k c)) : ds.length = k ∧ ∀ d ∈ ds, 0 ≤ d ∧ d < c := by
  refine ⟨by rw [h.1, List.length_replicate], fun d hd => ?_⟩
  obtain ⟨j, hj⟩ := List.mem_iff_getElem?.mp hd
  have hl : j < k := by
    have := (List.getElem?_eq_some_iff.mp hj).1
    rw [h.1, List.length_replicate] at this
    exact this
  exact h.2 0 c d j (by rw [List.getElem?_replicate]; simp [hl]) hj
theorem b1_run (k cell : Int) (hk : 0 ≤ k ∧ k ≤ 1000) (x0 x3 x4 x5 x6 x7 x8 x9 x10 x11 x12 x13 x14 x15 : Option Val) (S : Store) :
    ∃ y3 y4 y5 y6 y7 y8 y9 y10 y11 y12 y13 y14 y15 S', evSs (cx 6) b1_law [x0, some (.d (.int k)), some (.d (.int cell)), x3, x4, x5, x6, x7, x8, x9, x10, x11, x12, x13, x14, x15] S = .nx [x0, some (.d (.int k)), some (.d (.int cell)), y3, y4, y5, y6, y7, y8, y9, y10, y11, y12, y13, y14, y15] S' := by
  obtain ⟨ds, hok, c1⟩ := law_numbers_c 5 (cell := cell) (salt := 5700 + k) (zs := List.replicate 90 420) (by omega) (fun z hz => by rw [List.mem_replicate] at hz; rw [hz.2]; decide) (by rw [List.length_replicate]; decide)
  obtain ⟨hlen, hd⟩ := dig_facts hok
  have hrep : binD .Mult (.lst [.int 420]) (.int 90) = some (.lst ((List.replicate 90 420).map .int)) := rep_mul (k := 90) (by decide) (by decide)
  have r1 : ∀ S, evS (cx 6) b1_law_1 [x0, some (.d (.int k)), some (.d (.int cell)), x3, x4, x5, x6, x7, x8, x9, x10, x11, x12, x13, x14, x15] S = .nx [x0, some (.d (.int k)), some (.d (.int cell)), some (.d (.lst (ds.map .int))), x4, x5, x6, x7, x8, x9, x10, x11, x12, x13, x14, x15] S := fun S => by
    simp only [b1_law_1, bind_, pp_, mret_, run_e, run_e2, run_l, slot_, cstD, ops_, bins_, run_s, into_, asl_, mk_, Tg.bind, hrep, c1, List.getElem?_cons_zero, List.getElem?_cons_succ, Option.map_some, List.length_cons, List.length_nil, Nat.zero_add, Nat.reduceAdd, if_true, List.set_cons_succ, List.set_cons_zero]
  have g0 : ixD (.lst (ds.map .int)) (.int 0) = some (.int ds[0]) := ix_lst (i := 0) (by rw [List.getElem?_map, List.getElem?_eq_getElem (by omega)]; rfl)
  have g80 : ixD (.lst (ds.map .int)) (.int 80) = some (.int ds[80]) := ix_lst (i := 80) (by rw [List.getElem?_map, List.getElem?_eq_getElem (by omega)]; rfl)
  have f0 := fm ds[0] (m := 35) (by decide)
  obtain ⟨b, hbe⟩ : ∃ b, b = 2 + ds[0].fmod 35 := ⟨_, rfl⟩
  have hb : 2 ≤ b := by omega
  have hb2 : b ≤ 36 := by omega
  have hs : Sz 6 b := Sz.of_lt (by omega) (by omega)
  have r2 : ∀ S, evS (cx 6) b1_law_2 [x0, some (.d (.int k)), some (.d (.int cell)), some (.d (.lst (ds.map .int))), x4, x5, x6, x7, x8, x9, x10, x11, x12, x13, x14, x15] S = .nx [x0, some (.d (.int k)), some (.d (.int cell)), some (.d (.lst (ds.map .int))), some (.d (.int b)), x5, x6, x7, x8, x9, x10, x11, x12, x13, x14, x15] S := fun S => by
    simp [b1_law_2, bind_, pp_, mret_, run_e, run_e2, run_l, slot_, cstD, ops_, bins_, run_s, into_, Tg.bind, g0, hbe]
  obtain ⟨u1, hu1⟩ : ∃ u, u = ds.drop 1 := ⟨_, rfl⟩
  obtain ⟨u2, hu2⟩ : ∃ u, u = ds.drop 40 := ⟨_, rfl⟩
  obtain ⟨p, s, hp, s1, s2, c2⟩ := law_offset_effect_c 4 (ds := u1) hb hs (by rw [hu1, List.length_drop]; omega) (fun d h => hd d (List.mem_of_mem_drop (hu1 ▸ h)))
  obtain ⟨y, t, hy, t1, t2, c3⟩ := law_offset_effect_c 4 (ds := u2) hb hs (by rw [hu2, List.length_drop]; omega) (fun d h => hd d (List.mem_of_mem_drop (hu2 ▸ h)))
  have l1 : slcD (some 1) none (.lst (ds.map .int)) = some (.lst (u1.map .int)) := by rw [slc_from (by decide), hu1, List.map_drop]; rfl
  have l2 : slcD (some 40) none (.lst (ds.map .int)) = some (.lst (u2.map .int)) := by rw [slc_from (by decide), hu2, List.map_drop]; rfl
  have r3 : ∀ S, evS (cx 6) b1_law_3 [x0, some (.d (.int k)), some (.d (.int cell)), some (.d (.lst (ds.map .int))), some (.d (.int b)), x5, x6, x7, x8, x9, x10, x11, x12, x13, x14, x15] S = .nx [x0, some (.d (.int k)), some (.d (.int cell)), some (.d (.lst (ds.map .int))), some (.d (.int b)), x5, x6, x7, x8, x9, x10, some (.d (efD p s)), some (.d (efD y t)), x13, x14, x15] S := fun S => by
    simp [b1_law_3, bind_, pp_, mret_, run_e, run_e2, run_l, slot_, cstD, ops_, bins_, run_s, into_, setAll, l1, l2, c2, c3]
  -- the conjugate
  have bp : Bd b (8 + t) 390 p := hp.up hs (c := (4 + t).toNat) (by omega) (by omega)
  have m1 := mvd_bd (t := t) bp (by omega)
  have by8 : Bd b 8 390 y := hy.up hs (c := 4) (by omega) (by omega)
  have m2 := ngd_bd (hy.up hs (c := (4 + s).toNat) (m' := 8 + s) (k' := 390) (by omega) (by omega))
  have m3 := mvd_bd (t := -t) m2.1 (by omega)
  have m4 := mvd_bd (t := t + s) m3.1 (by omega)
  have em1 : 8 + t - t = 8 := by omega
  have em4 : 8 + s - -t - (t + s) = 8 := by omega
  rw [em1] at m1
  rw [em4] at m4
  have tt := tot_bd hb by8 m1.1 (by decide)
  have zz := tot_bd hb tt.1 (m4.1.mono (by decide : 390 ≤ 390 + 1)) (by decide)
  obtain ⟨z, hz⟩ : ∃ z, z = tot b (tot b y (mvd p t)) (mvd (mvd (ngd y) (-t)) (t + s)) := ⟨_, rfl⟩
  rw [← hz] at zz
  have ez : vl b 8 z = vl b 8 y + vl b (8 + t) p - vl b (8 + s) y := by
    rw [zz.2, tt.2, m1.2, m4.2, m3.2, m2.2]; omega
  have okp : EfOk b p s := .of hb hp (by decide) (by decide) (by decide) (by decide) (by omega) (by omega)
  have oky : EfOk b y t := .of hb hy (by decide) (by decide) (by decide) (by decide) (by omega) (by omega)
  have okz : EfOk b z s := .of hb zz.1 (by decide) (by decide) (by decide) (by decide) (by omega) (by omega)
  have c4 : ∀ S, (cx 6).cf "conjugate" [.d (.int b), .d (efD p s), .d (efD y t)] S = .ok (.d (efD z s)) S := fun S => by
    rw [hz]
    exact conjugate_c 0 S hb hs okp.num oky.num (by omega) (by omega) (by omega) (by omega) by8 m1.1 (m4.1.mono (by decide)) (by decide) (by decide) (by decide) (by rw [← hz]; exact okz.num)
  have r4 : ∀ S, evS (cx 6) b1_law_4 [x0, some (.d (.int k)), some (.d (.int cell)), some (.d (.lst (ds.map .int))), some (.d (.int b)), x5, x6, x7, x8, x9, x10, some (.d (efD p s)), some (.d (efD y t)), x13, x14, x15] S = .nx [x0, some (.d (.int k)), some (.d (.int cell)), some (.d (.lst (ds.map .int))), some (.d (.int b)), some (.d (efD z s)), x6, x7, x8, x9, x10, some (.d (efD p s)), some (.d (efD y t)), x13, x14, x15] S := fun S => by
    simp [b1_law_4, bind_, pp_, mret_, run_e, run_e2, run_l, slot_, cstD, ops_, bins_, run_s, into_, Tg.bind, c4]
  obtain ⟨kn, hkn⟩ : ∃ kn, kn = if s = 0 then t else t.fmod (absI s) := ⟨_, rfl⟩
  have r5 : ∀ S, evS (cx 6) b1_law_5 [x0, some (.d (.int k)), some (.d (.int cell)), some (.d (.lst (ds.map .int))), some (.d (.int b)), some (.d (efD z s)), x6, x7, x8, x9, x10, some (.d (efD p s)), some (.d (efD y t)), x13, x14, x15] S = .nx [x0, some (.d (.int k)), some (.d (.int cell)), some (.d (.lst (ds.map .int))), some (.d (.int b)), some (.d (efD z s)), some (.d (.int kn)), x7, x8, x9, x10, some (.d (efD p s)), some (.d (efD y t)), x13, x14, x15] S := fun S => by
    have hm : (if s < -s then -s else s) = absI s := by unfold absI; split <;> split <;> omega
    by_cases s0 : s = 0
    · rw [if_pos s0] at hkn
      simp [b1_law_5, bind_, pp_, mret_, run_e, run_e2, run_l, slot_, cstD, ops_, bins_, run_s, into_, Tg.bind, ef_, s0, hkn]
    · rw [if_neg s0] at hkn
      have ha := absI_pos s0
      have ha0 : absI s ≠ 0 := by omega
      simp [b1_law_5, bind_, pp_, mret_, run_e, run_e2, run_l, slot_, cstD, ops_, bins_, run_s, into_, Tg.bind, ef_, asl_, bi_, s0, hm, ha0, hkn]
  have cz := fun S => pair_conj 0 hb hs okp okz S
  have r6 : ∀ S, ∃ S', evS (cx 6) b1_law_6 [x0, some (.d (.int k)), some (.d (.int cell)), some (.d (.lst (ds.map .int))), some (.d (.int b)), some (.d (efD z s)), some (.d (.int kn)), x7, x8, x9, x10, some (.d (efD p s)), some (.d (efD y t)), x13, x14, x15] S = .nx [x0, some (.d (.int k)), some (.d (.int cell)), some (.d (.lst (ds.map .int))), some (.d (.int b)), some (.d (efD z s)), some (.d (.int kn)), x7, x8, x9, x10, some (.d (efD p s)), some (.d (efD y t)), x13, x14, x15] S' := fun S => by
    by_cases s0 : s = 0
    · refine ⟨S, ?_⟩
      simp [b1_law_6, bind_, pp_, mret_, run_e, run_e2, run_l, slot_, cstD, ops_, bins_, run_s, run_ss, into_, Tg.bind, ef_, s0]
    · refine ⟨S ++ [none], ?_⟩
      rw [if_neg s0] at hkn
      have hmem := known_mem hb s0 (p := p) (y := y) (z := z) (t := t) zz.1.ge bp.ge by8.ge (by have := hy.ge; omega) ez
      rw [← hkn] at hmem
      simp [b1_law_6, bind_, pp_, mret_, run_e, run_e2, run_l, slot_, cstD, ops_, bins_, run_s, run_ss, into_, Tg.bind, ef_, s0, cz, frz_new, in_ints, hmem]
  have r7 : ∀ S, ∃ S', evS (cx 6) b1_law_7 [x0, some (.d (.int k)), some (.d (.int cell)), some (.d (.lst (ds.map .int))), some (.d (.int b)), some (.d (efD z s)), some (.d (.int kn)), x7, x8, x9, x10, some (.d (efD p s)), some (.d (efD y t)), x13, x14, x15] S = .nx [x0, some (.d (.int k)), some (.d (.int cell)), some (.d (.lst (ds.map .int))), some (.d (.int b)), some (.d (efD z s)), some (.d (.int kn)), x7, x8, x9, x10, some (.d (efD p s)), some (.d (efD y t)), x13, x14, x15] S' := fun S => by
    by_cases s0 : s = 0
    · by_cases p0 : p.1 = 0
      · refine ⟨S, ?_⟩
        simp [b1_law_7, bind_, pp_, mret_, run_e, run_e2, run_l, slot_, cstD, ops_, bins_, run_s, run_ss, into_, Tg.bind, ef_, nm_, s0, p0]
      · refine ⟨S ++ [none], ?_⟩
        rw [if_pos s0] at hkn
        have hzt : z = mvd p t := by
          refine Can.uniq hb (m := 8) zz.1.can m1.1.can zz.1.ge m1.1.ge ?_
          rw [ez, m1.2, s0, Int.add_zero]; omega
        have hw : wantL b p s z s = [kn] := by
          unfold wantL
          rw [if_neg (fun h => h rfl), if_pos s0, if_neg (fun h => p0 h.1), hzt]
          unfold mvd
          rw [if_pos p0, if_pos rfl]
          show [p.2 + t - p.2] = [kn]
          rw [hkn]
          congr 1
          omega
        have ht : cmpD .NotEq (.lst ([kn].map D.int)) (.lst [.int kn]) = some (.bl (!decide ([kn] = [kn]))) := eqs_.2.1 [kn] [kn]
        have cz' := cz
        rw [hw] at cz'
        simp only [List.map_cons, List.map_nil] at ht cz'
        simp [b1_law_7, bind_, pp_, mret_, run_e, run_e2, run_l, slot_, cstD, ops_, bins_, run_s, run_ss, into_, Tg.bind, ef_, nm_, asl_, mk_, s0, p0]
        rw [s0] at cz'
        simp [b1_law_7, bind_, pp_, mret_, run_e, run_e2, run_l, slot_, cstD, ops_, bins_, run_s, run_ss, into_, Tg.bind, ef_, nm_, asl_, mk_, s0, p0, cz', frz_new, ht]
    · refine ⟨S, ?_⟩
      simp [b1_law_7, bind_, pp_, mret_, run_e, run_e2, run_l, slot_, cstD, ops_, bins_, run_s, run_ss, into_, Tg.bind, ef_, s0]
  have r8 : ∀ S, evS (cx 6) b1_law_8 [x0, some (.d (.int k)), some (.d (.int cell)), some (.d (.lst (ds.map .int))), some (.d (.int b)), some (.d (efD z s)), some (.d (.int kn)), x7, x8, x9, x10, some (.d (efD p s)), some (.d (efD y t)), x13, x14, x15] S = .nx [x0, some (.d (.int k)), some (.d (.int cell)), some (.d (.lst (ds.map .int))), some (.d (.int b)), some (.d (efD z s)), some (.d (.int kn)), some (.d (.lst [efD (1, 1000) 0, efD (1, 0) 0, efD (1, -1000) 0, efD (1, -1) 0])), x8, x9, x10, some (.d (efD p s)), some (.d (efD y t)), x13, x14, x15] S := fun S => by
    simp [b1_law_8, bind_, pp_, mret_, run_e, run_e2, run_l, slot_, cstD, ops_, bins_, run_s, into_, Tg.bind, asl_, mk_]
    exact ⟨rfl, rfl, rfl, rfl⟩
  have n1 := num_one hb (e := 1000) (by decide) (by decide)
  have n2 := num_one hb (e := 0) (by decide) (by decide)
  have n3 := num_one hb (e := -1000) (by decide) (by decide)
  have n4 := num_one hb (e := -1) (by decide) (by decide)
  have k1 := fun S => frz_conj 0 S hb hs n1 n2
  have k2 := fun S => frz_conj 0 S hb hs n1 n3
  have k3 := fun S => frz_conj 0 S hb hs n1 n4
  have k4 := fun S => frz_conj 0 S hb hs n2 n1
  have k5 := fun S => frz_conj 0 S hb hs n3 n1
  have k6 := fun S => frz_conj 0 S hb hs n4 n1
  have w1 : restL (1, 1000) (1, 0) = [-1000] := by decide
  have w2 : restL (1, 1000) (1, -1000) = [] := by decide
  have w3 : restL (1, 1000) (1, -1) = [] := by decide
  have w4 : restL (1, 0) (1, 1000) = [1000] := by decide
  have w5 : restL (1, -1000) (1, 1000) = [] := by decide
  have w6 : restL (1, -1) (1, 1000) = [] := by decide
  simp only [w1, w2, w3, w4, w5, w6, List.map_cons, List.map_nil] at k1 k2 k3 k4 k5 k6
  have hsl : slcD (some 1) none (.lst [efD (1, 1000) 0, efD (1, 0) 0, efD (1, -1000) 0, efD (1, -1) 0]) = some (.lst [efD (1, 0) 0, efD (1, -1000) 0, efD (1, -1) 0]) := by rw [slc_from (by decide)]; rfl
  have q1 : cmpD .NotEq (.lst [.lst [.int (-1000)], .lst [], .lst []]) (.lst [.lst [.int (-1000)], .lst [], .lst []]) = some (.bl false) := by rfl
  have q2 : cmpD .NotEq (.lst [.lst [.int 1000], .lst [], .lst []]) (.lst [.lst [.int 1000], .lst [], .lst []]) = some (.bl false) := by rfl
  have r9 : ∀ S, ∃ S', evS (cx 6) b1_law_9 [x0, some (.d (.int k)), some (.d (.int cell)), some (.d (.lst (ds.map .int))), some (.d (.int b)), some (.d (efD z s)), some (.d (.int kn)), some (.d (.lst [efD (1, 1000) 0, efD (1, 0) 0, efD (1, -1000) 0, efD (1, -1) 0])), x8, x9, x10, some (.d (efD p s)), some (.d (efD y t)), x13, x14, x15] S = .nx [x0, some (.d (.int k)), some (.d (.int cell)), some (.d (.lst (ds.map .int))), some (.d (.int b)), some (.d (efD z s)), some (.d (.int kn)), some (.d (.lst [efD (1, 1000) 0, efD (1, 0) 0, efD (1, -1000) 0, efD (1, -1) 0])), x8, x9, x10, some (.d (efD p s)), some (.d (efD y t)), x13, x14, x15] S' := fun S => by
    refine ⟨S ++ [none] ++ [none] ++ [none], ?_⟩
    simp only [b1_law_9, bind_, pp_, mret_, run_e, run_e2, run_l, slot_, cstD, ops_, bins_, run_s, run_ss, into_, Tg.bind, asl_, mk_, hsl, iterD, compL, wipeR, ixl_, k1, k2, k3, frz_new, szl_, q1, List.getElem?_cons_zero, List.getElem?_cons_succ, Option.map_some, List.length_cons, List.length_nil, Nat.zero_add, Nat.reduceAdd, if_true, List.set_cons_succ, List.set_cons_zero, List.map_cons, List.map_nil, List.nil_append, List.cons_append, Bool.false_eq_true, if_false]
  have r10 : ∀ S, ∃ S', evS (cx 6) b1_law_10 [x0, some (.d (.int k)), some (.d (.int cell)), some (.d (.lst (ds.map .int))), some (.d (.int b)), some (.d (efD z s)), some (.d (.int kn)), some (.d (.lst [efD (1, 1000) 0, efD (1, 0) 0, efD (1, -1000) 0, efD (1, -1) 0])), x8, x9, x10, some (.d (efD p s)), some (.d (efD y t)), x13, x14, x15] S = .nx [x0, some (.d (.int k)), some (.d (.int cell)), some (.d (.lst (ds.map .int))), some (.d (.int b)), some (.d (efD z s)), some (.d (.int kn)), some (.d (.lst [efD (1, 1000) 0, efD (1, 0) 0, efD (1, -1000) 0, efD (1, -1) 0])), x8, x9, x10, some (.d (efD p s)), some (.d (efD y t)), x13, x14, x15] S' := fun S => by
    refine ⟨S ++ [none] ++ [none] ++ [none], ?_⟩
    simp only [b1_law_10, bind_, pp_, mret_, run_e, run_e2, run_l, slot_, cstD, ops_, bins_, run_s, run_ss, into_, Tg.bind, asl_, mk_, hsl, iterD, compL, wipeR, ixl_, k4, k5, k6, frz_new, szl_, q2, List.getElem?_cons_zero, List.getElem?_cons_succ, Option.map_some, List.length_cons, List.length_nil, Nat.zero_add, Nat.reduceAdd, if_true, List.set_cons_succ, List.set_cons_zero, List.map_cons, List.map_nil, List.nil_append, List.cons_append, Bool.false_eq_true, if_false]
  have f80 := fm ds[80] (m := 9) (by decide)
  obtain ⟨fa, hfa⟩ : ∃ fa, fa = red b y.1 (ds[80].fmod 9 - 4) := ⟨_, rfl⟩
  have bfa : Bd b 4 400 fa := by
    rw [hfa]
    exact red_bd hb hs (c := 8) (hy.num hb) (by decide) (by omega) (by omega) (by decide)
  have cfa := fun S => law_reduced_c 5 (n := y.1) (e := ds[80].fmod 9 - 4) S hb hs
  rw [← hfa] at cfa
  have r11 : ∀ S, evS (cx 6) b1_law_11 [x0, some (.d (.int k)), some (.d (.int cell)), some (.d (.lst (ds.map .int))), some (.d (.int b)), some (.d (efD z s)), some (.d (.int kn)), some (.d (.lst [efD (1, 1000) 0, efD (1, 0) 0, efD (1, -1000) 0, efD (1, -1) 0])), x8, x9, x10, some (.d (efD p s)), some (.d (efD y t)), x13, x14, x15] S = .nx [x0, some (.d (.int k)), some (.d (.int cell)), some (.d (.lst (ds.map .int))), some (.d (.int b)), some (.d (efD z s)), some (.d (.int kn)), some (.d (.lst [efD (1, 1000) 0, efD (1, 0) 0, efD (1, -1000) 0, efD (1, -1) 0])), some (.d (nmD fa)), x9, x10, some (.d (efD p s)), some (.d (efD y t)), x13, x14, x15] S := fun S => by
    simp [b1_law_11, bind_, pp_, mret_, run_e, run_e2, run_l, slot_, cstD, ops_, bins_, run_s, into_, Tg.bind, ef_, nm_, g80, cfa]
  have r12 : ∀ S, evS (cx 6) b1_law_12 [x0, some (.d (.int k)), some (.d (.int cell)), some (.d (.lst (ds.map .int))), some (.d (.int b)), some (.d (efD z s)), some (.d (.int kn)), some (.d (.lst [efD (1, 1000) 0, efD (1, 0) 0, efD (1, -1000) 0, efD (1, -1) 0])), some (.d (nmD fa)), x9, x10, some (.d (efD p s)), some (.d (efD y t)), x13, x14, x15] S = .nx [x0, some (.d (.int k)), some (.d (.int cell)), some (.d (.lst (ds.map .int))), some (.d (.int b)), some (.d (efD z s)), some (.d (.int kn)), some (.d (.lst [efD (1, 1000) 0, efD (1, 0) 0, efD (1, -1000) 0, efD (1, -1) 0])), some (.d (nmD fa)), some (.d (.lst ([(z, s), (p, s), (fa, s), (p, s + 1), ((0, 0), s), (p, -s)].map fun e : (Int × Int) × Int => efD e.1 e.2))), x10, some (.d (efD p s)), some (.d (efD y t)), x13, x14, x15] S := fun S => by
    simp [b1_law_12, bind_, pp_, mret_, run_e, run_e2, run_l, slot_, cstD, ops_, bins_, run_s, into_, Tg.bind, ef_, nm_, asl_, mk_]
    exact ⟨rfl, rfl, rfl, rfl⟩
  obtain ⟨S6, e6⟩ := r6 S
  obtain ⟨S7, e7⟩ := r7 S6
  obtain ⟨S9, e9⟩ := r9 S7
  obtain ⟨S10, e10⟩ := r10 S9
  have can0 : Can b (0, 0) := .inl ⟨rfl, rfl⟩
  have ok0 : EfOk b (0, 0) s := ⟨can0, by show (-8 : Int) ≤ 0; decide, by show (0 : Int) ≤ 492; decide, by show Sz 900 0; unfold Sz; exact Nat.pos_of_ne_zero (Nat.ne_of_gt (Nat.pow_pos (by decide))), by omega, by omega⟩
  have okfa : EfOk b fa s := .of hb bfa (by decide) (by decide) (by decide) (by decide) (by omega) (by omega)
  have okp1 : EfOk b p (s + 1) := .of hb hp (by decide) (by decide) (by decide) (by decide) (by omega) (by omega)
  have okp2 : EfOk b p (-s) := .of hb hp (by decide) (by decide) (by decide) (by decide) (by omega) (by omega)
  obtain ⟨w, u, v, S13, e13⟩ := others_loop 0 hb hs okp x0 (some (.d (.int k))) (some (.d (.int cell))) (some (.d (.lst (ds.map .int)))) (some (.d (efD z s))) (some (.d (.int kn))) (some (.d (.lst [efD (1, 1000) 0, efD (1, 0) 0, efD (1, -1000) 0, efD (1, -1) 0]))) (some (.d (nmD fa))) (some (.d (.lst ([(z, s), (p, s), (fa, s), (p, s + 1), ((0, 0), s), (p, -s)].map fun e : (Int × Int) × Int => efD e.1 e.2)))) (some (.d (efD y t))) x15 [(z, s), (p, s), (fa, s), (p, s + 1), ((0, 0), s), (p, -s)] (fun e he => by
    simp only [List.mem_cons, List.not_mem_nil, or_false] at he
    rcases he with rfl | rfl | rfl | rfl | rfl | rfl
    · exact okz
    · exact okp
    · exact okfa
    · exact okp1
    · exact ok0
    · exact okp2) x10 x13 x14 S10
  refine ⟨some (.d (.lst (ds.map .int))), some (.d (.int b)), some (.d (efD z s)), some (.d (.int kn)), some (.d (.lst [efD (1, 1000) 0, efD (1, 0) 0, efD (1, -1000) 0, efD (1, -1) 0])), some (.d (nmD fa)), some (.d (.lst ([(z, s), (p, s), (fa, s), (p, s + 1), ((0, 0), s), (p, -s)].map fun e : (Int × Int) × Int => efD e.1 e.2))), w, some (.d (efD p s)), some (.d (efD y t)), u, v, x15, S13, ?_⟩
  have r13 : evS (cx 6) b1_law_13 [x0, some (.d (.int k)), some (.d (.int cell)), some (.d (.lst (ds.map .int))), some (.d (.int b)), some (.d (efD z s)), some (.d (.int kn)), some (.d (.lst [efD (1, 1000) 0, efD (1, 0) 0, efD (1, -1000) 0, efD (1, -1) 0])), some (.d (nmD fa)), some (.d (.lst ([(z, s), (p, s), (fa, s), (p, s + 1), ((0, 0), s), (p, -s)].map fun e : (Int × Int) × Int => efD e.1 e.2))), x10, some (.d (efD p s)), some (.d (efD y t)), x13, x14, x15] S10 = .nx [x0, some (.d (.int k)), some (.d (.int cell)), some (.d (.lst (ds.map .int))), some (.d (.int b)), some (.d (efD z s)), some (.d (.int kn)), some (.d (.lst [efD (1, 1000) 0, efD (1, 0) 0, efD (1, -1000) 0, efD (1, -1) 0])), some (.d (nmD fa)), some (.d (.lst ([(z, s), (p, s), (fa, s), (p, s + 1), ((0, 0), s), (p, -s)].map fun e : (Int × Int) × Int => efD e.1 e.2))), w, some (.d (efD p s)), some (.d (efD y t)), u, v, x15] S13 := by
    rw [b1_law_13, (run_s _).2.2.2.2.2.2.2.1, (run_l _).2.2.2.2.2.2.1]
    exact e13
  rw [b1_law]
  simp only [run_ss, r1, r2, r3, r4, r5, e6, e7, r8, e9, e10, r11, r12, r13, nxt_]
theorem law_loop (x0 : Option Val) : ∀ (cells : List Int) (k : Nat) (x1 x2 x3 x4 x5 x6 x7 x8 x9 x10 x11 x12 x13 x14 x15 : Option Val) (S : Store), k + cells.length ≤ 1000 →
    ∃ ρ S', forL (.tp [.nm 1, .nm 2]) (evSs (cx 6) b1_law) (enumFrom k (cells.map .int)) [x0, x1, x2, x3, x4, x5, x6, x7, x8, x9, x10, x11, x12, x13, x14, x15] S = .nx ρ S'
  | [], k, x1, x2, x3, x4, x5, x6, x7, x8, x9, x10, x11, x12, x13, x14, x15, S, _ => ⟨_, _, rfl⟩
  | c :: cells, k, x1, x2, x3, x4, x5, x6, x7, x8, x9, x10, x11, x12, x13, x14, x15, S, h => by
    rw [List.length_cons] at h
    obtain ⟨y3, y4, y5, y6, y7, y8, y9, y10, y11, y12, y13, y14, y15, S1, r⟩ := b1_run (k : Int) c (by omega) x0 x3 x4 x5 x6 x7 x8 x9 x10 x11 x12 x13 x14 x15 S
    obtain ⟨ρ, S', r'⟩ := law_loop x0 cells (k + 1) (some (.d (.int k))) (some (.d (.int c))) y3 y4 y5 y6 y7 y8 y9 y10 y11 y12 y13 y14 y15 S1 (by omega)
    refine ⟨ρ, S', ?_⟩
    rw [List.map_cons, enumFrom, forL_go (ρ1 := [x0, some (.d (.int k)), some (.d (.int c)), x3, x4, x5, x6, x7, x8, x9, x10, x11, x12, x13, x14, x15]) rfl r]
    exact r'
/-- the cells that the law takes -/
theorem cells_run {ns : List Int} {m c : Int} (hm : 0 ≤ m) (hm2 : m ≤ 63) : ∃ cells : List Int, cells.length ≤ 64 ∧ ∃ e1 e2 e3, slcD none (some m) (.scr ns) = some e1 ∧ cmpD .Eq (.scr ns) (.lst []) = some (.bl e2) ∧ binD .Mult (.lst [.int c]) (.int (if e2 = true then 1 else 0)) = some e3 ∧ binD .Add e1 e3 = some (.lst (cells.map .int)) := by
  have h1 := slc_scr_to (ns := ns) hm
  obtain ⟨e2, h2⟩ : ∃ e2, cmpD .Eq (.scr ns) (.lst []) = some (.bl e2) := by
    refine ⟨decide (ns = []), ?_⟩
    have e : eqB (.scr ns) (.lst []) = eqB (.lst (ns.map .int)) (.lst (([] : List Int).map .int)) := by
      unfold eqB
      have e1 : toPy (.scr ns) = toPy (.lst (ns.map .int)) := by
        show some (PyData.list (ns.map .int)) = (toPys (ns.map .int)).map PyData.list
        rw [toPys_ints]; rfl
      rw [e1]; rfl
    show (eqB (.scr ns) (.lst [])).map D.bl = _
    rw [e, eqB_ints]; rfl
  have h3 := rep_mul (c := c) (k := if e2 = true then 1 else 0) (by split <;> decide) (by split <;> decide)
  refine ⟨ns.take m.toNat ++ List.replicate (if e2 = true then (1 : Int) else 0).toNat c, ?_, _, e2, _, h1, h2, h3, ?_⟩
  · rw [List.length_append, List.length_take, List.length_replicate]
    split <;> simp <;> omega
  · have e : binD .Add (.lst ((ns.take m.toNat).map .int)) (.lst ((List.replicate (if e2 = true then (1 : Int) else 0).toNat c).map .int)) = if ((ns.take m.toNat).map D.int).length + ((List.replicate (if e2 = true then (1 : Int) else 0).toNat c).map D.int).length ≤ sizeLine then some (.lst ((ns.take m.toNat).map .int ++ (List.replicate (if e2 = true then (1 : Int) else 0).toNat c).map .int)) else none := rfl
    rw [e, if_pos (small (by
      rw [List.length_map, List.length_map, List.length_take, List.length_replicate]
      split <;> simp <;> omega)), List.map_append]
theorem law_ok : LawOk gs TF 7 "law" 63 := by
  intro ns hns
  show (cx 7).cf "law" [.d (.scr ns)] [] = _
  rw [at_law]
  obtain ⟨cells, hl, e1, e2, e3, h1, h2, h3, h4⟩ := cells_run (ns := ns) (m := 6) (c := 7) (by decide) (by decide)
  obtain ⟨ρ, S', h⟩ := law_loop (some (.d (.scr ns))) cells 0 none none none none none none none none none none none none none none none [] (by omega)
  refine callP_ret (ds := [.scr ns]) (S' := S') ?_
  show evSs (cx 6) ir_law [some (.d (.scr ns)), none, none, none, none, none, none, none, none, none, none, none, none, none, none, none] [] = _
  have h5 : enumD [.d (.lst (cells.map .int))] [] = .ok (enumFrom 0 (cells.map .int)) [] := rfl
  simp [ir_law, bind_, pp_, mret_, run_e, run_e2, run_l, slot_, cstD, ops_, asl_, mk_, bi_, run_s, run_ss, into_, nxt_, h1, h2, h3, h4, h5, h]
end Q

namespace Q
open PySem L2 PD
def top (i : Nat) : Stmt := PySem.Challenge.pw_abacushead_k57_conjugators.main.body.getD i (.Pass ⟨0, 0, 0, 0⟩)
def T : List (FDef × Stmt) := [(d_is_integer, top 1), (d_is_between, top 2), (d_raised, top 3), (d_reduced, top 4), (d_at_place, top 5), (d_total, top 6), (d_negated, top 7), (d_moved, top 8), (d_is_pair, top 17), (d_is_number, top 18), (d_within_limits, top 19), (d_is_effect, top 21), (d_require_effect, top 22), (d_require_offset, top 23), (d_put_together, top 24), (d_turned_back, top 25), (d_checked, top 26), (d_conjugate, top 28), (d_residue, top 29), (d_conjugators, top 30), (d_resting, top 31), (d__law_numbers, top 33), (d__law_power, top 34), (d__law_reduced, top 35), (d__law_sum, top 36), (d__law_integer, top 37), (d__law_offset_effect, top 39), (d__law_want, top 40), (d_law, top 41)]
theorem bp_is_integer : BindP d_is_integer (top 1) := fun _ _ _ _ _ _ us hl => match us, hl with | [_], _ => rfl
theorem bp_is_between : BindP d_is_between (top 2) := fun _ _ _ _ _ _ us hl => match us, hl with | [_, _, _], _ => rfl
theorem bp_raised : BindP d_raised (top 3) := fun _ _ _ _ _ _ us hl => match us, hl with | [_, _], _ => rfl
theorem bp_reduced : BindP d_reduced (top 4) := fun _ _ _ _ _ _ us hl => match us, hl with | [_, _, _], _ => rfl
theorem bp_at_place : BindP d_at_place (top 5) := fun _ _ _ _ _ _ us hl => match us, hl with | [_, _, _], _ => rfl
theorem bp_total : BindP d_total (top 6) := fun _ _ _ _ _ _ us hl => match us, hl with | [_, _, _], _ => rfl
theorem bp_negated : BindP d_negated (top 7) := fun _ _ _ _ _ _ us hl => match us, hl with | [_], _ => rfl
theorem bp_moved : BindP d_moved (top 8) := fun _ _ _ _ _ _ us hl => match us, hl with | [_, _], _ => rfl
theorem bp_is_pair : BindP d_is_pair (top 17) := fun _ _ _ _ _ _ us hl => match us, hl with | [_], _ => rfl
theorem bp_is_number : BindP d_is_number (top 18) := fun _ _ _ _ _ _ us hl => match us, hl with | [_, _], _ => rfl
theorem bp_within_limits : BindP d_within_limits (top 19) := fun _ _ _ _ _ _ us hl => match us, hl with | [_], _ => rfl
theorem bp_is_effect : BindP d_is_effect (top 21) := fun _ _ _ _ _ _ us hl => match us, hl with | [_, _], _ => rfl
theorem bp_require_effect : BindP d_require_effect (top 22) := fun _ _ _ _ _ _ us hl => match us, hl with | [_, _], _ => rfl
theorem bp_require_offset : BindP d_require_offset (top 23) := fun _ _ _ _ _ _ us hl => match us, hl with | [_], _ => rfl
theorem bp_put_together : BindP d_put_together (top 24) := fun _ _ _ _ _ _ us hl => match us, hl with | [_, _, _], _ => rfl
theorem bp_turned_back : BindP d_turned_back (top 25) := fun _ _ _ _ _ _ us hl => match us, hl with | [_], _ => rfl
theorem bp_checked : BindP d_checked (top 26) := fun _ _ _ _ _ _ us hl => match us, hl with | [_], _ => rfl
theorem bp_conjugate : BindP d_conjugate (top 28) := fun _ _ _ _ _ _ us hl => match us, hl with | [_, _, _], _ => rfl
theorem bp_residue : BindP d_residue (top 29) := fun _ _ _ _ _ _ us hl => match us, hl with | [_, _, _, _], _ => rfl
theorem bp_conjugators : BindP d_conjugators (top 30) := fun _ _ _ _ _ _ us hl => match us, hl with | [_, _, _], _ => rfl
theorem bp_resting : BindP d_resting (top 31) := fun _ _ _ _ _ _ us hl => match us, hl with | [_, _], _ => rfl
theorem bp__law_numbers : BindP d__law_numbers (top 33) := fun _ _ _ _ _ _ us hl => match us, hl with | [_, _, _], _ => rfl
theorem bp__law_power : BindP d__law_power (top 34) := fun _ _ _ _ _ _ us hl => match us, hl with | [_, _], _ => rfl
theorem bp__law_reduced : BindP d__law_reduced (top 35) := fun _ _ _ _ _ _ us hl => match us, hl with | [_, _, _], _ => rfl
theorem bp__law_sum : BindP d__law_sum (top 36) := fun _ _ _ _ _ _ us hl => match us, hl with | [_, _, _], _ => rfl
theorem bp__law_integer : BindP d__law_integer (top 37) := fun _ _ _ _ _ _ us hl => match us, hl with | [_], _ => rfl
theorem bp__law_offset_effect : BindP d__law_offset_effect (top 39) := fun _ _ _ _ _ _ us hl => match us, hl with | [_, _], _ => rfl
theorem bp__law_want : BindP d__law_want (top 40) := fun _ _ _ _ _ _ us hl => match us, hl with | [_, _, _], _ => rfl
theorem bp_law : BindP d_law (top 41) := fun _ _ _ _ _ _ us hl => match us, hl with | [_], _ => rfl
theorem allB : AllB T := ⟨bp_is_integer, bp_is_between, bp_raised, bp_reduced, bp_at_place, bp_total, bp_negated, bp_moved, bp_is_pair, bp_is_number, bp_within_limits, bp_is_effect, bp_require_effect, bp_require_offset, bp_put_together, bp_turned_back, bp_checked, bp_conjugate, bp_residue, bp_conjugators, bp_resting, bp__law_numbers, bp__law_power, bp__law_reduced, bp__law_sum, bp__law_integer, bp__law_offset_effect, bp__law_want, bp_law, trivial⟩
theorem tabT : tabB fr gs T = true := by decide +kernel
theorem tabU : unB (T.map (·.1)) = true := by decide +kernel
def loose : List PySem.Str := (["is_integer", "is_between", "raised", "reduced", "at_place", "total", "negated", "moved", "HeadError", "InvalidEffect", "LimitExceeded", "MAX_DIGITS", "MAX_PLACE", "TOO_LONG", "is_pair", "is_number", "within_limits", "is_effect", "require_effect", "require_offset"] : List PySem.Str) ++ (["put_together", "turned_back", "checked", "conjugate", "residue", "conjugators", "resting", "_law_numbers", "_law_power", "_law_reduced", "_law_sum", "_law_integer", "_law_number", "_law_offset_effect", "_law_want"] : List PySem.Str)
abbrev R : PySem.W.OpenRow := PySem.W.OpenLaw.row PySem.Challenge.rw_abacushead_k57_conjugators
abbrev hk : PySem.W.Hook := hookP 5 (faOf fr T) (fnOfT T) (exOf gs)
def ob (s : PySem.W.SharedT) : He.AlD := obsPG 5 (faOf fr T) (fnOfT T) (exOf gs) (HandSHeadRun.getT s)
theorem ob_eq (s : PySem.W.SharedT) : ob s = hk.obs s.abs := obsPG_eq (HandSHeadRun.getT_eq s)
theorem run (w : World) : HandSHeadRun.RunEq R (PySem.W.view R.prog [41]) hk ob 8000 loose w := by
  intro os
  kernel_rfl
end Q
open PySem PySem.W PySem.Calls PyProof.Rows
theorem PySem.Challenge.cw_abacushead_k57_conjugators_holds : PySem.Challenge.rw_abacushead_k57_conjugators.Holds := by
  w_on; o_law
  refine HandSHeadRun.head_any (r := OpenLaw.row PySem.Challenge.rw_abacushead_k57_conjugators) (q := view (OpenLaw.row PySem.Challenge.rw_abacushead_k57_conjugators).prog [41]) (H := Q.hk) (ob := Q.ob) (M := 8000) (loose := Q.loose) (d := HandSHeadRun.topDef (OpenLaw.row PySem.Challenge.rw_abacushead_k57_conjugators).prog 41) (kwd := []) Q.ob_eq
    (by kernel_rfl) (fun s => by kernel_rfl) Q.run (by kernel_rfl) (by kernel_rfl) (by kernel_rfl) (by rfl) (by first | assumption | decide +kernel) (by decide +kernel) ⟨rfl, rfl, rfl, rfl, rfl, by decide +kernel⟩ ?hw ?hc
  case hw => w_witness2
  case hc =>
    refine PD.walk_ofP (l := PySem.Challenge.rw_abacushead_k57_conjugators) (n := 63) (k := 7) (x := "_law_script") rfl (by decide) (by kernel_rfl) ⟨rfl, by decide, by decide⟩ ?F
    intro w mg fa h Y G hmg0
    have hmg : mg ("law" : PySem.Str) = some (.ref fa) := by
      have e : (HandSHeadRun.topDef (OpenLaw.row PySem.Challenge.rw_abacushead_k57_conjugators).prog 41).name = ("law" : PySem.Str) := by kernel_rfl
      rw [← e]
      exact hmg0
    exact PD.law_end (P := (PySem.Challenge.rw_abacushead_k57_conjugators).prog) (p := (Q.d_law, Q.top 41)) Q.tabT Q.tabU Q.allB (by simp [Q.T]) rfl rfl rfl Q.law_ok (fun s => s) w mg fa h Y G hmg
