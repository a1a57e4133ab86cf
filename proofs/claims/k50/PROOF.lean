import PyProof.Rows.All
import Wide.All
import OpenK.AllK
import Wide.FinOn
import HandS.ForMost
import HandS.ForExc
import HandS.Walk
import HandS.IsInst
import HandS.TupAny
import HandS.TupMul
import HandS.Flow
import HandS.Zip
import HandS.Rev
import HandS.Wide
import KE.DataEq
import HandS.More
import HandS.Style
import HandS.Defaults
import HandS.Head0
import HandS.Head1
import HandS.Head2
import HandS.HeadEnd
import HandS.HeadHook1
import HandS.HeadHook2
import HandS.Conv
import KE.KDictList
import PySem.Challenge.RW_termwarrant_k50_mentions
set_option Elab.async false
set_option linter.all false
set_option maxRecDepth 100000
set_option maxHeartbeats 4000000
/-! DL1: data over the hand layer: values that are plain data (Da), slots (Sl), the invariant of a frame (EnvOk), steps of the heap (Stp), what is wanted behind an expression (RP). -/
namespace DL
open PySem PySem.Spec PyProof.Rows L2

abbrev D := PyData
/-- why a mirror ends without a value: nothing is said, or an exception of the class called c with these fields -/
inductive Er where
  | stuck
  | exc (c : Str) (fs : List (Str × D))
abbrev M := Except Er
/-- a slot of a frame: nothing known, a datum, an own list, an own dict -/
inductive Sl where
  | un
  | d (x : D)
  | l (ds : List D)
  | k (kvs : List (Key × D))
  | s (ns : List Int)
abbrev R := List Sl

def keyD : Key → D
  | .inl i => .int i
  | .inr x => .str x

mutual
/-- the value v is the datum; lists and dicts within stand frozen (F) -/
inductive Da (K : PySem.W.Frag) (F : Addr → Prop) (H : Hp) : V → D → Prop
  | non : Da K F H .non .none
  | bl (b : Bool) : Da K F H (.bl b) (.bool b)
  | int (i : Int) : Da K F H (.int i) (.int i)
  | str (x : Str) : Da K F H (.str x) (.str x)
  | lst {a : Addr} {xs : List V} {ds : List D} : F a → H a = some (.lst xs) → Das K F H xs ds → Da K F H (.ref a) (.list ds)
  | tup {a : Addr} {xs : List V} {ds : List D} : SqT K H a xs → Das K F H xs ds → Da K F H (.ref a) (.tuple ds)
  | dct {a : Addr} {xs : List (Key × V)} {ds : List (D × D)} : F a → H a = some (.dK xs) → Dak K F H xs ds → Da K F H (.ref a) (.dict ds)
inductive Das (K : PySem.W.Frag) (F : Addr → Prop) (H : Hp) : List V → List D → Prop
  | nil : Das K F H [] []
  | cons {v : V} {vs : List V} {d : D} {ds : List D} : Da K F H v d → Das K F H vs ds → Das K F H (v :: vs) (d :: ds)
inductive Dak (K : PySem.W.Frag) (F : Addr → Prop) (H : Hp) : List (Key × V) → List (D × D) → Prop
  | nil : Dak K F H [] []
  | cons {k : Key} {v : V} {vs : List (Key × V)} {d : D} {ds : List (D × D)} : Da K F H v d → Dak K F H vs ds → Dak K F H ((k, v) :: vs) ((keyD k, d) :: ds)
end
/-- an own dict's pairs -/
inductive Dks (K : PySem.W.Frag) (F : Addr → Prop) (H : Hp) : List (Key × V) → List (Key × D) → Prop
  | nil : Dks K F H [] []
  | cons {k : Key} {v : V} {vs : List (Key × V)} {d : D} {ds : List (Key × D)} : Da K F H v d → Dks K F H vs ds → Dks K F H ((k, v) :: vs) ((k, d) :: ds)

/-- what a datum leans on is kept -/
structure Kp (F : Addr → Prop) (H : Hp) (F' : Addr → Prop) (H' : Hp) : Prop where
  tup : ∀ a xs, H a = some (.tup xs) → H' a = some (.tup xs)
  frz : ∀ a o u, H a = some (.frz o u) → H' a = some (.frz o u)
  fro : ∀ a, F a → F' a ∧ ∀ o, H a = some o → H' a = some o
theorem Kp.refl {F : Addr → Prop} {H : Hp} : Kp F H F H := ⟨fun _ _ h => h, fun _ _ _ h => h, fun _ h => ⟨h, fun _ q => q⟩⟩
section
variable {K : PySem.W.Frag} {F F' : Addr → Prop} {H H' : Hp}
theorem Kp.sqT (k : Kp F H F' H') {a : Addr} {xs : List V} (r : SqT K H a xs) : SqT K H' a xs := by
  rcases r with (r | ⟨o, r⟩) | r
  · exact .inl (.inl (k.tup _ _ r))
  · exact .inl (.inr ⟨o, k.frz _ _ _ r⟩)
  · exact .inr r
mutual
theorem Da.kp (k : Kp F H F' H') : ∀ {v : V} {d : D}, Da K F H v d → Da K F' H' v d
  | _, _, .non => .non
  | _, _, .bl b => .bl b
  | _, _, .int i => .int i
  | _, _, .str x => .str x
  | _, _, .lst hF r q => .lst (k.fro _ hF).1 ((k.fro _ hF).2 _ r) (Das.kp k q)
  | _, _, .tup r q => .tup (k.sqT r) (Das.kp k q)
  | _, _, .dct hF r q => .dct (k.fro _ hF).1 ((k.fro _ hF).2 _ r) (Dak.kp k q)
theorem Das.kp (k : Kp F H F' H') : ∀ {vs : List V} {ds : List D}, Das K F H vs ds → Das K F' H' vs ds
  | _, _, .nil => .nil
  | _, _, .cons a b => .cons (Da.kp k a) (Das.kp k b)
theorem Dak.kp (k : Kp F H F' H') : ∀ {vs : List (Key × V)} {ds : List (D × D)}, Dak K F H vs ds → Dak K F' H' vs ds
  | _, _, .nil => .nil
  | _, _, .cons a b => .cons (Da.kp k a) (Dak.kp k b)
end
theorem Dks.kp (k : Kp F H F' H') : ∀ {vs : List (Key × V)} {ds : List (Key × D)}, Dks K F H vs ds → Dks K F' H' vs ds
  | _, _, .nil => .nil
  | _, _, .cons a b => .cons (a.kp k) (Dks.kp k b)
theorem Das.length : ∀ {vs : List V} {ds : List D}, Das K F H vs ds → vs.length = ds.length
  | _, _, .nil => rfl
  | _, _, .cons _ b => by simp [Das.length b]
theorem Das.append : ∀ {vs ws : List V} {ds es : List D}, Das K F H vs ds → Das K F H ws es → Das K F H (vs ++ ws) (ds ++ es)
  | _, _, _, _, .nil, q => q
  | _, _, _, _, .cons a b, q => .cons a (Das.append b q)
theorem Das.get : ∀ {vs : List V} {ds : List D} {i : Nat} {d : D}, Das K F H vs ds → ds[i]? = some d → ∃ v, vs[i]? = some v ∧ Da K F H v d
  | _, _, _, _, .nil, e => by simp at e
  | _, _, 0, _, .cons a _, e => by
    obtain rfl := Option.some.inj e
    exact ⟨_, rfl, a⟩
  | _, _, i + 1, d, .cons _ b, e => by
    obtain ⟨v, h1, h2⟩ := Das.get (i := i) (d := d) b (by simpa using e)
    exact ⟨v, by simpa using h1, h2⟩
theorem Das.getV : ∀ {vs : List V} {ds : List D} {i : Nat} {v : V}, Das K F H vs ds → vs[i]? = some v → ∃ d, ds[i]? = some d ∧ Da K F H v d
  | _, _, _, _, .nil, e => by simp at e
  | _, _, 0, _, .cons a _, e => by
    obtain rfl := Option.some.inj e
    exact ⟨_, rfl, a⟩
  | _, _, i + 1, v, .cons _ b, e => by
    obtain ⟨d, h1, h2⟩ := Das.getV (i := i) (v := v) b (by simpa using e)
    exact ⟨d, by simpa using h1, h2⟩
theorem Das.take : ∀ {vs : List V} {ds : List D} (n : Nat), Das K F H vs ds → Das K F H (vs.take n) (ds.take n)
  | _, _, 0, _ => .nil
  | _, _, _ + 1, .nil => .nil
  | _, _, n + 1, .cons a b => .cons a (Das.take n b)
theorem Das.drop : ∀ {vs : List V} {ds : List D} (n : Nat), Das K F H vs ds → Das K F H (vs.drop n) (ds.drop n)
  | _, _, 0, q => q
  | _, _, _ + 1, .nil => .nil
  | _, _, n + 1, .cons _ b => Das.drop n b
theorem Das.reverse : ∀ {vs : List V} {ds : List D}, Das K F H vs ds → Das K F H vs.reverse ds.reverse
  | _, _, .nil => .nil
  | _, _, .cons a b => by
    rw [List.reverse_cons, List.reverse_cons]
    exact Das.append (Das.reverse b) (.cons a .nil)
theorem Das.set : ∀ {vs : List V} {ds : List D} (i : Nat) {v : V} {d : D}, Da K F H v d → Das K F H vs ds → Das K F H (vs.set i v) (ds.set i d)
  | _, _, _, _, _, _, .nil => .nil
  | _, _, 0, _, _, q, .cons _ b => .cons q b
  | _, _, i + 1, _, _, q, .cons a b => .cons a (Das.set i q b)
theorem Das.of_get : ∀ {vs : List V} {ds : List D}, vs.length = ds.length → (∀ (i : Nat) (v : V) (d : D), vs[i]? = some v → ds[i]? = some d → Da K F H v d) → Das K F H vs ds
  | [], [], _, _ => .nil
  | [], _ :: _, e, _ => by simp at e
  | _ :: _, [], e, _ => by simp at e
  | v :: vs, d :: ds, e, h => .cons (h 0 v d rfl rfl) (Das.of_get (by simpa using e) fun i w x a b => h (i + 1) w x (by simpa using a) (by simpa using b))
theorem Das.int_inv : ∀ {vs : List V} {ns : List Int}, Das K F H vs (ns.map PyData.int) → vs = ns.map V.int
  | _, [], h => by cases h; rfl
  | _, n :: ns, h => by
    cases h with
    | cons a b =>
      cases a
      rw [Das.int_inv b]; rfl
theorem Das.ints : ∀ (ns : List Int), Das K F H (ns.map V.int) (ns.map PyData.int)
  | [] => .nil
  | n :: ns => .cons (.int n) (Das.ints ns)
theorem Das.str_inv : ∀ {vs : List V} {ns : List Str}, Das K F H vs (ns.map PyData.str) → vs = ns.map V.str
  | _, [], h => by cases h; rfl
  | _, n :: ns, h => by
    cases h with
    | cons a b =>
      cases a
      rw [Das.str_inv b]; rfl
theorem Das.strs : ∀ (ns : List Str), Das K F H (ns.map V.str) (ns.map PyData.str)
  | [] => .nil
  | n :: ns => .cons (.str n) (Das.strs ns)
end

/-! ### to the layer's own data (no dict) -/
section
variable {K : PySem.W.Frag} {F : Addr → Prop} {H : Hp}
mutual
theorem Da.dp : ∀ {v : V} {d : D}, Da K F H v d → d.plain = true → Dp K H v d
  | _, _, .non, _ => .non
  | _, _, .bl b, _ => .bl b
  | _, _, .int i, _ => .int i
  | _, _, .str x, _ => .str x
  | _, _, .lst _ r q, h => .lst (.inl (.inl r)) (Das.dp q (by simpa [PyData.plain] using h))
  | _, _, .tup r q, h => .tup r (Das.dp q (by simpa [PyData.plain] using h))
  | _, _, .dct _ _ _, h => by simp [PyData.plain] at h
theorem Das.dp : ∀ {vs : List V} {ds : List D}, Das K F H vs ds → PyData.plainAll ds = true → DpAll K H vs ds
  | _, _, .nil, _ => .nil
  | _, _, .cons a b, h => by
    simp only [PyData.plainAll, Bool.and_eq_true] at h
    exact .cons (Da.dp a h.1) (Das.dp b h.2)
end
end

/-! ### a frame -/
def Sl.own : Sl → Bool
  | .l _ => true
  | .k _ => true
  | _ => false
/-- slot i bears an own object at p -/
def OwnAt (σ : L2.St) (ρ : R) (i : Nat) (p : Addr) : Prop := σ[i]? = some (some (.ref p)) ∧ ∃ s, ρ[i]? = some s ∧ s.own = true
def Ow (σ : L2.St) (ρ : R) (p : Addr) : Prop := ∃ i, OwnAt σ ρ i p
/-- the script at a: known to the object, or of the module -/
def ScrOk (K : PySem.W.Frag) (H : Hp) (a : Addr) (xs : List V) : Prop := (∃ o, H a = some (.frz o (.lst xs))) ∨
  ∃ (o : Obj) (its : Array Value) (n : Nat), K.lookup a = some o ∧ o.cls = .type "list" ∧ o.dict = none ∧ o.data = .seq its n ∧ its.size ≤ sizeLine ∧ Vals xs its.toList
theorem ScrOk.sq {K : PySem.W.Frag} {H : Hp} {a : Addr} {xs : List V} (h : ScrOk K H a xs) : SqL K H a xs := by
  rcases h with h | h
  · exact .inl (.inr h)
  · exact .inr h
def SlOk (K : PySem.W.Frag) (F : Addr → Prop) (H : Hp) (v : Option (Option V)) : Sl → Prop
  | .un => True
  | .d x => ∃ w, v = some (some w) ∧ Da K F H w x
  | .l ds => ∃ p xs, v = some (some (.ref p)) ∧ H p = some (.lst xs) ∧ Das K F H xs ds ∧ ¬ F p
  | .k kvs => ∃ p xs, v = some (some (.ref p)) ∧ H p = some (.dK xs) ∧ Dks K F H xs kvs ∧ ¬ F p
  | .s ns => ∃ p, v = some (some (.ref p)) ∧ ScrOk K H p (ns.map V.int)
/-- what is tracked is not too long -/
def HL (H : Hp) : Prop := ∀ a xs, (H a = some (.lst xs) ∨ Rd H a (.tup xs)) → xs.length ≤ sizeLine
theorem HL.new {H : Hp} {p : Addr} {o : HO} (h : HL H) (hl : ∀ xs, o = .lst xs ∨ (o = .tup xs ∨ ∃ u, o = .frz u (.tup xs)) → xs.length ≤ sizeLine) : HL (upd H p o) := fun a xs q => by
  by_cases e : a = p
  · subst e
    refine hl xs ?_
    rcases q with q | q | ⟨u, q⟩
    · rw [upd_same] at q; exact .inl (Option.some.inj q)
    · rw [upd_same] at q; exact .inr (.inl (Option.some.inj q))
    · rw [upd_same] at q; exact .inr (.inr ⟨u, Option.some.inj q⟩)
  · refine h a xs ?_
    rcases q with q | q | ⟨u, q⟩
    · rw [upd_ne e] at q; exact .inl q
    · rw [upd_ne e] at q; exact .inr (.inl q)
    · rw [upd_ne e] at q; exact .inr (.inr ⟨u, q⟩)
theorem HL.lst {H : Hp} {p : Addr} {ys : List V} (h : HL H) (hl : ys.length ≤ sizeLine) : HL (upd H p (.lst ys)) := h.new fun xs q => by
  rcases q with q | q | ⟨u, q⟩
  · cases q; exact hl
  · cases q
  · cases q
theorem HL.tup {H : Hp} {p : Addr} {ys : List V} (h : HL H) (hl : ys.length ≤ sizeLine) : HL (upd H p (.tup ys)) := h.new fun xs q => by
  rcases q with q | q | ⟨u, q⟩
  · cases q
  · cases q; exact hl
  · cases q
theorem HL.dK {H : Hp} {p : Addr} {ys : List (Key × V)} (h : HL H) : HL (upd H p (.dK ys)) := h.new fun xs q => by
  rcases q with q | q | ⟨u, q⟩ <;> cases q
theorem HL.t {H : Hp} {K : PySem.W.Frag} {a : Addr} {xs : List V} (h : HL H) (q : SqT K H a xs) : xs.length ≤ sizeLine := by
  rcases q with q | ⟨o, its, n, _, _, _, hz, r⟩
  · exact h a xs (.inr q)
  · have e := r.length
    simp only [Array.length_toList] at e
    omega
structure EnvOk (K : PySem.W.Frag) (F : Addr → Prop) (σ : L2.St) (H : Hp) (ρ : R) : Prop where
  len : ρ.length = σ.length
  at_ : ∀ (i : Nat) (s : Sl), ρ[i]? = some s → SlOk K F H (σ[i]?) s
  sep : ∀ i j p, OwnAt σ ρ i p → OwnAt σ ρ j p → i = j
  fl : ∀ a, F a → H a ≠ none
  hl : HL H
/-- from one state of the frame to a later one: what is not own stands, what is frozen stays frozen -/
structure Stp (σ : L2.St) (ρ : R) (F : Addr → Prop) (H : Hp) (σ' : L2.St) (ρ' : R) (F' : Addr → Prop) (H' : Hp) : Prop where
  keep : ∀ a o, H a = some o → ¬ Ow σ ρ a → H' a = some o
  own : ∀ a, Ow σ' ρ' a → Ow σ ρ a ∨ H a = none
  f0 : ∀ a, F a → F' a
  f1 : ∀ a, F' a → F a ∨ H a = none ∨ Ow σ ρ a
  live : ∀ a, H a ≠ none → H' a ≠ none
theorem live_free {H H' : Hp} (l : ∀ a, H a ≠ none → H' a ≠ none) {a : Addr} (h : H' a = none) : H a = none := by
  cases q : H a with
  | none => rfl
  | some o => exact absurd h (l a (by rw [q]; simp))
section
variable {K : PySem.W.Frag} {F F1 F2 : Addr → Prop} {H H1 H2 : Hp} {σ σ1 σ2 : L2.St} {ρ ρ1 ρ2 : R}
theorem EnvOk.ownObj (e : EnvOk K F σ H ρ) {p : Addr} (h : Ow σ ρ p) : ¬ F p ∧ ((∃ xs, H p = some (.lst xs)) ∨ ∃ xs, H p = some (.dK xs)) := by
  obtain ⟨i, h1, s, h2, h3⟩ := h
  have q := e.at_ i s h2
  cases s with
  | un => cases h3
  | d x => cases h3
  | s ns => cases h3
  | l ds =>
    obtain ⟨p', xs, e1, e2, _, e3⟩ := q
    rw [h1] at e1; cases e1
    exact ⟨e3, .inl ⟨xs, e2⟩⟩
  | k kvs =>
    obtain ⟨p', xs, e1, e2, _, e3⟩ := q
    rw [h1] at e1; cases e1
    exact ⟨e3, .inr ⟨xs, e2⟩⟩
theorem Stp.refl : Stp σ ρ F H σ ρ F H := ⟨fun _ _ h _ => h, fun _ h => .inl h, fun _ h => h, fun _ h => .inl h, fun _ h => h⟩
theorem Stp.trans (a : Stp σ ρ F H σ1 ρ1 F1 H1) (b : Stp σ1 ρ1 F1 H1 σ2 ρ2 F2 H2) : Stp σ ρ F H σ2 ρ2 F2 H2 where
  keep := fun x o h n => b.keep x o (a.keep x o h n) fun z => by
    rcases a.own x z with z | z
    · exact n z
    · rw [z] at h; cases h
  own := fun x h => by
    rcases b.own x h with z | z
    · exact a.own x z
    · exact .inr (live_free a.live z)
  f0 := fun x h => b.f0 x (a.f0 x h)
  f1 := fun x h => by
    rcases b.f1 x h with z | z | z
    · exact a.f1 x z
    · exact .inr (.inl (live_free a.live z))
    · rcases a.own x z with z | z
      · exact .inr (.inr z)
      · exact .inr (.inl z)
  live := fun x h => b.live x (a.live x h)
theorem Stp.kp (e : EnvOk K F σ H ρ) (a : Stp σ ρ F H σ1 ρ1 F1 H1) : Kp F H F1 H1 where
  tup := fun x xs h => a.keep x _ h fun z => by
    rcases (e.ownObj z).2 with ⟨_, q⟩ | ⟨_, q⟩ <;> (rw [h] at q; cases q)
  frz := fun x o u h => a.keep x _ h fun z => by
    rcases (e.ownObj z).2 with ⟨_, q⟩ | ⟨_, q⟩ <;> (rw [h] at q; cases q)
  fro := fun x h => ⟨a.f0 x h, fun o q => a.keep x o q fun z => (e.ownObj z).1 h⟩
/-- all that is tracked is kept, new things may stand, more may be frozen -/
structure Gr (F : Addr → Prop) (H : Hp) (F' : Addr → Prop) (H' : Hp) : Prop where
  keep : ∀ a o, H a = some o → H' a = some o
  f0 : ∀ a, F a → F' a
  f1 : ∀ a, F' a → F a ∨ H a = none
  fl : ∀ a, F' a → H' a ≠ none
  hl : HL H'
theorem Gr.kp (g : Gr F H F1 H1) : Kp F H F1 H1 := ⟨fun _ _ h => g.keep _ _ h, fun _ _ _ h => g.keep _ _ h, fun a h => ⟨g.f0 a h, fun o q => g.keep a o q⟩⟩
theorem Gr.stp (g : Gr F H F1 H1) : Stp σ ρ F H σ ρ F1 H1 := ⟨fun _ _ h _ => g.keep _ _ h, fun _ h => .inl h, g.f0, fun a h => (g.f1 a h).elim .inl fun z => .inr (.inl z), fun a h => by
  cases q : H a with
  | none => exact absurd q h
  | some o => rw [g.keep a o q]; simp⟩
theorem SlOk.kp {v : Option (Option V)} {s : Sl} (k : Kp F H F1 H1) (hl : ∀ p xs, v = some (some (.ref p)) → s.own = true → H p = some xs → H1 p = some xs) (hf : ∀ p, v = some (some (.ref p)) → s.own = true → ¬ F p → ¬ F1 p) (q : SlOk K F H v s) : SlOk K F1 H1 v s := by
  cases s with
  | un => trivial
  | d x =>
    obtain ⟨w, e, q⟩ := q
    exact ⟨w, e, q.kp k⟩
  | l ds =>
    obtain ⟨p, xs, e, h, q, n⟩ := q
    exact ⟨p, xs, e, hl p _ e rfl h, q.kp k, hf p e rfl n⟩
  | k kvs =>
    obtain ⟨p, xs, e, h, q, n⟩ := q
    exact ⟨p, xs, e, hl p _ e rfl h, q.kp k, hf p e rfl n⟩
  | s ns =>
    obtain ⟨p, e, q⟩ := q
    refine ⟨p, e, ?_⟩
    rcases q with ⟨o, q⟩ | q
    · exact .inl ⟨o, k.frz _ _ _ q⟩
    · exact .inr q
theorem EnvOk.grow (e : EnvOk K F σ H ρ) (g : Gr F H F1 H1) : EnvOk K F1 σ H1 ρ where
  len := e.len
  at_ := fun i s h => (e.at_ i s h).kp g.kp (fun p xs _ _ q => g.keep p xs q) fun p hv ho n z => by
    rcases g.f1 p z with z | z
    · exact n z
    · rcases (e.ownObj ⟨i, hv, s, h, ho⟩).2 with ⟨_, q⟩ | ⟨_, q⟩ <;> (rw [z] at q; cases q)
  sep := e.sep
  fl := g.fl
  hl := g.hl
theorem Gr.refl (h : ∀ a, F a → H a ≠ none) (hl : HL H) : Gr F H F H := ⟨fun _ _ h => h, fun _ h => h, fun _ h => .inl h, h, hl⟩
/-- a new object -/
theorem Gr.new {p : Addr} {o : HO} (h : ∀ a, F a → H a ≠ none) (hp : H p = none) (hl : HL (upd H p o)) : Gr F H F (upd H p o) where
  keep := fun a u q => by rw [upd_ne (ne_of_none q hp)]; exact q
  f0 := fun _ h => h
  f1 := fun _ h => .inl h
  fl := fun a q => by
    by_cases e : a = p
    · rw [e, upd_same]; simp
    · rw [upd_ne e]; exact h a q
  hl := hl
/-- a new object, frozen -/
def Fz (F : Addr → Prop) (p : Addr) : Addr → Prop := fun a => F a ∨ a = p
theorem Gr.newF {p : Addr} {o : HO} (h : ∀ a, F a → H a ≠ none) (hp : H p = none) (hl : HL (upd H p o)) : Gr F H (Fz F p) (upd H p o) where
  keep := fun a u q => by rw [upd_ne (ne_of_none q hp)]; exact q
  f0 := fun _ h => .inl h
  f1 := fun a q => by
    rcases q with q | q
    · exact .inl q
    · exact .inr (by rw [q]; exact hp)
  fl := fun a q => by
    by_cases e : a = p
    · rw [e, upd_same]; simp
    · rw [upd_ne e]
      rcases q with q | q
      · exact h a q
      · exact absurd q e
  hl := hl
theorem Gr.trans {F' : Addr → Prop} {H' : Hp} (a : Gr F H F1 H1) (b : Gr F1 H1 F' H') : Gr F H F' H' where
  keep := fun x o h => b.keep x o (a.keep x o h)
  f0 := fun x h => b.f0 x (a.f0 x h)
  f1 := fun x h => by
    rcases b.f1 x h with z | z
    · exact a.f1 x z
    · refine .inr ?_
      cases q : H x with
      | none => rfl
      | some o =>
        rw [a.keep x o q] at z
        cases z
  fl := b.fl
  hl := b.hl
end

/-! ### what is wanted behind an expression -/
/-- how an exception lies: its dict and fields (none: no dict) -/
def XdOk (K : PySem.W.Frag) (F : Addr → Prop) (H : Hp) (dx : Option Addr) (fs : List (Str × D)) : Prop := match fs with
  | [] => dx = none
  | fs => ∃ a gs, dx = some a ∧ H a = some (.xd gs) ∧ Paired (fun (p : Str × V) (q : Str × D) => p.1 = q.1 ∧ Da K F H p.2 q.2) gs fs
/-- what the mirror says of an exception reaches the wish E -/
def XP (K : PySem.W.Frag) (mg : Str → Option Value) (E : XK) (σ : L2.St) (ρ : R) (F : Addr → Prop) (H : Hp) (c : Str) (fs : List (Str × D)) : Prop :=
  ∀ C dx F' H', mg c = some (.ref C) → (∀ a o, H a = some o → ¬ Ow σ ρ a → H' a = some o) → (∀ a, F a → F' a) → (∀ a, F' a → F a ∨ H a = none ∨ Ow σ ρ a) → (∀ a, H a ≠ none → H' a ≠ none) → (∀ a, F' a → H' a ≠ none) → HL H' → XdOk K F' H' dx fs → E (.ref C) dx H'
def RP {α : Type} (K : PySem.W.Frag) (mg : Str → Option Value) (E : XK) (σ : L2.St) (ρ : R) (F : Addr → Prop) (H : Hp) (r : M (α × R)) (k : α → R → Prop) : Prop := match r with
  | .ok (a, ρ') => k a ρ'
  | .error (.exc c fs) => XP K mg E σ ρ F H c fs
  | .error .stuck => False
section
variable {K : PySem.W.Frag} {mg : Str → Option Value} {E : XK} {F F1 F2 : Addr → Prop} {H H1 H2 : Hp} {σ σ1 σ2 : L2.St} {ρ ρ1 ρ2 : R} {α β : Type}
theorem XP.later {c : Str} {fs : List (Str × D)} (s : Stp σ ρ F H σ1 ρ1 F1 H1) (x : XP K mg E σ ρ F H c fs) : XP K mg E σ1 ρ1 F1 H1 c fs := fun C dx F' H' hc k0 f0 f1 l fl hl xo =>
  x C dx F' H' hc (fun a o h n => k0 a o (s.keep a o h n) fun z => by
    rcases s.own a z with z | z
    · exact n z
    · rw [z] at h; cases h) (fun a h => f0 a (s.f0 a h)) (fun a h => by
    rcases f1 a h with z | z | z
    · exact s.f1 a z
    · exact .inr (.inl (live_free s.live z))
    · rcases s.own a z with z | z
      · exact .inr (.inr z)
      · exact .inr (.inl z)) (fun a h => l a (s.live a h)) fl hl xo
theorem RP.later {r : M (α × R)} {k k' : α → R → Prop} (s : Stp σ ρ F H σ1 ρ1 F1 H1) (x : RP K mg E σ ρ F H r k) (h : ∀ a ρ', r = .ok (a, ρ') → k a ρ' → k' a ρ') : RP K mg E σ1 ρ1 F1 H1 r k' := by
  cases r with
  | ok p => exact h p.1 p.2 rfl x
  | error e =>
    cases e with
    | stuck => exact x
    | exc c fs => exact XP.later s x
/-- the first step of a sequence -/
theorem RP.bind {r : M (α × R)} {f : α × R → M (β × R)} {k : β → R → Prop} (x : RP K mg E σ ρ F H (r >>= f) k) : RP K mg E σ ρ F H r fun a ρ' => RP K mg E σ ρ F H (f (a, ρ')) k := by
  cases r with
  | ok p => exact x
  | error e =>
    cases e with
    | stuck => exact x
    | exc c fs => exact x
/-- a pure step -/
theorem RP.ok {r : M β} {f : β → M (α × R)} {k : α → R → Prop} (x : RP K mg E σ ρ F H (r >>= f) k) (hne : ∀ c fs, r ≠ .error (.exc c fs)) : ∃ b, r = .ok b ∧ RP K mg E σ ρ F H (f b) k := by
  cases r with
  | ok b => exact ⟨b, rfl, x⟩
  | error e =>
    cases e with
    | stuck => exact x.elim
    | exc c fs => exact absurd rfl (hne c fs)
end
end DL

/-! DL2: expressions: what a reading computes (EvE, EvO, EvT, EvA), the judgements DE, DO, DT, DA and their rules. -/
namespace DL
open PySem PySem.Spec PyProof.Rows L2

/-- an expression's reading t computes what the mirror g says: a datum -/
def EvE (K : PySem.W.Frag) (mg : Str → Option Value) (E : XK) (t : TE) (g : R → M (D × R)) : Prop :=
  ∀ (F : Addr → Prop) (σ : L2.St) (H : Hp) (ρ : R) (Q : VK), EnvOk K F σ H ρ →
    RP K mg E σ ρ F H (g ρ) (fun d ρ' => ∀ v F' H', EnvOk K F' σ H' ρ' → Stp σ ρ F H σ ρ' F' H' → Da K F' H' v d → Q v H') → t σ H Q
/-- a new list -/
def EvO (K : PySem.W.Frag) (mg : Str → Option Value) (E : XK) (t : TE) (g : R → M (List D × R)) : Prop :=
  ∀ (F : Addr → Prop) (σ : L2.St) (H : Hp) (ρ : R) (Q : VK), EnvOk K F σ H ρ →
    RP K mg E σ ρ F H (g ρ) (fun ds ρ' => ∀ p xs F' H', EnvOk K F' σ H' ρ' → Stp σ ρ F H σ ρ' F' H' → H p = none → H' p = some (.lst xs) → Das K F' H' xs ds → ¬ F' p → ¬ Ow σ ρ' p → Q (.ref p) H') → t σ H Q
/-- a test -/
def EvT (K : PySem.W.Frag) (mg : Str → Option Value) (E : XK) (t : TT) (g : R → M (Bool × R)) : Prop :=
  ∀ (F : Addr → Prop) (σ : L2.St) (H : Hp) (ρ : R) (Q : Bool → Hp → Prop), EnvOk K F σ H ρ →
    RP K mg E σ ρ F H (g ρ) (fun b ρ' => ∀ F' H', EnvOk K F' σ H' ρ' → Stp σ ρ F H σ ρ' F' H' → Q b H') → t σ H Q
/-- several data -/
def EvA (K : PySem.W.Frag) (mg : Str → Option Value) (E : XK) (t : TA) (g : R → M (List D × R)) : Prop :=
  ∀ (F : Addr → Prop) (σ : L2.St) (H : Hp) (ρ : R) (Q : List V → Hp → Prop), EnvOk K F σ H ρ →
    RP K mg E σ ρ F H (g ρ) (fun ds ρ' => ∀ vs F' H', EnvOk K F' σ H' ρ' → Stp σ ρ F H σ ρ' F' H' → Das K F' H' vs ds → Q vs H') → t σ H Q

structure DE (X : Cx) (E : XK) (e : Expr) (t : TE) (g : R → M (D × R)) : Prop where
  pe : PE X e t
  ev : EvE X.K X.mg E t g
structure DO (X : Cx) (E : XK) (e : Expr) (t : TE) (g : R → M (List D × R)) : Prop where
  pe : PE X e t
  ev : EvO X.K X.mg E t g
structure DT (X : Cx) (E : XK) (e : Expr) (t : TT) (g : R → M (Bool × R)) : Prop where
  pt : PT X e t
  ev : EvT X.K X.mg E t g
structure DW (X : Cx) (E : XK) (e : Expr) (t : TT) (g : R → M (Bool × R)) : Prop where
  pw : PW X e t
  ev : EvT X.K X.mg E t g
structure DA (X : Cx) (E : XK) (es : List Expr) (t : TA) (g : R → M (List D × R)) : Prop where
  pa : PA X es t
  ev : EvA X.K X.mg E t g

/-- a pure step of a mirror -/
def lo {α : Type} : Option α → M α
  | some a => .ok a
  | none => .error .stuck
theorem lo_ne {α : Type} {o : Option α} : ∀ c fs, lo o ≠ .error (.exc c fs) := by
  intro c fs h
  cases o <;> cases h
theorem lo_ok {α : Type} {o : Option α} {b : α} (h : lo o = .ok b) : o = some b := by
  cases o with
  | none => cases h
  | some a => cases h; rfl

/-! ### mirrors of expressions -/
def mVar (i : Nat) : R → M (D × R) := fun ρ => match ρ[i]? with
  | some (.d x) => .ok (x, ρ)
  | _ => .error .stuck
def mC (d : D) : R → M (D × R) := fun ρ => .ok (d, ρ)
def mOp (f : D → D → Option D) (a b : R → M (D × R)) : R → M (D × R) := fun ρ => a ρ >>= fun p => b p.2 >>= fun q => lo (f p.1 q.1) >>= fun z => .ok (z, q.2)
def mUn (f : D → Option D) (a : R → M (D × R)) : R → M (D × R) := fun ρ => a ρ >>= fun p => lo (f p.1) >>= fun z => .ok (z, p.2)
def mFn (f : List D → Option D) (a : R → M (List D × R)) : R → M (D × R) := fun ρ => a ρ >>= fun p => lo (f p.1) >>= fun z => .ok (z, p.2)
def mFnO (f : List D → Option (List D)) (a : R → M (List D × R)) : R → M (List D × R) := fun ρ => a ρ >>= fun p => lo (f p.1) >>= fun z => .ok (z, p.2)
def mNil : R → M (List D × R) := fun ρ => .ok ([], ρ)
def mCons (a : R → M (D × R)) (r : R → M (List D × R)) : R → M (List D × R) := fun ρ => a ρ >>= fun p => r p.2 >>= fun q => .ok (p.1 :: q.1, q.2)
def mTup (a : R → M (List D × R)) : R → M (D × R) := fun ρ => a ρ >>= fun p => .ok (.tuple p.1, p.2)
/-- a new list, frozen -/
def mFz (a : R → M (List D × R)) : R → M (D × R) := fun ρ => a ρ >>= fun p => .ok (.list p.1, p.2)
def mIf {α : Type} (c : R → M (Bool × R)) (a b : R → M (α × R)) : R → M (α × R) := fun ρ => c ρ >>= fun p => if p.1 = true then a p.2 else b p.2
def mTest (f : D → Option Bool) (a : R → M (D × R)) : R → M (Bool × R) := fun ρ => a ρ >>= fun p => lo (f p.1) >>= fun b => .ok (b, p.2)
def mAnd (a b : R → M (Bool × R)) : R → M (Bool × R) := fun ρ => a ρ >>= fun p => if p.1 = true then b p.2 else .ok (false, p.2)
def mOr (a b : R → M (Bool × R)) : R → M (Bool × R) := fun ρ => a ρ >>= fun p => if p.1 = true then .ok (true, p.2) else b p.2
def mNot (a : R → M (Bool × R)) : R → M (Bool × R) := fun ρ => a ρ >>= fun p => .ok (!p.1, p.2)
/-- a bool as a datum -/
def boolD : D → Option Bool
  | .bool b => some b
  | _ => none
/-- a datum's truth -/
def truthD : D → Option Bool
  | .none => some false
  | .bool b => some b
  | .int i => some (i != 0)
  | .str x => if x.length ≤ sizeLine then some ((x.length : Int) != 0) else none
  | .list ds => some (!ds.isEmpty)
  | .tuple ds => some (!ds.isEmpty)
  | .dict ds => some (!ds.isEmpty)

section
variable {K : PySem.W.Frag} {mg : Str → Option Value} {E : XK}
/-- an operation on values, on data -/
def OpD (K : PySem.W.Frag) (r : R2) (f : D → D → Option D) : Prop := ∀ (F : Addr → Prop) (H : Hp) (x y : V) (dx dy d : D) (Q : VK), (∀ a, F a → H a ≠ none) → HL H → Da K F H x dx → Da K F H y dy → f dx dy = some d →
  (∀ v F' H', Gr F H F' H' → Da K F' H' v d → Q v H') → r x y H Q
def UnD (K : PySem.W.Frag) (r : V → Hp → VK → Prop) (f : D → Option D) : Prop := ∀ (F : Addr → Prop) (H : Hp) (x : V) (dx d : D) (Q : VK), (∀ a, F a → H a ≠ none) → HL H → Da K F H x dx → f dx = some d →
  (∀ v F' H', Gr F H F' H' → Da K F' H' v d → Q v H') → r x H Q
def FnD (K : PySem.W.Frag) (r : List V → Hp → VK → Prop) (f : List D → Option D) : Prop := ∀ (F : Addr → Prop) (H : Hp) (xs : List V) (ds : List D) (d : D) (Q : VK), (∀ a, F a → H a ≠ none) → HL H → Das K F H xs ds → f ds = some d →
  (∀ v F' H', Gr F H F' H' → Da K F' H' v d → Q v H') → r xs H Q
/-- .. that makes a new list -/
def FnO (K : PySem.W.Frag) (r : List V → Hp → VK → Prop) (f : List D → Option (List D)) : Prop := ∀ (F : Addr → Prop) (H : Hp) (xs : List V) (ds es : List D) (Q : VK), (∀ a, F a → H a ≠ none) → HL H → Das K F H xs ds → f ds = some es →
  (∀ p ys H', Gr F H F H' → H p = none → H' p = some (.lst ys) → Das K F H' ys es → Q (.ref p) H') → r xs H Q

/-- going on -/
theorem RP.go {α β : Type} {σ : L2.St} {ρ ρ1 : R} {F F1 : Addr → Prop} {H H1 : Hp} {r : M (α × R)} {f : α × R → M (β × R)} {k : β → R → Prop} (s : Stp σ ρ F H σ ρ1 F1 H1) (x : RP K mg E σ ρ F H (r >>= f) k) :
    RP K mg E σ ρ1 F1 H1 r fun a ρ' => RP K mg E σ ρ F H (f (a, ρ')) k := (RP.bind x).later s fun _ _ _ h => h
theorem RP.pure {α β : Type} {σ : L2.St} {ρ : R} {F : Addr → Prop} {H : Hp} {o : Option α} {f : α → M (β × R)} {k : β → R → Prop} (x : RP K mg E σ ρ F H (lo o >>= f) k) : ∃ b, o = some b ∧ RP K mg E σ ρ F H (f b) k := by
  obtain ⟨b, h, q⟩ := RP.ok x lo_ne
  exact ⟨b, lo_ok h, q⟩

theorem ev_var {i : Nat} : EvE K mg E (tVar i) (mVar i) := by
  intro F σ H ρ Q e x
  unfold mVar at x
  split at x
  · rename_i d hd
    obtain ⟨w, h1, h2⟩ := e.at_ i _ hd
    exact ⟨w, h1, x w F H e Stp.refl h2⟩
  · exact x.elim
theorem ev_c {v : V} {d : D} (h : ∀ F H, Da K F H v d) : EvE K mg E (tC v) (mC d) := fun F σ H ρ Q e x => x v F H e Stp.refl (h F H)
theorem ev_op {r : R2} {f : D → D → Option D} {ta tb : TE} {ga gb : R → M (D × R)} (hf : OpD K r f) (ha : EvE K mg E ta ga) (hb : EvE K mg E tb gb) : EvE K mg E (tOp r ta tb) (mOp f ga gb) := by
  intro F σ H ρ Q e x
  refine ha F σ H ρ _ e ((RP.bind x).later Stp.refl fun d ρ1 _ x1 v F1 H1 e1 s1 q1 => ?_)
  refine hb F1 σ H1 ρ1 _ e1 ((RP.go s1 x1).later Stp.refl fun d2 ρ2 _ x2 w F2 H2 e2 s2 q2 => ?_)
  obtain ⟨z, hz, x3⟩ := RP.pure x2
  exact hf F2 H2 v w d d2 z Q e2.fl e2.hl (q1.kp (s2.kp e1)) q2 hz fun u F3 H3 g3 q3 => x3 u F3 H3 (e2.grow g3) ((s1.trans s2).trans g3.stp) q3
theorem ev_un {r : V → Hp → VK → Prop} {f : D → Option D} {ta : TE} {ga : R → M (D × R)} (hf : UnD K r f) (ha : EvE K mg E ta ga) : EvE K mg E (tUn r ta) (mUn f ga) := by
  intro F σ H ρ Q e x
  refine ha F σ H ρ _ e ((RP.bind x).later Stp.refl fun d ρ1 _ x1 v F1 H1 e1 s1 q1 => ?_)
  obtain ⟨z, hz, x3⟩ := RP.pure x1
  exact hf F1 H1 v d z Q e1.fl e1.hl q1 hz fun u F3 H3 g3 q3 => x3 u F3 H3 (e1.grow g3) (s1.trans g3.stp) q3
theorem ev_fn {r : List V → Hp → VK → Prop} {f : List D → Option D} {ta : TA} {ga : R → M (List D × R)} (hf : FnD K r f) (ha : EvA K mg E ta ga) : EvE K mg E (tCB r ta) (mFn f ga) := by
  intro F σ H ρ Q e x
  refine ha F σ H ρ _ e ((RP.bind x).later Stp.refl fun d ρ1 _ x1 v F1 H1 e1 s1 q1 => ?_)
  obtain ⟨z, hz, x3⟩ := RP.pure x1
  exact hf F1 H1 v d z Q e1.fl e1.hl q1 hz fun u F3 H3 g3 q3 => x3 u F3 H3 (e1.grow g3) (s1.trans g3.stp) q3
theorem free_ow {σ : L2.St} {ρ : R} {F : Addr → Prop} {H : Hp} (e : EnvOk K F σ H ρ) {p : Addr} (h : H p = none) : ¬ Ow σ ρ p := fun z => by
  rcases (e.ownObj z).2 with ⟨_, q⟩ | ⟨_, q⟩ <;> (rw [h] at q; cases q)
theorem free_fz {σ : L2.St} {ρ : R} {F : Addr → Prop} {H : Hp} (e : EnvOk K F σ H ρ) {p : Addr} (h : H p = none) : ¬ F p := fun z => e.fl p z h
theorem ev_fnO {r : List V → Hp → VK → Prop} {f : List D → Option (List D)} {ta : TA} {ga : R → M (List D × R)} (hf : FnO K r f) (ha : EvA K mg E ta ga) : EvO K mg E (tCB r ta) (mFnO f ga) := by
  intro F σ H ρ Q e x
  refine ha F σ H ρ _ e ((RP.bind x).later Stp.refl fun d ρ1 _ x1 v F1 H1 e1 s1 q1 => ?_)
  obtain ⟨z, hz, x3⟩ := RP.pure x1
  exact hf F1 H1 v d z Q e1.fl e1.hl q1 hz fun p ys H3 g3 n3 h3 q3 => x3 p ys F1 H3 (e1.grow g3) (s1.trans g3.stp) (live_free s1.live n3) h3 q3 (free_fz e1 n3) (free_ow e1 n3)
theorem ev_nil : EvA K mg E tNil mNil := fun F σ H ρ Q e x => x [] F H e Stp.refl .nil
theorem ev_cons {ta : TE} {tr : TA} {ga : R → M (D × R)} {gr : R → M (List D × R)} (ha : EvE K mg E ta ga) (hr : EvA K mg E tr gr) : EvA K mg E (tCons ta tr) (mCons ga gr) := by
  intro F σ H ρ Q e x
  refine ha F σ H ρ _ e ((RP.bind x).later Stp.refl fun d ρ1 _ x1 v F1 H1 e1 s1 q1 => ?_)
  refine hr F1 σ H1 ρ1 _ e1 ((RP.go s1 x1).later Stp.refl fun ds ρ2 _ x2 ws F2 H2 e2 s2 q2 => ?_)
  exact x2 (v :: ws) F2 H2 e2 (s1.trans s2) (.cons (q1.kp (s2.kp e1)) q2)
/-- (a, b, ..): n items -/
theorem ev_tup {ta : TA} {ga : R → M (List D × R)} (n : Nat) (hn : n ≤ sizeLine) (ha : EvA K mg E ta ga) (hl : ∀ ρ ds ρ', ga ρ = .ok (ds, ρ') → ds.length = n) : EvE K mg E (tTup ta) (mTup ga) := by
  intro F σ H ρ Q e x
  refine ha F σ H ρ _ e ((RP.bind x).later Stp.refl fun ds ρ1 hr x1 vs F1 H1 e1 s1 q1 => ?_)
  have hz : vs.length ≤ sizeLine := by
    rw [q1.length, hl _ _ _ hr]
    exact hn
  refine ⟨hz, fun p hp => ?_⟩
  have g : Gr F1 H1 F1 (upd H1 p (.tup vs)) := Gr.new e1.fl hp (e1.hl.tup hz)
  exact x1 _ _ _ (e1.grow g) (s1.trans g.stp) (.tup (SqT.of upd_same) (q1.kp g.kp))
theorem ev_lst {ta : TA} {ga : R → M (List D × R)} (n : Nat) (hn : n ≤ sizeLine) (ha : EvA K mg E ta ga) (hl : ∀ ρ ds ρ', ga ρ = .ok (ds, ρ') → ds.length = n) : EvO K mg E (tLst ta) ga := by
  intro F σ H ρ Q e x
  refine ha F σ H ρ _ e (RP.later Stp.refl x fun ds ρ1 hr x1 vs F1 H1 e1 s1 q1 => ?_)
  have hz : vs.length ≤ sizeLine := by
    rw [q1.length, hl _ _ _ hr]
    exact hn
  refine ⟨hz, fun p hp => ?_⟩
  have g : Gr F1 H1 F1 (upd H1 p (.lst vs)) := Gr.new e1.fl hp (e1.hl.lst hz)
  exact x1 p vs _ _ (e1.grow g) (s1.trans g.stp) (live_free s1.live hp) upd_same (q1.kp g.kp) (free_fz e1 hp) (free_ow e1 hp)
/-- a new list, from now on a datum -/
theorem ev_fz {ta : TE} {ga : R → M (List D × R)} (ha : EvO K mg E ta ga) : EvE K mg E ta (mFz ga) := by
  intro F σ H ρ Q e x
  refine ha F σ H ρ _ e ((RP.bind x).later Stp.refl fun ds ρ1 _ x1 p xs F1 H1 e1 s1 n1 h1 q1 nf no => ?_)
  have kp : Kp F1 H1 (Fz F1 p) H1 := ⟨fun _ _ h => h, fun _ _ _ h => h, fun a h => ⟨.inl h, fun _ q => q⟩⟩
  refine x1 (.ref p) (Fz F1 p) H1 ⟨e1.len, fun i s hs => ?_, e1.sep, fun a q => ?_, e1.hl⟩ ⟨s1.keep, s1.own, fun a h => .inl (s1.f0 a h), fun a h => ?_, s1.live⟩ (.lst (.inr rfl) h1 (q1.kp kp))
  · refine (e1.at_ i s hs).kp kp (fun _ _ _ _ q => q) fun p' hv ho n z => ?_
    rcases z with z | z
    · exact n z
    · exact no (z ▸ ⟨i, hv, s, hs, ho⟩)
  · rcases q with q | q
    · exact e1.fl a q
    · rw [q, h1]; simp
  · rcases h with h | h
    · exact s1.f1 a h
    · exact .inr (.inl (by rw [h]; exact n1))
theorem ev_if {tc : TT} {ta tb : TE} {gc : R → M (Bool × R)} {ga gb : R → M (D × R)} (hc : EvT K mg E tc gc) (ha : EvE K mg E ta ga) (hb : EvE K mg E tb gb) : EvE K mg E (tIf tc ta tb) (mIf gc ga gb) := by
  intro F σ H ρ Q e x
  refine hc F σ H ρ _ e ((RP.bind x).later Stp.refl fun b ρ1 _ x1 F1 H1 e1 s1 => ?_)
  cases b with
  | true => exact ha F1 σ H1 ρ1 Q e1 (RP.later s1 x1 fun d ρ2 _ k v F2 H2 e2 s2 q2 => k v F2 H2 e2 (s1.trans s2) q2)
  | false => exact hb F1 σ H1 ρ1 Q e1 (RP.later s1 x1 fun d ρ2 _ k v F2 H2 e2 s2 q2 => k v F2 H2 e2 (s1.trans s2) q2)
theorem ev_ifO {tc : TT} {ta tb : TE} {gc : R → M (Bool × R)} {ga gb : R → M (List D × R)} (hc : EvT K mg E tc gc) (ha : EvO K mg E ta ga) (hb : EvO K mg E tb gb) : EvO K mg E (tIf tc ta tb) (mIf gc ga gb) := by
  intro F σ H ρ Q e x
  refine hc F σ H ρ _ e ((RP.bind x).later Stp.refl fun b ρ1 _ x1 F1 H1 e1 s1 => ?_)
  cases b with
  | true => exact ha F1 σ H1 ρ1 Q e1 (RP.later s1 x1 fun d ρ2 _ k p xs F2 H2 e2 s2 n2 => k p xs F2 H2 e2 (s1.trans s2) (live_free s1.live n2))
  | false => exact hb F1 σ H1 ρ1 Q e1 (RP.later s1 x1 fun d ρ2 _ k p xs F2 H2 e2 s2 n2 => k p xs F2 H2 e2 (s1.trans s2) (live_free s1.live n2))
/-! ### tests -/
theorem ev_test {ta : TE} {ga : R → M (D × R)} (ha : EvE K mg E ta ga) : EvT K mg E (tTest ta) (mTest boolD ga) := by
  intro F σ H ρ Q e x
  refine ha F σ H ρ _ e ((RP.bind x).later Stp.refl fun d ρ1 _ x1 v F1 H1 e1 s1 q1 => ?_)
  obtain ⟨b, hb, x2⟩ := RP.pure x1
  cases q1 with
  | bl c =>
    obtain rfl := Option.some.inj hb
    exact ⟨c, rfl, x2 F1 H1 e1 s1⟩
  | non => cases hb
  | int i => cases hb
  | str z => cases hb
  | lst _ _ _ => cases hb
  | tup _ _ => cases hb
  | dct _ _ _ => cases hb
theorem Dak.empty {F : Addr → Prop} {H : Hp} : ∀ {xs : List (Key × V)} {ds : List (D × D)}, Dak K F H xs ds → xs.isEmpty = ds.isEmpty
  | _, _, .nil => rfl
  | _, _, .cons _ _ => rfl
theorem Das.empty {F : Addr → Prop} {H : Hp} : ∀ {xs : List V} {ds : List D}, Das K F H xs ds → xs.isEmpty = ds.isEmpty
  | _, _, .nil => rfl
  | _, _, .cons _ _ => rfl
def tTruth (K : PySem.W.Frag) (ta : TE) : TT := fun σ H Q => ta σ H fun x H' => ∃ k, TruV K x H' k ∧ Q k H'
theorem ev_truth {ta : TE} {ga : R → M (D × R)} (ha : EvE K mg E ta ga) : EvT K mg E (tTruth K ta) (mTest truthD ga) := by
  intro F σ H ρ Q e x
  refine ha F σ H ρ _ e ((RP.bind x).later Stp.refl fun d ρ1 _ x1 v F1 H1 e1 s1 q1 => ?_)
  obtain ⟨b, hb, x2⟩ := RP.pure x1
  refine ⟨b, ?_, x2 F1 H1 e1 s1⟩
  cases q1 with
  | bl c => exact (Option.some.inj hb).symm
  | non => exact (Option.some.inj hb).symm
  | int i => exact (Option.some.inj hb).symm
  | str z =>
    have hb : (if z.length ≤ sizeLine then some ((z.length : Int) != 0) else none) = some b := hb
    by_cases hz : z.length ≤ sizeLine
    · rw [if_pos hz] at hb
      exact ⟨hz, (Option.some.inj hb).symm⟩
    · rw [if_neg hz] at hb
      cases hb
  | lst _ h q => exact .inl ⟨_, SqL.of h, by rw [q.empty]; exact (Option.some.inj hb).symm⟩
  | tup h q => exact .inr (.inl ⟨_, h, by rw [q.empty]; exact (Option.some.inj hb).symm⟩)
  | dct _ h q => exact .inr (.inr ⟨_, h, by rw [q.empty]; exact (Option.some.inj hb).symm⟩)
theorem ev_and {t u : TT} {ga gb : R → M (Bool × R)} (ha : EvT K mg E t ga) (hb : EvT K mg E u gb) : EvT K mg E (tAnd t u) (mAnd ga gb) := by
  intro F σ H ρ Q e x
  refine ha F σ H ρ _ e ((RP.bind x).later Stp.refl fun b ρ1 _ x1 F1 H1 e1 s1 => ?_)
  cases b with
  | true => exact hb F1 σ H1 ρ1 Q e1 (RP.later s1 x1 fun d ρ2 _ k F2 H2 e2 s2 => k F2 H2 e2 (s1.trans s2))
  | false => exact x1 F1 H1 e1 s1
theorem ev_or {t u : TT} {ga gb : R → M (Bool × R)} (ha : EvT K mg E t ga) (hb : EvT K mg E u gb) : EvT K mg E (tOr t u) (mOr ga gb) := by
  intro F σ H ρ Q e x
  refine ha F σ H ρ _ e ((RP.bind x).later Stp.refl fun b ρ1 _ x1 F1 H1 e1 s1 => ?_)
  cases b with
  | true => exact x1 F1 H1 e1 s1
  | false => exact hb F1 σ H1 ρ1 Q e1 (RP.later s1 x1 fun d ρ2 _ k F2 H2 e2 s2 => k F2 H2 e2 (s1.trans s2))
theorem ev_not {t : TT} {ga : R → M (Bool × R)} (ha : EvT K mg E t ga) : EvT K mg E (tNot t) (mNot ga) := by
  intro F σ H ρ Q e x
  exact ha F σ H ρ _ e ((RP.bind x).later Stp.refl fun b ρ1 _ x1 F1 H1 e1 s1 => x1 F1 H1 e1 s1)
end
end DL

/-! DL3: operations on data. -/
namespace DL
open PySem PySem.Spec PyProof.Rows L2
section
variable {X : Cx} {K : PySem.W.Frag}
/-! ### numbers -/
def intsD (C : Int → Int → Bool) (g : Int → Int → D) : D → D → Option D
  | .int i, .int j => if C i j then some (g i j) else none
  | _, _ => none
theorem intsD_inv {C : Int → Int → Bool} {g : Int → Int → D} {dx dy d : D} (h : intsD C g dx dy = some d) : ∃ i j, dx = .int i ∧ dy = .int j ∧ C i j = true ∧ d = g i j := by
  unfold intsD at h
  split at h
  · rename_i i j
    by_cases c : C i j = true
    · rw [if_pos c] at h
      exact ⟨i, j, rfl, rfl, c, (Option.some.inj h).symm⟩
    · rw [if_neg c] at h
      cases h
  · cases h
theorem Da.int_inv {F : Addr → Prop} {H : Hp} {x : V} {i : Int} (h : Da K F H x (.int i)) : x = .int i := by cases h; rfl
theorem Da.str_inv {F : Addr → Prop} {H : Hp} {x : V} {i : Str} (h : Da K F H x (.str i)) : x = .str i := by cases h; rfl
theorem opd_I {P : Int → Int → Prop} {C : Int → Int → Bool} {g : Int → Int → V} {gd : Int → Int → D} (hc : ∀ i j, C i j = true → P i j) (hg : ∀ F H i j, Da K F H (g i j) (gd i j)) : OpD K (rI P g) (intsD C gd) := by
  intro F H x y dx dy d Q fl hl hx hy h k
  obtain ⟨i, j, rfl, rfl, c, rfl⟩ := intsD_inv h
  exact ⟨i, j, hx.int_inv, hy.int_inv, hc i j c, k _ F H (Gr.refl fl hl) (hg F H i j)⟩
theorem opd_I0 {g : Int → Int → V} {gd : Int → Int → D} (hg : ∀ F H i j, Da K F H (g i j) (gd i j)) : OpD K (rI0 g) (intsD (fun _ _ => true) gd) := by
  intro F H x y dx dy d Q fl hl hx hy h k
  obtain ⟨i, j, rfl, rfl, c, rfl⟩ := intsD_inv h
  exact ⟨i, j, hx.int_inv, hy.int_inv, k _ F H (Gr.refl fl hl) (hg F H i j)⟩
def subD : D → D → Option D := intsD (fun _ _ => true) fun i j => .int (i - j)
def mulB (i j : Int) : Bool := decide ((-(2 ^ 64) < i ∧ i < 2 ^ 64) ∨ (-(2 ^ 64) < j ∧ j < 2 ^ 64))
def fdivB (i j : Int) : Bool := decide (0 < j ∧ j < 2 ^ 64)
def modB (i j : Int) : Bool := decide (0 < j)
def powB (i j : Int) : Bool := decide (0 ≤ j ∧ (Builtin.Int.intBits i : Int) * j ≤ 2 ^ 27)
def fdivD : D → D → Option D := intsD fdivB fun i j => .int (i / j)
def modD : D → D → Option D := intsD modB fun i j => .int (i % j)
def powD : D → D → Option D := intsD powB fun i j => .int (i ^ j.toNat)
def ltD : D → D → Option D := intsD (fun _ _ => true) fun i j => .bool (decide (i < j))
def leD : D → D → Option D := intsD (fun _ _ => true) fun i j => .bool (decide (i ≤ j))
def gtD : D → D → Option D := intsD (fun _ _ => true) fun i j => .bool (decide (j < i))
def geD : D → D → Option D := intsD (fun _ _ => true) fun i j => .bool (decide (j ≤ i))
theorem od_sub : OpD K (rI0 fun i j => .int (i - j)) subD := opd_I0 fun _ _ _ _ => .int _
theorem od_fdiv : OpD K (rI CDivW fun i j => .int (i / j)) fdivD := opd_I (fun i j h => by
  have h := of_decide_eq_true h
  exact wide_div (b := 64) h.1 (by omega) (by decide) (by decide)) fun _ _ _ _ => .int _
theorem od_mod : OpD K (rI (fun _ j => 0 < j) fun i j => .int (i % j)) modD := opd_I (fun i j h => of_decide_eq_true h) fun _ _ _ _ => .int _
def CPowB (i j : Int) : Prop := 0 ≤ j ∧ (Builtin.Int.intBits i : Int) * j ≤ 2 ^ 27
theorem op_powB : OpR X (binaryOp .Pow) (rI CPowB fun i j => .int (i ^ j.toNat)) := opI fun _ _ _ _ _ _ _ hc q => pow_int hc.1 hc.2 q
theorem od_pow : OpD K (rI CPowB fun i j => .int (i ^ j.toNat)) powD := opd_I (fun i j h => by unfold powB at h; unfold CPowB; exact of_decide_eq_true h) fun _ _ _ _ => .int _
theorem od_lt : OpD K (rI0 fun i j => .bl (decide (i < j))) ltD := opd_I0 fun _ _ _ _ => .bl _
theorem od_le : OpD K (rI0 fun i j => .bl (decide (i ≤ j))) leD := opd_I0 fun _ _ _ _ => .bl _
theorem od_gt : OpD K (rI0 fun i j => .bl (decide (j < i))) gtD := opd_I0 fun _ _ _ _ => .bl _
theorem od_ge : OpD K (rI0 fun i j => .bl (decide (j ≤ i))) geD := opd_I0 fun _ _ _ _ => .bl _
/-! ### + of ints, texts, tuples, lists (frozen) -/
def addD : D → D → Option D
  | .int i, .int j => some (.int (i + j))
  | .str a, .str b => if a.length + b.length ≤ sizeLine then some (.str (a ++ b)) else none
  | .tuple a, .tuple b => if a.length + b.length ≤ sizeLine then some (.tuple (a ++ b)) else none
  | .list a, .list b => if a.length + b.length ≤ sizeLine then some (.list (a ++ b)) else none
  | _, _ => none
def rAddS : R2 := fun x y H Q => ∃ i j, x = .str i ∧ y = .str j ∧ i.length + j.length ≤ sizeLine ∧ Q (.str (i ++ j)) H
def rAddA (K : PySem.W.Frag) : R2 := fun x y H Q => ((rI0 fun i j => .int (i + j)) x y H Q ∨ rAddS x y H Q) ∨ (rCatA K x y H Q ∨ rCat x y H Q)
theorem op_addA : OpR X (binaryOp .Add) (rAddA X.K) := OpR.or (OpR.or op_add op_add_str) (OpR.or op_catA op_cat)
theorem od_add : OpD K (rAddA K) addD := by
  intro F H x y dx dy d Q fl hl hx hy h k
  unfold addD at h
  split at h
  · rename_i i j
    obtain rfl := Option.some.inj h
    exact .inl (.inl ⟨i, j, hx.int_inv, hy.int_inv, k _ F H (Gr.refl fl hl) (.int _)⟩)
  · rename_i a b
    split at h
    · rename_i hz
      obtain rfl := Option.some.inj h
      exact .inl (.inr ⟨a, b, hx.str_inv, hy.str_inv, hz, k _ F H (Gr.refl fl hl) (.str _)⟩)
    · cases h
  · rename_i a b
    split at h
    · rename_i hz
      obtain rfl := Option.some.inj h
      cases hx with
      | tup r q =>
        cases hy with
        | tup r2 q2 =>
          rename_i p xs p2 ys
          have hz2 : xs.length + ys.length ≤ sizeLine := by rw [q.length, q2.length]; exact hz
          refine .inr (.inl ⟨p, p2, xs, ys, rfl, rfl, r, r2, hz2, fun e => ?_, fun e e2 => ?_, fun e e2 n hn => ?_⟩)
          · subst e
            cases q
            exact k _ F H (Gr.refl fl hl) (.tup r2 q2)
          · subst e2
            cases q2
            rw [List.append_nil] at k
            exact k _ F H (Gr.refl fl hl) (.tup r q)
          · have g : Gr F H F (upd H n (.tup (xs ++ ys))) := Gr.new fl hn (hl.tup (by rw [List.length_append]; exact hz2))
            exact k _ F _ g (.tup (SqT.of upd_same) ((q.kp g.kp).append (q2.kp g.kp)))
    · cases h
  · rename_i a b
    split at h
    · rename_i hz
      obtain rfl := Option.some.inj h
      cases hx with
      | lst f r q =>
        cases hy with
        | lst f2 r2 q2 =>
          rename_i p xs p2 ys
          have hz2 : xs.length + ys.length ≤ sizeLine := by rw [q.length, q2.length]; exact hz
          refine .inr (.inr ⟨p, p2, xs, ys, rfl, rfl, r, r2, hz2, fun n hn => ?_⟩)
          have g : Gr F H (Fz F n) (upd H n (.lst (xs ++ ys))) := Gr.newF fl hn (hl.lst (by rw [List.length_append]; exact hz2))
          exact k _ _ _ g (.lst (.inr rfl) upd_same ((q.kp g.kp).append (q2.kp g.kp)))
    · cases h
  · cases h
/-! ### * -/
def mulD : D → D → Option D := intsD mulB fun i j => .int (i * j)
theorem od_mul : OpD K (rI CMul fun i j => .int (i * j)) mulD := opd_I (fun i j h => by unfold mulB at h; unfold CMul; exact of_decide_eq_true h) fun _ _ _ _ => .int _
/-! ### == -/
def rEqP (K : PySem.W.Frag) : R2 := fun x y H Q => ∃ d e, Dp K H x d ∧ Dp K H y e ∧ d.plain = true ∧ e.plain = true ∧ min d.depth e.depth ≤ 150 ∧ Q (.bl (PyData.eqv d e)) H
def rNeP (K : PySem.W.Frag) : R2 := fun x y H Q => ∃ d e, Dp K H x d ∧ Dp K H y e ∧ d.plain = true ∧ e.plain = true ∧ min d.depth e.depth ≤ 150 ∧ Q (.bl (!PyData.eqv d e)) H
theorem op_eqP (hu : X.A.units + 200 < cLine) : OpR X (compareOp .Eq) (rEqP X.K) := by
  intro pins s σ H x y v u Q I rx ry h
  obtain ⟨d, e, hd, he, sd, se, hm, q⟩ := h
  obtain ⟨as, r1⟩ := Dp.reads I d x v hd rx
  obtain ⟨bs, r2⟩ := Dp.reads I e y u he ry
  exact SeqAt.eq_plain r1 r2 sd se (by omega) ⟨.bl _, H, I, rfl, q⟩
theorem op_neP (hu : X.A.units + 200 < cLine) : OpR X (compareOp .NotEq) (rNeP X.K) := by
  intro pins s σ H x y v u Q I rx ry h
  obtain ⟨d, e, hd, he, sd, se, hm, q⟩ := h
  obtain ⟨as, r1⟩ := Dp.reads I d x v hd rx
  obtain ⟨bs, r2⟩ := Dp.reads I e y u he ry
  exact SeqAt.ne_plain r1 r2 sd se (by omega) ⟨.bl _, H, I, rfl, q⟩
def eqC (a b : D) : Bool := a.plain && b.plain && decide (min a.depth b.depth ≤ 150)
def eqD (a b : D) : Option D := if eqC a b then some (.bool (PyData.eqv a b)) else none
def neD (a b : D) : Option D := if eqC a b then some (.bool (!PyData.eqv a b)) else none
theorem eqC_inv {a b : D} (h : eqC a b = true) : a.plain = true ∧ b.plain = true ∧ min a.depth b.depth ≤ 150 := by
  unfold eqC at h
  simp only [Bool.and_eq_true, decide_eq_true_eq] at h
  exact ⟨h.1.1, h.1.2, h.2⟩
theorem od_eq : OpD K (rEqP K) eqD := by
  intro F H x y dx dy d Q fl hl hx hy h k
  unfold eqD at h
  split at h
  · rename_i c
    obtain rfl := Option.some.inj h
    obtain ⟨c1, c2, c3⟩ := eqC_inv c
    exact ⟨dx, dy, hx.dp c1, hy.dp c2, c1, c2, c3, k _ F H (Gr.refl fl hl) (.bl _)⟩
  · cases h
theorem od_ne : OpD K (rNeP K) neD := by
  intro F H x y dx dy d Q fl hl hx hy h k
  unfold neD at h
  split at h
  · rename_i c
    obtain rfl := Option.some.inj h
    obtain ⟨c1, c2, c3⟩ := eqC_inv c
    exact ⟨dx, dy, hx.dp c1, hy.dp c2, c1, c2, c3, k _ F H (Gr.refl fl hl) (.bl _)⟩
  · cases h
/-! ### is None -/
def isNoneD : D → D → Option D
  | .none, .none => some (.bool true)
  | _, .none => some (.bool false)
  | _, _ => none
def notNoneD : D → D → Option D
  | .none, .none => some (.bool false)
  | _, .none => some (.bool true)
  | _, _ => none
theorem od_isN : OpD K (fun x y H Q => y = .non ∧ Q (.bl (decide (x = .non))) H) isNoneD := by
  intro F H x y dx dy d Q fl hl hx hy h k
  cases hy with
  | non =>
    refine ⟨rfl, ?_⟩
    cases hx <;> (have h := Option.some.inj h; subst h; exact k _ F H (Gr.refl fl hl) (.bl _))
  | _ => cases dx <;> cases h
theorem od_notN : OpD K (fun x y H Q => y = .non ∧ Q (.bl (!decide (x = .non))) H) notNoneD := by
  intro F H x y dx dy d Q fl hl hx hy h k
  cases hy with
  | non =>
    refine ⟨rfl, ?_⟩
    cases hx <;> (have h := Option.some.inj h; subst h; exact k _ F H (Gr.refl fl hl) (.bl _))
  | _ => cases dx <;> cases h
/-! ### x in c -/
def rInP (K : PySem.W.Frag) (neg : Bool) : R2 := fun x y H Q => ∃ d ds, Dp K H x d ∧ (Dp K H y (.list ds) ∨ Dp K H y (.tuple ds)) ∧ d.plain = true ∧ PyData.plainAll ds = true ∧ d.depth ≤ 150 ∧ Q (.bl (if neg then !ds.any (fun z => PyData.eqv z d) else ds.any fun z => PyData.eqv z d)) H
theorem op_inP (hu : X.A.units + 200 < cLine) : OpR X (compareOp .In) (rInP X.K false) := by
  intro pins s σ H x y v u Q I rx ry h
  obtain ⟨d, ds, hd, he, sd, se, hm, q⟩ := h
  obtain ⟨as, r1⟩ := Dp.reads I d x v hd rx
  rcases he with he | he
  · obtain ⟨bs, r2⟩ := Dp.reads I (.list ds) y u he ry
    exact SeqAt.in_list_data r2 r1 se sd (by omega) ⟨.bl _, H, I, rfl, q⟩
  · obtain ⟨bs, r2⟩ := Dp.reads I (.tuple ds) y u he ry
    exact SeqAt.in_tuple_data r2 r1 se sd (by omega) ⟨.bl _, H, I, rfl, q⟩
theorem op_notInP (hu : X.A.units + 200 < cLine) : OpR X (compareOp .NotIn) (rInP X.K true) := by
  intro pins s σ H x y v u Q I rx ry h
  obtain ⟨d, ds, hd, he, sd, se, hm, q⟩ := h
  obtain ⟨as, r1⟩ := Dp.reads I d x v hd rx
  rcases he with he | he
  · obtain ⟨bs, r2⟩ := Dp.reads I (.list ds) y u he ry
    exact SeqAt.notIn_list_data r2 r1 se sd (by omega) ⟨.bl _, H, I, rfl, q⟩
  · obtain ⟨bs, r2⟩ := Dp.reads I (.tuple ds) y u he ry
    exact SeqAt.notIn_tuple_data r2 r1 se sd (by omega) ⟨.bl _, H, I, rfl, q⟩
def inSeq (neg : Bool) (d : D) (ds : List D) : Option D := if d.plain && PyData.plainAll ds && decide (d.depth ≤ 150) then some (.bool (if neg then !ds.any (fun z => PyData.eqv z d) else ds.any fun z => PyData.eqv z d)) else none
def inD (neg : Bool) : D → D → Option D
  | .str x, .str y => match x.cps with
    | ⟨[c]⟩ => some (.bool (if neg then !decide (c ∈ y.cps.toList) else decide (c ∈ y.cps.toList)))
    | _ => none
  | d, .list ds => inSeq neg d ds
  | d, .tuple ds => inSeq neg d ds
  | _, _ => none
def rInA (K : PySem.W.Frag) (neg : Bool) : R2 := fun x y H Q => rInP K neg x y H Q ∨ ∃ (c : Nat) (z : Str), x = .str ⟨#[c]⟩ ∧ y = .str z ∧ Q (.bl (if neg then !decide (c ∈ z.cps.toList) else decide (c ∈ z.cps.toList))) H
theorem op_inA (hu : X.A.units + 200 < cLine) : OpR X (compareOp .In) (rInA X.K false) := OpR.or (op_inP hu) op_in_sign
theorem op_notInA (hu : X.A.units + 200 < cLine) : OpR X (compareOp .NotIn) (rInA X.K true) := OpR.or (op_notInP hu) op_notIn_sign
theorem inSeq_inv {neg : Bool} {d e : D} {ds : List D} (h : inSeq neg d ds = some e) : d.plain = true ∧ PyData.plainAll ds = true ∧ d.depth ≤ 150 ∧ e = .bool (if neg then !ds.any (fun z => PyData.eqv z d) else ds.any fun z => PyData.eqv z d) := by
  unfold inSeq at h
  split at h
  · rename_i c
    simp only [Bool.and_eq_true, decide_eq_true_eq] at c
    exact ⟨c.1.1, c.1.2, c.2, (Option.some.inj h).symm⟩
  · cases h
theorem od_in {neg : Bool} : OpD K (rInA K neg) (inD neg) := by
  intro F H x y dx dy d Q fl hl hx hy h k
  unfold inD at h
  split at h
  · rename_i a b
    split at h
    · rename_i c hc
      obtain rfl := Option.some.inj h
      have e : a = ⟨#[c]⟩ := by cases a; simp at hc; rw [hc]
      subst e
      exact .inr ⟨c, b, hx.str_inv, hy.str_inv, k _ F H (Gr.refl fl hl) (.bl _)⟩
    · cases h
  · rename_i ds
    obtain ⟨h1, h2, h3, rfl⟩ := inSeq_inv h
    exact .inl ⟨dx, ds, hx.dp h1, .inl (hy.dp (by simpa [PyData.plain] using h2)), h1, h2, h3, k _ F H (Gr.refl fl hl) (.bl _)⟩
  · rename_i ds
    obtain ⟨h1, h2, h3, rfl⟩ := inSeq_inv h
    exact .inl ⟨dx, ds, hx.dp h1, .inr (hy.dp (by simpa [PyData.plain] using h2)), h1, h2, h3, k _ F H (Gr.refl fl hl) (.bl _)⟩
  · cases h
/-! ### a[i] -/
def atD (ds : List D) (i : Int) : Option D := atI ds i
def ixD : D → D → Option D
  | .list ds, .int i => atI ds i
  | .tuple ds, .int i => atI ds i
  | .str z, .int i => if z.length ≤ sizeLine then (atI z.cps.toList i).map fun c => .str ⟨#[c]⟩ else none
  | _, _ => none
theorem atI_das {F : Addr → Prop} {H : Hp} {xs : List V} {ds : List D} {i : Int} {d : D} (q : Das K F H xs ds) (h : atI ds i = some d) : ∃ v, atI xs i = some v ∧ Da K F H v d := by
  unfold atI at h ⊢
  rw [q.length]
  cases e : ixN ds.length i with
  | none => rw [e] at h; cases h
  | some j =>
    rw [e] at h
    exact q.get h
theorem od_ix : OpD K (rIx K) ixD := by
  intro F H x y dx dy d Q fl hl hx hy h k
  unfold ixD at h
  split at h
  · rename_i ds i
    cases hx with
    | lst f r q =>
      rename_i p xs
      obtain ⟨v, h1, h2⟩ := atI_das q h
      exact .inl ⟨p, xs, i, v, rfl, hy.int_inv, SqL.of r, h1, k _ F H (Gr.refl fl hl) h2⟩
  · rename_i ds i
    cases hx with
    | tup r q =>
      rename_i p xs
      obtain ⟨v, h1, h2⟩ := atI_das q h
      exact .inr (.inl ⟨p, xs, i, v, rfl, hy.int_inv, r, h1, k _ F H (Gr.refl fl hl) h2⟩)
  · rename_i z i
    split at h
    · rename_i hz
      cases e : atI z.cps.toList i with
      | none => rw [e] at h; cases h
      | some c =>
        rw [e] at h
        obtain rfl := Option.some.inj h
        exact .inr (.inr ⟨z, i, c, hx.str_inv, hy.int_inv, hz, e, k _ F H (Gr.refl fl hl) (.str _)⟩)
    · cases h
  · cases h
end
end DL

/-! DL4: slices and built-in functions on data. -/
namespace DL
open PySem PySem.Spec PyProof.Rows L2
section
variable {X : Cx} {K : PySem.W.Frag} {mg : Str → Option Value} {E : XK}
/-! ### a[lo:hi] -/
def cutL {α : Type} (xs : List α) (lo hi : Option Int) : List α := (xs.drop (HT.sIx xs.length 0 lo)).take (HT.sIx xs.length xs.length hi - HT.sIx xs.length 0 lo)
theorem Das.cut {F : Addr → Prop} {H : Hp} {xs : List V} {ds : List D} (q : Das K F H xs ds) (lo hi : Option Int) : Das K F H (cutV xs lo hi) (cutL ds lo hi) := by
  unfold cutV cutL
  rw [q.length]
  exact (q.drop _).take _
def EvP (K : PySem.W.Frag) (mg : Str → Option Value) (E : XK) (t : TO) (g : R → M (Option Int × R)) : Prop :=
  ∀ (F : Addr → Prop) (σ : L2.St) (H : Hp) (ρ : R) (Q : Option Int → Hp → Prop), EnvOk K F σ H ρ →
    RP K mg E σ ρ F H (g ρ) (fun o ρ' => ∀ F' H', EnvOk K F' σ H' ρ' → Stp σ ρ F H σ ρ' F' H' → Q o H') → t σ H Q
structure DP (X : Cx) (E : XK) (e : Option Expr) (t : TO) (g : R → M (Option Int × R)) : Prop where
  po : PO X e t
  ev : EvP X.K X.mg E t g
def mNone : R → M (Option Int × R) := fun ρ => .ok (none, ρ)
def intD : D → Option Int
  | .int i => some i
  | _ => none
def mPart (a : R → M (D × R)) : R → M (Option Int × R) := fun ρ => a ρ >>= fun p => lo (intD p.1) >>= fun i => .ok (some i, p.2)
theorem ev_none : EvP K mg E tNoPart mNone := fun F σ H ρ Q e x => x F H e Stp.refl
theorem intD_inv {d : D} {i : Int} (h : intD d = some i) : d = .int i := by
  cases d with
  | int j => obtain rfl := Option.some.inj h; rfl
  | _ => cases h
theorem ev_part {ta : TE} {ga : R → M (D × R)} (ha : EvE K mg E ta ga) : EvP K mg E (tPart ta) (mPart ga) := by
  intro F σ H ρ Q e x
  refine ha F σ H ρ _ e ((RP.bind x).later Stp.refl fun d ρ1 _ x1 v F1 H1 e1 s1 q1 => ?_)
  obtain ⟨i, hi, x2⟩ := RP.pure x1
  obtain rfl := intD_inv hi
  exact ⟨i, q1.int_inv, x2 F1 H1 e1 s1⟩
def cutD (d : D) (l h : Option Int) : Option D := match d with
  | .tuple ds => some (.tuple (cutL ds l h))
  | .list ds => some (.list (cutL ds l h))
  | .str z => if z.length ≤ sizeLine then some (.str (cutS z l h)) else none
  | _ => none
def mCut (a : R → M (D × R)) (l h : R → M (Option Int × R)) : R → M (D × R) := fun ρ => a ρ >>= fun p => l p.2 >>= fun q => h q.2 >>= fun r => lo (cutD p.1 q.1 r.1) >>= fun z => .ok (z, r.2)
def rSl (K : PySem.W.Frag) : V → Option Int → Option Int → Hp → VK → Prop := fun x l h H Q => (rSlL K x l h H Q ∨ rSlA K x l h H Q) ∨ rSlS x l h H Q
theorem sl_any : SlR X (rSl X.K) := SlR.or (SlR.or sl_list sl_tupA) sl_str
theorem ev_cut {ta : TE} {tl th : TO} {ga : R → M (D × R)} {gl gh : R → M (Option Int × R)} (ha : EvE K mg E ta ga) (hl : EvP K mg E tl gl) (hh : EvP K mg E th gh) : EvE K mg E (tSl (rSl K) ta tl th) (mCut ga gl gh) := by
  intro F σ H ρ Q e x
  refine ha F σ H ρ _ e ((RP.bind x).later Stp.refl fun d ρ1 _ x1 v F1 H1 e1 s1 q1 => ?_)
  refine hl F1 σ H1 ρ1 _ e1 ((RP.go s1 x1).later Stp.refl fun l ρ2 _ x2 F2 H2 e2 s2 => ?_)
  refine hh F2 σ H2 ρ2 _ e2 ((RP.go (s1.trans s2) x2).later Stp.refl fun h ρ3 _ x3 F3 H3 e3 s3 => ?_)
  obtain ⟨z, hz, x4⟩ := RP.pure x3
  have st := (s1.trans s2).trans s3
  have q3 := q1.kp ((s2.trans s3).kp e1)
  have hz : cutD d l h = some z := hz
  cases d with
  | tuple ds =>
    obtain rfl := Option.some.inj hz
    cases q3 with
    | tup r q =>
      rename_i p xs
      refine .inl (.inr ⟨p, xs, rfl, r, fun w => ?_, fun w n hn => ?_⟩)
      · have ec : cutL ds l h = ds := by
          unfold cutL
          rw [← q.length, w.1, w.2, List.drop_zero, Nat.sub_zero, q.length, List.take_length]
        rw [ec] at x4
        exact x4 _ F3 H3 e3 st (.tup r q)
      · have g : Gr F3 H3 F3 (upd H3 n (.tup (cutV xs l h))) := Gr.new e3.fl hn (e3.hl.tup (Nat.le_trans (cutV_length _ _ _) (e3.hl.t r)))
        exact x4 _ _ _ (e3.grow g) (st.trans g.stp) (.tup (SqT.of upd_same) ((q.cut l h).kp g.kp))
  | list ds =>
    obtain rfl := Option.some.inj hz
    cases q3 with
    | lst f r q =>
      rename_i p xs
      refine .inl (.inl ⟨p, xs, rfl, SqL.of r, fun n hn => ?_⟩)
      have g : Gr F3 H3 (Fz F3 n) (upd H3 n (.lst (cutV xs l h))) := Gr.newF e3.fl hn (e3.hl.lst (Nat.le_trans (cutV_length _ _ _) (e3.hl _ _ (.inl r))))
      exact x4 _ _ _ (e3.grow g) (st.trans g.stp) (.lst (.inr rfl) upd_same ((q.cut l h).kp g.kp))
  | str w =>
    have hz : (if w.length ≤ sizeLine then some (PyData.str (cutS w l h)) else none) = some z := hz
    by_cases hw : w.length ≤ sizeLine
    · rw [if_pos hw] at hz
      obtain rfl := Option.some.inj hz
      exact .inr ⟨w, q3.str_inv, hw, x4 _ F3 H3 e3 st (.str _)⟩
    · rw [if_neg hw] at hz
      cases hz
  | _ => cases hz
/-- a[::-1] of a list or a tuple given as a list -/
def revD : D → Option D
  | .list ds => some (.list ds.reverse)
  | _ => none
/-! ### built-in functions -/
def lenD : List D → Option D
  | [.list ds] => some (.int ds.length)
  | [.tuple ds] => some (.int ds.length)
  | [.str z] => if z.length ≤ sizeLine then some (.int z.length) else none
  | _ => none
def rLenA (K : PySem.W.Frag) : List V → Hp → VK → Prop := fun xs H Q => (∃ p ys, xs = [.ref p] ∧ (SqL K H p ys ∨ SqT K H p ys) ∧ Q (.int ys.length) H) ∨ ∃ z, xs = [.str z] ∧ z.length ≤ sizeLine ∧ Q (.int z.length) H
theorem call_lenA : CallR X (.builtin "len") (rLenA X.K) := CallR.or call_len_seq call_len_str
theorem fd_len : FnD K (rLenA K) lenD := by
  intro F H xs ds d Q fl hl hx h k
  unfold lenD at h
  split at h
  · obtain rfl := Option.some.inj h
    cases hx with
    | cons a b =>
      cases b
      cases a with
      | lst f r q => exact .inl ⟨_, _, rfl, .inl (SqL.of r), by rw [q.length]; exact k _ F H (Gr.refl fl hl) (.int _)⟩
  · obtain rfl := Option.some.inj h
    cases hx with
    | cons a b =>
      cases b
      cases a with
      | tup r q => exact .inl ⟨_, _, rfl, .inr r, by rw [q.length]; exact k _ F H (Gr.refl fl hl) (.int _)⟩
  · split at h
    · rename_i z hz
      obtain rfl := Option.some.inj h
      cases hx with
      | cons a b =>
        cases b
        cases a
        exact .inr ⟨z, rfl, hz, k _ F H (Gr.refl fl hl) (.int _)⟩
    · cases h
  · cases h
def intsOf : List D → Option (List Int)
  | [] => some []
  | .int i :: r => (intsOf r).map (i :: ·)
  | _ :: _ => none
theorem intsOf_inv : ∀ {ds : List D} {ns : List Int}, intsOf ds = some ns → ds = ns.map PyData.int
  | [], ns, h => by obtain rfl := Option.some.inj h; rfl
  | .int i :: r, ns, h => by
    unfold intsOf at h
    cases e : intsOf r with
    | none => rw [e] at h; cases h
    | some ms =>
      rw [e] at h
      obtain rfl := Option.some.inj h
      rw [intsOf_inv e]; rfl
  | .none :: _, _, h => by cases h
  | .bool _ :: _, _, h => by cases h
  | .str _ :: _, _, h => by cases h
  | .list _ :: _, _, h => by cases h
  | .tuple _ :: _, _, h => by cases h
  | .dict _ :: _, _, h => by cases h
theorem intsOf_map : ∀ ns : List Int, intsOf (ns.map PyData.int) = some ns
  | [] => rfl
  | n :: ns => by
    show (intsOf (ns.map PyData.int)).map (n :: ·) = _
    rw [intsOf_map ns]; rfl
def maxI : List Int → Int
  | [] => 0
  | [n] => n
  | n :: r => max n (maxI r)
theorem maxI_ge : ∀ {ns : List Int} {y : Int}, y ∈ ns → y ≤ maxI ns
  | [], _, h => by cases h
  | [n], y, h => by
    have : y = n := by simpa using h
    subst this; exact Int.le_refl _
  | n :: m :: r, y, h => by
    show y ≤ max n (maxI (m :: r))
    rcases List.mem_cons.mp h with e | e
    · rw [e]; omega
    · have := maxI_ge (ns := m :: r) e
      omega
theorem maxI_mem : ∀ {ns : List Int}, 0 < ns.length → maxI ns ∈ ns
  | [], h => by simp at h
  | [n], _ => by simp [maxI]
  | n :: m :: r, _ => by
    show max n (maxI (m :: r)) ∈ n :: m :: r
    have := maxI_mem (ns := m :: r) (by simp)
    by_cases c : n ≤ maxI (m :: r)
    · rw [Int.max_eq_right c]; exact List.mem_cons_of_mem _ this
    · rw [Int.max_eq_left (by omega)]; exact List.mem_cons_self
def maxD : List D → Option D
  | [.list ds] => (intsOf ds).bind fun ns => if 0 < ns.length then some (.int (maxI ns)) else none
  | [.int i, .int j] => some (.int (max i j))
  | _ => none
def minD : List D → Option D
  | [.int i, .int j] => some (.int (min i j))
  | _ => none
def sumD : List D → Option D
  | [.list ds] => (intsOf ds).map fun ns => .int ns.sum
  | _ => none
def absD : List D → Option D
  | [.int i] => some (.int (if i < 0 then -i else i))
  | _ => none
def int1D : List D → Option D
  | [.int i] => some (.int i)
  | [.bool b] => some (.int (if b then 1 else 0))
  | _ => none
def rMax2 : List V → Hp → VK → Prop := fun xs H Q => ∃ i j, xs = [.int i, .int j] ∧ Q (.int (if j > i then j else i)) H
def rMin2 : List V → Hp → VK → Prop := fun xs H Q => ∃ i j, xs = [.int i, .int j] ∧ Q (.int (if j < i then j else i)) H
def rMaxA (K : PySem.W.Frag) : List V → Hp → VK → Prop := fun xs H Q => rMax K xs H Q ∨ rMax2 xs H Q
theorem call_maxA (hc : X.calm = true) : CallR X (.builtin "max") (rMaxA X.K) := CallR.or (cr_max hc) (call_max2 hc)
theorem Das.one {F : Addr → Prop} {H : Hp} {xs : List V} {d : D} (h : Das K F H xs [d]) : ∃ v, xs = [v] ∧ Da K F H v d := by
  cases h with
  | cons a b => cases b; exact ⟨_, rfl, a⟩
theorem Das.two {F : Addr → Prop} {H : Hp} {xs : List V} {d e : D} (h : Das K F H xs [d, e]) : ∃ v w, xs = [v, w] ∧ Da K F H v d ∧ Da K F H w e := by
  cases h with
  | cons a b =>
    obtain ⟨w, rfl, c⟩ := b.one
    exact ⟨_, _, rfl, a, c⟩
theorem fd_max : FnD K (rMaxA K) maxD := by
  intro F H xs ds d Q fl hl hx h k
  unfold maxD at h
  split at h
  · rename_i es
    obtain ⟨v, rfl, q⟩ := hx.one
    cases e : intsOf es with
    | none => rw [e] at h; cases h
    | some ns =>
      rw [e] at h
      have h : (if 0 < ns.length then some (PyData.int (maxI ns)) else none) = some d := h
      by_cases c : 0 < ns.length
      · rw [if_pos c] at h
        obtain rfl := Option.some.inj h
        obtain rfl := intsOf_inv e
        cases q with
        | lst f r q =>
          obtain rfl := q.int_inv
          refine .inl ⟨_, ns, rfl, SqL.of r, c, fun m hm hg => ?_⟩
          have em : m = maxI ns := Int.le_antisymm (maxI_ge hm) (hg _ (maxI_mem c))
          rw [em]
          exact k _ F H (Gr.refl fl hl) (.int _)
      · rw [if_neg c] at h; cases h
  · rename_i i j
    obtain rfl := Option.some.inj h
    obtain ⟨v, w, rfl, q, q2⟩ := hx.two
    refine .inr ⟨i, j, by rw [q.int_inv, q2.int_inv], ?_⟩
    have em : (if j > i then j else i) = max i j := by
      by_cases c : j > i
      · rw [if_pos c]; omega
      · rw [if_neg c]; omega
    rw [em]
    exact k _ F H (Gr.refl fl hl) (.int _)
  · cases h
theorem fd_min : FnD K rMin2 minD := by
  intro F H xs ds d Q fl hl hx h k
  unfold minD at h
  split at h
  · rename_i i j
    obtain rfl := Option.some.inj h
    obtain ⟨v, w, rfl, q, q2⟩ := hx.two
    refine ⟨i, j, by rw [q.int_inv, q2.int_inv], ?_⟩
    have em : (if j < i then j else i) = min i j := by
      by_cases c : j < i
      · rw [if_pos c]; omega
      · rw [if_neg c]; omega
    rw [em]
    exact k _ F H (Gr.refl fl hl) (.int _)
  · cases h
theorem fd_sum : FnD K (rSum K) sumD := by
  intro F H xs ds d Q fl hl hx h k
  unfold sumD at h
  split at h
  · rename_i es
    obtain ⟨v, rfl, q⟩ := hx.one
    cases e : intsOf es with
    | none => rw [e] at h; cases h
    | some ns =>
      rw [e] at h
      obtain rfl := Option.some.inj h
      obtain rfl := intsOf_inv e
      cases q with
      | lst f r q =>
        obtain rfl := q.int_inv
        exact ⟨_, ns, rfl, SqL.of r, k _ F H (Gr.refl fl hl) (.int _)⟩
  · cases h
theorem fd_abs : FnD K (fun xs H Q => ∃ i, xs = [.int i] ∧ Q (.int (if i < 0 then -i else i)) H) absD := by
  intro F H xs ds d Q fl hl hx h k
  unfold absD at h
  split at h
  · rename_i i
    obtain rfl := Option.some.inj h
    obtain ⟨v, rfl, q⟩ := hx.one
    exact ⟨i, by rw [q.int_inv], k _ F H (Gr.refl fl hl) (.int _)⟩
  · cases h
theorem fd_int1 : FnD K (fun xs H Q => (∃ i, xs = [.int i] ∧ Q (.int i) H) ∨ ∃ k, xs = [.bl k] ∧ Q (.int (if k then 1 else 0)) H) int1D := by
  intro F H xs ds d Q fl hl hx h k
  unfold int1D at h
  split at h
  · rename_i i
    obtain rfl := Option.some.inj h
    obtain ⟨v, rfl, q⟩ := hx.one
    exact .inl ⟨i, by rw [q.int_inv], k _ F H (Gr.refl fl hl) (.int _)⟩
  · rename_i b
    obtain rfl := Option.some.inj h
    obtain ⟨v, rfl, q⟩ := hx.one
    cases q
    exact .inr ⟨b, rfl, k _ F H (Gr.refl fl hl) (.int _)⟩
  · cases h
/-! ### list(x), tuple(x) -/
def itemsD : List D → Option (List D)
  | [.list ds] => some ds
  | [.tuple ds] => some ds
  | _ => none
def rListA (K : PySem.W.Frag) : List V → Hp → VK → Prop := fun xs H Q => ∃ p ys, xs = [.ref p] ∧ (SqL K H p ys ∨ SqT K H p ys) ∧ ∀ l, H l = none → Q (.ref l) (upd H l (.lst ys))
def rTupA (K : PySem.W.Frag) : List V → Hp → VK → Prop := fun xs H Q => ∃ p ys, xs = [.ref p] ∧ ((SqL K H p ys ∧ ∀ l, H l = none → Q (.ref l) (upd H l (.tup ys))) ∨ (SqT K H p ys ∧ Q (.ref p) H))
theorem fo_list : FnO K (rListA K) itemsD := by
  intro F H xs ds es Q fl hl hx h k
  unfold itemsD at h
  split at h
  · obtain rfl := Option.some.inj h
    obtain ⟨v, rfl, q⟩ := hx.one
    cases q with
    | lst f r q =>
      refine ⟨_, _, rfl, .inl (SqL.of r), fun l hn => ?_⟩
      have g : Gr F H F (upd H l (.lst _)) := Gr.new fl hn (hl.lst (hl _ _ (.inl r)))
      exact k l _ _ g hn upd_same (q.kp g.kp)
  · obtain rfl := Option.some.inj h
    obtain ⟨v, rfl, q⟩ := hx.one
    cases q with
    | tup r q =>
      refine ⟨_, _, rfl, .inr r, fun l hn => ?_⟩
      have g : Gr F H F (upd H l (.lst _)) := Gr.new fl hn (hl.lst (hl.t r))
      exact k l _ _ g hn upd_same (q.kp g.kp)
  · cases h
def tupleD (ds : List D) : Option D := (itemsD ds).map .tuple
theorem fd_tuple : FnD K (rTupA K) tupleD := by
  intro F H xs ds d Q fl hl hx h k
  unfold tupleD itemsD at h
  split at h
  · obtain rfl := Option.some.inj h
    obtain ⟨v, rfl, q⟩ := hx.one
    cases q with
    | lst f r q =>
      refine ⟨_, _, rfl, .inl ⟨SqL.of r, fun l hn => ?_⟩⟩
      have g : Gr F H F (upd H l (.tup _)) := Gr.new fl hn (hl.tup (hl _ _ (.inl r)))
      exact k _ _ _ g (.tup (SqT.of upd_same) (q.kp g.kp))
  · obtain rfl := Option.some.inj h
    obtain ⟨v, rfl, q⟩ := hx.one
    cases q with
    | tup r q => exact ⟨_, _, rfl, .inr ⟨r, k _ F H (Gr.refl fl hl) (.tup r q)⟩⟩
  · cases h
/-! ### isinstance(x, T), T built in -/
def tyD : D → String
  | .none => "NoneType"
  | .bool _ => "bool"
  | .int _ => "int"
  | .str _ => "str"
  | .list _ => "list"
  | .tuple _ => "tuple"
  | .dict _ => "dict"
def isaN (T t : String) : Bool := t == T || (t == "bool" && T == "int")
def isaD (T : String) (d : D) : Bool := isaN T (tyD d)
theorem tyX_of {F : Addr → Prop} {H : Hp} {x : V} {d : D} (h : Da K F H x d) : TyX K H x (.type (tyD d)) := by
  cases h with
  | non => exact .base .non
  | bl b => exact .base (.bl b)
  | int i => exact .base (.int i)
  | str z => exact .base (.str z)
  | lst _ r _ => exact .base (.lst r)
  | tup r _ =>
    rcases r with (r | ⟨o, r⟩) | ⟨o, its, n, h1, h2, _⟩
    · exact .base (.tup r)
    · exact .fTuple r
    · exact .kTuple h1 h2
  | dct _ r _ => exact .base (.dK r)
structure TyOk (T : String) : Prop where
  ok : ∀ d : D, kitB (tyD d) T = some (isaD T d)
theorem tyok_tuple : TyOk "tuple" := ⟨fun d => by cases d <;> (simp only [tyD, isaD]; decide +kernel)⟩
theorem tyok_list : TyOk "list" := ⟨fun d => by cases d <;> (simp only [tyD, isaD]; decide +kernel)⟩
theorem tyok_int : TyOk "int" := ⟨fun d => by cases d <;> (simp only [tyD, isaD]; decide +kernel)⟩
theorem tyok_bool : TyOk "bool" := ⟨fun d => by cases d <;> (simp only [tyD, isaD]; decide +kernel)⟩
theorem tyok_str : TyOk "str" := ⟨fun d => by cases d <;> (simp only [tyD, isaD]; decide +kernel)⟩
theorem tyok_dict : TyOk "dict" := ⟨fun d => by cases d <;> (simp only [tyD, isaD]; decide +kernel)⟩
def mIsa (T : String) (a : R → M (D × R)) : R → M (D × R) := fun ρ => a ρ >>= fun p => .ok (.bool (isaD T p.1), p.2)
theorem ev_isa {T : String} (hT : TyOk T) {ta : TE} {ga : R → M (D × R)} (ha : EvE K mg E ta ga) : EvE K mg E (tCB (rIsi K) (tCons ta (tCons (tC (.ty T)) tNil))) (mIsa T ga) := by
  intro F σ H ρ Q e x
  refine ha F σ H ρ _ e ((RP.bind x).later Stp.refl fun d ρ1 _ x1 v F1 H1 e1 s1 q1 => ?_)
  exact ⟨v, .ty T, .type (tyD d), .type T, isaD T d, rfl, .ty T, tyX_of q1, kit_ty (hT.ok d), x1 _ F1 H1 e1 s1 (.bl _)⟩
/-! ### str(n) -/
def strD : List D → Option D
  | [.int i] => if i.natAbs.log2 < 1920 then some (.str (toString i)) else none
  | _ => none
theorem fd_str : FnD K (fun xs H Q => ∃ i, xs = [.int i] ∧ i.natAbs.log2 < 1920 ∧ Q (.str (toString i)) H) strD := by
  intro F H xs ds d Q fl hl hx h k
  unfold strD at h
  split at h
  · rename_i i
    split at h
    · rename_i c
      obtain rfl := Option.some.inj h
      obtain ⟨v, rfl, q⟩ := hx.one
      exact ⟨i, by rw [q.int_inv], c, k _ F H (Gr.refl fl hl) (.str _)⟩
    · cases h
  · cases h
/-! ### not x as a value -/
def mNotV (f : D → Option Bool) (a : R → M (D × R)) : R → M (D × R) := fun ρ => a ρ >>= fun p => lo (f p.1) >>= fun b => .ok (.bool (!b), p.2)
end
end DL

/-! DL5: what is walked (EvI), targets (EvG), comprehensions. -/
namespace DL
open PySem PySem.Spec PyProof.Rows L2
section
variable {X : Cx} {K : PySem.W.Frag} {mg : Str → Option Value} {E : XK}
/-- the walk J gives the data ds, from (F, H) on -/
def Wk (K : PySem.W.Frag) (J : It) (F : Addr → Prop) (H : Hp) (ds : List D) : Prop :=
  ∃ (G : Hp → Prop) (Y : Nat → Hp → V → Hp → Prop), Walk J ds.length G Y ∧ (∀ F1 H1, Kp F H F1 H1 → G H1) ∧
    ∀ i F1 H1 x H2, Kp F H F1 H1 → (∀ a, F1 a → H1 a ≠ none) → HL H1 → Y i H1 x H2 → ∀ d, ds[i]? = some d → ∃ F2, Gr F1 H1 F2 H2 ∧ Da K F2 H2 x d
def EvI (K : PySem.W.Frag) (mg : Str → Option Value) (E : XK) (t : TI) (g : R → M (List D × R)) : Prop :=
  ∀ (F : Addr → Prop) (σ : L2.St) (H : Hp) (ρ : R) (Q : It → Hp → Prop), EnvOk K F σ H ρ →
    RP K mg E σ ρ F H (g ρ) (fun ds ρ' => ∀ J F' H', EnvOk K F' σ H' ρ' → Stp σ ρ F H σ ρ' F' H' → Wk K J F' H' ds → Q J H') → t σ H Q
structure DI (X : Cx) (E : XK) (tg e : Expr) (t : TI) (g : R → M (List D × R)) : Prop where
  pi : PI X tg e t
  ev : EvI X.K X.mg E t g
theorem PI.or {tg e : Expr} {t u : TI} (h1 : PI X tg e t) (h2 : PI X tg e u) : PI X tg e fun σ H Q => t σ H Q ∨ u σ H Q := ⟨fun pins s σ H Q I h => by
  rcases h with h | h
  · exact h1.run pins s σ H Q I h
  · exact h2.run pins s σ H Q I h⟩
/-! ### data walked -/
def signsD (z : Str) : List D := z.cps.toList.map fun c => .str ⟨#[c]⟩
def seqItems : D → Option (List D)
  | .list ds => some ds
  | .tuple ds => some ds
  | .str z => some (signsD z)
  | _ => none
def mItems (a : R → M (D × R)) : R → M (List D × R) := fun ρ => a ρ >>= fun p => lo (seqItems p.1) >>= fun z => .ok (z, p.2)
def iSeq (K : PySem.W.Frag) (ta : TE) : TI := fun σ H Q => (iList K ta σ H Q ∨ iTup K ta σ H Q) ∨ iStr ta σ H Q
theorem pi_seq {tg e : Expr} {ta : TE} (h : PE X e ta) : PI X tg e (iSeq X.K ta) := PI.or (PI.or (pi_list h) (pi_tup h)) (pi_str h)
theorem wk_list {F : Addr → Prop} {H : Hp} {a : Addr} {xs : List V} {ds : List D} (f : F a) (r : H a = some (.lst xs)) (q : Das K F H xs ds) : Wk K (Itl K a) F H ds := by
  refine ⟨_, _, q.length ▸ walk_list (K := K) (a := a) (xs := xs), fun F1 H1 k => SqL.of ((k.fro a f).2 _ r), fun i F1 H1 x H2 k fl hl y d hd => ?_⟩
  obtain ⟨rfl, hx⟩ := y
  obtain ⟨v, h1, h2⟩ := (q.kp k).get hd
  rw [hx] at h1
  obtain rfl := Option.some.inj h1
  exact ⟨F1, Gr.refl fl hl, h2⟩
theorem wk_tup {F : Addr → Prop} {H : Hp} {a : Addr} {xs : List V} {ds : List D} (r : SqT K H a xs) (q : Das K F H xs ds) : Wk K (Itt K a) F H ds := by
  refine ⟨_, _, q.length ▸ walk_tup (K := K) (a := a) (xs := xs), fun F1 H1 k => k.sqT r, fun i F1 H1 x H2 k fl hl y d hd => ?_⟩
  obtain ⟨rfl, hx⟩ := y
  obtain ⟨v, h1, h2⟩ := (q.kp k).get hd
  rw [hx] at h1
  obtain rfl := Option.some.inj h1
  exact ⟨F1, Gr.refl fl hl, h2⟩
theorem wk_str {F : Addr → Prop} {H : Hp} {z : Str} : Wk K (Its z) F H (signsD z) := by
  have e : (signsD z).length = z.cps.size := by unfold signsD; simp
  refine ⟨_, _, e ▸ walk_str (z := z), fun _ _ _ => True.intro, fun i F1 H1 x H2 k fl hl y d hd => ?_⟩
  obtain ⟨rfl, c, hc, rfl⟩ := y
  refine ⟨F1, Gr.refl fl hl, ?_⟩
  unfold signsD at hd
  rw [List.getElem?_map] at hd
  have hc' : z.cps.toList[i]? = some c := by simpa using hc
  rw [hc'] at hd
  obtain rfl := Option.some.inj hd
  exact .str _
theorem ev_seq {ta : TE} {ga : R → M (D × R)} (ha : EvE K mg E ta ga) : EvI K mg E (iSeq K ta) (mItems ga) := by
  intro F σ H ρ Q e x
  have go : ∀ (P : D → Prop) (Q' : VK), (∀ d ρ1, ga ρ = .ok (d, ρ1) → P d) → (∀ d ρ1, P d → RP K mg E σ ρ F H (lo (seqItems d) >>= fun z => .ok (z, ρ1)) (fun ds ρ' => ∀ J F' H', EnvOk K F' σ H' ρ' → Stp σ ρ F H σ ρ' F' H' → Wk K J F' H' ds → Q J H') →
      ∀ v F1 H1, EnvOk K F1 σ H1 ρ1 → Stp σ ρ F H σ ρ1 F1 H1 → Da K F1 H1 v d → Q' v H1) → ta σ H Q' := fun P Q' hP h =>
    ha F σ H ρ _ e ((RP.bind x).later Stp.refl fun d ρ1 hr x1 v F1 H1 e1 s1 q1 => h d ρ1 (hP d ρ1 hr) x1 v F1 H1 e1 s1 q1)
  cases hg : ga ρ with
  | error er =>
    refine .inl (.inl (go (fun _ => False) _ (fun d ρ1 hr => ?_) fun d ρ1 hp => hp.elim))
    rw [hg] at hr; cases hr
  | ok p =>
    have hP : ∀ d ρ1, ga ρ = .ok (d, ρ1) → d = p.1 := fun d ρ1 hr => by
      rw [hg] at hr
      cases hr
      rfl
    cases hd : p.1 with
    | list ds =>
      refine .inl (.inl (go (fun d => d = .list ds) _ (fun d ρ1 hr => (hP d ρ1 hr).trans hd) fun d ρ1 hp x1 v F1 H1 e1 s1 q1 => ?_))
      subst hp
      cases q1 with
      | lst f r q => exact ⟨_, rfl, ⟨_, SqL.of r⟩, x1 _ F1 H1 e1 s1 (wk_list f r q)⟩
    | tuple ds =>
      refine .inl (.inr (go (fun d => d = .tuple ds) _ (fun d ρ1 hr => (hP d ρ1 hr).trans hd) fun d ρ1 hp x1 v F1 H1 e1 s1 q1 => ?_))
      subst hp
      cases q1 with
      | tup r q => exact ⟨_, rfl, ⟨_, r⟩, x1 _ F1 H1 e1 s1 (wk_tup r q)⟩
    | str z =>
      refine .inr (go (fun d => d = .str z) _ (fun d ρ1 hr => (hP d ρ1 hr).trans hd) fun d ρ1 hp x1 v F1 H1 e1 s1 q1 => ?_)
      subst hp
      obtain rfl := q1.str_inv
      exact ⟨z, rfl, x1 _ F1 H1 e1 s1 wk_str⟩
    | _ =>
      refine .inl (.inl (go (fun d => d = p.1) _ hP fun d ρ1 hp x1 v F1 H1 e1 s1 q1 => ?_))
      rw [hp, hd] at x1
      exact x1.elim
/-! ### ranges -/
def rangeD : List D → Option (List D)
  | [.int n] => if n < 2 ^ 40 ∧ -(2 ^ 40) < n then some ((List.range n.toNat).map fun i => .int (i : Nat)) else none
  | [.int a, .int b] => if (a < 2 ^ 40 ∧ -(2 ^ 40) < a) ∧ (b < 2 ^ 40 ∧ -(2 ^ 40) < b) then some ((List.range (b - a).toNat).map fun i => .int (a + (i : Nat))) else none
  | _ => none
def mRng (a : R → M (List D × R)) : R → M (List D × R) := fun ρ => a ρ >>= fun p => lo (rangeD p.1) >>= fun z => .ok (z, p.2)
theorem wk_range {F : Addr → Prop} {H : Hp} {a : Int} {n : Nat} : Wk K (Itr a n) F H ((List.range n).map fun i => .int (a + (i : Nat))) := by
  have e : ((List.range n).map fun i => PyData.int (a + (i : Nat))).length = n := by simp
  refine ⟨fun _ => True, YFn fun i => .int (a + i), by rw [e]; exact walk_range, fun _ _ _ => True.intro, fun i F1 H1 x H2 k fl hl y d hd => ?_⟩
  obtain ⟨rfl, rfl⟩ := y
  refine ⟨F1, Gr.refl fl hl, ?_⟩
  rw [List.getElem?_map] at hd
  cases hi : (List.range n)[i]? with
  | none => rw [hi] at hd; cases hd
  | some j =>
    rw [hi] at hd
    obtain rfl := Option.some.inj hd
    obtain ⟨h1, h2⟩ := List.getElem?_eq_some_iff.mp hi
    rw [List.getElem_range] at h2
    subst h2
    exact .int _
theorem ev_range1 {ta : TA} {ga : R → M (List D × R)} (hl1 : ∀ ρ ds ρ', ga ρ = .ok (ds, ρ') → ds.length = 1) (ha : EvA K mg E ta ga) : EvI K mg E (iRng1 ta) (mRng ga) := by
  intro F σ H ρ Q e x
  refine ha F σ H ρ _ e ((RP.bind x).later Stp.refl fun ds ρ1 hr x1 vs F1 H1 e1 s1 q1 => ?_)
  obtain ⟨z, hz, x2⟩ := RP.pure x1
  replace hz : rangeD ds = some z := hz
  have h1 := hl1 _ _ _ hr
  unfold rangeD at hz
  split at hz
  · rename_i n
    split at hz
    · rename_i c
      obtain rfl := Option.some.inj hz
      obtain ⟨v, rfl, q⟩ := q1.one
      refine ⟨n, by rw [q.int_inv], by omega, by omega, x2 _ F1 H1 e1 s1 ?_⟩
      have w := wk_range (K := K) (F := F1) (H := H1) (a := 0) (n := n.toNat)
      simpa using w
    · cases hz
  · simp at h1
  · cases hz
theorem ev_range2 {ta : TA} {ga : R → M (List D × R)} (hl1 : ∀ ρ ds ρ', ga ρ = .ok (ds, ρ') → ds.length = 2) (ha : EvA K mg E ta ga) : EvI K mg E (iRng2 ta) (mRng ga) := by
  intro F σ H ρ Q e x
  refine ha F σ H ρ _ e ((RP.bind x).later Stp.refl fun ds ρ1 hr x1 vs F1 H1 e1 s1 q1 => ?_)
  obtain ⟨z, hz, x2⟩ := RP.pure x1
  replace hz : rangeD ds = some z := hz
  have h1 := hl1 _ _ _ hr
  unfold rangeD at hz
  split at hz
  · simp at h1
  · rename_i a b
    split at hz
    · rename_i c
      obtain rfl := Option.some.inj hz
      obtain ⟨v, w, rfl, q, q2⟩ := q1.two
      exact ⟨a, b, by rw [q.int_inv, q2.int_inv], ⟨by omega, by omega, by omega, by omega⟩, x2 _ F1 H1 e1 s1 wk_range⟩
    · cases hz
  · cases hz
/-! ### targets -/
def Agree (js : List Nat) (σ σ' : L2.St) : Prop := σ'.length = σ.length ∧ ∀ i : Nat, i ∉ js → σ'[i]? = σ[i]?
theorem Agree.refl {js : List Nat} {σ : L2.St} : Agree js σ σ := ⟨rfl, fun _ _ => rfl⟩
theorem Agree.trans {js ks : List Nat} {σ σ1 σ2 : L2.St} (a : Agree js σ σ1) (b : Agree ks σ1 σ2) : Agree (js ++ ks) σ σ2 := ⟨b.1.trans a.1, fun i h => by
  rw [List.mem_append] at h
  exact (b.2 i fun z => h (.inr z)).trans (a.2 i fun z => h (.inl z))⟩
theorem Agree.mono {js ks : List Nat} {σ σ1 : L2.St} (a : Agree js σ σ1) (h : ∀ i ∈ js, i ∈ ks) : Agree ks σ σ1 := ⟨a.1, fun i n => a.2 i fun z => n (h i z)⟩
theorem wipe_get {σ : L2.St} {i : Nat} : ∀ {vs : List Nat}, (wipe σ vs)[i]? = if i ∈ vs then (σ[i]?).map (fun _ => none) else σ[i]?
  | [] => by simp [wipe]
  | v :: vs => by
    unfold wipe
    by_cases h : v = i
    · subst h
      rw [if_pos List.mem_cons_self]
      by_cases hl : v < σ.length
      · rw [List.getElem?_set_self (by rw [wipe_length]; exact hl)]
        simp [hl]
      · rw [List.getElem?_eq_none (by rw [List.length_set, wipe_length]; omega), List.getElem?_eq_none (by omega)]; rfl
    · rw [List.getElem?_set_ne h, wipe_get]
      by_cases hm : i ∈ vs
      · rw [if_pos hm, if_pos (List.mem_cons_of_mem _ hm)]
      · rw [if_neg hm, if_neg (fun z => (List.mem_cons.mp z).elim (fun e => h e.symm) hm)]
theorem wipe_agree {js vs : List Nat} {σ σ' : L2.St} (a : Agree js σ σ') (h : ∀ i ∈ js, i ∈ vs) : wipe σ' vs = wipe σ vs := by
  apply List.ext_getElem?
  intro i
  rw [wipe_get, wipe_get]
  by_cases hm : i ∈ vs
  · rw [if_pos hm, if_pos hm]
    by_cases hl : i < σ.length
    · rw [List.getElem?_eq_getElem hl, List.getElem?_eq_getElem (by rw [a.1]; exact hl)]; rfl
    · rw [List.getElem?_eq_none (show σ.length ≤ i by omega), List.getElem?_eq_none (show σ'.length ≤ i by rw [a.1]; omega)]
  · rw [if_neg hm, if_neg hm, a.2 i fun z => hm (h i z)]
theorem wipe_wipe (σ : L2.St) (vs : List Nat) : wipe (wipe σ vs) vs = wipe σ vs := wipe_agree (js := vs) ⟨wipe_length σ vs, fun i h => by rw [wipe_get, if_neg h]⟩ fun _ h => h
def EvG (K : PySem.W.Frag) (js : List Nat) (t : TG) (h : D → R → M R) : Prop :=
  ∀ (F : Addr → Prop) (σ : L2.St) (H : Hp) (ρ ρ' : R) (v : V) (d : D) (Q : L2.St → Hp → Prop), EnvOk K F σ H ρ → Da K F H v d → h d ρ = .ok ρ' →
    (∀ σ', EnvOk K F σ' H ρ' → Stp σ ρ F H σ' ρ' F H → Agree js σ σ' → Q σ' H) → t v σ H Q
/-- targets raise nothing -/
def Quiet {α β : Type} (h : α → M β) : Prop := ∀ a c fs, h a ≠ .error (.exc c fs)
structure DG (X : Cx) (tg : Expr) (js : List Nat) (t : TG) (h : D → R → M R) : Prop where
  pg : PG X tg t
  ev : EvG X.K js t h
  qt : ∀ d, Quiet (h d)
/-- a slot gets a datum -/
def mSet (i : Nat) (d : D) : R → M R := fun ρ => if i < ρ.length then .ok (ρ.set i (.d d)) else .error .stuck
theorem own_set {σ : L2.St} {ρ : R} {i j : Nat} {v : V} {s : Sl} {p : Addr} (hs : s.own = false) (h : OwnAt (σ.set i (some v)) (ρ.set i s) j p) : OwnAt σ ρ j p ∧ j ≠ i := by
  obtain ⟨h1, s', h2, h3⟩ := h
  have ne : j ≠ i := fun e => by
    subst e
    rw [List.getElem?_set] at h2
    split at h2
    · split at h2
      · obtain rfl := Option.some.inj h2
        rw [hs] at h3; cases h3
      · cases h2
    · rename_i q
      exact q rfl
  rw [List.getElem?_set_ne (Ne.symm ne)] at h1 h2
  exact ⟨⟨h1, s', h2, h3⟩, ne⟩
theorem EnvOk.setD {F : Addr → Prop} {σ : L2.St} {H : Hp} {ρ : R} {i : Nat} {v : V} {d : D} (e : EnvOk K F σ H ρ) (q : Da K F H v d) (hi : i < ρ.length) : EnvOk K F (σ.set i (some v)) H (ρ.set i (.d d)) where
  len := by rw [List.length_set, List.length_set]; exact e.len
  at_ := fun j s h => by
    by_cases hj : i = j
    · subst hj
      rw [List.getElem?_set_self hi] at h
      obtain rfl := Option.some.inj h
      exact ⟨v, by rw [List.getElem?_set_self (by rw [← e.len]; exact hi)], q⟩
    · rw [List.getElem?_set_ne hj] at h
      rw [List.getElem?_set_ne hj]
      exact e.at_ j s h
  sep := fun a b p h1 h2 => e.sep a b p (own_set rfl h1).1 (own_set rfl h2).1
  fl := e.fl
  hl := e.hl
theorem Stp.setD {F : Addr → Prop} {σ : L2.St} {H : Hp} {ρ : R} {i : Nat} {v : V} {s : Sl} (hs : s.own = false) : Stp σ ρ F H (σ.set i (some v)) (ρ.set i s) F H :=
  ⟨fun _ _ h _ => h, fun _ ⟨j, h⟩ => .inl ⟨j, (own_set hs h).1⟩, fun _ h => h, fun _ h => .inl h, fun _ h => h⟩
theorem agree_set {σ : L2.St} {i : Nat} {v : V} : Agree [i] σ (σ.set i (some v)) := ⟨by rw [List.length_set], fun j h => by rw [List.getElem?_set_ne (by intro z; exact h (by simp [z]))]⟩
theorem eg_name {i : Nat} : EvG K [i] (gName i) (mSet i) := by
  intro F σ H ρ ρ' v d Q e q h k
  unfold mSet at h
  split at h
  · rename_i hi
    cases h
    exact k _ (e.setD q hi) (Stp.setD rfl) agree_set
  · cases h
theorem mSet_quiet {i : Nat} (d : D) : Quiet (mSet i d) := by
  intro ρ c fs h
  unfold mSet at h
  split at h <;> cases h
def EvGs (K : PySem.W.Frag) (js : List Nat) (t : TGs) (h : List D → R → M R) : Prop :=
  ∀ (F : Addr → Prop) (σ : L2.St) (H : Hp) (ρ ρ' : R) (vs : List V) (ds : List D) (Q : L2.St → Hp → Prop), EnvOk K F σ H ρ → Das K F H vs ds → h ds ρ = .ok ρ' →
    (∀ σ', EnvOk K F σ' H ρ' → Stp σ ρ F H σ' ρ' F H → Agree js σ σ' → Q σ' H) → t vs σ H Q
structure DGs (X : Cx) (tg : List Expr) (js : List Nat) (n : Nat) (t : TGs) (h : List D → R → M R) : Prop where
  pg : PGs X tg t
  ev : EvGs X.K js t h
  qt : ∀ d, Quiet (h d)
  len : ∀ ds ρ ρ', h ds ρ = .ok ρ' → ds.length = n
def gtNil : List D → R → M R := fun ds ρ => match ds with
  | [] => .ok ρ
  | _ => .error .stuck
def gtCons (h : D → R → M R) (hs : List D → R → M R) : List D → R → M R := fun ds ρ => match ds with
  | d :: r => h d ρ >>= fun ρ1 => hs r ρ1
  | _ => .error .stuck
def gtTup (hs : List D → R → M R) : D → R → M R := fun d ρ => match d with
  | .tuple ds => hs ds ρ
  | _ => .error .stuck
theorem dgs_nil : DGs X [] [] 0 gNil gtNil where
  pg := pgs_nil
  ev := fun F σ H ρ ρ' vs ds Q e q h k => by
    cases ds with
    | nil =>
      cases h
      cases q
      exact ⟨rfl, k σ e Stp.refl Agree.refl⟩
    | cons _ _ => cases h
  qt := fun ds ρ c fs h => by
    cases ds <;> cases h
  len := fun ds ρ ρ' h => by
    cases ds with
    | nil => rfl
    | cons _ _ => cases h
theorem dgs_cons {e : Expr} {es : List Expr} {js ks : List Nat} {n : Nat} {t : TG} {u : TGs} {h : D → R → M R} {hs : List D → R → M R} (a : DG X e js t h) (b : DGs X es ks n u hs) (hst : (assignEach (e :: es) X.env).map (·.2) = assign e X.env :: (assignEach es X.env).map (·.2) := by rfl) :
    DGs X (e :: es) (js ++ ks) (n + 1) (gCons t u) (gtCons h hs) where
  pg := pgs_cons a.pg b.pg hst
  ev := fun F σ H ρ ρ' vs ds Q e q g k => by
    cases q with
    | nil => cases g
    | cons q1 q2 =>
      rename_i v ws d es'
      have g : (h d ρ >>= fun ρ1 => hs es' ρ1) = .ok ρ' := g
      cases hr : h d ρ with
      | error z => rw [hr] at g; cases g
      | ok ρ1 =>
        rw [hr] at g
        refine ⟨v, ws, rfl, a.ev F σ H ρ ρ1 v d _ e q1 hr fun σ1 e1 s1 a1 => ?_⟩
        exact b.ev F σ1 H ρ1 ρ' ws es' Q e1 q2 g fun σ2 e2 s2 a2 => k σ2 e2 (s1.trans s2) (a1.trans a2)
  qt := fun ds ρ c fs g => by
    cases ds with
    | nil => cases g
    | cons d es' =>
      have g : (h d ρ >>= fun ρ1 => hs es' ρ1) = .error (.exc c fs) := g
      cases hr : h d ρ with
      | error z =>
        rw [hr] at g
        cases z with
        | stuck => cases g
        | exc c' fs' => exact a.qt d ρ c' fs' hr
      | ok ρ1 =>
        rw [hr] at g
        exact b.qt es' ρ1 c fs g
  len := fun ds ρ ρ' g => by
    cases ds with
    | nil => cases g
    | cons d es' =>
      have g : (h d ρ >>= fun ρ1 => hs es' ρ1) = .ok ρ' := g
      cases hr : h d ρ with
      | error z => rw [hr] at g; cases g
      | ok ρ1 =>
        rw [hr] at g
        rw [List.length_cons, b.len es' ρ1 ρ' g]
theorem dg_tup {es : List Expr} {k n : Nat} {js : List Nat} {t : TGs} {hs : List D → R → M R} {pos : Pos} (hc : X.calm = true) (b : DGs X es js n t hs) (hn : (assignEach es X.env).length = n := by rfl) (hst : (assignEach es X.env).findIdx? (·.1) = none := by rfl) :
    DG X (.Tuple es k pos) js (gTup X.K n t) (gtTup hs) where
  pg := pg_tup hc b.pg hn hst
  ev := fun F σ H ρ ρ' v d Q e q g kk => by
    cases d with
    | tuple ds =>
      have g : hs ds ρ = .ok ρ' := g
      cases q with
      | tup r q =>
        refine ⟨_, _, rfl, r, ?_, b.ev F σ H ρ ρ' _ ds Q e q g kk⟩
        rw [q.length]
        exact b.len ds ρ ρ' g
    | _ => cases g
  qt := fun d ρ c fs g => by
    cases d with
    | tuple ds => exact b.qt ds ρ c fs g
    | _ => cases g
theorem dg_name {i : Nat} {x : Str} {pos : Pos} (h : PG X (.Name x pos) (gName i)) : DG X (.Name x pos) [i] (gName i) (mSet i) := ⟨h, eg_name, mSet_quiet⟩
end
end DL

/-! DL6: comprehensions. -/
namespace DL
open PySem PySem.Spec PyProof.Rows L2
section
variable {X : Cx} {K : PySem.W.Frag} {mg : Str → Option Value} {E : XK}
/-- the slots vs forgotten -/
def wipeR (ρ : R) : List Nat → R
  | [] => ρ
  | v :: vs => (wipeR ρ vs).set v .un
theorem wipeR_length (ρ : R) : ∀ vs, (wipeR ρ vs).length = ρ.length
  | [] => rfl
  | v :: vs => by unfold wipeR; rw [List.length_set, wipeR_length ρ vs]
theorem wipeR_get {ρ : R} {i : Nat} : ∀ {vs : List Nat}, (wipeR ρ vs)[i]? = if i ∈ vs then (ρ[i]?).map (fun _ => Sl.un) else ρ[i]?
  | [] => by simp [wipeR]
  | v :: vs => by
    unfold wipeR
    by_cases h : v = i
    · subst h
      rw [if_pos List.mem_cons_self]
      by_cases hl : v < ρ.length
      · rw [List.getElem?_set_self (by rw [wipeR_length]; exact hl)]
        simp [hl]
      · rw [List.getElem?_eq_none (by rw [List.length_set, wipeR_length]; omega), List.getElem?_eq_none (by omega)]; rfl
    · rw [List.getElem?_set_ne h, wipeR_get]
      by_cases hm : i ∈ vs
      · rw [if_pos hm, if_pos (List.mem_cons_of_mem _ hm)]
      · rw [if_neg hm, if_neg (fun z => (List.mem_cons.mp z).elim (fun e => h e.symm) hm)]
/-- the slots vs as in ρ0 -/
def backR (ρ0 ρ : R) : List Nat → R
  | [] => ρ
  | v :: vs => (backR ρ0 ρ vs).set v (ρ0.getD v .un)
theorem backR_length (ρ0 ρ : R) : ∀ vs, (backR ρ0 ρ vs).length = ρ.length
  | [] => rfl
  | v :: vs => by unfold backR; rw [List.length_set, backR_length ρ0 ρ vs]
theorem backR_get {ρ0 ρ : R} {i : Nat} (hl : ρ0.length = ρ.length) : ∀ {vs : List Nat}, (backR ρ0 ρ vs)[i]? = if i ∈ vs then ρ0[i]? else ρ[i]?
  | [] => by simp [backR]
  | v :: vs => by
    unfold backR
    by_cases h : v = i
    · subst h
      rw [if_pos List.mem_cons_self]
      by_cases hv : v < ρ.length
      · rw [List.getElem?_set_self (by rw [backR_length]; exact hv)]
        have : v < ρ0.length := by omega
        simp [List.getD, this]
      · rw [List.getElem?_eq_none (by rw [List.length_set, backR_length]; omega), List.getElem?_eq_none (by omega)]
    · rw [List.getElem?_set_ne h, backR_get hl]
      by_cases hm : i ∈ vs
      · rw [if_pos hm, if_pos (List.mem_cons_of_mem _ hm)]
      · rw [if_neg hm, if_neg (fun z => (List.mem_cons.mp z).elim (fun e => h e.symm) hm)]
def noOwn (ρ : R) (vs : List Nat) : Bool := vs.all fun v => !((ρ.getD v .un).own)
def compL (vs : List Nat) (tgt : D → R → M R) (tst : R → M (Bool × R)) (elt : R → M (D × R)) : List D → R → M (List D × R)
  | [], ρ => .ok ([], ρ)
  | x :: xs, ρ => tgt x ρ >>= fun ρ1 => tst ρ1 >>= fun b => if b.1 = true then elt b.2 >>= fun y => compL vs tgt tst elt xs (wipeR y.2 vs) >>= fun z => .ok (y.1 :: z.1, z.2) else compL vs tgt tst elt xs (wipeR b.2 vs)
/-- [elt for tgt in it if tst], the names vs the comprehension's own -/
def mLc (vs : List Nat) (it : R → M (List D × R)) (tgt : D → R → M R) (tst : R → M (Bool × R)) (elt : R → M (D × R)) : R → M (List D × R) := fun ρ => it ρ >>= fun p =>
  if p.1.length ≤ sizeLine ∧ noOwn p.2 vs = true then compL vs tgt tst elt p.1 (wipeR p.2 vs) >>= fun q => .ok (q.1, backR p.2 q.2 vs) else .error .stuck
theorem own_wipe {σ : L2.St} {ρ : R} {vs : List Nat} {i : Nat} {p : Addr} (h : OwnAt (wipe σ vs) (wipeR ρ vs) i p) : OwnAt σ ρ i p ∧ i ∉ vs := by
  obtain ⟨h1, s, h2, h3⟩ := h
  rw [wipe_get] at h1
  rw [wipeR_get] at h2
  by_cases hm : i ∈ vs
  · rw [if_pos hm] at h2
    cases e : ρ[i]? with
    | none => rw [e] at h2; cases h2
    | some z =>
      rw [e] at h2
      obtain rfl := Option.some.inj h2
      cases h3
  · rw [if_neg hm] at h1 h2
    exact ⟨⟨h1, s, h2, h3⟩, hm⟩
theorem EnvOk.wipe {F : Addr → Prop} {σ : L2.St} {H : Hp} {ρ : R} (e : EnvOk K F σ H ρ) (vs : List Nat) : EnvOk K F (wipe σ vs) H (wipeR ρ vs) where
  len := by rw [wipeR_length, wipe_length]; exact e.len
  at_ := fun i s h => by
    rw [wipeR_get] at h
    by_cases hm : i ∈ vs
    · rw [if_pos hm] at h
      cases q : ρ[i]? with
      | none => rw [q] at h; cases h
      | some z =>
        rw [q] at h
        obtain rfl := Option.some.inj h
        trivial
    · rw [if_neg hm] at h
      rw [wipe_get, if_neg hm]
      exact e.at_ i s h
  sep := fun a b p h1 h2 => e.sep a b p (own_wipe h1).1 (own_wipe h2).1
  fl := e.fl
  hl := e.hl
theorem Stp.wipe {F : Addr → Prop} {σ : L2.St} {H : Hp} {ρ : R} (vs : List Nat) : Stp σ ρ F H (L2.wipe σ vs) (wipeR ρ vs) F H :=
  ⟨fun _ _ h _ => h, fun _ ⟨j, h⟩ => .inl ⟨j, (own_wipe h).1⟩, fun _ h => h, fun _ h => .inl h, fun _ h => h⟩
/-- the block's end: the slots of its own names stand as before -/
theorem own_back {σ : L2.St} {ρ0 ρ : R} {vs : List Nat} {i : Nat} {p : Addr} (hl : ρ0.length = ρ.length) (no : noOwn ρ0 vs = true) (h : OwnAt σ (backR ρ0 ρ vs) i p) : OwnAt (L2.wipe σ vs) ρ i p := by
  obtain ⟨h1, s, h2, h3⟩ := h
  rw [backR_get hl] at h2
  by_cases hm : i ∈ vs
  · rw [if_pos hm] at h2
    have q := List.all_eq_true.mp no i hm
    have e : ρ0.getD i .un = s := by simp [List.getD, h2]
    rw [e, h3] at q
    cases q
  · rw [if_neg hm] at h2
    exact ⟨by rw [wipe_get, if_neg hm]; exact h1, s, h2, h3⟩
theorem EnvOk.back {F0 F : Addr → Prop} {σ : L2.St} {H0 H : Hp} {ρ0 ρ : R} {vs : List Nat} (e0 : EnvOk K F0 σ H0 ρ0) (e : EnvOk K F (L2.wipe σ vs) H ρ) (no : noOwn ρ0 vs = true) (k : Kp F0 H0 F H) : EnvOk K F σ H (backR ρ0 ρ vs) := by
  have hl : ρ0.length = ρ.length := by rw [e0.len, e.len, wipe_length]
  refine ⟨by rw [backR_length, e.len, wipe_length], fun i s h => ?_, fun a b p h1 h2 => e.sep a b p (own_back hl no h1) (own_back hl no h2), e.fl, e.hl⟩
  rw [backR_get hl] at h
  by_cases hm : i ∈ vs
  · rw [if_pos hm] at h
    have q := List.all_eq_true.mp no i hm
    have es : ρ0.getD i .un = s := by simp [List.getD, h]
    rw [es] at q
    refine (e0.at_ i s h).kp k (fun _ _ _ ho => ?_) fun _ _ ho => ?_
    · rw [ho] at q; cases q
    · rw [ho] at q; cases q
  · rw [if_neg hm] at h
    have q := e.at_ i s h
    rw [wipe_get, if_neg hm] at q
    exact q
theorem Stp.back {F0 F : Addr → Prop} {σ : L2.St} {H0 H : Hp} {ρ0 ρ : R} {vs : List Nat} (hl : ρ0.length = ρ.length) (no : noOwn ρ0 vs = true) (s : Stp σ ρ0 F0 H0 (L2.wipe σ vs) ρ F H) : Stp σ ρ0 F0 H0 σ (backR ρ0 ρ vs) F H :=
  ⟨s.keep, fun a ⟨i, h⟩ => s.own a ⟨i, own_back hl no h⟩, s.f0, s.f1, s.live⟩
theorem ev_lc {ti : TI} {g : TG} {tt : TT} {te : TE} {vs js : List Nat} {it : R → M (List D × R)} {tgt : D → R → M R} {tst : R → M (Bool × R)} {elt : R → M (D × R)}
    (hi : EvI K mg E ti it) (hg : EvG K js g tgt) (hq : ∀ d, Quiet (tgt d)) (hj : ∀ i ∈ js, i ∈ vs) (ht : EvT K mg E tt tst) (he : EvE K mg E te elt) : EvO K mg E (tLc ti g tt te vs) (mLc vs it tgt tst elt) := by
  intro F σ H ρ Q e x
  refine hi F σ H ρ _ e ((RP.bind x).later Stp.refl fun ds ρ1 _ x1 J F1 H1 e1 s1 wk => ?_)
  by_cases hc : ds.length ≤ sizeLine ∧ noOwn ρ1 vs = true
  case neg =>
    have x1' : RP K mg E σ ρ F H (if ds.length ≤ sizeLine ∧ noOwn ρ1 vs = true then compL vs tgt tst elt ds (wipeR ρ1 vs) >>= fun q => .ok (q.1, backR ρ1 q.2 vs) else .error .stuck) _ := x1
    rw [if_neg hc] at x1'
    exact x1'.elim
  have x2 : RP K mg E σ ρ F H (if ds.length ≤ sizeLine ∧ noOwn ρ1 vs = true then compL vs tgt tst elt ds (wipeR ρ1 vs) >>= fun q => .ok (q.1, backR ρ1 q.2 vs) else .error .stuck) _ := x1
  rw [if_pos hc] at x2
  replace x2 := RP.bind x2
  obtain ⟨hlen, no⟩ := hc
  obtain ⟨G, Y, W, hG, hY⟩ := wk
  intro Dl hD
  -- the state ahead of each turn
  let Pv : Nat → Hp → Prop := fun i H' => ∃ F' ρ' acc accD, EnvOk K F' (L2.wipe σ vs) H' ρ' ∧ Stp σ ρ1 F1 H1 (L2.wipe σ vs) ρ' F' H' ∧ H' Dl = some (.lst acc) ∧ Das K F' H' acc accD ∧ ¬ F' Dl ∧ ¬ Ow (L2.wipe σ vs) ρ' Dl ∧ acc.length ≤ i ∧
    RP K mg E σ ρ F H (compL vs tgt tst elt (ds.drop i) ρ') (fun ys ρ2 => ∀ p xs F2 H2, EnvOk K F2 σ H2 (backR ρ1 ρ2 vs) → Stp σ ρ F H σ (backR ρ1 ρ2 vs) F2 H2 → H p = none → H2 p = some (.lst xs) → Das K F2 H2 xs (accD ++ ys) → ¬ F2 p → ¬ Ow σ (backR ρ1 ρ2 vs) p → Q (.ref p) H2)
  refine lc_it W Pv ?_ ?_ ?_ ?_
  · -- the start
    have g0 : Gr F1 H1 F1 (upd H1 Dl (.lst [])) := Gr.new e1.fl hD (e1.hl.lst (Nat.zero_le _))
    refine ⟨F1, wipeR ρ1 vs, [], [], (e1.wipe vs).grow g0, (Stp.wipe vs).trans g0.stp, upd_same, .nil, free_fz e1 hD, fun z => free_ow e1 hD ?_, Nat.le_refl _, ?_⟩
    · obtain ⟨i, h⟩ := z
      exact ⟨i, (own_wipe h).1⟩
    · exact x2
  · rintro i H' hi ⟨F', ρ', acc, accD, e', s', _⟩
    exact hG F' H' (s'.kp e1)
  · rintro i y H' H2 hi ⟨F', ρ', acc, accD, e', s', hd, qa, nf, no', la, xr⟩ hy
    have hdi : ds[i]? = some ds[i] := List.getElem?_eq_getElem hi
    obtain ⟨F2, g2, q2⟩ := hY i F' H' y H2 (s'.kp e1) e'.fl e'.hl hy ds[i] hdi
    have hdrop : ds.drop i = ds[i] :: ds.drop (i + 1) := List.drop_eq_getElem_cons hi
    rw [hdrop] at xr
    have xr2 : RP K mg E σ ρ F H (tgt ds[i] ρ' >>= fun ρ1 => tst ρ1 >>= fun b => if b.1 = true then elt b.2 >>= fun y => compL vs tgt tst elt (ds.drop (i + 1)) (wipeR y.2 vs) >>= fun z => .ok (y.1 :: z.1, z.2) else compL vs tgt tst elt (ds.drop (i + 1)) (wipeR b.2 vs)) _ := xr
    obtain ⟨ρ3, h3, x3⟩ := RP.ok xr2 (fun c fs h => hq _ ρ' c fs h)
    refine hg F2 (L2.wipe σ vs) H2 ρ' ρ3 y ds[i] _ (e'.grow g2) q2 h3 fun σ3 e3 s3 a3 => ⟨?_, ?_⟩
    · rw [wipe_agree a3 hj, wipe_wipe]
    have base : Stp σ ρ F H σ3 ρ3 F2 H2 := ((s1.trans s').trans g2.stp).trans s3
    refine ht F2 σ3 H2 ρ3 _ e3 ((RP.bind x3).later base fun b ρ4 _ x4 F4 H4 e4 s4 => ?_)
    have hD2 : H2 Dl = some (.lst acc) := g2.keep _ _ hd
    have nO : ∀ {σx ρx Fx Hx}, Stp σ3 ρ3 F2 H2 σx ρx Fx Hx → ¬ Ow σx ρx Dl := fun s z => by
      rcases s.own Dl z with z | z
      · rcases s3.own Dl z with z | z
        · exact no' z
        · rw [hD2] at z; cases z
      · rw [hD2] at z; cases z
    have nF2 : ¬ F2 Dl := fun z => by
      rcases g2.f1 Dl z with z | z
      · exact nf z
      · rw [hd] at z; cases z
    have nFx : ∀ {σx ρx Fx Hx}, Stp σ3 ρ3 F2 H2 σx ρx Fx Hx → ¬ Fx Dl := fun s z => by
      rcases s.f1 Dl z with z | z | z
      · exact nF2 z
      · rw [hD2] at z; cases z
      · exact nO Stp.refl z
    have qa2 := qa.kp g2.kp
    have wσ : L2.wipe σ3 vs = L2.wipe σ vs := by rw [wipe_agree a3 hj, wipe_wipe]
    cases b with
    | false =>
      show Pv (i + 1) H4
      have x4' : RP K mg E σ ρ F H (compL vs tgt tst elt (ds.drop (i + 1)) (wipeR ρ4 vs)) _ := x4
      refine ⟨F4, wipeR ρ4 vs, acc, accD, wσ ▸ e4.wipe vs, ?_, s4.keep _ _ hD2 (nO Stp.refl), qa2.kp (s4.kp e3), nFx s4, fun z => ?_, by omega, x4'⟩
      · exact ((s'.trans g2.stp).trans (s3.trans s4)).trans (wσ ▸ Stp.wipe vs)
      · obtain ⟨k, z⟩ := z
        rw [← wσ] at z
        exact nO s4 ⟨k, (own_wipe z).1⟩
    | true =>
      show te σ3 H4 fun y H4 => ∃ acc, H4 Dl = some (.lst acc) ∧ acc.length < sizeLine ∧ Pv (i + 1) (upd H4 Dl (.lst (acc ++ [y])))
      have x4' : RP K mg E σ ρ F H (elt ρ4 >>= fun y => compL vs tgt tst elt (ds.drop (i + 1)) (wipeR y.2 vs) >>= fun z => .ok (y.1 :: z.1, z.2)) _ := x4
      refine he F4 σ3 H4 ρ4 _ e4 ((RP.bind x4').later (base.trans s4) fun d ρ5 _ x5 v F5 H5 e5 s5 q5 => ?_)
      have s45 := s4.trans s5
      have hD5 : H5 Dl = some (.lst acc) := s45.keep _ _ hD2 (nO Stp.refl)
      have qa5 := qa2.kp (s45.kp e3)
      have hz : acc.length < sizeLine := by omega
      refine ⟨acc, hD5, hz, ?_⟩
      have e6 := wσ ▸ e5.wipe vs
      have nO6 : ¬ Ow (L2.wipe σ vs) (wipeR ρ5 vs) Dl := fun z => by
        obtain ⟨k, z⟩ := z
        rw [← wσ] at z
        exact nO s45 ⟨k, (own_wipe z).1⟩
      have kD : Kp F5 H5 F5 (upd H5 Dl (.lst (acc ++ [v]))) := ⟨fun a xs h => by rw [upd_ne (ne_of h hD5 (fun z => by cases z))]; exact h, fun a o u h => by rw [upd_ne (ne_of h hD5 (fun z => by cases z))]; exact h, fun a h => ⟨h, fun o q => by rw [upd_ne (fun z => nFx s45 (Eq.mp (congrArg F5 z) h))]; exact q⟩⟩
      have e7 : EnvOk K F5 (L2.wipe σ vs) (upd H5 Dl (.lst (acc ++ [v]))) (wipeR ρ5 vs) := by
        refine ⟨e6.len, fun k s hs => (e6.at_ k s hs).kp kD (fun p xs hv ho q => ?_) (fun _ _ _ n => n), e6.sep, fun a h => ?_, e6.hl.lst (by rw [List.length_append]; exact hz)⟩
        · rw [upd_ne (fun z => nO6 (Eq.mp (congrArg (Ow (L2.wipe σ vs) (wipeR ρ5 vs)) z) ⟨k, hv, s, hs, ho⟩))]; exact q
        · by_cases ha : a = Dl
          · rw [ha, upd_same]; simp
          · rw [upd_ne ha]; exact e6.fl a h
      have s7 : Stp σ ρ1 F1 H1 (L2.wipe σ vs) (wipeR ρ5 vs) F5 (upd H5 Dl (.lst (acc ++ [v]))) := by
        have s6 := ((s'.trans g2.stp).trans (s3.trans s45)).trans (wσ ▸ Stp.wipe vs : Stp σ3 ρ5 F5 H5 (L2.wipe σ vs) (wipeR ρ5 vs) F5 H5)
        refine ⟨fun a o h n => ?_, s6.own, s6.f0, s6.f1, fun a h => ?_⟩
        · rw [upd_ne (ne_of_none h hD)]
          exact s6.keep a o h n
        · by_cases ha : a = Dl
          · rw [ha, upd_same]; simp
          · rw [upd_ne ha]; exact s6.live a h
      refine ⟨F5, wipeR ρ5 vs, acc ++ [v], accD ++ [d], e7, s7, upd_same, (qa5.kp kD).append (.cons (q5.kp kD) .nil), nFx s45, nO6, by rw [List.length_append]; show acc.length + 1 ≤ i + 1; omega, ?_⟩
      refine (RP.bind x5).later Stp.refl fun ys ρ6 _ x6 p xs F6 H6 e8 s8 n8 h8 q8 nf8 no8 => x6 p xs F6 H6 e8 s8 n8 h8 ?_ nf8 no8
      rw [List.append_assoc] at q8
      exact q8
  · rintro H' ⟨F', ρ', acc, accD, e', s', hd, qa, nf, no', la, xr⟩
    rw [List.drop_length] at xr
    have xr2 : ∀ p xs F2 H2, EnvOk K F2 σ H2 (backR ρ1 ρ' vs) → Stp σ ρ F H σ (backR ρ1 ρ' vs) F2 H2 → H p = none → H2 p = some (.lst xs) → Das K F2 H2 xs (accD ++ []) → ¬ F2 p → ¬ Ow σ (backR ρ1 ρ' vs) p → Q (.ref p) H2 := xr
    have hl : ρ1.length = ρ'.length := by rw [e1.len, e'.len, wipe_length]
    refine xr2 Dl acc F' H' (e1.back e' no (s'.kp e1)) (s1.trans (s'.back hl no)) (live_free s1.live hD) hd (by rw [List.append_nil]; exact qa) nf fun ⟨i, z⟩ => no' ⟨i, own_back hl no z⟩
/-- no test -/
def mYes : R → M (Bool × R) := fun ρ => .ok (true, ρ)
theorem ev_yes : EvT K mg E tYes mYes := fun F σ H ρ Q e x => x F H e Stp.refl
end
end DL

/-! DL7: calls of defs, defs' promises, statements. -/
namespace DL
open PySem PySem.Spec PyProof.Rows L2
/-- what a def is: from its arguments' slots its value and what the own ones hold behind it -/
abbrev FM := R → M (D × R)
/-- a def's promise -/
def spF (K : PySem.W.Frag) (mg : Str → Option Value) (n : Nat) (f : FM) : Sp := fun vs H Q E => vs.length = n ∧ ∃ (F : Addr → Prop) (ss : R), EnvOk K F (vs.map some) H ss ∧
  RP K mg E (vs.map some) ss F H (f ss) (fun d ss' => ∀ v F' H', EnvOk K F' (vs.map some) H' ss' → Stp (vs.map some) ss F H (vs.map some) ss' F' H' → Da K F' H' v d → Q v H')
/-- an argument: a datum, or the slot that is handed on -/
inductive A where
  | d (x : D)
  | o (j : Nat)
def ArgOk (K : PySem.W.Frag) (F : Addr → Prop) (H : Hp) (σ : L2.St) : V → A → Prop
  | v, .d x => Da K F H v x
  | v, .o j => σ[j]? = some (some v)
inductive ArgsOk (K : PySem.W.Frag) (F : Addr → Prop) (H : Hp) (σ : L2.St) : List V → List A → Prop
  | nil : ArgsOk K F H σ [] []
  | cons {v : V} {vs : List V} {a : A} {as : List A} : ArgOk K F H σ v a → ArgsOk K F H σ vs as → ArgsOk K F H σ (v :: vs) (a :: as)
def EvR (K : PySem.W.Frag) (mg : Str → Option Value) (E : XK) (t : TA) (g : R → M (List A × R)) : Prop :=
  ∀ (F : Addr → Prop) (σ : L2.St) (H : Hp) (ρ : R) (Q : List V → Hp → Prop), EnvOk K F σ H ρ →
    RP K mg E σ ρ F H (g ρ) (fun as ρ' => ∀ vs F' H', EnvOk K F' σ H' ρ' → Stp σ ρ F H σ ρ' F' H' → ArgsOk K F' H' σ vs as → Q vs H') → t σ H Q
structure DR (X : Cx) (E : XK) (es : List Expr) (t : TA) (g : R → M (List A × R)) : Prop where
  pa : PA X es t
  ev : EvR X.K X.mg E t g
def aNil : R → M (List A × R) := fun ρ => .ok ([], ρ)
def aD (a : R → M (D × R)) (r : R → M (List A × R)) : R → M (List A × R) := fun ρ => a ρ >>= fun p => r p.2 >>= fun q => .ok (.d p.1 :: q.1, q.2)
def aO (j : Nat) (r : R → M (List A × R)) : R → M (List A × R) := fun ρ => match ρ[j]? with
  | some (.l ds) => r ρ >>= fun q => .ok (.o j :: q.1, q.2)
  | some (.k ds) => r ρ >>= fun q => .ok (.o j :: q.1, q.2)
  | some (.s ds) => r ρ >>= fun q => .ok (.o j :: q.1, q.2)
  | _ => .error .stuck
def slotsOf (ρ : R) (as : List A) : R := as.map fun
  | .d x => .d x
  | .o j => ρ.getD j .un
def ownJs (as : List A) : List Nat := as.filterMap fun
  | .d _ => none
  | .o j => some j
def putB : List A → R → R → R
  | [], _, ρ => ρ
  | .d _ :: as, ss, ρ => putB as ss.tail ρ
  | .o j :: as, ss, ρ => (putB as ss.tail ρ).set j (ss.headD .un)
def mCall (f : FM) (dvs : List D) (ga : R → M (List A × R)) : R → M (D × R) := fun ρ => ga ρ >>= fun p => if (ownJs p.1).Nodup then f (slotsOf p.2 p.1 ++ dvs.map .d) >>= fun q => .ok (q.1, putB p.1 q.2 p.2) else .error .stuck
/-- a mirror whose exceptions are left out -/
def noX (f : FM) : FM := fun ss => match f ss with
  | .error (.exc _ _) => .error .stuck
  | r => r
section
variable {X : Cx} {K : PySem.W.Frag} {mg : Str → Option Value} {E : XK}
theorem ev_anil : EvR K mg E tNil aNil := fun F σ H ρ Q e x => x [] F H e Stp.refl .nil
theorem ArgOk.kp {F F' : Addr → Prop} {H H' : Hp} {σ : L2.St} {v : V} {a : A} (k : Kp F H F' H') (h : ArgOk K F H σ v a) : ArgOk K F' H' σ v a := by
  cases a with
  | d x => exact Da.kp k h
  | o j => exact h
theorem ArgsOk.kp {F F' : Addr → Prop} {H H' : Hp} {σ : L2.St} (k : Kp F H F' H') : ∀ {vs : List V} {as : List A}, ArgsOk K F H σ vs as → ArgsOk K F' H' σ vs as
  | _, _, .nil => .nil
  | _, _, .cons a b => .cons (a.kp k) (ArgsOk.kp k b)
theorem ev_aD {ta : TE} {tr : TA} {ga : R → M (D × R)} {gr : R → M (List A × R)} (ha : EvE K mg E ta ga) (hr : EvR K mg E tr gr) : EvR K mg E (tCons ta tr) (aD ga gr) := by
  intro F σ H ρ Q e x
  refine ha F σ H ρ _ e ((RP.bind x).later Stp.refl fun d ρ1 _ x1 v F1 H1 e1 s1 q1 => ?_)
  refine hr F1 σ H1 ρ1 _ e1 ((RP.go s1 x1).later Stp.refl fun ds ρ2 _ x2 ws F2 H2 e2 s2 q2 => ?_)
  exact x2 (v :: ws) F2 H2 e2 (s1.trans s2) (.cons (show ArgOk K F2 H2 σ v (.d d) from q1.kp (s2.kp e1)) q2)
theorem ev_aO {j : Nat} {tr : TA} {gr : R → M (List A × R)} (hr : EvR K mg E tr gr) : EvR K mg E (tCons (tVar j) tr) (aO j gr) := by
  intro F σ H ρ Q e x
  have go : ∀ p, σ[j]? = some (some (.ref p)) → RP K mg E σ ρ F H (gr ρ >>= fun q => .ok (A.o j :: q.1, q.2)) (fun as ρ' => ∀ vs F' H', EnvOk K F' σ H' ρ' → Stp σ ρ F H σ ρ' F' H' → ArgsOk K F' H' σ vs as → Q vs H') → tCons (tVar j) tr σ H Q := fun p hp x =>
    ⟨.ref p, hp, hr F σ H ρ _ e ((RP.bind x).later Stp.refl fun ds ρ2 _ x2 ws F2 H2 e2 s2 q2 => x2 (.ref p :: ws) F2 H2 e2 s2 (.cons hp q2))⟩
  unfold aO at x
  split at x
  · rename_i ds h
    obtain ⟨p, xs, hp, _⟩ := e.at_ j _ h
    exact go p hp x
  · rename_i ds h
    obtain ⟨p, xs, hp, _⟩ := e.at_ j _ h
    exact go p hp x
  · rename_i ds h
    obtain ⟨p, hp, _⟩ := e.at_ j _ h
    exact go p hp x
  · exact x.elim
theorem dr_nil : DR X E [] tNil aNil := ⟨pa_nil, ev_anil⟩
theorem dr_d {e : Expr} {es : List Expr} {te : TE} {tr : TA} {ga : R → M (D × R)} {gr : R → M (List A × R)} (ha : DE X E e te ga) (hr : DR X E es tr gr) (hs : starEach (e :: es) X.env = (false, eval e X.env) :: starEach es X.env := by rfl) : DR X E (e :: es) (tCons te tr) (aD ga gr) :=
  ⟨pa_cons ha.pe hr.pa hs, ev_aD ha.ev hr.ev⟩
theorem dr_o {j : Nat} {e : Expr} {es : List Expr} {tr : TA} {gr : R → M (List A × R)} (ha : PE X e (tVar j)) (hr : DR X E es tr gr) (hs : starEach (e :: es) X.env = (false, eval e X.env) :: starEach es X.env := by rfl) : DR X E (e :: es) (tCons (tVar j) tr) (aO j gr) :=
  ⟨pa_cons ha hr.pa hs, ev_aO hr.ev⟩

/-! ### the state at a call -/
theorem ArgsOk.len {F : Addr → Prop} {H : Hp} {σ : L2.St} : ∀ {vs : List V} {as : List A}, ArgsOk K F H σ vs as → vs.length = as.length
  | _, _, .nil => rfl
  | _, _, .cons _ b => by simp [ArgsOk.len b]
theorem ArgsOk.get {F : Addr → Prop} {H : Hp} {σ : L2.St} : ∀ {vs : List V} {as : List A} {i : Nat} {a : A}, ArgsOk K F H σ vs as → as[i]? = some a → ∃ v, vs[i]? = some v ∧ ArgOk K F H σ v a
  | _, _, _, _, .nil, e => by simp at e
  | _, _, 0, _, .cons a _, e => by
    obtain rfl := Option.some.inj e
    exact ⟨_, rfl, a⟩
  | _, _, i + 1, a, .cons _ b, e => by
    obtain ⟨v, h1, h2⟩ := ArgsOk.get (i := i) (a := a) b (by simpa using e)
    exact ⟨v, by simpa using h1, h2⟩
theorem slotsOf_len {ρ : R} {as : List A} : (slotsOf ρ as).length = as.length := by unfold slotsOf; rw [List.length_map]
theorem slotsOf_get {ρ : R} {as : List A} {i : Nat} {s : Sl} (h : (slotsOf ρ as)[i]? = some s) : (∃ x, as[i]? = some (.d x) ∧ s = .d x) ∨ ∃ j, as[i]? = some (.o j) ∧ s = ρ.getD j .un := by
  unfold slotsOf at h
  rw [List.getElem?_map] at h
  cases e : as[i]? with
  | none => rw [e] at h; cases h
  | some a =>
    rw [e] at h
    obtain rfl := Option.some.inj h
    cases a with
    | d x => exact .inl ⟨x, rfl, rfl⟩
    | o j => exact .inr ⟨j, rfl, rfl⟩
theorem ownJs_at {as : List A} (nd : (ownJs as).Nodup) {i k j : Nat} (h1 : as[i]? = some (.o j)) (h2 : as[k]? = some (.o j)) : i = k := by
  induction as generalizing i k with
  | nil => simp at h1
  | cons a as ih =>
    have nd' : (ownJs as).Nodup := by
      cases a with
      | d x => exact nd
      | o l => exact (List.nodup_cons.mp nd).2
    have mem : ∀ {m : Nat}, as[m]? = some (.o j) → j ∈ ownJs as := fun {m} h => List.mem_filterMap.mpr ⟨.o j, List.mem_of_getElem? h, rfl⟩
    cases i with
    | zero =>
      cases k with
      | zero => rfl
      | succ k =>
        have e : a = .o j := Option.some.inj h1
        subst e
        exact absurd (mem (m := k) (by simpa using h2)) (List.nodup_cons.mp nd).1
    | succ i =>
      cases k with
      | zero =>
        have e : a = .o j := Option.some.inj h2
        subst e
        exact absurd (mem (m := i) (by simpa using h1)) (List.nodup_cons.mp nd).1
      | succ k => exact congrArg (· + 1) (ih nd' (i := i) (k := k) (by simpa using h1) (by simpa using h2))
/-- the own argument i stands in the caller's slot j -/
theorem own_arg {F : Addr → Prop} {H : Hp} {σ : L2.St} {ρ : R} {vs dv : List V} {as : List A} {ds : List D} (q : ArgsOk K F H σ vs as) {i : Nat} {p : Addr} (h : OwnAt ((vs ++ dv).map some) (slotsOf ρ as ++ ds.map Sl.d) i p) : ∃ j, as[i]? = some (.o j) ∧ OwnAt σ ρ j p := by
  obtain ⟨h1, s, h2, h3⟩ := h
  by_cases hi : i < (slotsOf ρ as).length
  · rw [List.getElem?_append_left hi] at h2
    rcases slotsOf_get h2 with ⟨x, _, rfl⟩ | ⟨j, ha, rfl⟩
    · cases h3
    · obtain ⟨v, hv, ho⟩ := q.get ha
      have hv' : ((vs ++ dv).map some)[i]? = some (some v) := by
        rw [List.getElem?_map, List.getElem?_append_left (List.getElem?_eq_some_iff.mp hv).1, hv]; rfl
      rw [hv'] at h1
      cases h1
      refine ⟨j, ha, ho, ?_⟩
      cases e : ρ[j]? with
      | none =>
        have : ρ.getD j .un = .un := by simp [List.getD, e]
        rw [this] at h3; cases h3
      | some s =>
        have : ρ.getD j .un = s := by simp [List.getD, e]
        rw [this] at h3
        exact ⟨s, rfl, h3⟩
  · rw [List.getElem?_append_right (by omega), List.getElem?_map] at h2
    cases e : ds[i - (slotsOf ρ as).length]? with
    | none => rw [e] at h2; cases h2
    | some d =>
      rw [e] at h2
      obtain rfl := Option.some.inj h2
      cases h3
theorem env_call {F : Addr → Prop} {H : Hp} {σ : L2.St} {ρ : R} {vs dv : List V} {as : List A} {ds : List D} (e : EnvOk K F σ H ρ) (q : ArgsOk K F H σ vs as) (qd : Das K F H dv ds) (nd : (ownJs as).Nodup) : EnvOk K F ((vs ++ dv).map some) H (slotsOf ρ as ++ ds.map Sl.d) where
  len := by rw [List.length_append, slotsOf_len, List.length_map, List.length_map, List.length_append, q.len, qd.length]
  at_ := fun i s h => by
    by_cases hi : i < (slotsOf ρ as).length
    · rw [List.getElem?_append_left hi] at h
      have hiv : i < vs.length := by rw [q.len, ← slotsOf_len (ρ := ρ)]; exact hi
      rw [List.getElem?_map, List.getElem?_append_left hiv]
      rcases slotsOf_get h with ⟨x, ha, rfl⟩ | ⟨j, ha, rfl⟩
      · obtain ⟨v, hv, ho⟩ := q.get ha
        exact ⟨v, by rw [hv]; rfl, ho⟩
      · obtain ⟨v, hv, ho⟩ := q.get ha
        cases es : ρ[j]? with
        | none =>
          have : ρ.getD j .un = .un := by simp [List.getD, es]
          rw [this]; trivial
        | some s =>
          have : ρ.getD j .un = s := by simp [List.getD, es]
          rw [this]
          have z := e.at_ j s es
          have ho : σ[j]? = some (some v) := ho
          rw [ho] at z
          rw [hv]
          exact z
    · have hl : (slotsOf ρ as).length = vs.length := by rw [slotsOf_len, q.len]
      rw [List.getElem?_append_right (by omega), List.getElem?_map] at h
      cases ed : ds[i - (slotsOf ρ as).length]? with
      | none => rw [ed] at h; cases h
      | some d =>
        rw [ed] at h
        obtain rfl := Option.some.inj h
        obtain ⟨v, hv, hd⟩ := qd.get ed
        refine ⟨v, ?_, hd⟩
        rw [List.getElem?_map, List.getElem?_append_right (by omega), ← hl, hv]; rfl
  sep := fun a b p h1 h2 => by
    obtain ⟨j, ha, o1⟩ := own_arg q h1
    obtain ⟨k, hb, o2⟩ := own_arg q h2
    have ejk := e.sep j k p o1 o2
    subst ejk
    exact ownJs_at nd ha hb
  fl := e.fl
  hl := e.hl
theorem putB_len : ∀ (as : List A) (ss ρ : R), (putB as ss ρ).length = ρ.length
  | [], _, _ => rfl
  | .d _ :: as, ss, ρ => putB_len as ss.tail ρ
  | .o j :: as, ss, ρ => by
    unfold putB
    rw [List.length_set, putB_len as ss.tail ρ]
/-- behind a call: a slot that was handed on holds what the callee says, any other what it held -/
theorem putB_get : ∀ {as : List A} {ss ρ : R} {j : Nat} {s : Sl}, (putB as ss ρ)[j]? = some s → (∃ i : Nat, as[i]? = some (A.o j) ∧ s = ss.getD i .un) ∨ ((∀ i : Nat, as[i]? ≠ some (A.o j)) ∧ ρ[j]? = some s)
  | [], _, _, _, _, h => .inr ⟨fun i => by simp, h⟩
  | .d x :: as, ss, ρ, j, s, h => by
    rcases putB_get (as := as) (ss := ss.tail) h with ⟨i, h1, h2⟩ | ⟨h1, h2⟩
    · refine .inl ⟨i + 1, by simpa using h1, ?_⟩
      rw [h2]
      cases ss <;> simp [List.getD]
    · refine .inr ⟨fun i => ?_, h2⟩
      cases i with
      | zero => simp
      | succ i => simpa using h1 i
  | .o l :: as, ss, ρ, j, s, h => by
    unfold putB at h
    by_cases hj : l = j
    · subst hj
      by_cases hl : l < (putB as ss.tail ρ).length
      · rw [List.getElem?_set_self hl] at h
        refine .inl ⟨0, rfl, ?_⟩
        rw [← Option.some.inj h]
        cases ss <;> simp [List.getD]
      · rw [List.getElem?_eq_none (by rw [List.length_set]; omega)] at h
        cases h
    · rw [List.getElem?_set_ne hj] at h
      rcases putB_get (as := as) (ss := ss.tail) h with ⟨i, h1, h2⟩ | ⟨h1, h2⟩
      · refine .inl ⟨i + 1, by simpa using h1, ?_⟩
        rw [h2]
        cases ss <;> simp [List.getD]
      · refine .inr ⟨fun i => ?_, h2⟩
        cases i with
        | zero =>
          intro z
          have z : A.o l = A.o j := Option.some.inj z
          cases z
          exact hj rfl
        | succ i => simpa using h1 i
theorem ev_callG {f : FM} {n : Nat} {sp : Sp} {E' : XK} {dv : List V} {ds : List D} {t : TA} {ga : R → M (List A × R)} (hsp : ∀ vs H Q, spF K mg n f vs H Q E → sp vs H Q E') (hd : ∀ F H, Das K F H dv ds) (hn : ∀ ρ as ρ', ga ρ = .ok (as, ρ') → as.length + ds.length = n) (ha : EvR K mg E t ga) : EvE K mg E (tCall sp dv E' t) (mCall f ds ga) := by
  intro F σ H ρ Q e x
  refine ha F σ H ρ _ e ((RP.bind x).later Stp.refl fun as ρ1 hr x1 vs F1 H1 e1 s1 q1 => ?_)
  have x1' : RP K mg E σ ρ F H (if (ownJs as).Nodup then f (slotsOf ρ1 as ++ ds.map Sl.d) >>= fun q => .ok (q.1, putB as q.2 ρ1) else .error .stuck) _ := x1
  by_cases nd : (ownJs as).Nodup
  case neg =>
    rw [if_neg nd] at x1'
    exact x1'.elim
  rw [if_pos nd] at x1'
  have ec := env_call (dv := dv) (ds := ds) e1 q1 (hd F1 H1) nd
  -- from the caller's state to the callee's
  have sc : Stp σ ρ1 F1 H1 ((vs ++ dv).map some) (slotsOf ρ1 as ++ ds.map Sl.d) F1 H1 := ⟨fun _ _ h _ => h, fun a ⟨i, h⟩ => by
    obtain ⟨j, _, o⟩ := own_arg q1 h
    exact .inl ⟨j, o⟩, fun _ h => h, fun _ h => .inl h, fun _ h => h⟩
  refine hsp _ _ _ ⟨by rw [List.length_append, q1.len, (hd F1 H1).length]; exact hn _ _ _ hr, F1, _, ec, ?_⟩
  refine (RP.bind x1').later (s1.trans sc) fun d ss' _ x2 v F2 H2 e2 s2 q2 => ?_
  refine x2 v F2 H2 ?_ ?_ q2
  · -- the caller's frame behind the call
    have hlen : (putB as ss' ρ1).length = σ.length := by rw [putB_len, e1.len]
    have argAt : ∀ {i j : Nat}, as[i]? = some (.o j) → ∃ v, ((vs ++ dv).map some)[i]? = some (some v) ∧ σ[j]? = some (some v) := fun {i j} h => by
      obtain ⟨v, hv, ho⟩ := q1.get h
      exact ⟨v, by rw [List.getElem?_map, List.getElem?_append_left (List.getElem?_eq_some_iff.mp hv).1, hv]; rfl, ho⟩
    have ownSub : ∀ {j : Nat} {p : Addr}, OwnAt σ (putB as ss' ρ1) j p → (∃ i : Nat, as[i]? = some (A.o j) ∧ OwnAt ((vs ++ dv).map some) ss' i p) ∨ ((∀ i : Nat, as[i]? ≠ some (A.o j)) ∧ OwnAt σ ρ1 j p) := fun {j p} ⟨h1, s, h2, h3⟩ => by
      rcases putB_get h2 with ⟨i, hi, rfl⟩ | ⟨hi, hs⟩
      · obtain ⟨v, hv, ho⟩ := argAt hi
        rw [ho] at h1; cases h1
        refine .inl ⟨i, hi, hv, ?_⟩
        cases es : ss'[i]? with
        | none =>
          have : ss'.getD i .un = .un := by simp [List.getD, es]
          rw [this] at h3; cases h3
        | some s =>
          have : ss'.getD i .un = s := by simp [List.getD, es]
          rw [this] at h3
          exact ⟨s, rfl, h3⟩
      · exact .inr ⟨hi, h1, s, hs, h3⟩
    have kp := s2.kp ec
    have notArg : ∀ {j : Nat} {p : Addr}, (∀ i : Nat, as[i]? ≠ some (A.o j)) → OwnAt σ ρ1 j p → ¬ Ow ((vs ++ dv).map some) (slotsOf ρ1 as ++ ds.map Sl.d) p := fun {j p} hi o ⟨i, z⟩ => by
      obtain ⟨k, hk, o2⟩ := own_arg q1 z
      have := e1.sep j k p o o2
      subst this
      exact hi i hk
    refine ⟨hlen, fun j s h => ?_, fun a b p h1 h2 => ?_, e2.fl, e2.hl⟩
    · rcases putB_get h with ⟨i, hi, rfl⟩ | ⟨hi, hs⟩
      · obtain ⟨v, hv, ho⟩ := argAt hi
        cases es : ss'[i]? with
        | none =>
          have : ss'.getD i .un = .un := by simp [List.getD, es]
          rw [this]; trivial
        | some s =>
          have : ss'.getD i .un = s := by simp [List.getD, es]
          rw [this]
          have z := e2.at_ i s es
          rw [hv] at z
          rw [ho]
          exact z
      · refine (e1.at_ j s hs).kp kp (fun p xs hv ho q => s2.keep p xs q (notArg hi ⟨hv, s, hs, ho⟩)) fun p hv ho n z => ?_
        rcases s2.f1 p z with z | z | z
        · exact n z
        · rcases (e1.ownObj ⟨j, hv, s, hs, ho⟩).2 with ⟨_, q⟩ | ⟨_, q⟩ <;> (rw [z] at q; cases q)
        · exact notArg hi ⟨hv, s, hs, ho⟩ z
    · rcases ownSub h1 with ⟨i, hi, o1⟩ | ⟨hi, o1⟩
      · rcases ownSub h2 with ⟨k, hk, o2⟩ | ⟨hk, o2⟩
        · have := e2.sep i k p o1 o2
          subst this
          rw [hi] at hk
          cases hk; rfl
        · exfalso
          rcases s2.own p ⟨i, o1⟩ with z | z
          · exact notArg hk o2 z
          · rcases (e1.ownObj ⟨b, o2⟩).2 with ⟨_, q⟩ | ⟨_, q⟩ <;> (rw [z] at q; cases q)
      · rcases ownSub h2 with ⟨k, hk, o2⟩ | ⟨hk, o2⟩
        · exfalso
          rcases s2.own p ⟨k, o2⟩ with z | z
          · exact notArg hi o1 z
          · rcases (e1.ownObj ⟨a, o1⟩).2 with ⟨_, q⟩ | ⟨_, q⟩ <;> (rw [z] at q; cases q)
        · exact e1.sep a b p o1 o2
  · -- the step
    have s3 : Stp σ ρ1 F1 H1 σ (putB as ss' ρ1) F2 H2 := by
      refine ⟨fun a o h n => s2.keep a o h fun ⟨i, z⟩ => ?_, fun a ⟨j, h1, s, h2, h3⟩ => ?_, s2.f0, fun a h => ?_, s2.live⟩
      · obtain ⟨k, _, o2⟩ := own_arg q1 z
        exact n ⟨k, o2⟩
      · rcases putB_get h2 with ⟨i, hi, rfl⟩ | ⟨hi, hs⟩
        · obtain ⟨v, hv, ho⟩ := q1.get hi
          have ho : σ[j]? = some (some v) := ho
          rw [ho] at h1; cases h1
          have hv' : ((vs ++ dv).map some)[i]? = some (some (.ref a)) := by rw [List.getElem?_map, List.getElem?_append_left (List.getElem?_eq_some_iff.mp hv).1, hv]; rfl
          have o1 : OwnAt ((vs ++ dv).map some) ss' i a := by
            refine ⟨hv', ?_⟩
            cases es : ss'[i]? with
            | none =>
              have : ss'.getD i .un = .un := by simp [List.getD, es]
              rw [this] at h3; cases h3
            | some s =>
              have : ss'.getD i .un = s := by simp [List.getD, es]
              rw [this] at h3
              exact ⟨s, rfl, h3⟩
          rcases s2.own a ⟨i, o1⟩ with ⟨k, z⟩ | z
          · obtain ⟨l, _, o2⟩ := own_arg q1 z
            exact .inl ⟨l, o2⟩
          · exact .inr z
        · exact .inl ⟨j, h1, s, hs, h3⟩
      · rcases s2.f1 a h with z | z | ⟨k, z⟩
        · exact .inl z
        · exact .inr (.inl z)
        · obtain ⟨l, _, o2⟩ := own_arg q1 z
          exact .inr (.inr ⟨l, o2⟩)
    exact s1.trans s3
theorem ev_call {f : FM} {n : Nat} {dv : List V} {ds : List D} {t : TA} {ga : R → M (List A × R)} (hd : ∀ F H, Das K F H dv ds) (hn : ∀ ρ as ρ', ga ρ = .ok (as, ρ') → as.length + ds.length = n) (ha : EvR K mg E t ga) : EvE K mg E (tCall (spF K mg n f) dv E t) (mCall f ds ga) :=
  ev_callG (fun _ _ _ h => h) hd hn ha
/-- .. of a def that lets nothing out -/
theorem ev_call0 {f : FM} {n : Nat} {dv : List V} {ds : List D} {t : TA} {ga : R → M (List A × R)} (hd : ∀ F H, Das K F H dv ds) (hn : ∀ ρ as ρ', ga ρ = .ok (as, ρ') → as.length + ds.length = n) (ha : EvR K mg E t ga) : EvE K mg E (tCall (spF K mg n f) dv E0 t) (mCall (noX f) ds ga) := by
  refine ev_callG (fun vs H Q z => ?_) hd hn ha
  obtain ⟨hl, F1, ss, e1, x1⟩ := z
  refine ⟨hl, F1, ss, e1, ?_⟩
  unfold noX at x1
  cases hf : f ss with
  | ok r => rw [hf] at x1; exact x1
  | error er =>
    rw [hf] at x1
    cases er with
    | stuck => exact x1.elim
    | exc c fs => exact x1.elim
end
end DL

/-! DL8: statements, and a def by its body. -/
namespace DL
open PySem PySem.Spec PyProof.Rows L2
inductive Fl where
  | nx | bk | ct
  | rt (d : D)
abbrev SM := R → M (Fl × R)
def Pin (P : List Nat) (σ σ' : L2.St) : Prop := ∀ i : Nat, i ∈ P → σ'[i]? = σ[i]?
/-- what is wanted behind a statement that ends so -/
def FlK (K : PySem.W.Frag) (P : List Nat) (σ : L2.St) (ρ : R) (F : Addr → Prop) (H : Hp) (Dn : Ends) : Fl → R → Prop
  | .nx, ρ' => ∀ σ' F' H', EnvOk K F' σ' H' ρ' → Stp σ ρ F H σ' ρ' F' H' → Pin P σ σ' → Dn.nx σ' H'
  | .bk, ρ' => ∀ σ' F' H', EnvOk K F' σ' H' ρ' → Stp σ ρ F H σ' ρ' F' H' → Pin P σ σ' → Dn.bk σ' H'
  | .ct, ρ' => ∀ σ' F' H', EnvOk K F' σ' H' ρ' → Stp σ ρ F H σ' ρ' F' H' → Pin P σ σ' → Dn.ct σ' H'
  | .rt d, ρ' => ∀ v σ' F' H', EnvOk K F' σ' H' ρ' → Stp σ ρ F H σ' ρ' F' H' → Pin P σ σ' → Da K F' H' v d → Dn.rt v H'
def EvS (K : PySem.W.Frag) (mg : Str → Option Value) (E : XK) (P : List Nat) (t : TS) (g : SM) : Prop :=
  ∀ (F : Addr → Prop) (σ : L2.St) (H : Hp) (ρ : R) (Dn : Ends), EnvOk K F σ H ρ → RP K mg E σ ρ F H (g ρ) (FlK K P σ ρ F H Dn) → t Dn σ H
structure DS (X : Cx) (E : XK) (P : List Nat) (s : Stmt) (t : TS) (g : SM) : Prop where
  ps : PS X s t
  ev : EvS X.K X.mg E P t g
structure DSs (X : Cx) (E : XK) (P : List Nat) (s : List Stmt) (t : TS) (g : SM) : Prop where
  ps : PSs X s t
  ev : EvS X.K X.mg E P t g
section
variable {X : Cx} {K : PySem.W.Frag} {mg : Str → Option Value} {E : XK} {P : List Nat}
theorem Pin.refl {σ : L2.St} : Pin P σ σ := fun _ _ => rfl
theorem Pin.trans {σ σ1 σ2 : L2.St} (a : Pin P σ σ1) (b : Pin P σ1 σ2) : Pin P σ σ2 := fun i h => (b i h).trans (a i h)
theorem Pin.agree {σ σ1 : L2.St} {js : List Nat} (a : Agree js σ σ1) (h : ∀ i ∈ js, i ∉ P) : Pin P σ σ1 := fun i hi => a.2 i fun z => h i z hi
/-- the wish at a later state -/
theorem FlK.later {σ σ1 : L2.St} {ρ ρ1 : R} {F F1 : Addr → Prop} {H H1 : Hp} {Dn : Ends} {fl : Fl} {ρ' : R} (s : Stp σ ρ F H σ1 ρ1 F1 H1) (p : Pin P σ σ1) (k : FlK K P σ ρ F H Dn fl ρ') : FlK K P σ1 ρ1 F1 H1 Dn fl ρ' := by
  cases fl with
  | nx => exact fun σ' F' H' e s' p' => k σ' F' H' e (s.trans s') (p.trans p')
  | bk => exact fun σ' F' H' e s' p' => k σ' F' H' e (s.trans s') (p.trans p')
  | ct => exact fun σ' F' H' e s' p' => k σ' F' H' e (s.trans s') (p.trans p')
  | rt d => exact fun v σ' F' H' e s' p' => k v σ' F' H' e (s.trans s') (p.trans p')
def mSkip : SM := fun ρ => .ok (.nx, ρ)
def mBrk : SM := fun ρ => .ok (.bk, ρ)
def mCont : SM := fun ρ => .ok (.ct, ρ)
/-- one, then the rest -/
def mThen (a b : SM) : SM := fun ρ => a ρ >>= fun p => match p.1 with
  | .nx => b p.2
  | fl => .ok (fl, p.2)
def mRet (a : R → M (D × R)) : SM := fun ρ => a ρ >>= fun p => .ok (.rt p.1, p.2)
def mRetN : SM := fun ρ => .ok (.rt .none, ρ)
def mDrop (a : R → M (D × R)) : SM := fun ρ => a ρ >>= fun p => .ok (.nx, p.2)
def mAsg (a : R → M (D × R)) (h : D → R → M R) : SM := fun ρ => a ρ >>= fun p => h p.1 p.2 >>= fun ρ' => .ok (.nx, ρ')
/-- a new list, own -/
def mOwn (i : Nat) (a : R → M (List D × R)) : SM := fun ρ => a ρ >>= fun p => if i < p.2.length then .ok (.nx, p.2.set i (.l p.1)) else .error .stuck
theorem ev_skip : EvS K mg E P tNext mSkip := fun F σ H ρ Dn e x => x σ F H e Stp.refl Pin.refl
theorem ev_brk : EvS K mg E P tBreak mBrk := fun F σ H ρ Dn e x => x σ F H e Stp.refl Pin.refl
theorem ev_cont : EvS K mg E P tCont mCont := fun F σ H ρ Dn e x => x σ F H e Stp.refl Pin.refl
theorem ev_then {t u : TS} {a b : SM} (ha : EvS K mg E P t a) (hb : EvS K mg E P u b) : EvS K mg E P (tSeq t u) (mThen a b) := by
  intro F σ H ρ Dn e x
  refine ha F σ H ρ _ e ((RP.bind x).later Stp.refl fun fl ρ1 _ x1 => ?_)
  cases fl with
  | nx => exact fun σ1 F1 H1 e1 s1 p1 => hb F1 σ1 H1 ρ1 Dn e1 (RP.later s1 x1 fun fl ρ2 _ k => k.later s1 p1)
  | bk => exact x1
  | ct => exact x1
  | rt d => exact x1
theorem ev_ret {te : TE} {a : R → M (D × R)} (ha : EvE K mg E te a) : EvS K mg E P (tRet te) (mRet a) := by
  intro F σ H ρ Dn e x
  exact ha F σ H ρ _ e ((RP.bind x).later Stp.refl fun d ρ1 _ x1 v F1 H1 e1 s1 q1 => x1 v σ F1 H1 e1 s1 Pin.refl q1)
theorem ev_retN : EvS K mg E P tRetN mRetN := fun F σ H ρ Dn e x => x .non σ F H e Stp.refl Pin.refl .non
theorem ev_drop {te : TE} {a : R → M (D × R)} (ha : EvE K mg E te a) : EvS K mg E P (tDrop te) (mDrop a) := by
  intro F σ H ρ Dn e x
  exact ha F σ H ρ _ e ((RP.bind x).later Stp.refl fun d ρ1 _ x1 v F1 H1 e1 s1 q1 => x1 σ F1 H1 e1 s1 Pin.refl)
theorem ev_ifS {tc : TT} {t u : TS} {c : R → M (Bool × R)} {a b : SM} (hc : EvT K mg E tc c) (ha : EvS K mg E P t a) (hb : EvS K mg E P u b) : EvS K mg E P (tIfS tc t u) (mIf c a b) := by
  intro F σ H ρ Dn e x
  refine hc F σ H ρ _ e ((RP.bind x).later Stp.refl fun b ρ1 _ x1 F1 H1 e1 s1 => ?_)
  cases b with
  | true => exact ha F1 σ H1 ρ1 Dn e1 (RP.later s1 x1 fun fl ρ2 _ k => k.later s1 Pin.refl)
  | false => exact hb F1 σ H1 ρ1 Dn e1 (RP.later s1 x1 fun fl ρ2 _ k => k.later s1 Pin.refl)
theorem ev_asg {te : TE} {a : R → M (D × R)} {tg : TG} {js : List Nat} {h : D → R → M R} (ha : EvE K mg E te a) (hg : EvG K js tg h) (hq : ∀ d, Quiet (h d)) (hp : ∀ i ∈ js, i ∉ P) : EvS K mg E P (tAsg te tg) (mAsg a h) := by
  intro F σ H ρ Dn e x
  refine ha F σ H ρ _ e ((RP.bind x).later Stp.refl fun d ρ1 _ x1 v F1 H1 e1 s1 q1 => ?_)
  obtain ⟨ρ2, h2, x2⟩ := RP.ok x1 (hq d ρ1)
  exact hg F1 σ H1 ρ1 ρ2 v d _ e1 q1 h2 fun σ2 e2 s2 a2 => x2 σ2 F1 H1 e2 (s1.trans s2) (Pin.agree a2 hp)
/-- a new own object in a slot -/
theorem EnvOk.setO {F : Addr → Prop} {σ : L2.St} {H : Hp} {ρ : R} {i : Nat} {p : Addr} {s : Sl} (e : EnvOk K F σ H ρ) (q : SlOk K F H (some (some (.ref p))) s) (no : ¬ Ow σ ρ p) (hi : i < ρ.length) : EnvOk K F (σ.set i (some (.ref p))) H (ρ.set i s) where
  len := by rw [List.length_set, List.length_set]; exact e.len
  at_ := fun j s' h => by
    by_cases hj : i = j
    · subst hj
      rw [List.getElem?_set_self hi] at h
      obtain rfl := Option.some.inj h
      rw [List.getElem?_set_self (by rw [← e.len]; exact hi)]
      exact q
    · rw [List.getElem?_set_ne hj] at h
      rw [List.getElem?_set_ne hj]
      exact e.at_ j s' h
  sep := fun a b p' h1 h2 => by
    have cs : ∀ {k}, OwnAt (σ.set i (some (.ref p))) (ρ.set i s) k p' → (k = i ∧ p' = p) ∨ (k ≠ i ∧ OwnAt σ ρ k p') := fun {k} ⟨z1, s', z2, z3⟩ => by
      by_cases hk : i = k
      · subst hk
        rw [List.getElem?_set_self (by rw [← e.len]; exact hi)] at z1
        cases z1
        exact .inl ⟨rfl, rfl⟩
      · rw [List.getElem?_set_ne hk] at z1 z2
        exact .inr ⟨Ne.symm hk, z1, s', z2, z3⟩
    rcases cs h1 with ⟨e1, e2⟩ | ⟨e1, o1⟩
    · rcases cs h2 with ⟨e3, e4⟩ | ⟨e3, o2⟩
      · rw [e1, e3]
      · exact absurd ⟨b, e2 ▸ o2⟩ no
    · rcases cs h2 with ⟨e3, e4⟩ | ⟨e3, o2⟩
      · exact absurd ⟨a, e4 ▸ o1⟩ no
      · exact e.sep a b p' o1 o2
  fl := e.fl
  hl := e.hl
theorem ev_own {te : TE} {a : R → M (List D × R)} {i : Nat} (ha : EvO K mg E te a) (hp : i ∉ P) : EvS K mg E P (tAsg te (gName i)) (mOwn i a) := by
  intro F σ H ρ Dn e x
  refine ha F σ H ρ _ e ((RP.bind x).later Stp.refl fun ds ρ1 _ x1 p xs F1 H1 e1 s1 n1 h1 q1 nf no => ?_)
  have x1' : RP K mg E σ ρ F H (if i < ρ1.length then .ok (Fl.nx, ρ1.set i (.l ds)) else .error .stuck) (FlK K P σ ρ F H Dn) := x1
  by_cases hi : i < ρ1.length
  case neg =>
    rw [if_neg hi] at x1'
    exact x1'.elim
  rw [if_pos hi] at x1'
  refine x1' _ F1 H1 (e1.setO ⟨p, xs, rfl, h1, q1, nf⟩ no hi) ⟨s1.keep, fun b ⟨j, z1, s', z2, z3⟩ => ?_, s1.f0, s1.f1, s1.live⟩ (Pin.agree agree_set fun j hj => by
    have : j = i := by simpa using hj
    rw [this]; exact hp)
  by_cases hj : i = j
  · subst hj
    rw [List.getElem?_set_self (by rw [← e1.len]; exact hi)] at z1
    cases z1
    exact .inr n1
  · rw [List.getElem?_set_ne hj] at z1 z2
    exact s1.own b ⟨j, z1, s', z2, z3⟩
/-! ### loops -/
def forL (tgt : D → R → M R) (body : SM) : List D → SM
  | [], ρ => .ok (.nx, ρ)
  | x :: xs, ρ => tgt x ρ >>= fun ρ1 => body ρ1 >>= fun p => match p.1 with
    | .nx => forL tgt body xs p.2
    | .ct => forL tgt body xs p.2
    | .bk => .ok (.nx, p.2)
    | .rt d => .ok (.rt d, p.2)
def mFor (it : R → M (List D × R)) (tgt : D → R → M R) (body : SM) : SM := fun ρ => it ρ >>= fun p => forL tgt body p.1 p.2
theorem ev_for {ti : TI} {g : TG} {tb : TS} {js : List Nat} {it : R → M (List D × R)} {tgt : D → R → M R} {body : SM}
    (hi : EvI K mg E ti it) (hg : EvG K js g tgt) (hq : ∀ d, Quiet (tgt d)) (hp : ∀ i ∈ js, i ∉ P) (hb : EvS K mg E P tb body) : EvS K mg E P (tFor ti g tb) (mFor it tgt body) := by
  intro F σ H ρ Dn e x
  refine hi F σ H ρ _ e ((RP.bind x).later Stp.refl fun ds ρ1 _ x1 J F1 H1 e1 s1 wk => ?_)
  obtain ⟨G, Y, W, hG, hY⟩ := wk
  let Pv : Nat → L2.St → Hp → Prop := fun i σ' H' => ∃ F' ρ', EnvOk K F' σ' H' ρ' ∧ Stp σ ρ1 F1 H1 σ' ρ' F' H' ∧ Pin P σ σ' ∧ RP K mg E σ ρ F H (forL tgt body (ds.drop i) ρ') (FlK K P σ ρ F H Dn)
  refine for_it W Pv ?_ ?_ ?_ ?_
  · exact ⟨F1, ρ1, e1, Stp.refl, Pin.refl, x1⟩
  · rintro i σ' H' hi ⟨F', ρ', e', s', p', _⟩
    exact hG F' H' (s'.kp e1)
  · rintro i y σ' H' H2 hi ⟨F', ρ', e', s', p', xr⟩ hy
    have hdi : ds[i]? = some ds[i] := List.getElem?_eq_getElem hi
    obtain ⟨F2, g2, q2⟩ := hY i F' H' y H2 (s'.kp e1) e'.fl e'.hl hy ds[i] hdi
    have hdrop : ds.drop i = ds[i] :: ds.drop (i + 1) := List.drop_eq_getElem_cons hi
    rw [hdrop] at xr
    have xr2 : RP K mg E σ ρ F H (tgt ds[i] ρ' >>= fun ρ1 => body ρ1 >>= fun p => match p.1 with
      | .nx => forL tgt body (ds.drop (i + 1)) p.2
      | .ct => forL tgt body (ds.drop (i + 1)) p.2
      | .bk => .ok (.nx, p.2)
      | .rt d => .ok (.rt d, p.2)) (FlK K P σ ρ F H Dn) := xr
    obtain ⟨ρ3, h3, x3⟩ := RP.ok xr2 (fun c fs h => hq _ ρ' c fs h)
    refine hg F2 σ' H2 ρ' ρ3 y ds[i] _ (e'.grow g2) q2 h3 fun σ3 e3 s3 a3 => ?_
    have st : Stp σ ρ1 F1 H1 σ3 ρ3 F2 H2 := (s'.trans g2.stp).trans s3
    have base : Stp σ ρ F H σ3 ρ3 F2 H2 := s1.trans st
    have pn : Pin P σ σ3 := p'.trans (Pin.agree a3 hp)
    refine hb F2 σ3 H2 ρ3 _ e3 ((RP.bind x3).later base fun fl ρ4 _ x4 => ?_)
    cases fl with
    | nx => exact fun σ4 F4 H4 e4 s4 p4 => ⟨F4, ρ4, e4, st.trans s4, pn.trans p4, x4⟩
    | ct => exact fun σ4 F4 H4 e4 s4 p4 => ⟨F4, ρ4, e4, st.trans s4, pn.trans p4, x4⟩
    | bk =>
      have x4 : FlK K P σ ρ F H Dn .nx ρ4 := x4
      exact fun σ4 F4 H4 e4 s4 p4 => x4 σ4 F4 H4 e4 (base.trans s4) (pn.trans p4)
    | rt d =>
      have x4 : FlK K P σ ρ F H Dn (.rt d) ρ4 := x4
      exact fun v σ4 F4 H4 e4 s4 p4 q4 => x4 v σ4 F4 H4 e4 (base.trans s4) (pn.trans p4) q4
  · rintro σ' H' ⟨F', ρ', e', s', p', xr⟩
    rw [List.drop_length] at xr
    have xr : FlK K P σ ρ F H Dn .nx ρ' := xr
    exact xr σ' F' H' e' (s1.trans s') p'
def whileL (tst : R → M (Bool × R)) (body : SM) : Nat → SM
  | 0, _ => .error .stuck
  | n + 1, ρ => tst ρ >>= fun b => if b.1 = true then body b.2 >>= fun p => match p.1 with
    | .nx => whileL tst body n p.2
    | .ct => whileL tst body n p.2
    | .bk => .ok (.nx, p.2)
    | .rt d => .ok (.rt d, p.2) else .ok (.nx, b.2)
theorem ev_while {n : Nat} {tc : TT} {tb : TS} {tst : R → M (Bool × R)} {body : SM} (hc : EvT K mg E tc tst) (hb : EvS K mg E P tb body) : EvS K mg E P (tWhile tc tb) (whileL tst body n) := by
  intro F σ H ρ Dn e x
  refine ⟨fun m σ' H' => ∃ F' ρ', EnvOk K F' σ' H' ρ' ∧ Stp σ ρ F H σ' ρ' F' H' ∧ Pin P σ σ' ∧ RP K mg E σ ρ F H (whileL tst body m ρ') (FlK K P σ ρ F H Dn), ⟨n, F, ρ, e, Stp.refl, Pin.refl, x⟩, ?_⟩
  rintro m σ' H' ⟨F', ρ', e', s', p', xr⟩
  cases m with
  | zero => exact xr.elim
  | succ m =>
    have xr : RP K mg E σ ρ F H (tst ρ' >>= fun b => if b.1 = true then body b.2 >>= fun p => match p.1 with
      | .nx => whileL tst body m p.2
      | .ct => whileL tst body m p.2
      | .bk => .ok (.nx, p.2)
      | .rt d => .ok (.rt d, p.2) else .ok (.nx, b.2)) (FlK K P σ ρ F H Dn) := xr
    refine hc F' σ' H' ρ' _ e' ((RP.bind xr).later s' fun b ρ1 _ x1 F1 H1 e1 s1 => ?_)
    cases b with
    | false =>
      have x1 : FlK K P σ ρ F H Dn .nx ρ1 := x1
      exact x1 σ' F1 H1 e1 (s'.trans s1) p'
    | true =>
      rw [if_pos rfl]
      have x1 : RP K mg E σ ρ F H (body ρ1 >>= fun p => match p.1 with
        | .nx => whileL tst body m p.2
        | .ct => whileL tst body m p.2
        | .bk => .ok (.nx, p.2)
        | .rt d => .ok (.rt d, p.2)) (FlK K P σ ρ F H Dn) := x1
      refine ⟨fun σ2 H2 => ∃ F2 ρ2, EnvOk K F2 σ2 H2 ρ2 ∧ Stp σ ρ F H σ2 ρ2 F2 H2 ∧ Pin P σ σ2 ∧ RP K mg E σ ρ F H (whileL tst body m ρ2) (FlK K P σ ρ F H Dn), fun σ2 H2 h => ⟨m, Nat.lt_succ_self m, h⟩, ?_⟩
      have st := s'.trans s1
      refine hb F1 σ' H1 ρ1 _ e1 ((RP.bind x1).later st fun fl ρ2 _ x2 => ?_)
      cases fl with
      | nx => exact fun σ4 F4 H4 e4 s4 p4 => ⟨F4, ρ2, e4, st.trans s4, p'.trans p4, x2⟩
      | ct => exact fun σ4 F4 H4 e4 s4 p4 => ⟨F4, ρ2, e4, st.trans s4, p'.trans p4, x2⟩
      | bk =>
        have x2 : FlK K P σ ρ F H Dn .nx ρ2 := x2
        exact fun σ4 F4 H4 e4 s4 p4 => x2 σ4 F4 H4 e4 (st.trans s4) (p'.trans p4)
      | rt d =>
        have x2 : FlK K P σ ρ F H Dn (.rt d) ρ2 := x2
        exact fun v σ4 F4 H4 e4 s4 p4 q4 => x2 v σ4 F4 H4 e4 (st.trans s4) (p'.trans p4) q4
/-! ### own lists -/
/-- the own list in slot i changes -/
theorem own_write {F : Addr → Prop} {σ : L2.St} {H : Hp} {ρ : R} {i : Nat} {p : Addr} {s0 s : Sl} {o : HO} (e : EnvOk K F σ H ρ) (hs : σ[i]? = some (some (.ref p))) (h0 : ρ[i]? = some s0) (ho : s0.own = true) (hq : ∀ (k : Kp F H F (upd H p o)), SlOk K F (upd H p o) (some (some (.ref p))) s) (hl : HL (upd H p o)) :
    EnvOk K F σ (upd H p o) (ρ.set i s) ∧ Stp σ ρ F H σ (ρ.set i s) F (upd H p o) := by
  have ow : OwnAt σ ρ i p := ⟨hs, s0, h0, ho⟩
  have nf := (e.ownObj ⟨i, ow⟩).1
  have kp : Kp F H F (upd H p o) := ⟨fun a xs h => by
    rw [upd_ne (fun z => ?_)]
    · exact h
    · subst z
      rcases (e.ownObj ⟨i, ow⟩).2 with ⟨_, q⟩ | ⟨_, q⟩ <;> (rw [h] at q; cases q), fun a o' u h => by
    rw [upd_ne (fun z => ?_)]
    · exact h
    · subst z
      rcases (e.ownObj ⟨i, ow⟩).2 with ⟨_, q⟩ | ⟨_, q⟩ <;> (rw [h] at q; cases q), fun a h => ⟨h, fun o' q => by
    rw [upd_ne (fun z => nf (Eq.mp (congrArg F z) h))]
    exact q⟩⟩
  have hi : i < ρ.length := (List.getElem?_eq_some_iff.mp h0).1
  have sub : ∀ {k p'}, OwnAt σ (ρ.set i s) k p' → OwnAt σ ρ k p' := fun {k p'} ⟨z1, s', z2, z3⟩ => by
    by_cases hk : i = k
    · subst hk
      rw [hs] at z1
      cases z1
      exact ow
    · rw [List.getElem?_set_ne hk] at z2
      exact ⟨z1, s', z2, z3⟩
  refine ⟨⟨by rw [List.length_set]; exact e.len, fun j s' h => ?_, fun a b p' h1 h2 => e.sep a b p' (sub h1) (sub h2), fun a h => ?_, hl⟩, ⟨fun a o' h n => ?_, fun a ⟨j, z⟩ => .inl ⟨j, sub z⟩, fun _ h => h, fun _ h => .inl h, fun a h => ?_⟩⟩
  · by_cases hj : i = j
    · subst hj
      rw [List.getElem?_set_self hi] at h
      obtain rfl := Option.some.inj h
      rw [hs]
      exact hq kp
    · rw [List.getElem?_set_ne hj] at h
      refine (e.at_ j s' h).kp kp (fun p' xs hv ho' q => ?_) fun _ _ _ n => n
      rw [upd_ne (fun z => hj ?_)]
      · exact q
      · subst z
        exact e.sep i j _ ow ⟨hv, s', h, ho'⟩
  · by_cases ha : a = p
    · rw [ha, upd_same]; simp
    · rw [upd_ne ha]; exact e.fl a h
  · rw [upd_ne (fun z => n (Eq.mp (congrArg (Ow σ ρ) z.symm) ⟨i, ow⟩))]
    exact h
  · by_cases ha : a = p
    · rw [ha, upd_same]; simp
    · rw [upd_ne ha]; exact h
end
end DL

/-! DL9: own lists and dicts; a def by its body. -/
namespace DL
open PySem PySem.Spec PyProof.Rows L2
section
variable {X : Cx} {K : PySem.W.Frag} {mg : Str → Option Value} {E : XK} {P : List Nat}
def ownL (ρ : R) (i : Nat) : Option (List D) := match ρ[i]? with
  | some (.l ds) => some ds
  | _ => none
def ownK (ρ : R) (i : Nat) : Option (List (Key × D)) := match ρ[i]? with
  | some (.k ds) => some ds
  | _ => none
theorem ownL_inv {ρ : R} {i : Nat} {ds : List D} (h : ownL ρ i = some ds) : ρ[i]? = some (.l ds) := by
  unfold ownL at h
  split at h
  · rename_i e
    obtain rfl := Option.some.inj h
    exact e
  · cases h
theorem ownK_inv {ρ : R} {i : Nat} {ds : List (Key × D)} (h : ownK ρ i = some ds) : ρ[i]? = some (.k ds) := by
  unfold ownK at h
  split at h
  · rename_i e
    obtain rfl := Option.some.inj h
    exact e
  · cases h
theorem env_L {F : Addr → Prop} {σ : L2.St} {H : Hp} {ρ : R} {i : Nat} {ds : List D} (e : EnvOk K F σ H ρ) (h : ownL ρ i = some ds) : ∃ p xs, σ[i]? = some (some (.ref p)) ∧ H p = some (.lst xs) ∧ Das K F H xs ds ∧ ¬ F p := e.at_ i _ (ownL_inv h)
theorem env_K {F : Addr → Prop} {σ : L2.St} {H : Hp} {ρ : R} {i : Nat} {ds : List (Key × D)} (e : EnvOk K F σ H ρ) (h : ownK ρ i = some ds) : ∃ p xs, σ[i]? = some (some (.ref p)) ∧ H p = some (.dK xs) ∧ Dks K F H xs ds ∧ ¬ F p := e.at_ i _ (ownK_inv h)
/-! ### changes of an own list -/
def setAt (ρ : R) (i : Nat) (n d : D) : Option R := (ownL ρ i).bind fun ds => (intD n).bind fun m => (ixN ds.length m).map fun j => ρ.set i (.l (ds.set j d))
def appAt (ρ : R) (i : Nat) (d : D) : Option R := (ownL ρ i).bind fun ds => if ds.length < sizeLine then some (ρ.set i (.l (ds ++ [d]))) else none
def extAt (ρ : R) (i : Nat) (d : D) : Option R := (ownL ρ i).bind fun ds => match d with
  | .list es => if ds.length + es.length ≤ sizeLine then some (ρ.set i (.l (ds ++ es))) else none
  | _ => none
def popAt (ρ : R) (i : Nat) : Option (D × R) := (ownL ρ i).bind fun ds => (ds[ds.length - 1]?).map fun d => (d, ρ.set i (.l ds.dropLast))
def mSetI (i : Nat) (a k : R → M (D × R)) : SM := fun ρ => a ρ >>= fun p => lo (ownL p.2 i) >>= fun _ => k p.2 >>= fun q => lo (setAt q.2 i q.1 p.1) >>= fun ρ' => .ok (.nx, ρ')
def mApp (i : Nat) (a : R → M (D × R)) : SM := fun ρ => lo (ownL ρ i) >>= fun _ => a ρ >>= fun p => lo (appAt p.2 i p.1) >>= fun ρ' => .ok (.nx, ρ')
def mExt (i : Nat) (a : R → M (D × R)) : SM := fun ρ => lo (ownL ρ i) >>= fun _ => a ρ >>= fun p => lo (extAt p.2 i p.1) >>= fun ρ' => .ok (.nx, ρ')
def mPop (i : Nat) : R → M (D × R) := fun ρ => lo (popAt ρ i)
theorem ev_setI {i : Nat} {te tk : TE} {a k : R → M (D × R)} (ha : EvE K mg E te a) (hk : EvE K mg E tk k) : EvS K mg E P (tAsg te (gSub (tVar i) tk rSetL)) (mSetI i a k) := by
  intro F σ H ρ Dn e x
  refine ha F σ H ρ _ e ((RP.bind x).later Stp.refl fun d ρ1 _ x1 v F1 H1 e1 s1 q1 => ?_)
  obtain ⟨ds0, h0, x2⟩ := RP.pure x1
  obtain ⟨p, xs0, hp, _⟩ := env_L e1 h0
  refine ⟨.ref p, hp, ?_⟩
  refine hk F1 σ H1 ρ1 _ e1 ((RP.go s1 x2).later Stp.refl fun n ρ2 _ x3 w F2 H2 e2 s2 q2 => ?_)
  obtain ⟨ρ3, h3, x4⟩ := RP.pure x3
  replace h3 : setAt ρ2 i n d = some ρ3 := h3
  unfold setAt at h3
  cases hl : ownL ρ2 i with
  | none => rw [hl] at h3; cases h3
  | some ds =>
    rw [hl] at h3
    cases hn : intD n with
    | none => simp [hn] at h3
    | some m =>
      obtain rfl := intD_inv hn
      cases hj : ixN ds.length m with
      | none => simp [hn, hj] at h3
      | some j =>
        simp [hn, hj] at h3
        subst h3
        obtain ⟨p2, xs, hp2, hx, qx, nf⟩ := env_L e2 hl
        rw [hp] at hp2; cases hp2
        refine ⟨p, xs, m, j, rfl, q2.int_inv, hx, by rw [qx.length]; exact hj, ?_⟩
        have hlen : (xs.set j v).length ≤ sizeLine := by rw [List.length_set]; exact e2.hl _ _ (.inl hx)
        obtain ⟨e3, s3⟩ := own_write (o := .lst (xs.set j v)) (s := .l (ds.set j d)) e2 hp (ownL_inv hl) rfl (fun kp => ⟨p, _, rfl, upd_same, Das.set j ((q1.kp (s2.kp e1)).kp kp) (qx.kp kp), nf⟩) (e2.hl.lst hlen)
        exact x4 σ F2 _ e3 ((s1.trans s2).trans s3) Pin.refl
theorem own_app {F : Addr → Prop} {σ : L2.St} {H : Hp} {ρ : R} {i : Nat} {p : Addr} {xs ys : List V} {ds es : List D} (e : EnvOk K F σ H ρ) (hp : σ[i]? = some (some (.ref p))) (hl : ownL ρ i = some ds) (hx : H p = some (.lst xs)) (qx : Das K F H xs ds) (nf : ¬ F p) (qy : Das K F H ys es) (hz : (xs ++ ys).length ≤ sizeLine) :
    EnvOk K F σ (upd H p (.lst (xs ++ ys))) (ρ.set i (.l (ds ++ es))) ∧ Stp σ ρ F H σ (ρ.set i (.l (ds ++ es))) F (upd H p (.lst (xs ++ ys))) :=
  own_write (o := .lst (xs ++ ys)) (s := .l (ds ++ es)) e hp (ownL_inv hl) rfl (fun kp => ⟨p, _, rfl, upd_same, (qx.kp kp).append (qy.kp kp), nf⟩) (e.hl.lst hz)
theorem ev_app {i : Nat} {te : TE} {a : R → M (D × R)} (ha : EvE K mg E te a) : EvS K mg E P (tDrop (tBM K "list" rAppend (tVar i) (tCons te tNil))) (mApp i a) := by
  intro F σ H ρ Dn e x
  obtain ⟨ds0, h0, x0⟩ := RP.pure x
  obtain ⟨p, xs0, hp, hx0, _⟩ := env_L e h0
  refine ⟨.ref p, hp, .inl ⟨rfl, _, SqL.of hx0⟩, ?_⟩
  refine ha F σ H ρ _ e ((RP.bind x0).later Stp.refl fun d ρ1 _ x1 v F1 H1 e1 s1 q1 => ?_)
  obtain ⟨ρ2, h2, x2⟩ := RP.pure x1
  replace h2 : appAt ρ1 i d = some ρ2 := h2
  unfold appAt at h2
  cases hl : ownL ρ1 i with
  | none => rw [hl] at h2; cases h2
  | some ds =>
    rw [hl] at h2
    replace h2 : (if ds.length < sizeLine then some (ρ1.set i (.l (ds ++ [d]))) else none) = some ρ2 := h2
    by_cases hz : ds.length < sizeLine
    · rw [if_pos hz] at h2
      obtain rfl := Option.some.inj h2
      obtain ⟨p2, xs, hp2, hx, qx, nf⟩ := env_L e1 hl
      rw [hp] at hp2; cases hp2
      have hz2 : xs.length < sizeLine := by rw [qx.length]; exact hz
      refine ⟨p, xs, v, rfl, rfl, hx, hz2, ?_⟩
      obtain ⟨e3, s3⟩ := own_app e1 hp hl hx qx nf (.cons q1 .nil) (by rw [List.length_append]; exact hz2)
      exact x2 σ F1 _ e3 (s1.trans s3) Pin.refl
    · rw [if_neg hz] at h2
      cases h2
theorem ev_ext {i : Nat} {te : TE} {a : R → M (D × R)} (ha : EvE K mg E te a) : EvS K mg E P (tDrop (tBM K "list" rExtend (tVar i) (tCons te tNil))) (mExt i a) := by
  intro F σ H ρ Dn e x
  obtain ⟨ds0, h0, x0⟩ := RP.pure x
  obtain ⟨p, xs0, hp, hx0, _⟩ := env_L e h0
  refine ⟨.ref p, hp, .inl ⟨rfl, _, SqL.of hx0⟩, ?_⟩
  refine ha F σ H ρ _ e ((RP.bind x0).later Stp.refl fun d ρ1 _ x1 v F1 H1 e1 s1 q1 => ?_)
  obtain ⟨ρ2, h2, x2⟩ := RP.pure x1
  replace h2 : extAt ρ1 i d = some ρ2 := h2
  unfold extAt at h2
  cases hl : ownL ρ1 i with
  | none => rw [hl] at h2; cases h2
  | some ds =>
    rw [hl] at h2
    cases q1 with
    | lst f r q =>
      rename_i b ys es hr0
      replace h2 : (if ds.length + es.length ≤ sizeLine then some (ρ1.set i (.l (ds ++ es))) else none) = some ρ2 := h2
      by_cases hz : ds.length + es.length ≤ sizeLine
      · rw [if_pos hz] at h2
        obtain rfl := Option.some.inj h2
        obtain ⟨p2, xs, hp2, hx, qx, nf⟩ := env_L e1 hl
        rw [hp] at hp2; cases hp2
        have hz2 : xs.length + ys.length ≤ sizeLine := by rw [qx.length, q.length]; exact hz
        refine ⟨p, b, xs, ys, rfl, rfl, hx, r, hz2, ?_⟩
        obtain ⟨e3, s3⟩ := own_app e1 hp hl hx qx nf q (by rw [List.length_append]; exact hz2)
        exact x2 σ F1 _ e3 (s1.trans s3) Pin.refl
      · rw [if_neg hz] at h2
        cases h2
    | _ => cases h2
theorem Das.dropLast {F : Addr → Prop} {H : Hp} {xs : List V} {ds : List D} (q : Das K F H xs ds) : Das K F H xs.dropLast ds.dropLast := by
  rw [List.dropLast_eq_take, List.dropLast_eq_take, q.length]
  exact q.take _
theorem ev_pop {i : Nat} : EvE K mg E (tBM0 K "list" rPop (tVar i)) (mPop i) := by
  intro F σ H ρ Q e x
  unfold mPop at x
  cases h0 : popAt ρ i with
  | none => rw [h0] at x; exact x.elim
  | some r =>
    rw [h0] at x
    unfold popAt at h0
    cases hl : ownL ρ i with
    | none => rw [hl] at h0; cases h0
    | some ds =>
      rw [hl] at h0
      replace h0 : (ds[ds.length - 1]?).map (fun d => (d, ρ.set i (.l ds.dropLast))) = some r := h0
      cases hd : ds[ds.length - 1]? with
      | none => rw [hd] at h0; cases h0
      | some d =>
        rw [hd] at h0
        obtain rfl := Option.some.inj h0
        obtain ⟨p, xs, hp, hx, qx, nf⟩ := env_L e hl
        refine ⟨.ref p, hp, .inl ⟨rfl, _, SqL.of hx⟩, ?_⟩
        obtain ⟨v, hv, qv⟩ := qx.get hd
        refine ⟨p, xs, v, rfl, rfl, hx, by rw [qx.length]; exact hv, ?_⟩
        have hlen : xs.dropLast.length ≤ sizeLine := by
          have := e.hl _ _ (.inl hx)
          rw [List.length_dropLast]; omega
        have kpv : ∀ kp : Kp F H F (upd H p (.lst xs.dropLast)), Da K F (upd H p (.lst xs.dropLast)) v d := fun kp => qv.kp kp
        obtain ⟨e3, s3⟩ := own_write (o := .lst xs.dropLast) (s := .l ds.dropLast) e hp (ownL_inv hl) rfl (fun kp => ⟨p, _, rfl, upd_same, (qx.kp kp).dropLast, nf⟩) (e.hl.lst hlen)
        exact x v F _ e3 s3 (qv.kp (s3.kp e))
/-! ### an own list read as a datum, all other own things out of sight -/
mutual
/-- no list, no dict within -/
def noL : D → Bool
  | .list _ => false
  | .dict _ => false
  | .tuple ds => noLs ds
  | _ => true
def noLs : List D → Bool
  | [] => true
  | d :: ds => noL d && noLs ds
end
mutual
theorem Da.free {F F' : Addr → Prop} {H : Hp} : ∀ {v : V} {d : D}, Da K F H v d → noL d = true → Da K F' H v d
  | _, _, .non, _ => .non
  | _, _, .bl b, _ => .bl b
  | _, _, .int i, _ => .int i
  | _, _, .str x, _ => .str x
  | _, _, .lst _ _ _, h => by simp [noL] at h
  | _, _, .tup r q, h => .tup r (Das.free q (by simpa [noL] using h))
  | _, _, .dct _ _ _, h => by simp [noL] at h
theorem Das.free {F F' : Addr → Prop} {H : Hp} : ∀ {vs : List V} {ds : List D}, Das K F H vs ds → noLs ds = true → Das K F' H vs ds
  | _, _, .nil, _ => .nil
  | _, _, .cons a b, h => by
    simp only [noLs, Bool.and_eq_true] at h
    exact .cons (Da.free a h.1) (Das.free b h.2)
end
def hideS : Sl → Sl
  | .l _ => .un
  | .k _ => .un
  | s => s
def hideR (ρ : R) (i : Nat) (ds : List D) : R := (ρ.map hideS).set i (.d (.list ds))
theorem hideS_own (s : Sl) : (hideS s).own = false := by cases s <;> rfl
theorem hide_own {σ : L2.St} {ρ : R} {i : Nat} {ds : List D} {p : Addr} : ¬ Ow σ (hideR ρ i ds) p := fun ⟨j, _, s, h2, h3⟩ => by
  unfold hideR at h2
  rw [List.getElem?_set] at h2
  split at h2
  · split at h2
    · obtain rfl := Option.some.inj h2
      cases h3
    · cases h2
  · rw [List.getElem?_map] at h2
    cases e : ρ[j]? with
    | none => rw [e] at h2; cases h2
    | some z =>
      rw [e] at h2
      obtain rfl := Option.some.inj h2
      rw [hideS_own] at h3
      cases h3
/-- exceptions left out -/
def nxm {α : Type} : M α → M α
  | .error (.exc _ _) => .error .stuck
  | r => r
def mBor {α : Type} (ok : α → Bool) (i : Nat) (g : R → M (α × R)) : R → M (α × R) := fun ρ => lo (ownL ρ i) >>= fun ds => nxm (g (hideR ρ i ds)) >>= fun q => if ok q.1 = true then .ok (q.1, ρ) else .error .stuck
theorem bor_in {F : Addr → Prop} {σ : L2.St} {H : Hp} {ρ : R} {i : Nat} {p : Addr} {xs : List V} {ds : List D} (e : EnvOk K F σ H ρ) (hl : ownL ρ i = some ds) (hp : σ[i]? = some (some (.ref p))) (hx : H p = some (.lst xs)) (qx : Das K F H xs ds) :
    EnvOk K (Fz F p) σ H (hideR ρ i ds) := by
  have hi : i < ρ.length := (List.getElem?_eq_some_iff.mp (ownL_inv hl)).1
  have kp : Kp F H (Fz F p) H := ⟨fun _ _ h => h, fun _ _ _ h => h, fun a h => ⟨.inl h, fun _ q => q⟩⟩
  refine ⟨by unfold hideR; rw [List.length_set, List.length_map]; exact e.len, fun j s h => ?_, fun a b q h1 h2 => absurd ⟨a, h1⟩ hide_own, fun a h => ?_, e.hl⟩
  · unfold hideR at h
    by_cases hj : i = j
    · subst hj
      rw [List.getElem?_set_self (by rw [List.length_map]; exact hi)] at h
      obtain rfl := Option.some.inj h
      exact ⟨.ref p, hp, .lst (.inr rfl) hx (qx.kp kp)⟩
    · rw [List.getElem?_set_ne hj, List.getElem?_map] at h
      cases es : ρ[j]? with
      | none => rw [es] at h; cases h
      | some z =>
        rw [es] at h
        obtain rfl := Option.some.inj h
        have q := e.at_ j z es
        cases z with
        | un => trivial
        | l _ => trivial
        | k _ => trivial
        | d x =>
          obtain ⟨w, h1, h2⟩ := q
          exact ⟨w, h1, h2.kp kp⟩
        | s ns => exact q
  · rcases h with h | h
    · exact e.fl a h
    · rw [h, hx]; simp
theorem bor_out {F F' : Addr → Prop} {σ : L2.St} {H H' : Hp} {ρ ρ' : R} {i : Nat} {p : Addr} {ds : List D} (e : EnvOk K F σ H ρ) (hl' : HL H') (s : Stp σ (hideR ρ i ds) (Fz F p) H σ ρ' F' H') : Gr F H F H' :=
  ⟨fun a o h => s.keep a o h hide_own, fun _ h => h, fun _ h => .inl h, fun a h => s.live a (e.fl a h), hl'⟩
theorem ev_bor {te : TE} {g : R → M (D × R)} {i : Nat} (hg : EvE K mg E te g) : EvE K mg E te (mBor noL i g) := by
  intro F σ H ρ Q e x
  obtain ⟨ds, hl, x1⟩ := RP.pure x
  obtain ⟨p, xs, hp, hx0, qx, nf⟩ := env_L e hl
  have ein := bor_in e hl hp hx0 qx
  refine hg (Fz F p) σ H (hideR ρ i ds) Q ein ?_
  have x1' : RP K mg E σ ρ F H (nxm (g (hideR ρ i ds)) >>= fun q => if noL q.1 = true then .ok (q.1, ρ) else .error .stuck) (fun d ρ' => ∀ v F' H', EnvOk K F' σ H' ρ' → Stp σ ρ F H σ ρ' F' H' → Da K F' H' v d → Q v H') := x1
  cases hr : g (hideR ρ i ds) with
  | error er =>
    rw [hr] at x1'
    cases er with
    | stuck => exact x1'.elim
    | exc c fs => exact x1'.elim
  | ok r =>
    rw [hr] at x1'
    have x2 : RP K mg E σ ρ F H (if noL r.1 = true then .ok (r.1, ρ) else .error .stuck) (fun d ρ' => ∀ v F' H', EnvOk K F' σ H' ρ' → Stp σ ρ F H σ ρ' F' H' → Da K F' H' v d → Q v H') := x1'
    by_cases hn : noL r.1 = true
    · rw [if_pos hn] at x2
      intro v F' H' e' s' q'
      have g' := bor_out e e'.hl s'
      exact x2 v F H' (e.grow g') g'.stp (q'.free hn)
    · rw [if_neg hn] at x2
      exact x2.elim
theorem ev_borO {te : TE} {g : R → M (List D × R)} {i : Nat} (hg : EvO K mg E te g) : EvO K mg E te (mBor noLs i g) := by
  intro F σ H ρ Q e x
  obtain ⟨ds, hl, x1⟩ := RP.pure x
  obtain ⟨p, xs, hp, hx0, qx, nf⟩ := env_L e hl
  have ein := bor_in e hl hp hx0 qx
  refine hg (Fz F p) σ H (hideR ρ i ds) Q ein ?_
  have x1' : RP K mg E σ ρ F H (nxm (g (hideR ρ i ds)) >>= fun q => if noLs q.1 = true then .ok (q.1, ρ) else .error .stuck) (fun ds ρ' => ∀ p xs F' H', EnvOk K F' σ H' ρ' → Stp σ ρ F H σ ρ' F' H' → H p = none → H' p = some (.lst xs) → Das K F' H' xs ds → ¬ F' p → ¬ Ow σ ρ' p → Q (.ref p) H') := x1
  cases hr : g (hideR ρ i ds) with
  | error er =>
    rw [hr] at x1'
    cases er with
    | stuck => exact x1'.elim
    | exc c fs => exact x1'.elim
  | ok r =>
    rw [hr] at x1'
    have x2 : RP K mg E σ ρ F H (if noLs r.1 = true then .ok (r.1, ρ) else .error .stuck) (fun ds ρ' => ∀ p xs F' H', EnvOk K F' σ H' ρ' → Stp σ ρ F H σ ρ' F' H' → H p = none → H' p = some (.lst xs) → Das K F' H' xs ds → ¬ F' p → ¬ Ow σ ρ' p → Q (.ref p) H') := x1'
    by_cases hn : noLs r.1 = true
    · rw [if_pos hn] at x2
      intro p' ys F' H' e' s' n' h' q' nf' no'
      have g' := bor_out e e'.hl s'
      exact x2 p' ys F H' (e.grow g') g'.stp n' h' (q'.free hn) (free_fz e n') (free_ow e n')
    · rw [if_neg hn] at x2
      exact x2.elim
theorem ev_borT {te : TT} {g : R → M (Bool × R)} {i : Nat} (hg : EvT K mg E te g) : EvT K mg E te (mBor (fun _ => true) i g) := by
  intro F σ H ρ Q e x
  obtain ⟨ds, hl, x1⟩ := RP.pure x
  obtain ⟨p, xs, hp, hx0, qx, nf⟩ := env_L e hl
  have ein := bor_in e hl hp hx0 qx
  refine hg (Fz F p) σ H (hideR ρ i ds) Q ein ?_
  have x1' : RP K mg E σ ρ F H (nxm (g (hideR ρ i ds)) >>= fun q => if (fun _ => true) q.1 = true then .ok (q.1, ρ) else .error .stuck) (fun b ρ' => ∀ F' H', EnvOk K F' σ H' ρ' → Stp σ ρ F H σ ρ' F' H' → Q b H') := x1
  cases hr : g (hideR ρ i ds) with
  | error er =>
    rw [hr] at x1'
    cases er with
    | stuck => exact x1'.elim
    | exc c fs => exact x1'.elim
  | ok r =>
    rw [hr] at x1'
    have x2 : ∀ F' H', EnvOk K F' σ H' ρ → Stp σ ρ F H σ ρ F' H' → Q r.1 H' := x1'
    intro F' H' e' s'
    have g' := bor_out e e'.hl s'
    exact x2 F H' (e.grow g') g'.stp
/-! ### own dicts -/
def mNewK (i : Nat) : SM := fun ρ => if i < ρ.length then .ok (.nx, ρ.set i (.k [])) else .error .stuck
theorem ev_newK {i : Nat} (hp : i ∉ P) : EvS K mg E P (tAsg tDNewK (gName i)) (mNewK i) := by
  intro F σ H ρ Dn e x
  unfold mNewK at x
  by_cases hi : i < ρ.length
  case neg =>
    rw [if_neg hi] at x
    exact x.elim
  rw [if_pos hi] at x
  intro p hn
  have g : Gr F H F (upd H p (.dK [])) := Gr.new e.fl hn e.hl.dK
  have e1 := e.grow g
  refine x _ F _ (e1.setO (s := .k []) ⟨p, [], rfl, upd_same, .nil, free_fz e hn⟩ (free_ow e hn) hi) ⟨fun a o h _ => g.keep a o h, fun b ⟨j, z1, s', z2, z3⟩ => ?_, fun _ h => h, fun _ h => .inl h, fun a h => ?_⟩ (Pin.agree agree_set fun j hj => by
    have : j = i := by simpa using hj
    rw [this]; exact hp)
  · by_cases hj : i = j
    · subst hj
      rw [List.getElem?_set_self (by rw [← e.len]; exact hi)] at z1
      cases z1
      exact .inr hn
    · rw [List.getElem?_set_ne hj] at z1 z2
      exact .inl ⟨j, z1, s', z2, z3⟩
  · cases q : H a with
    | none => exact absurd q h
    | some o => rw [g.keep a o q]; simp
def valD (kvs : List (Key × D)) (k : Key) : Option D := (kvs.find? fun kv => decide (kv.1 = k)).map (·.2)
def putD (kvs : List (Key × D)) (k : Key) (v : D) : List (Key × D) :=
  if (kvs.any fun kv => decide (kv.1 = k)) = true then kvs.map (fun kv => if kv.1 = k then (kv.1, v) else kv) else kvs ++ [(k, v)]
def keyOf : D → Option Key
  | .int i => some (.inl i)
  | .str x => some (.inr x)
  | _ => none
theorem keyOf_da {F : Addr → Prop} {H : Hp} {v : V} {d : D} {k : Key} (h : Da K F H v d) (e : keyOf d = some k) : v = kV k := by
  cases h with
  | int i => obtain rfl := Option.some.inj e; rfl
  | str i => obtain rfl := Option.some.inj e; rfl
  | _ => cases e
theorem Dks.val {F : Addr → Prop} {H : Hp} {k : Key} : ∀ {xs : List (Key × V)} {kvs : List (Key × D)}, Dks K F H xs kvs → (valD kvs k = none → valV xs k = none) ∧ ∀ d, valD kvs k = some d → ∃ v, valV xs k = some v ∧ Da K F H v d
  | _, _, .nil => ⟨fun _ => rfl, fun d h => by cases h⟩
  | _, _, .cons (k := k') (v := v') (d := d') a b => by
    obtain ⟨h1, h2⟩ := Dks.val (k := k) b
    by_cases e : k' = k
    · refine ⟨fun h => ?_, fun d h => ⟨v', valV_pos (p := (k', v')) e, ?_⟩⟩
      · simp [valD, e] at h
      · simp [valD, e] at h
        subst h; exact a
    · refine ⟨fun h => ?_, fun d h => ?_⟩
      · rw [valV_neg (p := (k', v')) e]
        exact h1 (by simpa [valD, e] using h)
      · obtain ⟨v, q1, q2⟩ := h2 d (by simpa [valD, e] using h)
        exact ⟨v, by rw [valV_neg (p := (k', v')) e]; exact q1, q2⟩
theorem Dks.any {F : Addr → Prop} {H : Hp} {k : Key} : ∀ {xs : List (Key × V)} {kvs : List (Key × D)}, Dks K F H xs kvs → (xs.any fun kv => decide (kv.1 = k)) = kvs.any fun kv => decide (kv.1 = k)
  | _, _, .nil => rfl
  | _, _, .cons a b => by rw [List.any_cons, List.any_cons, Dks.any b]
theorem Dks.len {F : Addr → Prop} {H : Hp} : ∀ {xs : List (Key × V)} {kvs : List (Key × D)}, Dks K F H xs kvs → xs.length = kvs.length
  | _, _, .nil => rfl
  | _, _, .cons a b => by rw [List.length_cons, List.length_cons, Dks.len b]
theorem Dks.map {F : Addr → Prop} {H : Hp} {k : Key} {v : V} {d : D} (q : Da K F H v d) : ∀ {xs : List (Key × V)} {kvs : List (Key × D)}, Dks K F H xs kvs → Dks K F H (xs.map fun kv => if kv.1 = k then (kv.1, v) else kv) (kvs.map fun kv => if kv.1 = k then (kv.1, d) else kv)
  | _, _, .nil => .nil
  | _, _, .cons (k := k') a b => by
    rw [List.map_cons, List.map_cons]
    by_cases e : k' = k
    · simp only [e, if_true]
      exact .cons q (Dks.map q b)
    · simp only [e, if_false]
      exact .cons a (Dks.map q b)
theorem Dks.snoc {F : Addr → Prop} {H : Hp} {k : Key} {v : V} {d : D} (q : Da K F H v d) : ∀ {xs : List (Key × V)} {kvs : List (Key × D)}, Dks K F H xs kvs → Dks K F H (xs ++ [(k, v)]) (kvs ++ [(k, d)])
  | _, _, .nil => .cons q .nil
  | _, _, .cons a b => .cons a (Dks.snoc q b)
theorem Dks.put {F : Addr → Prop} {H : Hp} {k : Key} {v : V} {d : D} {xs : List (Key × V)} {kvs : List (Key × D)} (h : Dks K F H xs kvs) (q : Da K F H v d) : Dks K F H (putK xs k v) (putD kvs k d) := by
  unfold putK putD
  rw [h.any]
  split
  · exact h.map q
  · exact h.snoc q
def putAt (ρ : R) (i : Nat) (n d : D) : Option R := (ownK ρ i).bind fun kvs => (keyOf n).bind fun k => if kvs.length < sizeLine then some (ρ.set i (.k (putD kvs k d))) else none
/-- x[k] = e, x an own dict: e, then k -/
def mPutK (i : Nat) (a k : R → M (D × R)) : SM := fun ρ => a ρ >>= fun p => lo (ownK p.2 i) >>= fun _ => k p.2 >>= fun q => lo (putAt q.2 i q.1 p.1) >>= fun ρ' => .ok (.nx, ρ')
theorem ev_putK {i : Nat} {te tk : TE} {a k : R → M (D × R)} (ha : EvE K mg E te a) (hk : EvE K mg E tk k) : EvS K mg E P (sDPut (tVar i) tk te) (mPutK i a k) := by
  intro F σ H ρ Dn e x
  refine ha F σ H ρ _ e ((RP.bind x).later Stp.refl fun d ρ1 _ x1 v F1 H1 e1 s1 q1 => ?_)
  obtain ⟨ds0, h0, x2⟩ := RP.pure x1
  obtain ⟨p, xs0, hp, _⟩ := env_K e1 h0
  refine ⟨.ref p, hp, ?_⟩
  refine hk F1 σ H1 ρ1 _ e1 ((RP.go s1 x2).later Stp.refl fun n ρ2 _ x3 w F2 H2 e2 s2 q2 => ?_)
  obtain ⟨ρ3, h3, x4⟩ := RP.pure x3
  replace h3 : putAt ρ2 i n d = some ρ3 := h3
  unfold putAt at h3
  cases hl : ownK ρ2 i with
  | none => rw [hl] at h3; cases h3
  | some ds =>
    cases hn : keyOf n with
    | none => simp [hl, hn] at h3
    | some m =>
      obtain rfl := keyOf_da q2 hn
      by_cases hz : ds.length < sizeLine
      · simp [hl, hn, hz] at h3
        subst h3
        obtain ⟨p2, xs, hp2, hx, qx, nf⟩ := env_K e2 hl
        rw [hp] at hp2; cases hp2
        refine ⟨p, _, rfl, DPut.k hx (by rw [qx.len]; exact hz), ?_⟩
        obtain ⟨e3, s3⟩ := own_write (o := .dK (putK xs m v)) (s := .k (putD ds m d)) e2 hp (ownK_inv hl) rfl (fun kp => ⟨p, _, rfl, upd_same, (qx.kp kp).put ((q1.kp (s2.kp e1)).kp kp), nf⟩) e2.hl.dK
        exact x4 σ F2 _ e3 ((s1.trans s2).trans s3) Pin.refl
      · simp [hl, hn, hz] at h3
def getAt (ρ : R) (i : Nat) (n : D) : Option (Option D) := (ownK ρ i).bind fun kvs => (keyOf n).map fun k => valD kvs k
/-- x.get(k, e) -/
def mGetK (i : Nat) (k a : R → M (D × R)) : R → M (D × R) := fun ρ => lo (ownK ρ i) >>= fun _ => k ρ >>= fun p => a p.2 >>= fun q => lo (getAt q.2 i p.1) >>= fun o => .ok (o.getD q.1, q.2)
theorem ev_getK {i : Nat} {te tk : TE} {a k : R → M (D × R)} (hk : EvE K mg E tk k) (ha : EvE K mg E te a) : EvE K mg E (tDGet2 (tVar i) tk te) (mGetK i k a) := by
  intro F σ H ρ Q e x
  obtain ⟨ds0, h0, x0⟩ := RP.pure x
  obtain ⟨p, xs0, hp, hx0, _⟩ := env_K e h0
  refine ⟨.ref p, hp, p, rfl, .inl ⟨xs0, .inl hx0⟩, ?_⟩
  refine hk F σ H ρ _ e ((RP.bind x0).later Stp.refl fun n ρ1 _ x1 w F1 H1 e1 s1 q1 => ?_)
  refine ha F1 σ H1 ρ1 _ e1 ((RP.go s1 x1).later Stp.refl fun d ρ2 _ x2 v F2 H2 e2 s2 q2 => ?_)
  obtain ⟨o, ho, x3⟩ := RP.pure x2
  replace ho : getAt ρ2 i n = some o := ho
  unfold getAt at ho
  cases hl : ownK ρ2 i with
  | none => rw [hl] at ho; cases ho
  | some ds =>
    cases hn : keyOf n with
    | none => simp [hl, hn] at ho
    | some m =>
      simp [hl, hn] at ho
      subst ho
      obtain rfl := keyOf_da q1 hn
      obtain ⟨p2, xs, hp2, hx, qx, nf⟩ := env_K e2 hl
      rw [hp] at hp2; cases hp2
      obtain ⟨z1, z2⟩ := qx.val (k := m)
      refine ⟨valV xs m, DGet.k hx, ?_⟩
      cases hv : valD ds m with
      | none =>
        rw [z1 hv]
        rw [hv] at x3
        exact x3 v F2 H2 e2 (s1.trans s2) q2
      | some d' =>
        obtain ⟨v', y1, y2⟩ := z2 d' hv
        rw [y1]
        rw [hv] at x3
        exact x3 v' F2 H2 e2 (s1.trans s2) y2
/-- x[k], x an own dict that has k -/
def mAtK (i : Nat) (k : R → M (D × R)) : R → M (D × R) := fun ρ => lo (ownK ρ i) >>= fun _ => k ρ >>= fun p => lo (getAt p.2 i p.1) >>= fun o => lo o >>= fun d => .ok (d, p.2)
theorem ev_atK {i : Nat} {tk : TE} {k : R → M (D × R)} (hk : EvE K mg E tk k) : EvE K mg E (tDGet (tVar i) tk) (mAtK i k) := by
  intro F σ H ρ Q e x
  obtain ⟨ds0, h0, x0⟩ := RP.pure x
  obtain ⟨p, xs0, hp, hx0, _⟩ := env_K e h0
  refine ⟨.ref p, hp, ?_⟩
  refine hk F σ H ρ _ e ((RP.bind x0).later Stp.refl fun n ρ1 _ x1 w F1 H1 e1 s1 q1 => ?_)
  obtain ⟨o, ho, x3⟩ := RP.pure x1
  obtain ⟨d, hd, x4⟩ := RP.pure x3
  replace ho : getAt ρ1 i n = some o := ho
  subst hd
  unfold getAt at ho
  cases hl : ownK ρ1 i with
  | none => rw [hl] at ho; cases ho
  | some ds =>
    cases hn : keyOf n with
    | none => simp [hl, hn] at ho
    | some m =>
      simp [hl, hn] at ho
      obtain rfl := keyOf_da q1 hn
      obtain ⟨p2, xs, hp2, hx, qx, nf⟩ := env_K e1 hl
      rw [hp] at hp2; cases hp2
      obtain ⟨v', y1, y2⟩ := (qx.val (k := m)).2 d ho
      exact ⟨p, v', rfl, .inl ⟨xs, m, .inl hx, rfl, y1.symm⟩, x4 v' F1 H1 e1 s1 y2⟩
/-- k in x, x an own dict; k first -/
def mInK (neg : Bool) (i : Nat) (k : R → M (D × R)) : R → M (D × R) := fun ρ => k ρ >>= fun p => lo (getAt p.2 i p.1) >>= fun o => .ok (.bool (if neg then !o.isSome else o.isSome), p.2)
theorem in_at {F : Addr → Prop} {σ : L2.St} {H : Hp} {ρ : R} {i : Nat} {n : D} {w : V} {o : Option D} (e : EnvOk K F σ H ρ) (q : Da K F H w n) (ho : getAt ρ i n = some o) : ∃ p ov, σ[i]? = some (some (.ref p)) ∧ DGet H p w ov ∧ ov.isSome = o.isSome := by
  unfold getAt at ho
  cases hl : ownK ρ i with
  | none => rw [hl] at ho; cases ho
  | some ds =>
    cases hn : keyOf n with
    | none => simp [hl, hn] at ho
    | some m =>
      simp [hl, hn] at ho
      subst ho
      obtain rfl := keyOf_da q hn
      obtain ⟨p2, xs, hp2, hx, qx, nf⟩ := env_K e hl
      obtain ⟨z1, z2⟩ := qx.val (k := m)
      refine ⟨p2, valV xs m, hp2, DGet.k hx, ?_⟩
      cases hv : valD ds m with
      | none => rw [z1 hv]; rfl
      | some d' =>
        obtain ⟨v', y1, _⟩ := z2 d' hv
        rw [y1]; rfl
theorem ev_inK {i : Nat} {tk : TE} {k : R → M (D × R)} (hk : EvE K mg E tk k) : EvE K mg E (tDIn tk (tVar i)) (mInK false i k) := by
  intro F σ H ρ Q e x
  refine hk F σ H ρ _ e ((RP.bind x).later Stp.refl fun n ρ1 _ x1 w F1 H1 e1 s1 q1 => ?_)
  obtain ⟨o, ho, x3⟩ := RP.pure x1
  obtain ⟨p, ov, h1, h2, h3⟩ := in_at e1 q1 ho
  refine ⟨.ref p, h1, p, ov, rfl, h2, ?_⟩
  rw [h3]
  exact x3 _ F1 H1 e1 s1 (.bl _)
theorem ev_notInK {i : Nat} {tk : TE} {k : R → M (D × R)} (hk : EvE K mg E tk k) : EvE K mg E (tDNotIn tk (tVar i)) (mInK true i k) := by
  intro F σ H ρ Q e x
  refine hk F σ H ρ _ e ((RP.bind x).later Stp.refl fun n ρ1 _ x1 w F1 H1 e1 s1 q1 => ?_)
  obtain ⟨o, ho, x3⟩ := RP.pure x1
  obtain ⟨p, ov, h1, h2, h3⟩ := in_at e1 q1 ho
  refine ⟨.ref p, h1, p, ov, rfl, h2, ?_⟩
  rw [h3]
  exact x3 _ F1 H1 e1 s1 (.bl _)
end
end DL

/-! DL10: a def by its body; the judgements' rules in short. -/
namespace DL
open PySem PySem.Spec PyProof.Rows L2
abbrev rr_sub : R2 := rI0 fun i j => .int (i - j)
abbrev rr_mul : R2 := rI CMul fun i j => .int (i * j)
abbrev rr_fdiv : R2 := rI CDivW fun i j => .int (i / j)
abbrev rr_mod : R2 := rI (fun _ j => 0 < j) fun i j => .int (i % j)
abbrev rr_pow : R2 := rI CPowB fun i j => .int (i ^ j.toNat)
abbrev rr_lt : R2 := rI0 fun i j => .bl (decide (i < j))
abbrev rr_le : R2 := rI0 fun i j => .bl (decide (i ≤ j))
abbrev rr_gt : R2 := rI0 fun i j => .bl (decide (j < i))
abbrev rr_ge : R2 := rI0 fun i j => .bl (decide (j ≤ i))
abbrev rr_isN : R2 := fun x y H Q => y = .non ∧ Q (.bl (decide (x = .non))) H
abbrev rr_notN : R2 := fun x y H Q => y = .non ∧ Q (.bl (!decide (x = .non))) H
section
variable {X : Cx} {K : PySem.W.Frag} {mg : Str → Option Value} {E : XK} {P : List Nat}
/-- what the own arguments hold at the end -/
def outP (P : List Nat) (n : Nat) (ρ : R) : R := (List.range n).map fun i => if i ∈ P then ρ.getD i .un else .un
/-- a def's mirror from its body's: m names, n parameters -/
def mBody (m n : Nat) (P : List Nat) (g : SM) : FM := fun ss => if ss.length = n then g (ss ++ List.replicate (m - n) .un) >>= fun p => match p.1 with
  | .rt d => .ok (d, outP P n p.2)
  | .nx => .ok (.none, outP P n p.2)
  | _ => .error .stuck else .error .stuck
theorem outP_get {P : List Nat} {n : Nat} {ρ : R} {i : Nat} {s : Sl} (h : (outP P n ρ)[i]? = some s) : i < n ∧ (s = .un ∨ (i ∈ P ∧ ρ[i]? = some s)) := by
  unfold outP at h
  rw [List.getElem?_map] at h
  cases e : (List.range n)[i]? with
  | none => rw [e] at h; cases h
  | some j =>
    rw [e] at h
    obtain ⟨h1, h2⟩ := List.getElem?_eq_some_iff.mp e
    rw [List.getElem_range] at h2
    subst h2
    rw [List.length_range] at h1
    have h : (if i ∈ P then ρ.getD i .un else .un) = s := Option.some.inj h
    refine ⟨h1, ?_⟩
    by_cases hp : i ∈ P
    · rw [if_pos hp] at h
      cases es : ρ[i]? with
      | none =>
        have : ρ.getD i .un = .un := by simp [List.getD, es]
        rw [this] at h
        exact .inl h.symm
      | some s' =>
        have : ρ.getD i .un = s' := by simp [List.getD, es]
        rw [this] at h
        exact .inr ⟨hp, by rw [h]⟩
    · rw [if_neg hp] at h
      exact .inl h.symm
/-- THE RULE for a body: the promise gives the reading -/
theorem body_ok {N : List Str} {n : Nat} {t : TS} {g : SM} (hn : n ≤ N.length) (hP : ∀ i ∈ P, i < n) (ev : EvS K mg E P t g) (vs : List V) (H : Hp) (Q : VK) (h : spF K mg n (mBody N.length n P g) vs H Q E) :
    t { nx := fun _ H' => Q .non H', rt := Q } (L2.start N vs) H := by
  obtain ⟨hl, F, ss, e, x⟩ := h
  have x0 : RP K mg E (vs.map some) ss F H (if ss.length = n then g (ss ++ List.replicate (N.length - n) .un) >>= fun p => match p.1 with
    | .rt d => .ok (d, outP P n p.2)
    | .nx => .ok (.none, outP P n p.2)
    | _ => .error .stuck else .error .stuck) _ := x
  have hs : ss.length = n := by
    have := e.len
    rw [List.length_map] at this
    omega
  rw [if_pos hs] at x0
  have e0 : EnvOk K F (L2.start N vs) H (ss ++ List.replicate (N.length - n) .un) := by
    unfold L2.start
    rw [hl]
    refine ⟨by simp [hs, hl], fun i s h => ?_, fun a b p h1 h2 => ?_, e.fl, e.hl⟩
    · by_cases hi : i < ss.length
      · rw [List.getElem?_append_left hi] at h
        rw [List.getElem?_append_left (by rw [List.length_map]; omega)]
        exact e.at_ i s h
      · rw [List.getElem?_append_right (by omega), List.getElem?_replicate] at h
        split at h
        · obtain rfl := Option.some.inj h
          trivial
        · cases h
    · have sub : ∀ {k p}, OwnAt (vs.map some ++ List.replicate (N.length - n) none) (ss ++ List.replicate (N.length - n) .un) k p → OwnAt (vs.map some) ss k p := fun {k p} ⟨z1, s, z2, z3⟩ => by
        by_cases hi : k < ss.length
        · rw [List.getElem?_append_left hi] at z2
          rw [List.getElem?_append_left (by rw [List.length_map]; omega)] at z1
          exact ⟨z1, s, z2, z3⟩
        · rw [List.getElem?_append_right (by omega), List.getElem?_replicate] at z2
          split at z2
          · obtain rfl := Option.some.inj z2
            cases z3
          · cases z2
      exact e.sep a b p (sub h1) (sub h2)
  have sub : ∀ {a}, Ow (L2.start N vs) (ss ++ List.replicate (N.length - n) .un) a → Ow (vs.map some) ss a := fun {a} ⟨k, z1, s, z2, z3⟩ => by
    by_cases hi : k < ss.length
    · rw [List.getElem?_append_left hi] at z2
      unfold L2.start at z1
      rw [List.getElem?_append_left (by rw [List.length_map]; omega)] at z1
      exact ⟨k, z1, s, z2, z3⟩
    · rw [List.getElem?_append_right (by omega), List.getElem?_replicate] at z2
      split at z2
      · obtain rfl := Option.some.inj z2
        cases z3
      · cases z2
  have s0 : Stp (vs.map some) ss F H (L2.start N vs) (ss ++ List.replicate (N.length - n) .un) F H := ⟨fun _ _ h _ => h, fun a h => .inl (sub h), fun _ h => h, fun _ h => .inl h, fun _ h => h⟩
  -- behind the body
  have fin : ∀ {σ' : L2.St} {ρ' : R} {F' : Addr → Prop} {H' : Hp}, EnvOk K F' σ' H' ρ' → Stp (L2.start N vs) (ss ++ List.replicate (N.length - n) .un) F H σ' ρ' F' H' → Pin P (L2.start N vs) σ' →
      EnvOk K F' (vs.map some) H' (outP P n ρ') ∧ Stp (vs.map some) ss F H (vs.map some) (outP P n ρ') F' H' := fun {σ' ρ' F' H'} e' s' p' => by
    have at_ : ∀ i, i ∈ P → σ'[i]? = (vs.map some)[i]? := fun i hi => by
      rw [p' i hi]
      unfold L2.start
      rw [List.getElem?_append_left (by rw [List.length_map, hl]; exact hP i hi)]
    have own : ∀ {i p}, OwnAt (vs.map some) (outP P n ρ') i p → OwnAt σ' ρ' i p := fun {i p} ⟨z1, s, z2, z3⟩ => by
      rcases (outP_get z2).2 with rfl | ⟨hi, h⟩
      · cases z3
      · exact ⟨by rw [at_ i hi]; exact z1, s, h, z3⟩
    refine ⟨⟨by unfold outP; simp [hl], fun i s h => ?_, fun a b p h1 h2 => e'.sep a b p (own h1) (own h2), e'.fl, e'.hl⟩, ⟨fun a o h nn => s'.keep a o h fun z => nn (sub z), fun a ⟨i, z⟩ => ?_, s'.f0, fun a h => (s'.f1 a h).elim .inl fun z => z.elim (fun z => .inr (.inl z)) fun z => .inr (.inr (sub z)), s'.live⟩⟩
    · rcases (outP_get h).2 with rfl | ⟨hi, hh⟩
      · trivial
      · have q := e'.at_ i s hh
        rw [at_ i hi] at q
        exact q
    · rcases s'.own a ⟨i, own z⟩ with z | z
      · exact .inl (sub z)
      · exact .inr z
  refine ev F (L2.start N vs) H _ _ e0 ((RP.bind x0).later s0 fun fl ρ1 _ x1 => ?_)
  cases fl with
  | nx =>
    have x1 : ∀ v F' H', EnvOk K F' (vs.map some) H' (outP P n ρ1) → Stp (vs.map some) ss F H (vs.map some) (outP P n ρ1) F' H' → Da K F' H' v .none → Q v H' := x1
    exact fun σ' F' H' e' s' p' => x1 .non F' H' (fin e' s' p').1 (fin e' s' p').2 .non
  | bk => exact x1.elim
  | ct => exact x1.elim
  | rt d =>
    have x1 : ∀ v F' H', EnvOk K F' (vs.map some) H' (outP P n ρ1) → Stp (vs.map some) ss F H (vs.map some) (outP P n ρ1) F' H' → Da K F' H' v d → Q v H' := x1
    exact fun v σ' F' H' e' s' p' q' => x1 v F' H' (fin e' s' p').1 (fin e' s' p').2 q'
/-- a def that lets nothing out -/
theorem fn_ok {Pr : Program} {w : World} {base : Heap} {x qual : Str} {st : Stmt} {f : Addr} {fd : FuncData} {N ps : List Str} {k n : Nat} {t : TS} {g : SM} (Fn : Fun K x qual st f fd) (S : FnScope N ps (defScope st)) (hlen : ps.length = n) (hn : n ≤ N.length) (hP : ∀ i ∈ P, i < n)
    (body : ∀ (cdv : Value) (Ar : Around) (outer : List Env) (s : Shared) (H : Hp) (E : XK), Room k (Ar.deeper (envOfC qual (defScope st) s.heap.objs.size f cdv)) → DSs (cxOf CX0 Pr w K mg base N qual (defScope st) f cdv Ar outer s H E).nox E P (defBody st) t g) :
    FnOk Pr w K mg base CX0 (k + 1) f fd ps (spF K mg n (mBody N.length n P g)) := by
  refine Fn.ok S (fun vs H Q E h => h.1.trans hlen.symm) fun cdv Ar outer s H vs Q E hr h => ?_
  have b := body cdv Ar outer s H E hr
  exact ⟨t, b.ps, body_ok hn hP b.ev vs H Q h⟩
/-! ### the rules in short -/
theorem de_c {e : Expr} {v : V} {d : D} (h : PE X e (tC v)) (hd : ∀ F H, Da X.K F H v d) : DE X E e (tC v) (mC d) := ⟨h, ev_c hd⟩
theorem de_v (i : Nat) {x : Str} {pos : Pos} (hN : X.N[i]? = some x := by rfl) (hv : Vis X.env.scope x := by first | exact Or.inl rfl | exact Or.inr (Or.inl rfl) | exact Or.inr (Or.inr rfl)) (hd : (x == ("__debug__" : Str)) = false := by decide)
    (hcd : (x == ("__classdict__" : Str)) = false := by decide) : DE X E (.Name x pos) (tVar i) (mVar i) := ⟨pe_var hN hv hd hcd, ev_var⟩
theorem de_int {i j pos} : DE X E (.Constant (.int i) j pos) (tC (.int i)) (mC (.int i)) := ⟨pe_int, ev_c fun _ _ => .int _⟩
theorem de_str {i j pos} : DE X E (.Constant (.str i) j pos) (tC (.str i)) (mC (.str i)) := ⟨pe_str, ev_c fun _ _ => .str _⟩
theorem de_bl {i j pos} : DE X E (.Constant (.bool i) j pos) (tC (.bl i)) (mC (.bool i)) := ⟨pe_bl, ev_c fun _ _ => .bl _⟩
theorem de_non {j pos} : DE X E (.Constant .none j pos) (tC .non) (mC .none) := ⟨pe_non, ev_c fun _ _ => .non⟩
theorem de_gint {x : Str} {i : Int} {tk : Tok} {pos : Pos} (hm : X.mg x = some (.int i tk)) (hg : Gl X x := by rfl) (hd : (x == ("__debug__" : Str)) = false := by decide) : DE X E (.Name x pos) (tC (.int i)) (mC (.int i)) := ⟨pe_glob hg hm ⟨_, rfl⟩ hd, ev_c fun _ _ => .int _⟩
theorem de_gstr {x : Str} {i : Str} {tk : Tok} {pos : Pos} (hm : X.mg x = some (.str i tk)) (hg : Gl X x := by rfl) (hd : (x == ("__debug__" : Str)) = false := by decide) : DE X E (.Name x pos) (tC (.str i)) (mC (.str i)) := ⟨pe_glob hg hm ⟨_, rfl⟩ hd, ev_c fun _ _ => .str _⟩
section
variable {a b c : Expr} {pos : Pos} {ta tb : TE} {tc : TT} {ga gb : R → M (D × R)} {gc : R → M (Bool × R)} {r : R2} {f : D → D → Option D}
theorem de_op {op : Operator} (ho : OpR X (binaryOp op) r) (hf : OpD X.K r f) (ha : DE X E a ta ga) (hb : DE X E b tb gb) : DE X E (.BinOp a op b pos) (tOp r ta tb) (mOp f ga gb) := ⟨pe_op ho ha.pe hb.pe, ev_op hf ha.ev hb.ev⟩
theorem de_add (ha : DE X E a ta ga) (hb : DE X E b tb gb) : DE X E (.BinOp a .Add b pos) (tOp (rAddA X.K) ta tb) (mOp addD ga gb) := de_op op_addA od_add ha hb
theorem de_sub (ha : DE X E a ta ga) (hb : DE X E b tb gb) : DE X E (.BinOp a .Sub b pos) (tOp rr_sub ta tb) (mOp subD ga gb) := de_op op_sub od_sub ha hb
theorem de_mul (ha : DE X E a ta ga) (hb : DE X E b tb gb) : DE X E (.BinOp a .Mult b pos) (tOp rr_mul ta tb) (mOp mulD ga gb) := de_op op_mul od_mul ha hb
theorem de_fdiv (ha : DE X E a ta ga) (hb : DE X E b tb gb) : DE X E (.BinOp a .FloorDiv b pos) (tOp rr_fdiv ta tb) (mOp fdivD ga gb) := de_op op_fdivW od_fdiv ha hb
theorem de_mod (ha : DE X E a ta ga) (hb : DE X E b tb gb) : DE X E (.BinOp a .Mod b pos) (tOp rr_mod ta tb) (mOp modD ga gb) := de_op op_mod od_mod ha hb
theorem de_pow (ha : DE X E a ta ga) (hb : DE X E b tb gb) : DE X E (.BinOp a .Pow b pos) (tOp rr_pow ta tb) (mOp powD ga gb) := de_op op_powB od_pow ha hb
theorem de_cmp {op : CmpOp} (ho : OpR X (compareOp op) r) (hf : OpD X.K r f) (ha : DE X E a ta ga) (hb : DE X E b tb gb) (hm : behindInMarks op b = false) : DE X E (.Compare a [op] [b] pos) (tOp r ta tb) (mOp f ga gb) := ⟨pe_cmpR ho ha.pe hb.pe hm, ev_op hf ha.ev hb.ev⟩
theorem de_lt (ha : DE X E a ta ga) (hb : DE X E b tb gb) : DE X E (.Compare a [.Lt] [b] pos) (tOp rr_lt ta tb) (mOp ltD ga gb) := de_cmp op_lt od_lt ha hb (nomark _)
theorem de_le (ha : DE X E a ta ga) (hb : DE X E b tb gb) : DE X E (.Compare a [.LtE] [b] pos) (tOp rr_le ta tb) (mOp leD ga gb) := de_cmp op_le od_le ha hb (nomark _)
theorem de_gt (ha : DE X E a ta ga) (hb : DE X E b tb gb) : DE X E (.Compare a [.Gt] [b] pos) (tOp rr_gt ta tb) (mOp gtD ga gb) := de_cmp op_gt od_gt ha hb (nomark _)
theorem de_ge (ha : DE X E a ta ga) (hb : DE X E b tb gb) : DE X E (.Compare a [.GtE] [b] pos) (tOp rr_ge ta tb) (mOp geD ga gb) := de_cmp op_ge od_ge ha hb (nomark _)
theorem de_eq (hu : X.A.units + 200 < cLine) (ha : DE X E a ta ga) (hb : DE X E b tb gb) : DE X E (.Compare a [.Eq] [b] pos) (tOp (rEqP X.K) ta tb) (mOp eqD ga gb) := de_cmp (op_eqP hu) od_eq ha hb (nomark _)
theorem de_ne (hu : X.A.units + 200 < cLine) (ha : DE X E a ta ga) (hb : DE X E b tb gb) : DE X E (.Compare a [.NotEq] [b] pos) (tOp (rNeP X.K) ta tb) (mOp neD ga gb) := de_cmp (op_neP hu) od_ne ha hb (nomark _)
theorem de_in (hu : X.A.units + 200 < cLine) (ha : DE X E a ta ga) (hb : DE X E b tb gb) (hm : behindInMarks .In b = false := by rfl) : DE X E (.Compare a [.In] [b] pos) (tOp (rInA X.K false) ta tb) (mOp (inD false) ga gb) := de_cmp (op_inA hu) od_in ha hb hm
theorem de_notin (hu : X.A.units + 200 < cLine) (ha : DE X E a ta ga) (hb : DE X E b tb gb) (hm : behindInMarks .NotIn b = false := by rfl) : DE X E (.Compare a [.NotIn] [b] pos) (tOp (rInA X.K true) ta tb) (mOp (inD true) ga gb) := de_cmp (op_notInA hu) od_in ha hb hm
theorem de_isN (ha : DE X E a ta ga) (hb : DE X E b tb gb) : DE X E (.Compare a [.Is] [b] pos) (tOp rr_isN ta tb) (mOp isNoneD ga gb) := de_cmp op_isN od_isN ha hb (nomark _)
theorem de_notN (ha : DE X E a ta ga) (hb : DE X E b tb gb) : DE X E (.Compare a [.IsNot] [b] pos) (tOp rr_notN ta tb) (mOp notNoneD ga gb) := de_cmp op_notN od_notN ha hb (nomark _)
theorem de_ix (ha : DE X E a ta ga) (hb : DE X E b tb gb) (hs : PlainIx b := by exact fun _ _ => rfl) : DE X E (.Subscript a b pos) (tOp (rIx X.K) ta tb) (mOp ixD ga gb) := ⟨pe_ix ix_seq ha.pe hb.pe hs, ev_op od_ix ha.ev hb.ev⟩
theorem de_if (hc : DT X E c tc gc) (ha : DE X E a ta ga) (hb : DE X E b tb gb) : DE X E (.IfExp c a b pos) (tIf tc ta tb) (mIf gc ga gb) := ⟨pe_ifExp hc.pt ha.pe hb.pe, ev_if hc.ev ha.ev hb.ev⟩
end
theorem de_tup {es : List Expr} {x1 : Nat} {pos : Pos} {t : TA} {g : R → M (List D × R)} (n : Nat) (h : DA X E es t g) (hn : n ≤ sizeLine := by exact Nat.le_trans (show _ ≤ 1000 by decide) (by decide)) (hl : ∀ ρ ds ρ', g ρ = .ok (ds, ρ') → ds.length = n) : DE X E (.Tuple es x1 pos) (tTup t) (mTup g) := ⟨pe_tup h.pa, ev_tup n hn h.ev hl⟩
theorem do_lst {es : List Expr} {pos : Pos} {t : TA} {g : R → M (List D × R)} (n : Nat) (h : DA X E es t g) (hn : n ≤ sizeLine := by exact Nat.le_trans (show _ ≤ 1000 by decide) (by decide)) (hl : ∀ ρ ds ρ', g ρ = .ok (ds, ρ') → ds.length = n) : DO X E (.List es pos) (tLst t) g := ⟨pe_lst h.pa, ev_lst n hn h.ev hl⟩
theorem de_fz {e : Expr} {t : TE} {g : R → M (List D × R)} (h : DO X E e t g) : DE X E e t (mFz g) := ⟨h.pe, ev_fz h.ev⟩
theorem da_nil : DA X E [] tNil mNil := ⟨pa_nil, ev_nil⟩
theorem da_cons {e : Expr} {es : List Expr} {te : TE} {tr : TA} {ga : R → M (D × R)} {gr : R → M (List D × R)} (ha : DE X E e te ga) (hr : DA X E es tr gr) (hs : starEach (e :: es) X.env = (false, eval e X.env) :: starEach es X.env := by rfl) : DA X E (e :: es) (tCons te tr) (mCons ga gr) := ⟨pa_cons ha.pe hr.pa hs, ev_cons ha.ev hr.ev⟩
theorem len_nil : ∀ ρ ds ρ', mNil ρ = .ok (ds, ρ') → ds.length = 0 := fun ρ ds ρ' h => by cases h; rfl
theorem len_cons {ga : R → M (D × R)} {gr : R → M (List D × R)} {n : Nat} (h : ∀ ρ ds ρ', gr ρ = .ok (ds, ρ') → ds.length = n) : ∀ ρ ds ρ', mCons ga gr ρ = .ok (ds, ρ') → ds.length = n + 1 := fun ρ ds ρ' e => by
  unfold mCons at e
  cases h1 : ga ρ with
  | error z => rw [h1] at e; cases e
  | ok p =>
    rw [h1] at e
    have e : (gr p.2 >>= fun q => (.ok (p.1 :: q.1, q.2) : M (List D × R))) = .ok (ds, ρ') := e
    cases h2 : gr p.2 with
    | error z => rw [h2] at e; cases e
    | ok q =>
      rw [h2] at e
      cases e
      rw [List.length_cons, h _ _ _ h2]
theorem al_nil : ∀ ρ as ρ', aNil ρ = .ok (as, ρ') → as.length = 0 := fun ρ ds ρ' h => by cases h; rfl
theorem al_d {ga : R → M (D × R)} {gr : R → M (List A × R)} {n : Nat} (h : ∀ ρ ds ρ', gr ρ = .ok (ds, ρ') → ds.length = n) : ∀ ρ ds ρ', aD ga gr ρ = .ok (ds, ρ') → ds.length = n + 1 := fun ρ ds ρ' e => by
  unfold aD at e
  cases h1 : ga ρ with
  | error z => rw [h1] at e; cases e
  | ok p =>
    rw [h1] at e
    have e : (gr p.2 >>= fun q => (.ok (.d p.1 :: q.1, q.2) : M (List A × R))) = .ok (ds, ρ') := e
    cases h2 : gr p.2 with
    | error z => rw [h2] at e; cases e
    | ok q =>
      rw [h2] at e
      cases e
      rw [List.length_cons, h _ _ _ h2]
theorem al_o {j : Nat} {gr : R → M (List A × R)} {n : Nat} (h : ∀ ρ ds ρ', gr ρ = .ok (ds, ρ') → ds.length = n) : ∀ ρ ds ρ', aO j gr ρ = .ok (ds, ρ') → ds.length = n + 1 := fun ρ ds ρ' e => by
  have go : (gr ρ >>= fun q => (.ok (.o j :: q.1, q.2) : M (List A × R))) = .ok (ds, ρ') → ds.length = n + 1 := fun e => by
    cases h2 : gr ρ with
    | error z => rw [h2] at e; cases e
    | ok q =>
      rw [h2] at e
      cases e
      rw [List.length_cons, h _ _ _ h2]
  unfold aO at e
  split at e
  · exact go e
  · exact go e
  · exact go e
  · cases e
/-! ### built-in functions -/
section
variable {x : Str} {e : Expr} {es : List Expr} {p pos : Pos} {t : TA} {id T : String} {r : List V → Hp → VK → Prop} {g : R → M (List D × R)}
theorem de_fn {f : List D → Option D} (hc : CallR X (.builtin id) r) (hf : FnD X.K r f) (hm : X.mg x = none) (hv : bootBuiltins x = some (.builtin id)) (ha : DA X E (e :: es) t g) (hg : Gl X x := by rfl) (hn : x ≠ "__name__" := by decide) (hdb : (x == ("__debug__" : Str)) = false := by decide)
    (he : starEach (e :: es) X.env = (false, eval e X.env) :: starEach es X.env := by rfl) (hpl : (backTo pos (starEach es X.env)).any (·.1) = false := by rfl) : DE X E (.Call (.Name x p) (e :: es) [] pos) (tCB r t) (mFn f g) := ⟨pe_callB hc hg hm hv ha.pa hn hdb he hpl, ev_fn hf ha.ev⟩
theorem de_ty {f : List D → Option D} (hc : CallR X (.type T) r) (hf : FnD X.K r f) (hm : X.mg x = none) (hv : bootBuiltins x = some (.type T)) (ha : DA X E (e :: es) t g) (hg : Gl X x := by rfl) (hn : x ≠ "__name__" := by decide) (hdb : (x == ("__debug__" : Str)) = false := by decide)
    (he : starEach (e :: es) X.env = (false, eval e X.env) :: starEach es X.env := by rfl) (hpl : (backTo pos (starEach es X.env)).any (·.1) = false := by rfl) : DE X E (.Call (.Name x p) (e :: es) [] pos) (tCB r t) (mFn f g) := ⟨pe_callTy hc hg hm hv ha.pa hn hdb he hpl, ev_fn hf ha.ev⟩
theorem do_ty {f : List D → Option (List D)} (hc : CallR X (.type T) r) (hf : FnO X.K r f) (hm : X.mg x = none) (hv : bootBuiltins x = some (.type T)) (ha : DA X E (e :: es) t g) (hg : Gl X x := by rfl) (hn : x ≠ "__name__" := by decide) (hdb : (x == ("__debug__" : Str)) = false := by decide)
    (he : starEach (e :: es) X.env = (false, eval e X.env) :: starEach es X.env := by rfl) (hpl : (backTo pos (starEach es X.env)).any (·.1) = false := by rfl) : DO X E (.Call (.Name x p) (e :: es) [] pos) (tCB r t) (mFnO f g) := ⟨pe_callTy hc hg hm hv ha.pa hn hdb he hpl, ev_fnO hf ha.ev⟩
end
theorem de_isa {T : String} {Ts : Str} {e : Expr} {p p2 pos : Pos} {te : TE} {g : R → M (D × R)} (hT : TyOk T) (hm : X.mg "isinstance" = none) (hm2 : X.mg Ts = none) (hv2 : bootBuiltins Ts = some (.type T)) (ha : DE X E e te g) (hg : Gl X "isinstance" := by rfl) (hg2 : Gl X Ts := by rfl)
    (hn2 : Ts ≠ "__name__" := by decide) (hdb2 : (Ts == ("__debug__" : Str)) = false := by decide)
    (he : starEach [e, .Name Ts p2] X.env = (false, eval e X.env) :: starEach [.Name Ts p2] X.env := by rfl) (he2 : starEach [.Name Ts p2] X.env = (false, eval (.Name Ts p2) X.env) :: starEach [] X.env := by rfl) (hpl : (backTo pos (starEach [.Name Ts p2] X.env)).any (·.1) = false := by rfl) :
    DE X E (.Call (.Name "isinstance" p) [e, .Name Ts p2] [] pos) (tCB (rIsi X.K) (tCons te (tCons (tC (.ty T)) tNil))) (mIsa T g) :=
  ⟨pe_callB call_isi hg hm (by decide +kernel) (pa_cons ha.pe (pa_cons (pe_bltn (v := .ty T) hg2 hm2 hv2 rfl hn2 hdb2) pa_nil he2) he) (by decide) (by decide) he hpl, ev_isa hT ha.ev⟩
/-! ### a[lo:hi] -/
theorem dp_none : DP X E none tNoPart mNone := ⟨po_none, ev_none⟩
theorem dp_some {e : Expr} {te : TE} {g : R → M (D × R)} (h : DE X E e te g) : DP X E (some e) (tPart te) (mPart g) := ⟨po_some h.pe, ev_part h.ev⟩
theorem de_cut {e : Expr} {lo hi : Option Expr} {p2 pos : Pos} {te : TE} {tl th : TO} {g : R → M (D × R)} {gl gh : R → M (Option Int × R)} (ha : DE X E e te g) (hl : DP X E lo tl gl) (hh : DP X E hi th gh) : DE X E (.Subscript e (.Slice lo hi none p2) pos) (tSl (rSl X.K) te tl th) (mCut g gl gh) := ⟨pe_slice sl_any ha.pe hl.po hh.po, ev_cut ha.ev hl.ev hh.ev⟩
/-! ### tests -/
theorem dt_bool {a : Expr} {te : TE} {g : R → M (D × R)} (h : DE X E a te g) (he : ∀ whole, isTrue a X.env whole = (do let v ← whole; standAt a.pos; holding [v] (truthy v)) := by intro _; rfl) : DT X E a (tTruth X.K te) (mTest truthD g) := ⟨pt_truth h.pe he, ev_truth h.ev⟩
theorem dt_cmp {op : CmpOp} {a b : Expr} {pos : Pos} {ta tb : TE} {ga gb : R → M (D × R)} {r : R2} {f : D → D → Option D} (ho : OpR X (compareOp op) r) (hf : OpD X.K r f) (ha : DE X E a ta ga) (hb : DE X E b tb gb) (hm : behindInMarks op b = false) : DT X E (.Compare a [op] [b] pos) (tTest (tOp r ta tb)) (mTest boolD (mOp f ga gb)) := ⟨pt_cmpR ho ha.pe hb.pe hm, ev_test (ev_op hf ha.ev hb.ev)⟩
section
variable {a b : Expr} {rest : List Expr} {pos : Pos} {t u : TT} {ga gb : R → M (Bool × R)}
theorem dt_w (h : DW X E a t ga) : DT X E a t ga := ⟨h.pw.pt, h.ev⟩
theorem dw_and1 (h : DT X E a t ga) : DW X E (.BoolOp .And [a] pos) t ga := ⟨pw_and1 h.pt, h.ev⟩
theorem dw_or1 (h : DT X E a t ga) : DW X E (.BoolOp .Or [a] pos) t ga := ⟨pw_or1 h.pt, h.ev⟩
theorem dw_and (h : DT X E a t ga) (h2 : DW X E (.BoolOp .And (b :: rest) pos) u gb) : DW X E (.BoolOp .And (a :: b :: rest) pos) (tAnd t u) (mAnd ga gb) := ⟨pw_and h.pt h2.pw, ev_and h.ev h2.ev⟩
theorem dw_or (h : DT X E a t ga) (h2 : DW X E (.BoolOp .Or (b :: rest) pos) u gb) : DW X E (.BoolOp .Or (a :: b :: rest) pos) (tOr t u) (mOr ga gb) := ⟨pw_or h.pt h2.pw, ev_or h.ev h2.ev⟩
theorem dt_not (h : DT X E a t ga) : DT X E (.UnaryOp .Not a pos) (tNot t) (mNot ga) := ⟨pt_not h.pt, ev_not h.ev⟩
end
end
end DL

/-! DL11: calls, comprehensions, statements: the rules in short. -/
namespace DL
open PySem PySem.Spec PyProof.Rows L2
section
variable {X : Cx} {K : PySem.W.Frag} {mg : Str → Option Value} {E : XK} {P : List Nat}
/-! ### calls -/
theorem de_call0 {k n m : Nat} {fM : FM} {f : Addr} {fd : FuncData} {ps : List Str} {dv : List V} {ds : List Value} {dd : List D} {x : Str} {p pos : Pos} {e : Expr} {es : List Expr} {t : TA} {ga : R → M (List A × R)} (G : FnOk X.prog X.w X.K X.mg X.base CX0 k f fd ps (spF X.K X.mg n fM)) (hr : Room k X.A) (hm : X.mg x = some (.ref f)) (hk : PySem.W.keepIn X.K (.ref f) = true)
    (hb : Binds X.K fd ps ds) (hv : Vals dv ds) (hd : ∀ F H, Das X.K F H dv dd) (ha : DR X E (e :: es) t ga) (hl : ∀ ρ as ρ', ga ρ = .ok (as, ρ') → as.length = m) (hn : m + dd.length = n := by rfl) (hg : Gl X x := by rfl)
    (hdb : (x == ("__debug__" : Str)) = false := by decide) (he : starEach (e :: es) X.env = (false, eval e X.env) :: starEach es X.env := by rfl) (hpl : (backTo pos (starEach es X.env)).any (·.1) = false := by rfl) :
    DE X E (.Call (.Name x p) (e :: es) [] pos) (tCall (spF X.K X.mg n fM) dv E0 t) (mCall (noX fM) dd ga) :=
  ⟨pe_call G hr hg hm hk hb hv pass0 ha.pa hdb he hpl, ev_call0 hd (fun ρ as ρ' h => by rw [hl ρ as ρ' h]; exact hn) ha.ev⟩
/-- an argument list of data and of own things that starts with a name -/
theorem de_callN {k n : Nat} {fM : FM} {f : Addr} {fd : FuncData} {ps : List Str} {x : Str} {p pos : Pos} {e : Expr} {es : List Expr} {t : TA} {ga : R → M (List A × R)} (G : FnOk X.prog X.w X.K X.mg X.base CX0 k f fd ps (spF X.K X.mg n fM)) (hr : Room k X.A) (hm : X.mg x = some (.ref f)) (hk : PySem.W.keepIn X.K (.ref f) = true)
    (hb : Binds X.K fd ps []) (ha : DR X E (e :: es) t ga) (hl : ∀ ρ as ρ', ga ρ = .ok (as, ρ') → as.length = n) (hg : Gl X x := by rfl)
    (hdb : (x == ("__debug__" : Str)) = false := by decide) (he : starEach (e :: es) X.env = (false, eval e X.env) :: starEach es X.env := by rfl) (hpl : (backTo pos (starEach es X.env)).any (·.1) = false := by rfl) :
    DE X E (.Call (.Name x p) (e :: es) [] pos) (tCall (spF X.K X.mg n fM) [] E0 t) (mCall (noX fM) [] ga) :=
  de_call0 (m := n) (dd := []) G hr hm hk hb .nil (fun _ _ => .nil) ha hl rfl hg hdb he hpl
/-! ### what is walked -/
theorem di_seq {tg e : Expr} {te : TE} {g : R → M (D × R)} (h : DE X E e te g) : DI X E tg e (iSeq X.K te) (mItems g) := ⟨pi_seq h.pe, ev_seq h.ev⟩
theorem di_range1 {tg a : Expr} {te : TE} {g : R → M (D × R)} {p pos : Pos} (hm : X.mg "range" = none) (h : DE X E a te g) (hg : Gl X "range" := by rfl) (hs : starEach [a] X.env = [(false, eval a X.env)] := by rfl) : DI X E tg (.Call (.Name "range" p) [a] [] pos) (iRng1 (tCons te tNil)) (mRng (mCons g mNil)) :=
  ⟨pi_range1 hg hm (pa_cons h.pe pa_nil hs) hs, ev_range1 (len_cons len_nil) (ev_cons h.ev ev_nil)⟩
theorem di_range2 {tg a b : Expr} {te tf : TE} {g gf : R → M (D × R)} {p pos : Pos} (hm : X.mg "range" = none) (h : DE X E a te g) (h2 : DE X E b tf gf) (hg : Gl X "range" := by rfl) (hs : starEach [a, b] X.env = [(false, eval a X.env), (false, eval b X.env)] := by rfl) (hs2 : starEach [b] X.env = [(false, eval b X.env)] := by rfl) :
    DI X E tg (.Call (.Name "range" p) [a, b] [] pos) (iRng2 (tCons te (tCons tf tNil))) (mRng (mCons g (mCons gf mNil))) :=
  ⟨pi_range2 hg hm (pa_cons h.pe (pa_cons h2.pe pa_nil hs2) (by rw [hs, hs2])) hs hs2, ev_range2 (len_cons (len_cons len_nil)) (ev_cons h.ev (ev_cons h2.ev ev_nil))⟩
def enumFrom : Nat → List D → List D
  | _, [] => []
  | i, d :: ds => .tuple [.int i, d] :: enumFrom (i + 1) ds
theorem enumFrom_get : ∀ {ds : List D} {i n : Nat} {e : D}, (enumFrom n ds)[i]? = some e → ∃ d, ds[i]? = some d ∧ e = .tuple [.int ((n + i : Nat) : Int), d]
  | [], i, n, e, h => by cases h
  | d :: ds, 0, n, e, h => by
    obtain rfl := Option.some.inj h
    exact ⟨d, rfl, rfl⟩
  | d :: ds, i + 1, n, e, h => by
    obtain ⟨d', h1, h2⟩ := enumFrom_get (ds := ds) (i := i) (n := n + 1) (by simpa [enumFrom] using h)
    refine ⟨d', by simpa using h1, ?_⟩
    rw [h2]
    have : n + 1 + i = n + (i + 1) := by omega
    rw [this]
theorem enumFrom_len : ∀ (ds : List D) (n : Nat), (enumFrom n ds).length = ds.length
  | [], _ => rfl
  | d :: ds, n => by show (enumFrom (n + 1) ds).length + 1 = ds.length + 1; rw [enumFrom_len ds]
def enumD : D → Option (List D)
  | .list ds => some (enumFrom 0 ds)
  | _ => none
def mEnum (a : R → M (D × R)) : R → M (List D × R) := fun ρ => a ρ >>= fun p => lo (enumD p.1) >>= fun z => .ok (z, p.2)
theorem wk_pair {F : Addr → Prop} {H : Hp} {J : It} {es : List D} {n : Nat} {G : Hp → Prop} {fx fy : Nat → Option V} (hn : n = es.length) (W : Walk J n G (YPair fx fy)) (hG : ∀ F1 H1, Kp F H F1 H1 → G H1)
    (hxy : ∀ (i : Nat) (x y : V) (d : D), fx i = some x → fy i = some y → es[i]? = some d → ∃ a b, d = .tuple [a, b] ∧ Da K F H x a ∧ Da K F H y b) : Wk K J F H es := by
  subst hn
  refine ⟨G, _, W, hG, fun i F1 H1 z H2 k fl hl y d hd => ?_⟩
  obtain ⟨T, x, w, rfl, hT, rfl, h1, h2⟩ := y
  obtain ⟨a, b, rfl, q1, q2⟩ := hxy i x w d h1 h2 hd
  have g : Gr F1 H1 F1 (upd H1 T (.tup [x, w])) := Gr.new fl hT (hl.tup (Nat.le_trans (show 2 ≤ 1000 by decide) (by decide)))
  exact ⟨F1, g, .tup (SqT.of upd_same) (.cons ((q1.kp k).kp g.kp) (.cons ((q2.kp k).kp g.kp) .nil))⟩
theorem ev_enum {te : TE} {ga : R → M (D × R)} (ha : EvE K mg E te ga) : EvI K mg E (iEnum K (tCons te tNil)) (mEnum ga) := by
  intro F σ H ρ Q e x
  refine ha F σ H ρ _ e ((RP.bind x).later Stp.refl fun d ρ1 _ x1 v F1 H1 e1 s1 q1 => ?_)
  obtain ⟨es, he, x2⟩ := RP.pure x1
  replace he : enumD d = some es := he
  cases q1 with
  | lst f r q =>
    rename_i a xs ds hr0
    obtain rfl := Option.some.inj he
    refine ⟨a, xs, rfl, SqL.of r, x2 _ F1 H1 e1 s1 (wk_pair (n := xs.length) (by rw [enumFrom_len, q.length]) walk_enum (fun F2 H2 k => SqL.of ((k.fro a f).2 _ r)) fun i x y d hx hy hd => ?_)⟩
    obtain ⟨d', h1, h2⟩ := enumFrom_get hd
    obtain ⟨v, h3, h4⟩ := q.get h1
    have hy : xs[i]? = some y := hy
    rw [hy] at h3
    obtain rfl := Option.some.inj h3
    have hx : some (V.int (i : Nat)) = some x := hx
    obtain rfl := Option.some.inj hx
    exact ⟨_, _, h2, by rw [Nat.zero_add]; exact .int _, h4⟩
  | _ => cases he
theorem di_enum {e : Expr} {te : TE} {g : R → M (D × R)} {p pos tpos : Pos} {elts : List Expr} {kk : Nat} (hm : X.mg "enumerate" = none) (h : DE X E e te g) (hg : Gl X "enumerate" := by rfl) (hs : starEach [e] X.env = [(false, eval e X.env)] := by rfl) :
    DI X E (.Tuple elts kk tpos) (.Call (.Name "enumerate" p) [e] [] pos) (iEnum X.K (tCons te tNil)) (mEnum g) := ⟨pi_enum hg hm (pa_cons h.pe pa_nil hs) hs, ev_enum h.ev⟩
/-! ### comprehensions -/
theorem blk_pe {s : Shared} {H : Hp} {scope : Scope} {cl : List (Str × Addr)} {C : Addr} {fp : List Addr} : (X.blk s H scope (compEnvC scope cl C X.env) fp).K = X.K := rfl
/-- the parts of a comprehension in its block -/
structure DB (X : Cx) (E : XK) (scope : Scope) (elt tg : Expr) (ifs : List Expr) (js : List Nat) (g : TG) (tt : TT) (te : TE) (tgt : D → R → M R) (tst : R → M (Bool × R)) (el : R → M (D × R)) : Prop where
  hg : ∀ (s : Shared) (H : Hp) (C : Addr) (cl : List (Str × Addr)) (fp : List Addr), DG (X.blk s H scope (compEnvC scope cl C X.env) fp) tg js g tgt
  ht : ∀ (s : Shared) (H : Hp) (C : Addr) (cl : List (Str × Addr)) (fp : List Addr), PTs (X.blk s H scope (compEnvC scope cl C X.env) fp) ifs tt ∧ EvT X.K X.mg E tt tst
  he : ∀ (s : Shared) (H : Hp) (C : Addr) (cl : List (Str × Addr)) (fp : List Addr), DE (X.blk s H scope (compEnvC scope cl C X.env) fp) E elt te el
theorem dts_nil {Y : Cx} : PTs Y [] tYes ∧ EvT K mg E tYes mYes := ⟨pts_nil, ev_yes⟩
theorem dts_one {Y : Cx} {c : Expr} {t : TT} {g : R → M (Bool × R)} (h : DT Y E c t g) : PTs Y [c] t ∧ EvT Y.K Y.mg E t g := ⟨pts_one h.pt, h.ev⟩
section
variable {elt tg iter : Expr} {ifs : List Expr} {scope : Scope} {own : List (Str × Nat)} {js : List Nat} {pos spos : Pos} {wi : TI} {g : TG} {tt : TT} {te : TE} {it : R → M (List D × R)} {tgt : D → R → M R} {tst : R → M (Bool × R)} {el : R → M (D × R)}
theorem ev_lcB (b : DB X E scope elt tg ifs js g tt te tgt tst el) (hi : EvI X.K X.mg E wi it) (hj : ∀ i ∈ js, i ∈ own.map (·.2)) : EvO X.K X.mg E (tLc wi g tt te (own.map (·.2))) (mLc (own.map (·.2)) it tgt tst el) := by
  have s0 : Shared := {}
  exact ev_lc hi (b.hg s0 (fun _ => none) 0 [] []).ev (b.hg s0 (fun _ => none) 0 [] []).qt hj (b.ht s0 (fun _ => none) 0 [] []).2 (b.he s0 (fun _ => none) 0 [] []).ev
theorem do_lc (hN : X.N.Nodup) (hi : DI X E tg iter wi it) (ok : BlkOk X.N X.env.scope scope own) (b : DB X E scope elt tg ifs js g tt te tgt tst el) (hj : ∀ i ∈ js, i ∈ own.map (·.2) := by decide) (hc : X.calm = true := by rfl) (hs : ∀ x, foldedSetIterable iter X.env x = pure x := by intro _; rfl) :
    DO X E (.ListComp elt [⟨tg, iter, ifs, 0⟩] scope pos) (tLc wi g tt te (own.map (·.2))) (mLc (own.map (·.2)) it tgt tst el) :=
  ⟨pe_lc hc hN hi.pi ok (fun s H C cl fp => (b.hg s H C cl fp).pg) (fun s H C cl fp => (b.ht s H C cl fp).1) (fun s H C cl fp => (b.he s H C cl fp).pe) hs, ev_lcB b hi.ev hj⟩
/-- x = [..], a datum -/
theorem ds_lc {i : Nat} {y : Str} {py : Pos} (hN : X.N.Nodup) (hsw : swapsWith (.ListComp elt [⟨tg, iter, ifs, 0⟩] scope pos) (some (.Name y py)) spos.line X.env = pure true) (hi : DI X E tg iter wi it) (ok : BlkOk X.N X.env.scope scope own) (b : DB X E scope elt tg ifs js g tt te tgt tst el) (hp : i ∉ P := by decide)
    (hj : ∀ i ∈ js, i ∈ own.map (·.2) := by decide) (hc : X.calm = true := by rfl) (hy : X.N[i]? = some y := by rfl) (hyl : X.env.scope.names.lookup y = some .local := by rfl) (hs : ∀ x, foldedSetIterable iter X.env x = pure x := by intro _; rfl) :
    DS X E P (.Assign [.Name y py] (.ListComp elt [⟨tg, iter, ifs, 0⟩] scope pos) spos) (tAsg (tLc wi g tt te (own.map (·.2))) (gName i)) (mAsg (mFz (mLc (own.map (·.2)) it tgt tst el)) (mSet i)) :=
  ⟨ps_setLc hc hN hy hyl hsw hi.pi ok (fun s H C cl fp => (b.hg s H C cl fp).pg) (fun s H C cl fp => (b.ht s H C cl fp).1) (fun s H C cl fp => (b.he s H C cl fp).pe) hs, ev_asg (ev_fz (ev_lcB b hi.ev hj)) eg_name mSet_quiet fun j hj => by
    have : j = i := by simpa using hj
    rw [this]; exact hp⟩
/-- x = [..], own -/
theorem ds_lcO {i : Nat} {y : Str} {py : Pos} (hN : X.N.Nodup) (hsw : swapsWith (.ListComp elt [⟨tg, iter, ifs, 0⟩] scope pos) (some (.Name y py)) spos.line X.env = pure true) (hi : DI X E tg iter wi it) (ok : BlkOk X.N X.env.scope scope own) (b : DB X E scope elt tg ifs js g tt te tgt tst el) (hp : i ∉ P := by decide)
    (hj : ∀ i ∈ js, i ∈ own.map (·.2) := by decide) (hc : X.calm = true := by rfl) (hy : X.N[i]? = some y := by rfl) (hyl : X.env.scope.names.lookup y = some .local := by rfl) (hs : ∀ x, foldedSetIterable iter X.env x = pure x := by intro _; rfl) :
    DS X E P (.Assign [.Name y py] (.ListComp elt [⟨tg, iter, ifs, 0⟩] scope pos) spos) (tAsg (tLc wi g tt te (own.map (·.2))) (gName i)) (mOwn i (mLc (own.map (·.2)) it tgt tst el)) :=
  ⟨ps_setLc hc hN hy hyl hsw hi.pi ok (fun s H C cl fp => (b.hg s H C cl fp).pg) (fun s H C cl fp => (b.ht s H C cl fp).1) (fun s H C cl fp => (b.he s H C cl fp).pe) hs, ev_own (ev_lcB b hi.ev hj) hp⟩
end
/-! ### an own list read -/
theorem de_bor {e : Expr} {te : TE} {g : R → M (D × R)} (i : Nat) (h : DE X E e te g) : DE X E e te (mBor noL i g) := ⟨h.pe, ev_bor h.ev⟩
theorem do_bor {e : Expr} {te : TE} {g : R → M (List D × R)} (i : Nat) (h : DO X E e te g) : DO X E e te (mBor noLs i g) := ⟨h.pe, ev_borO h.ev⟩
theorem dt_bor {e : Expr} {te : TT} {g : R → M (Bool × R)} (i : Nat) (h : DT X E e te g) : DT X E e te (mBor (fun _ => true) i g) := ⟨h.pt, ev_borT h.ev⟩
theorem de_pop {i : Nat} {o : Expr} {apos cpos : Pos} (ho : PE X o (tVar i)) (hbase : attributeBase o "pop" X.env (eval o X.env) = eval o X.env := by rfl) (hline : (apos.endLine == cpos.line) = true := by rfl) : DE X E (.Call (.Attribute o "pop" apos) [] [] cpos) (tBM0 X.K "list" rPop (tVar i)) (mPop i) :=
  ⟨pe_bm0 PySem.F.plainAttrs_list PySem.F.slot_list_pop PySem.F.type_list_pop mt_pop ho hbase hline, ev_pop⟩
/-! ### statements -/
section
variable {e : Expr} {st : Stmt} {rest : List Stmt} {pos pos' : Pos} {te : TE} {t u : TS} {a b : SM} {g : R → M (D × R)}
theorem dss_nil : DSs X E P [] tNext mSkip := ⟨pss_nil, ev_skip⟩
theorem dss_one (h : DS X E P st t a) : DSs X E P [st] t a := ⟨pss_one h.ps, h.ev⟩
theorem dss_cons (h : DS X E P st t a) (h2 : DSs X E P rest u b) : DSs X E P (st :: rest) (tSeq t u) (mThen a b) := ⟨pss_cons h.ps h2.ps, ev_then h.ev h2.ev⟩
theorem ds_set {i : Nat} {x : Str} (hN : X.N.Nodup) (h : DE X E e te g) (hp : i ∉ P := by decide) (hi : X.N[i]? = some x := by rfl) (hx : Loc X.env.scope x := by first | exact .inl rfl | exact .inr rfl) (hs : swapsWith e (some (.Name x pos')) pos.line X.env = pure false := by rfl) (hf : X.fn x = true ∨ X.env.scope.names.lookup x = some .local := by first | exact .inl rfl | exact .inr rfl) :
    DS X E P (.Assign [.Name x pos'] e pos) (tAsg te (gName i)) (mAsg g (mSet i)) := ⟨ps_set hN hi hx h.pe hs hf, ev_asg h.ev eg_name mSet_quiet fun j hj => by
    have : j = i := by simpa using hj
    rw [this]; exact hp⟩
theorem ds_own {i : Nat} {x : Str} {g : R → M (List D × R)} (hN : X.N.Nodup) (h : DO X E e te g) (hp : i ∉ P := by decide) (hi : X.N[i]? = some x := by rfl) (hx : Loc X.env.scope x := by first | exact .inl rfl | exact .inr rfl) (hs : swapsWith e (some (.Name x pos')) pos.line X.env = pure false := by rfl) (hf : X.fn x = true ∨ X.env.scope.names.lookup x = some .local := by first | exact .inl rfl | exact .inr rfl) :
    DS X E P (.Assign [.Name x pos'] e pos) (tAsg te (gName i)) (mOwn i g) := ⟨ps_set hN hi hx h.pe hs hf, ev_own h.ev hp⟩
theorem ds_newK {i : Nat} {x : Str} {dpos : Pos} (hN : X.N.Nodup) (hp : i ∉ P := by decide) (hi : X.N[i]? = some x := by rfl) (hx : Loc X.env.scope x := by first | exact .inl rfl | exact .inr rfl) (hs : swapsWith (.Dict [] [] dpos) (some (.Name x pos')) pos.line X.env = pure false := by rfl) (hf : X.fn x = true ∨ X.env.scope.names.lookup x = some .local := by first | exact .inl rfl | exact .inr rfl) :
    DS X E P (.Assign [.Name x pos'] (.Dict [] [] dpos) pos) (tAsg tDNewK (gName i)) (mNewK i) := ⟨ps_set hN hi hx pe_dnewK hs hf, ev_newK hp⟩
/-- (x, y, ..) = e -/
theorem ds_asg {tg : Expr} {js : List Nat} {tt : TG} {h : D → R → M R} (he : DE X E e te g) (hg : DG X tg js tt h) (hp : ∀ i ∈ js, i ∉ P := by decide) (hs : swapsWithSole [tg] e pos.line X.env = pure false := by rfl) (hw : swappedStores [tg] e X.env = pure none := by rfl)
    (h1 : (assignEach [tg] X.env).map (·.2) = [assign tg X.env] := by rfl) : DS X E P (.Assign [tg] e pos) (tAsg te tt) (mAsg g h) := ⟨ps_asg he.pe hg.pg hs hw h1, ev_asg he.ev hg.ev hg.qt hp⟩
theorem ds_ret (h : DE X E e te g) : DS X E P (.Return (some e) pos) (tRet te) (mRet g) := ⟨ps_ret h.pe, ev_ret h.ev⟩
theorem ds_retN : DS X E P (.Return none pos) tRetN mRetN := ⟨ps_retN, ev_retN⟩
theorem ds_drop (h : DE X E e te g) (hs : swapsWith e none pos.line X.env = pure false := by rfl) : DS X E P (.Expr e pos) (tDrop te) (mDrop g) := ⟨ps_expr h.pe hs, ev_drop h.ev⟩
theorem ds_if {c : Expr} {tc : TT} {gc : R → M (Bool × R)} {p q : List Stmt} (hc : DT X E c tc gc) (h1 : DSs X E P p t a) (h2 : DSs X E P q u b) : DS X E P (.If c p q pos) (tIfS tc t u) (mIf gc a b) := ⟨ps_if hc.pt h1.ps h2.ps, ev_ifS hc.ev h1.ev h2.ev⟩
theorem ds_for {iter tg : Expr} {body : List Stmt} {wi : TI} {tt : TG} {js : List Nat} {it : R → M (List D × R)} {tgt : D → R → M R} (hi : DI X E tg iter wi it) (hg : DG X tg js tt tgt) (hb : DSs X E P body t a) (hpo : PassesOwn (model X.prog X.w) X.A X.env X.xe) (hp : ∀ i ∈ js, i ∉ P := by decide) (hc : X.calm = true := by rfl) (hs : ∀ x, foldedSetIterable iter X.env x = pure x := by intro _; rfl) :
    DS X E P (.For tg iter body [] pos) (tFor wi tt t) (mFor it tgt a) := ⟨ps_for hpo hc hi.pi hg.pg hb.ps hs, ev_for hi.ev hg.ev hg.qt hp hb.ev⟩
theorem ds_brk : DS X E P (.Break pos) tBreak mBrk := ⟨ps_break, ev_brk⟩
theorem ds_cont : DS X E P (.Continue pos) tCont mCont := ⟨ps_continue, ev_cont⟩
theorem ds_pass : DS X E P (.Pass pos) tNext mSkip := ⟨ps_pass, ev_skip⟩
/-- what is never come to -/
def mNever : SM := fun _ => .error .stuck
theorem ds_never : DS X E P st tNever mNever := ⟨ps_never, fun _ _ _ _ _ _ x => x.elim⟩
theorem ds_while {c : Expr} {body : List Stmt} {tc : TT} {gc : R → M (Bool × R)} (n : Nat) (hp : PassesOwn (model X.prog X.w) X.A X.env X.xe) (hc : DT X E c tc gc) (hb : DSs X E P body t a) : DS X E P (.While c body [] pos) (tWhile tc t) (whileL gc a n) := ⟨ps_while hp hc.pt hb.ps, ev_while hc.ev hb.ev⟩
end
end
end DL

/-! DL12: further rules, a def by the head's facts, the law's end. -/
namespace DL
open PySem PySem.Spec PyProof.Rows L2
section
variable {X : Cx} {K : PySem.W.Frag} {mg : Str → Option Value} {E : XK} {P : List Nat}
/-! ### own lists and dicts as statements -/
theorem ds_app {i : Nat} {o e : Expr} {apos cpos pos : Pos} {te : TE} {g : R → M (D × R)} (ho : PE X o (tVar i)) (h : DE X E e te g) (hs : swapsWith (.Call (.Attribute o "append" apos) [e] [] cpos) none pos.line X.env = pure false := by rfl) (hbase : attributeBase o "append" X.env (eval o X.env) = eval o X.env := by rfl)
    (hfew : ((backTo cpos (starEach [e] X.env)).all (fun x => !x.1) && (backToKw cpos (keywordEach [] X.env)).all (fun x => x.1.isSome) && decide (([e] : List Expr).length + ([] : List Keyword).length + (if ([] : List Keyword).isEmpty then 0 else 1) < 30)) = true := by rfl)
    (hline : (apos.endLine == cpos.line) = true := by rfl) (hst : starEach [e] X.env = (false, eval e X.env) :: starEach [] X.env := by rfl) (hpl : (backTo cpos (starEach [] X.env)).any (·.1) = false := by rfl) :
    DS X E P (.Expr (.Call (.Attribute o "append" apos) [e] [] cpos) pos) (tDrop (tBM X.K "list" rAppend (tVar i) (tCons te tNil))) (mApp i g) :=
  ⟨ps_expr (pe_bm PySem.F.plainAttrs_list PySem.F.slot_list_append PySem.F.type_list_append mt_append ho (pa_cons h.pe pa_nil hst) hbase hfew hline hst hpl) hs, ev_app h.ev⟩
theorem ds_ext {i : Nat} {o e : Expr} {apos cpos pos : Pos} {te : TE} {g : R → M (D × R)} (ho : PE X o (tVar i)) (h : DE X E e te g) (hs : swapsWith (.Call (.Attribute o "extend" apos) [e] [] cpos) none pos.line X.env = pure false := by rfl) (hbase : attributeBase o "extend" X.env (eval o X.env) = eval o X.env := by rfl)
    (hfew : ((backTo cpos (starEach [e] X.env)).all (fun x => !x.1) && (backToKw cpos (keywordEach [] X.env)).all (fun x => x.1.isSome) && decide (([e] : List Expr).length + ([] : List Keyword).length + (if ([] : List Keyword).isEmpty then 0 else 1) < 30)) = true := by rfl)
    (hline : (apos.endLine == cpos.line) = true := by rfl) (hst : starEach [e] X.env = (false, eval e X.env) :: starEach [] X.env := by rfl) (hpl : (backTo cpos (starEach [] X.env)).any (·.1) = false := by rfl) :
    DS X E P (.Expr (.Call (.Attribute o "extend" apos) [e] [] cpos) pos) (tDrop (tBM X.K "list" rExtend (tVar i) (tCons te tNil))) (mExt i g) :=
  ⟨ps_expr (pe_bm PySem.F.plainAttrs_list PySem.F.slot_list_extend PySem.F.type_list_extend mt_extend ho (pa_cons h.pe pa_nil hst) hbase hfew hline hst hpl) hs, ev_ext h.ev⟩
theorem ds_setI {i : Nat} {o k e : Expr} {ipos pos : Pos} {te tk : TE} {g gk : R → M (D × R)} (ho : PE X o (tVar i)) (hk : DE X E k tk gk) (h : DE X E e te g) (ha : ∀ v, assign (.Subscript o k ipos) X.env v = (do
      let ov ← holding [v] (eval o X.env)
      let iv ← holding [v, ov] (eval k X.env)
      standAt ipos
      holding [v, ov, iv] (setItem ov iv v)
      release [v, ov, iv] []) := by intro _; rfl) (hs : swapsWithSole [.Subscript o k ipos] e pos.line X.env = pure false := by rfl) (hw : swappedStores [.Subscript o k ipos] e X.env = pure none := by rfl) (h1 : (assignEach [.Subscript o k ipos] X.env).map (·.2) = [assign (.Subscript o k ipos) X.env] := by rfl) :
    DS X E P (.Assign [.Subscript o k ipos] e pos) (tAsg te (gSub (tVar i) tk rSetL)) (mSetI i g gk) := ⟨ps_asg h.pe (pg_sub ho hk.pe set_list ha) hs hw h1, ev_setI h.ev hk.ev⟩
theorem ds_putK {i : Nat} {o k e : Expr} {ipos pos : Pos} {te tk : TE} {g gk : R → M (D × R)} (hu : X.A.units + 200 < cLine) (ho : PE X o (tVar i)) (hk : DE X E k tk gk) (h : DE X E e te g) (hs : swapsWith e (some (.Subscript o k ipos)) pos.line X.env = pure false := by rfl) :
    DS X E P (.Assign [.Subscript o k ipos] e pos) (sDPut (tVar i) tk te) (mPutK i g gk) := ⟨ps_dput (by omega) ho hk.pe h.pe hs, ev_putK h.ev hk.ev⟩
theorem de_getK {i : Nat} {o e f : Expr} {apos cpos : Pos} {te tf : TE} {g gf : R → M (D × R)} (hu : X.A.units + 200 < cLine) (ho : PE X o (tVar i)) (he : DE X E e te g) (hf : DE X E f tf gf) (m : M2 X o "get" apos e f cpos) : DE X E (.Call (.Attribute o "get" apos) [e, f] [] cpos) (tDGet2 (tVar i) te tf) (mGetK i g gf) :=
  ⟨pe_dget2 (by omega) ho he.pe hf.pe m, ev_getK he.ev hf.ev⟩
theorem de_atK {i : Nat} {o k : Expr} {pos : Pos} {tk : TE} {gk : R → M (D × R)} (hu : X.A.units + 200 < cLine) (ho : PE X o (tVar i)) (hk : DE X E k tk gk) (hs : NoSl k := by exact fun _ _ => rfl) : DE X E (.Subscript o k pos) (tDGet (tVar i) tk) (mAtK i gk) := ⟨pe_dget (by omega) ho hk.pe hs, ev_atK hk.ev⟩
theorem de_inK {i : Nat} {o k : Expr} {pos : Pos} {tk : TE} {gk : R → M (D × R)} (hu : X.A.units + 200 < cLine) (ho : PE X o (tVar i)) (hk : DE X E k tk gk) (hm : behindInMarks .In o = false := by rfl) : DE X E (.Compare k [.In] [o] pos) (tDIn tk (tVar i)) (mInK false i gk) := ⟨pe_cmp (pc_din (by omega) hk.pe ho) hm, ev_inK hk.ev⟩
theorem de_notinK {i : Nat} {o k : Expr} {pos : Pos} {tk : TE} {gk : R → M (D × R)} (hu : X.A.units + 200 < cLine) (ho : PE X o (tVar i)) (hk : DE X E k tk gk) (hm : behindInMarks .NotIn o = false := by rfl) : DE X E (.Compare k [.NotIn] [o] pos) (tDNotIn tk (tVar i)) (mInK true i gk) := ⟨pe_cmp (pc_dnotin (by omega) hk.pe ho) hm, ev_notInK hk.ev⟩
/-! ### sorted(x), x an own dict whose keys are ints -/
def insI (n : Int) : List Int → List Int
  | [] => [n]
  | m :: r => if n ≤ m then n :: m :: r else m :: insI n r
def sortI : List Int → List Int
  | [] => []
  | n :: r => insI n (sortI r)
theorem insI_perm (n : Int) : ∀ l : List Int, (insI n l).Perm (n :: l)
  | [] => .refl _
  | m :: r => by
    unfold insI
    split
    · exact .refl _
    · exact ((insI_perm n r).cons m).trans (.swap n m r)
theorem sortI_perm : ∀ l : List Int, (sortI l).Perm l
  | [] => .refl _
  | n :: r => (insI_perm n _).trans ((sortI_perm r).cons n)
theorem insI_sorted (n : Int) : ∀ l : List Int, l.Pairwise (· ≤ ·) → (insI n l).Pairwise (· ≤ ·)
  | [], _ => by simp [insI]
  | m :: r, h => by
    obtain ⟨h1, h2⟩ := List.pairwise_cons.mp h
    unfold insI
    split
    · rename_i c
      refine List.pairwise_cons.mpr ⟨fun a ha => ?_, h⟩
      rcases List.mem_cons.mp ha with e | e
      · rw [e]; exact c
      · exact Int.le_trans c (h1 a e)
    · rename_i c
      refine List.pairwise_cons.mpr ⟨fun a ha => ?_, insI_sorted n r h2⟩
      rcases List.mem_cons.mp ((insI_perm n r).mem_iff.mp ha) with e | e
      · rw [e]; omega
      · exact h1 a e
theorem sortI_sorted : ∀ l : List Int, (sortI l).Pairwise (· ≤ ·)
  | [] => .nil
  | n :: r => insI_sorted n _ (sortI_sorted r)
theorem sorted_same : ∀ {a b : List Int}, a.Perm b → a.Pairwise (· ≤ ·) → b.Pairwise (· ≤ ·) → a = b
  | [], b, hp, _, _ => (List.nil_perm.mp hp).symm
  | x :: a, [], hp, _, _ => by simpa using hp.length_eq
  | x :: a, y :: b, hp, ha, hb => by
    obtain ⟨a1, a2⟩ := List.pairwise_cons.mp ha
    obtain ⟨b1, b2⟩ := List.pairwise_cons.mp hb
    have h1 : x ≤ y := by
      rcases List.mem_cons.mp (hp.mem_iff.mpr (List.mem_cons_self (a := y) (l := b))) with e | e
      · rw [e]; exact Int.le_refl _
      · exact a1 y e
    have h2 : y ≤ x := by
      rcases List.mem_cons.mp (hp.mem_iff.mp (List.mem_cons_self (a := x) (l := a))) with e | e
      · rw [e]; exact Int.le_refl _
      · exact b1 x e
    have e : x = y := by omega
    subst e
    rw [sorted_same (List.Perm.cons_inv hp) a2 b2]
def intKeys : List (Key × D) → Option (List Int)
  | [] => some []
  | (.inl i, _) :: r => (intKeys r).map (i :: ·)
  | _ :: _ => none
theorem intKeys_inv {F : Addr → Prop} {H : Hp} : ∀ {xs : List (Key × V)} {kvs : List (Key × D)} {ns : List Int}, Dks K F H xs kvs → intKeys kvs = some ns → xs.map (·.1) = ns.map Sum.inl
  | _, _, ns, .nil, h => by obtain rfl := Option.some.inj h; rfl
  | _, _, ns, .cons (k := .inl i) a b, h => by
    unfold intKeys at h
    rename_i vs d ds
    cases e : intKeys ds with
    | none => rw [e] at h; cases h
    | some ms =>
      rw [e] at h
      obtain rfl := Option.some.inj h
      rw [List.map_cons, intKeys_inv b e]; rfl
  | _, _, ns, .cons (k := .inr i) a b, h => by cases h
def mSortK (i : Nat) : R → M (List D × R) := fun ρ => lo (ownK ρ i) >>= fun kvs => lo (intKeys kvs) >>= fun ns => if ns.length < 64 then .ok ((sortI ns).map .int, ρ) else .error .stuck
def rSortK : List V → Hp → VK → Prop := fun xs H Q => ∃ (a : Addr) (kvs : List (Key × V)) (ks : List Int), xs = [.ref a] ∧ Rd H a (.dK kvs) ∧ kvs.map (·.1) = ks.map Sum.inl ∧ ks.length < 64 ∧
    ∀ (ys : List Int) (p : Addr), ys.Perm ks → ys.Pairwise (· ≤ ·) → H p = none → Q (.ref p) (upd H p (.lst (ys.map V.int)))
theorem ev_sortK {i : Nat} : EvO K mg E (tCB rSortK (tCons (tVar i) tNil)) (mSortK i) := by
  intro F σ H ρ Q e x
  obtain ⟨kvs, hl, x1⟩ := RP.pure x
  obtain ⟨ns, hn, x2⟩ := RP.pure x1
  obtain ⟨p, xs, hp, hx, qx, nf⟩ := env_K e hl
  have x2' : RP K mg E σ ρ F H (if ns.length < 64 then .ok ((sortI ns).map PyData.int, ρ) else .error .stuck) (fun ds ρ' => ∀ p xs F' H', EnvOk K F' σ H' ρ' → Stp σ ρ F H σ ρ' F' H' → H p = none → H' p = some (.lst xs) → Das K F' H' xs ds → ¬ F' p → ¬ Ow σ ρ' p → Q (.ref p) H') := x2
  by_cases h64 : ns.length < 64
  case neg =>
    rw [if_neg h64] at x2'
    exact x2'.elim
  rw [if_pos h64] at x2'
  refine ⟨.ref p, hp, p, xs, ns, rfl, .inl hx, intKeys_inv qx hn, h64, fun ys q hpm hs hq => ?_⟩
  have ey : ys = sortI ns := sorted_same (hpm.trans (sortI_perm ns).symm) hs (sortI_sorted ns)
  subst ey
  have g : Gr F H F (upd H q (.lst ((sortI ns).map V.int))) := Gr.new e.fl hq (e.hl.lst (by
    rw [List.length_map, (sortI_perm ns).length_eq]
    exact Nat.le_trans (Nat.le_of_lt h64) (by decide)))
  exact x2' q _ F _ (e.grow g) g.stp hq upd_same (Das.ints _) (free_fz e hq) (free_ow e hq)
theorem do_sortK {i : Nat} {o : Expr} {p pos : Pos} (ho : PE X o (tVar i)) (hm : X.mg "sorted" = none) (hc : X.calm = true := by rfl) (hg : Gl X "sorted" := by rfl) (he : starEach [o] X.env = (false, eval o X.env) :: starEach [] X.env := by rfl) (hpl : (backTo pos (starEach [] X.env)).any (·.1) = false := by rfl) :
    DO X E (.Call (.Name "sorted" p) [o] [] pos) (tCB rSortK (tCons (tVar i) tNil)) (mSortK i) := ⟨pe_callB (call_sortedDI hc) hg hm (by decide +kernel) (pa_cons ho pa_nil he) (by decide) (by decide) he hpl, ev_sortK⟩
/-! ### x, y = a, b -/
/-- of each part: what it stores -/
def mPar (i j : Nat) (a b : R → M (D × R)) : SM := fun ρ => a ρ >>= fun p => b p.2 >>= fun q => if i < q.2.length ∧ j < q.2.length then .ok (.nx, (q.2.set i (.d p.1)).set j (.d q.1)) else .error .stuck
/-- the second one a new list, own -/
def mParO (i j : Nat) (a : R → M (D × R)) (b : R → M (List D × R)) : SM := fun ρ => a ρ >>= fun p => b p.2 >>= fun q => if i < q.2.length ∧ j < q.2.length then .ok (.nx, (q.2.set i (.d p.1)).set j (.l q.1)) else .error .stuck
theorem ev_par {i j : Nat} {ta tb : TE} {a b : R → M (D × R)} (ha : EvE K mg E ta a) (hb : EvE K mg E tb b) (hi : i ∉ P) (hj : j ∉ P) : EvS K mg E P (tPar i j (tCons ta (tCons tb tNil))) (mPar i j a b) := by
  intro F σ H ρ Dn e x
  refine ha F σ H ρ _ e ((RP.bind x).later Stp.refl fun d ρ1 _ x1 v F1 H1 e1 s1 q1 => ?_)
  refine hb F1 σ H1 ρ1 _ e1 ((RP.go s1 x1).later Stp.refl fun d2 ρ2 _ x2 w F2 H2 e2 s2 q2 => ?_)
  have x2' : RP K mg E σ ρ F H (if i < ρ2.length ∧ j < ρ2.length then .ok (Fl.nx, (ρ2.set i (.d d)).set j (.d d2)) else .error .stuck) (FlK K P σ ρ F H Dn) := x2
  by_cases hc : i < ρ2.length ∧ j < ρ2.length
  case neg =>
    rw [if_neg hc] at x2'
    exact x2'.elim
  rw [if_pos hc] at x2'
  have e3 := e2.setD (q1.kp (s2.kp e1)) hc.1
  have e4 := e3.setD q2 (i := j) (by rw [List.length_set]; exact hc.2)
  refine ⟨v, w, rfl, x2' _ F2 H2 e4 (((s1.trans s2).trans (Stp.setD rfl)).trans (Stp.setD rfl)) ?_⟩
  exact (Pin.agree agree_set fun k hk => by
    have : k = i := by simpa using hk
    rw [this]; exact hi).trans (Pin.agree agree_set fun k hk => by
    have : k = j := by simpa using hk
    rw [this]; exact hj)
theorem Stp.setO {F : Addr → Prop} {σ : L2.St} {H : Hp} {ρ : R} {σ0 : L2.St} {ρ0 : R} {F0 : Addr → Prop} {H0 : Hp} {i : Nat} {p : Addr} {s : Sl} (hl : ρ.length = σ.length) (st : Stp σ0 ρ0 F0 H0 σ ρ F H) (n : H0 p = none) (hi : i < ρ.length) : Stp σ0 ρ0 F0 H0 (σ.set i (some (.ref p))) (ρ.set i s) F H := by
  refine ⟨st.keep, fun b ⟨j, z1, s', z2, z3⟩ => ?_, st.f0, st.f1, st.live⟩
  by_cases hj : i = j
  · subst hj
    rw [List.getElem?_set_self (by rw [← hl]; exact hi)] at z1
    cases z1
    exact .inr n
  · rw [List.getElem?_set_ne hj] at z1 z2
    exact st.own b ⟨j, z1, s', z2, z3⟩
theorem ev_parO {i j : Nat} {ta tb : TE} {a : R → M (D × R)} {b : R → M (List D × R)} (ha : EvE K mg E ta a) (hb : EvO K mg E tb b) (hi : i ∉ P) (hj : j ∉ P) : EvS K mg E P (tPar i j (tCons ta (tCons tb tNil))) (mParO i j a b) := by
  intro F σ H ρ Dn e x
  refine ha F σ H ρ _ e ((RP.bind x).later Stp.refl fun d ρ1 _ x1 v F1 H1 e1 s1 q1 => ?_)
  refine hb F1 σ H1 ρ1 _ e1 ((RP.go s1 x1).later Stp.refl fun d2 ρ2 _ x2 p xs F2 H2 e2 s2 n2 h2 q2 nf no => ?_)
  have x2' : RP K mg E σ ρ F H (if i < ρ2.length ∧ j < ρ2.length then .ok (Fl.nx, (ρ2.set i (.d d)).set j (.l d2)) else .error .stuck) (FlK K P σ ρ F H Dn) := x2
  by_cases hc : i < ρ2.length ∧ j < ρ2.length
  case neg =>
    rw [if_neg hc] at x2'
    exact x2'.elim
  rw [if_pos hc] at x2'
  have e3 := e2.setD (q1.kp (s2.kp e1)) hc.1
  have no3 : ¬ Ow (σ.set i (some v)) (ρ2.set i (.d d)) p := fun ⟨k, z⟩ => no ⟨k, (own_set rfl z).1⟩
  have hj2 : j < (ρ2.set i (.d d)).length := by rw [List.length_set]; exact hc.2
  have e4 := e3.setO (s := .l d2) ⟨p, xs, rfl, h2, q2, nf⟩ no3 hj2
  have s3 : Stp σ ρ F H (σ.set i (some v)) (ρ2.set i (.d d)) F2 H2 := (s1.trans s2).trans (Stp.setD rfl)
  refine ⟨v, .ref p, rfl, x2' _ F2 H2 e4 (s3.setO e3.len (live_free s1.live n2) hj2) ?_⟩
  exact (Pin.agree agree_set fun k hk => by
    have : k = i := by simpa using hk
    rw [this]; exact hi).trans (Pin.agree agree_set fun k hk => by
    have : k = j := by simpa using hk
    rw [this]; exact hj)
section
variable {x y : Str} {a b : Expr} {ta tb : TE} {px py pt pos : Pos} {kt k2 : Nat} {pt2 : Pos} {i j : Nat} {ga gb : R → M (D × R)} {gl : R → M (List D × R)}
theorem ds_par (hN : X.N.Nodup) (ha : DE X E a ta ga) (hb : DE X E b tb gb) (hij : i ≠ j := by decide) (hi : i ∉ P := by decide) (hj : j ∉ P := by decide) (hx0 : X.N[i]? = some x := by rfl) (hy0 : X.N[j]? = some y := by rfl) (hx : X.env.scope.names.lookup x = some .local := by rfl) (hy : X.env.scope.names.lookup y = some .local := by rfl) (hc : X.calm = true := by rfl)
    (hst : starEach [a, b] X.env = (false, eval a X.env) :: starEach [b] X.env := by rfl) (hst2 : starEach [b] X.env = (false, eval b X.env) :: starEach [] X.env := by rfl)
    (hw : swappedStores [.Tuple [.Name x px, .Name y py] kt pt] (.Tuple [a, b] k2 pt2) X.env = pure (some [x, y]) := by rfl) (hs : swapsWithSole [.Tuple [.Name x px, .Name y py] kt pt] (.Tuple [a, b] k2 pt2) pos.line X.env = pure false := by rfl) :
    DS X E P (.Assign [.Tuple [.Name x px, .Name y py] kt pt] (.Tuple [a, b] k2 pt2) pos) (tPar i j (tCons ta (tCons tb tNil))) (mPar i j ga gb) := ⟨ps_par hc hN hx0 hy0 hij hx hy (pa_cons ha.pe (pa_cons hb.pe pa_nil hst2) hst) hw hs, ev_par ha.ev hb.ev hi hj⟩
theorem ds_parO (hN : X.N.Nodup) (ha : DE X E a ta ga) (hb : DO X E b tb gl) (hij : i ≠ j := by decide) (hi : i ∉ P := by decide) (hj : j ∉ P := by decide) (hx0 : X.N[i]? = some x := by rfl) (hy0 : X.N[j]? = some y := by rfl) (hx : X.env.scope.names.lookup x = some .local := by rfl) (hy : X.env.scope.names.lookup y = some .local := by rfl) (hc : X.calm = true := by rfl)
    (hst : starEach [a, b] X.env = (false, eval a X.env) :: starEach [b] X.env := by rfl) (hst2 : starEach [b] X.env = (false, eval b X.env) :: starEach [] X.env := by rfl)
    (hw : swappedStores [.Tuple [.Name x px, .Name y py] kt pt] (.Tuple [a, b] k2 pt2) X.env = pure (some [x, y]) := by rfl) (hs : swapsWithSole [.Tuple [.Name x px, .Name y py] kt pt] (.Tuple [a, b] k2 pt2) pos.line X.env = pure false := by rfl) :
    DS X E P (.Assign [.Tuple [.Name x px, .Name y py] kt pt] (.Tuple [a, b] k2 pt2) pos) (tPar i j (tCons ta (tCons tb tNil))) (mParO i j ga gl) := ⟨ps_par hc hN hx0 hy0 hij hx hy (pa_cons ha.pe (pa_cons hb.pe pa_nil hst2) hst) hw hs, ev_parO ha.ev hb.ev hi hj⟩
end
/-! ### and, or, not as values -/
def mAndV (a b : R → M (D × R)) : R → M (D × R) := fun ρ => a ρ >>= fun p => lo (truthD p.1) >>= fun k => if k = true then b p.2 else .ok (p.1, p.2)
def mOrV (a b : R → M (D × R)) : R → M (D × R) := fun ρ => a ρ >>= fun p => lo (truthD p.1) >>= fun k => if k = true then .ok (p.1, p.2) else b p.2
theorem truth_da {F : Addr → Prop} {H : Hp} {v : V} {d : D} {k : Bool} (q : Da K F H v d) (h : truthD d = some k) : TruV K v H k := by
  cases q with
  | bl c => exact (Option.some.inj h).symm
  | non => exact (Option.some.inj h).symm
  | int i => exact (Option.some.inj h).symm
  | str z =>
    have h : (if z.length ≤ sizeLine then some ((z.length : Int) != 0) else none) = some k := h
    by_cases hz : z.length ≤ sizeLine
    · rw [if_pos hz] at h
      exact ⟨hz, (Option.some.inj h).symm⟩
    · rw [if_neg hz] at h
      cases h
  | lst _ r q => exact .inl ⟨_, SqL.of r, by rw [q.empty]; exact (Option.some.inj h).symm⟩
  | tup r q => exact .inr (.inl ⟨_, r, by rw [q.empty]; exact (Option.some.inj h).symm⟩)
  | dct _ r q => exact .inr (.inr ⟨_, r, by rw [q.empty]; exact (Option.some.inj h).symm⟩)
theorem ev_andV {ta tb : TE} {a b : R → M (D × R)} (ha : EvE K mg E ta a) (hb : EvE K mg E tb b) : EvE K mg E (tAndT K ta tb) (mAndV a b) := by
  intro F σ H ρ Q e x
  refine ha F σ H ρ _ e ((RP.bind x).later Stp.refl fun d ρ1 _ x1 v F1 H1 e1 s1 q1 => ?_)
  obtain ⟨k, hk, x2⟩ := RP.pure x1
  refine ⟨k, truth_da q1 hk, ?_⟩
  cases k with
  | true => exact hb F1 σ H1 ρ1 Q e1 (RP.later s1 x2 fun d2 ρ2 _ z w F2 H2 e2 s2 q2 => z w F2 H2 e2 (s1.trans s2) q2)
  | false => exact x2 v F1 H1 e1 s1 q1
theorem ev_orV {ta tb : TE} {a b : R → M (D × R)} (ha : EvE K mg E ta a) (hb : EvE K mg E tb b) : EvE K mg E (tOrT K ta tb) (mOrV a b) := by
  intro F σ H ρ Q e x
  refine ha F σ H ρ _ e ((RP.bind x).later Stp.refl fun d ρ1 _ x1 v F1 H1 e1 s1 q1 => ?_)
  obtain ⟨k, hk, x2⟩ := RP.pure x1
  refine ⟨k, truth_da q1 hk, ?_⟩
  cases k with
  | true => exact x2 v F1 H1 e1 s1 q1
  | false => exact hb F1 σ H1 ρ1 Q e1 (RP.later s1 x2 fun d2 ρ2 _ z w F2 H2 e2 s2 q2 => z w F2 H2 e2 (s1.trans s2) q2)
theorem ev_notV {ta : TE} {a : R → M (D × R)} (ha : EvE K mg E ta a) : EvE K mg E (tNotT K ta) (mNotV truthD a) := by
  intro F σ H ρ Q e x
  refine ha F σ H ρ _ e ((RP.bind x).later Stp.refl fun d ρ1 _ x1 v F1 H1 e1 s1 q1 => ?_)
  obtain ⟨k, hk, x2⟩ := RP.pure x1
  exact ⟨k, truth_da q1 hk, x2 _ F1 H1 e1 s1 (.bl _)⟩
section
variable {a b : Expr} {rest : List Expr} {pos : Pos} {ta tb : TE} {ga gb : R → M (D × R)}
theorem de_and1 (h : DE X E a ta ga) (hr : ∀ env, eval (.BoolOp .And [a] pos) env = eval a env := by intro _; rfl) : DE X E (.BoolOp .And [a] pos) ta ga := ⟨⟨fun pins s σ H Q I q => by rw [hr]; exact h.pe.run pins s σ H Q I q⟩, h.ev⟩
theorem de_or1 (h : DE X E a ta ga) (hr : ∀ env, eval (.BoolOp .Or [a] pos) env = eval a env := by intro _; rfl) : DE X E (.BoolOp .Or [a] pos) ta ga := ⟨⟨fun pins s σ H Q I q => by rw [hr]; exact h.pe.run pins s σ H Q I q⟩, h.ev⟩
theorem de_and (h : DE X E a ta ga) (h2 : DE X E (.BoolOp .And (b :: rest) pos) tb gb) : DE X E (.BoolOp .And (a :: b :: rest) pos) (tAndT X.K ta tb) (mAndV ga gb) := ⟨pe_andT h.pe h2.pe, ev_andV h.ev h2.ev⟩
theorem de_or (h : DE X E a ta ga) (h2 : DE X E (.BoolOp .Or (b :: rest) pos) tb gb) : DE X E (.BoolOp .Or (a :: b :: rest) pos) (tOrT X.K ta tb) (mOrV ga gb) := ⟨pe_orT h.pe h2.pe, ev_orV h.ev h2.ev⟩
theorem de_not (h : DE X E a ta ga) : DE X E (.UnaryOp .Not a pos) (tNotT X.K ta) (mNotV truthD ga) := ⟨pe_notT h.pe, ev_notV h.ev⟩
end
/-- -n, n written -/
theorem de_negc {n : Int} {j : Nat} {p1 pos : Pos} : DE X E (.UnaryOp .USub (.Constant (.int n) j p1) pos) (tUn (rU fun i => .int (-i)) (tC (.int n))) (mC (.int (-n))) :=
  ⟨pe_un un_neg pe_int, fun F σ H ρ Q e x => ⟨n, rfl, x _ F H e Stp.refl (.int _)⟩⟩
/-! ### xs[::-1] of a list -/
def mRevL (a : R → M (D × R)) : R → M (List D × R) := fun ρ => a ρ >>= fun p => match p.1 with
  | .list ds => .ok (ds.reverse, p.2)
  | _ => .error .stuck
theorem ev_revL {ta : TE} {a : R → M (D × R)} (ha : EvE K mg E ta a) : EvO K mg E (tRevL K ta) (mRevL a) := by
  intro F σ H ρ Q e x
  refine ha F σ H ρ _ e ((RP.bind x).later Stp.refl fun d ρ1 _ x1 v F1 H1 e1 s1 q1 => ?_)
  cases q1 with
  | lst f r q =>
    rename_i p xs ds hr0
    refine ⟨p, xs, rfl, SqL.of r, fun n hn => ?_⟩
    have g : Gr F1 H1 F1 (upd H1 n (.lst xs.reverse)) := Gr.new e1.fl hn (e1.hl.lst (by rw [List.length_reverse]; exact e1.hl _ _ (.inl r)))
    exact x1 n _ F1 _ (e1.grow g) (s1.trans g.stp) (live_free s1.live hn) upd_same ((q.kp g.kp).reverse) (free_fz e1 hn) (free_ow e1 hn)
  | _ => exact x1.elim
theorem do_revL {e : Expr} {te : TE} {g : R → M (D × R)} {k : Nat} {p1 p2 p3 pos : Pos} (he : DE X E e te g) : DO X E (.Subscript e (.Slice none none (some (.UnaryOp .USub (.Constant (.int 1) k p1) p2)) p3) pos) (tRevL X.K te) (mRevL g) := ⟨pe_revL he.pe, ev_revL he.ev⟩
/-! ### lo <= x <= hi -/
def mChain (f1 f2 : D → D → Option D) (a b c : R → M (D × R)) : R → M (D × R) := fun ρ => a ρ >>= fun p => b p.2 >>= fun q => lo (f1 p.1 q.1) >>= fun z => lo (boolD z) >>= fun k => if k = true then c q.2 >>= fun r => lo (f2 q.1 r.1) >>= fun w => .ok (w, r.2) else .ok (.bool false, q.2)
/-! ### a def by the head's facts -/
theorem fnd_ok {Pr : Program} {w : World} {base : Heap} {x qual : Str} {st : Stmt} {dvs : List V} {kws : List (Str × V)} {f : Addr} {fd : FuncData} {N ps : List Str} {k n : Nat} {g : SM} (Fn : FunD K x qual (defArgs st) (defBody st) (defScope st) dvs kws f fd) (S : FnScope N ps (defScope st)) (hlen : ps.length = n) (hn : n ≤ N.length) (hP : ∀ i ∈ P, i < n)
    (body : ∀ (cdv : Value) (Ar : Around) (outer : List Env) (s : Shared) (H : Hp) (E : XK), Room k (Ar.deeper (envOfC qual (defScope st) s.heap.objs.size f cdv)) → ∃ t, DSs (cxOf CX0 Pr w K mg base N qual (defScope st) f cdv Ar outer s H E).nox E P (defBody st) t g) :
    FnOk Pr w K mg base CX0 (k + 1) f fd ps (spF K mg n (mBody N.length n P g)) := by
  refine Fn.ok S (fun vs H Q E h => h.1.trans hlen.symm) fun cdv Ar outer s H vs Q E hr h => ?_
  obtain ⟨t, b⟩ := body cdv Ar outer s H E hr
  exact ⟨t, b.ps.nox, body_ok hn hP b.ev vs H Q h⟩
theorem hu200 {A : Around} {k : Nat} (hr : Room k A) : A.units + 200 < cLine := by have := hr.un; omega
/-- the law's end -/
theorem law_sp {H : Hp} {a : Addr} {ns : List Int} {f : FM} {ρ' : R} (hO : Only H) (hS : SqL K H a (ns.map V.int)) (h : f [.s ns] = .ok (.bool true, ρ')) : spF K mg 1 f [.ref a] H (fun v _ => v = .bl true) fun _ _ _ => False := by
  have hs : ScrOk K H a (ns.map V.int) := by
    rcases hS with (h | ⟨o, h⟩) | h
    · rcases hO a with z | ⟨o, xs, z⟩
      · rw [h] at z; cases z
      · rw [h] at z; cases z
    · exact .inl ⟨o, h⟩
    · exact .inr h
  refine ⟨rfl, fun _ => False, [.s ns], ⟨rfl, fun i s h => ?_, fun i j p h1 _ => ?_, fun _ h => h.elim, fun b xs q => ?_⟩, ?_⟩
  · cases i with
    | zero =>
      obtain rfl := Option.some.inj h
      exact ⟨a, rfl, hs⟩
    | succ i => cases h
  · obtain ⟨_, s, h2, h3⟩ := h1
    cases i with
    | zero =>
      obtain rfl := Option.some.inj h2
      cases h3
    | succ i => cases h2
  · exfalso
    rcases hO b with z | ⟨o, ys, z⟩
    · rcases q with q | q | ⟨u, q⟩ <;> (rw [z] at q; cases q)
    · rcases q with q | q | ⟨u, q⟩ <;> (rw [z] at q; cases q)
  · rw [h]
    intro v F' H' e' s' q'
    cases q'
    rfl
end
end DL

/-! DL13: the script, defs that hand back a new list. -/
namespace DL
open PySem PySem.Spec PyProof.Rows L2
section
variable {X : Cx} {K : PySem.W.Frag} {mg : Str → Option Value} {E : XK} {P : List Nat}
def scrD (ρ : R) (i : Nat) : Option (List Int) := match ρ[i]? with
  | some (.s ns) => some ns
  | _ => none
theorem scrD_inv {ρ : R} {i : Nat} {ns : List Int} (h : scrD ρ i = some ns) : ρ[i]? = some (.s ns) := by
  unfold scrD at h
  split at h
  · rename_i e
    obtain rfl := Option.some.inj h
    exact e
  · cases h
/-- list(script) -/
def mScrL (i : Nat) : R → M (List D × R) := fun ρ => lo (scrD ρ i) >>= fun ns => if ns.length ≤ sizeLine then .ok (ns.map .int, ρ) else .error .stuck
theorem ev_scrL {i : Nat} : EvO K mg E (tCB (rListA K) (tCons (tVar i) tNil)) (mScrL i) := by
  intro F σ H ρ Q e x
  obtain ⟨ns, hn, x1⟩ := RP.pure x
  obtain ⟨p, hp, hs⟩ := e.at_ i _ (scrD_inv hn)
  have x1' : RP K mg E σ ρ F H (if ns.length ≤ sizeLine then .ok (ns.map PyData.int, ρ) else .error .stuck) (fun ds ρ' => ∀ p xs F' H', EnvOk K F' σ H' ρ' → Stp σ ρ F H σ ρ' F' H' → H p = none → H' p = some (.lst xs) → Das K F' H' xs ds → ¬ F' p → ¬ Ow σ ρ' p → Q (.ref p) H') := x1
  by_cases hz : ns.length ≤ sizeLine
  case neg =>
    rw [if_neg hz] at x1'
    exact x1'.elim
  rw [if_pos hz] at x1'
  refine ⟨.ref p, hp, p, _, rfl, .inl hs.sq, fun l hl => ?_⟩
  have g : Gr F H F (upd H l (.lst (ns.map V.int))) := Gr.new e.fl hl (e.hl.lst (by rw [List.length_map]; exact hz))
  exact x1' l _ F _ (e.grow g) g.stp hl upd_same (Das.ints _) (free_fz e hl) (free_ow e hl)
/-- script[lo:hi] -/
def mScrC (i : Nat) (l h : R → M (Option Int × R)) : R → M (List D × R) := fun ρ => lo (scrD ρ i) >>= fun ns => l ρ >>= fun p => h p.2 >>= fun q => if ns.length ≤ sizeLine then .ok ((cutL ns p.1 q.1).map .int, q.2) else .error .stuck
theorem cutV_ints (ns : List Int) (l h : Option Int) : cutV (ns.map V.int) l h = (cutL ns l h).map V.int := by
  unfold cutV cutL
  rw [List.length_map, ← List.map_drop, ← List.map_take]
theorem ev_scrC {i : Nat} {tl th : TO} {gl gh : R → M (Option Int × R)} (hl : EvP K mg E tl gl) (hh : EvP K mg E th gh) : EvO K mg E (tSl (rSl K) (tVar i) tl th) (mScrC i gl gh) := by
  intro F σ H ρ Q e x
  obtain ⟨ns, hn, x1⟩ := RP.pure x
  obtain ⟨p, hp, hs⟩ := e.at_ i _ (scrD_inv hn)
  refine ⟨.ref p, hp, ?_⟩
  refine hl F σ H ρ _ e ((RP.bind x1).later Stp.refl fun l ρ2 _ x2 F2 H2 e2 s2 => ?_)
  refine hh F2 σ H2 ρ2 _ e2 ((RP.go s2 x2).later Stp.refl fun h ρ3 _ x3 F3 H3 e3 s3 => ?_)
  have x3' : RP K mg E σ ρ F H (if ns.length ≤ sizeLine then .ok ((cutL ns l h).map PyData.int, ρ3) else .error .stuck) (fun ds ρ' => ∀ p xs F' H', EnvOk K F' σ H' ρ' → Stp σ ρ F H σ ρ' F' H' → H p = none → H' p = some (.lst xs) → Das K F' H' xs ds → ¬ F' p → ¬ Ow σ ρ' p → Q (.ref p) H') := x3
  by_cases hz : ns.length ≤ sizeLine
  case neg =>
    rw [if_neg hz] at x3'
    exact x3'.elim
  rw [if_pos hz] at x3'
  have kp := (s2.trans s3).kp e
  have hs3 : ScrOk K H3 p (ns.map V.int) := by
    rcases hs with ⟨o, q⟩ | q
    · exact .inl ⟨o, kp.frz _ _ _ q⟩
    · exact .inr q
  refine .inl (.inl ⟨p, _, rfl, hs3.sq, fun n hn => ?_⟩)
  have g : Gr F3 H3 F3 (upd H3 n (.lst (cutV (ns.map V.int) l h))) := Gr.new e3.fl hn (e3.hl.lst (Nat.le_trans (cutV_length _ _ _) (by rw [List.length_map]; exact hz)))
  exact x3' n _ F3 _ (e3.grow g) ((s2.trans s3).trans g.stp) (live_free (s2.trans s3).live hn) upd_same (by rw [cutV_ints]; exact Das.ints _) (free_fz e3 hn) (free_ow e3 hn)
theorem do_scrL {i : Nat} {o : Expr} {p pos : Pos} (ho : PE X o (tVar i)) (hm : X.mg "list" = none) (hg : Gl X "list" := by rfl) (he : starEach [o] X.env = (false, eval o X.env) :: starEach [] X.env := by rfl) (hpl : (backTo pos (starEach [] X.env)).any (·.1) = false := by rfl) :
    DO X E (.Call (.Name "list" p) [o] [] pos) (tCB (rListA X.K) (tCons (tVar i) tNil)) (mScrL i) := ⟨pe_callTy call_list_of hg hm (by decide +kernel) (pa_cons ho pa_nil he) (by decide) (by decide) he hpl, ev_scrL⟩
theorem do_scrC {i : Nat} {o : Expr} {lo hi : Option Expr} {p2 pos : Pos} {tl th : TO} {gl gh : R → M (Option Int × R)} (ho : PE X o (tVar i)) (hl : DP X E lo tl gl) (hh : DP X E hi th gh) : DO X E (.Subscript o (.Slice lo hi none p2) pos) (tSl (rSl X.K) (tVar i) tl th) (mScrC i gl gh) := ⟨pe_slice sl_any ho hl.po hh.po, ev_scrC hl.ev hh.ev⟩
theorem de_tupN {es : List Expr} {x1 : Nat} {pos : Pos} {t : TA} {g : R → M (List D × R)} (n : Nat) (h : DA X E es t g) (hl : ∀ ρ ds ρ', g ρ = .ok (ds, ρ') → ds.length = n) (hn : n ≤ sizeLine := by exact Nat.le_trans (show _ ≤ 1000 by decide) (by decide)) : DE X E (.Tuple es x1 pos) (tTup t) (mTup g) := de_tup n h hn hl
theorem do_lstN {es : List Expr} {pos : Pos} {t : TA} {g : R → M (List D × R)} (n : Nat) (h : DA X E es t g) (hl : ∀ ρ ds ρ', g ρ = .ok (ds, ρ') → ds.length = n) (hn : n ≤ sizeLine := by exact Nat.le_trans (show _ ≤ 1000 by decide) (by decide)) : DO X E (.List es pos) (tLst t) g := do_lst n h hn hl
/-! ### a def that hands back a new list -/
abbrev FO := R → M (List D × R)
def spO (K : PySem.W.Frag) (mg : Str → Option Value) (n : Nat) (f : FO) : Sp := fun vs H Q E => vs.length = n ∧ ∃ (F : Addr → Prop) (ss : R), EnvOk K F (vs.map some) H ss ∧ (∀ s ∈ ss, s.own = false) ∧
  RP K mg E (vs.map some) ss F H (f ss) (fun ds _ => ∀ p xs F' H', (∀ a o, H a = some o → H' a = some o) → (∀ a, F a → F' a) → (∀ a, F' a → F a ∨ H a = none) → (∀ a, F' a → H' a ≠ none) → HL H' → H p = none → H' p = some (.lst xs) → Das K F' H' xs ds → ¬ F' p → Q (.ref p) H')
def mBodyO (m n : Nat) (g : R → M (List D × R)) : FO := fun ss => if ss.length = n then g (ss ++ List.replicate (m - n) .un) else .error .stuck
theorem start_env {F : Addr → Prop} {H : Hp} {N : List Str} {n : Nat} {vs : List V} {ss : R} (hl : vs.length = n) (e : EnvOk K F (vs.map some) H ss) (hs : ss.length = n) (no : ∀ s ∈ ss, s.own = false) : EnvOk K F (L2.start N vs) H (ss ++ List.replicate (N.length - n) .un) ∧ ∀ p, ¬ Ow (L2.start N vs) (ss ++ List.replicate (N.length - n) .un) p := by
  have non : ∀ {k : Nat} {s : Sl}, (ss ++ List.replicate (N.length - n) Sl.un)[k]? = some s → s.own = false := fun {k s} h => by
    rcases List.mem_append.mp (List.mem_of_getElem? h) with z | z
    · exact no s z
    · rw [(List.mem_replicate.mp z).2]; rfl
  have noO : ∀ p, ¬ Ow (L2.start N vs) (ss ++ List.replicate (N.length - n) .un) p := fun p ⟨k, _, s, h2, h3⟩ => by
    rw [non h2] at h3; cases h3
  refine ⟨⟨by unfold L2.start; simp [hs, hl], fun i s h => ?_, fun a b p h1 _ => absurd ⟨a, h1⟩ (noO p), e.fl, e.hl⟩, noO⟩
  unfold L2.start
  by_cases hi : i < ss.length
  · rw [List.getElem?_append_left hi] at h
    rw [List.getElem?_append_left (by rw [List.length_map]; omega)]
    exact e.at_ i s h
  · rw [List.getElem?_append_right (by omega), List.getElem?_replicate] at h
    split at h
    · obtain rfl := Option.some.inj h
      trivial
    · cases h
theorem fnO_ok {Pr : Program} {w : World} {base : Heap} {x qual : Str} {st : Stmt} {dvs : List V} {kws : List (Str × V)} {f : Addr} {fd : FuncData} {N ps : List Str} {k n : Nat} {e : Expr} {pos : Pos} {g : R → M (List D × R)} (Fn : FunD K x qual (defArgs st) (defBody st) (defScope st) dvs kws f fd) (S : FnScope N ps (defScope st)) (hlen : ps.length = n)
    (hb : defBody st = [.Return (some e) pos])
    (body : ∀ (cdv : Value) (Ar : Around) (outer : List Env) (s : Shared) (H : Hp) (E : XK), Room k (Ar.deeper (envOfC qual (defScope st) s.heap.objs.size f cdv)) → ∃ te, DO (cxOf CX0 Pr w K mg base N qual (defScope st) f cdv Ar outer s H E).nox E e te g) :
    FnOk Pr w K mg base CX0 (k + 1) f fd ps (spO K mg n (mBodyO N.length n g)) := by
  refine Fn.ok S (fun vs H Q E h => h.1.trans hlen.symm) fun cdv Ar outer s H vs Q E hr h => ?_
  obtain ⟨te, b⟩ := body cdv Ar outer s H E hr
  rw [hb]
  refine ⟨_, (pss_one (ps_ret b.pe)).nox, ?_⟩
  obtain ⟨hl, F, ss, en, no, x⟩ := h
  have hs : ss.length = n := by
    have := en.len
    rw [List.length_map] at this
    omega
  have x0 : RP K mg E (vs.map some) ss F H (if ss.length = n then g (ss ++ List.replicate (N.length - n) .un) else .error .stuck) _ := x
  rw [if_pos hs] at x0
  obtain ⟨e0, noO⟩ := start_env (N := N) hl en hs no
  refine b.ev F (L2.start N vs) H _ Q e0 (RP.later ⟨fun _ _ h _ => h, fun a h => absurd h (noO a), fun _ h => h, fun _ h => .inl h, fun _ h => h⟩ x0 fun ds ρ' _ kk p xs F' H' e' s' n' h' q' nf' no' => ?_)
  exact kk p xs F' H' (fun a o h => s'.keep a o h (noO a)) s'.f0 (fun a h => (s'.f1 a h).elim .inl fun z => z.elim .inr fun z => absurd z (noO a)) e'.fl e'.hl n' h' q' nf'
def noXO (f : FO) : FO := fun ss => match f ss with
  | .error (.exc _ _) => .error .stuck
  | r => r
/-- a call of such a def, its arguments no own things -/
def mCallO (f : FO) (dvs : List D) (ga : R → M (List A × R)) : R → M (List D × R) := fun ρ => ga ρ >>= fun p => if (slotsOf p.2 p.1).all (fun s => !s.own) = true ∧ (ownJs p.1).Nodup then f (slotsOf p.2 p.1 ++ dvs.map .d) >>= fun q => .ok (q.1, p.2) else .error .stuck
theorem ev_callO {f : FO} {n : Nat} {t : TA} {ga : R → M (List A × R)} (hn : ∀ ρ as ρ', ga ρ = .ok (as, ρ') → as.length = n) (ha : EvR K mg E t ga) : EvO K mg E (tCall (spO K mg n f) [] E0 t) (mCallO (noXO f) [] ga) := by
  intro F σ H ρ Q e x
  refine ha F σ H ρ _ e ((RP.bind x).later Stp.refl fun as ρ1 hr x1 vs F1 H1 e1 s1 q1 => ?_)
  have x1' : RP K mg E σ ρ F H (if (slotsOf ρ1 as).all (fun s => !s.own) = true ∧ (ownJs as).Nodup then noXO f (slotsOf ρ1 as ++ List.map Sl.d []) >>= fun q => .ok (q.1, ρ1) else .error .stuck) _ := x1
  by_cases nd : (slotsOf ρ1 as).all (fun s => !s.own) = true ∧ (ownJs as).Nodup
  case neg =>
    rw [if_neg nd] at x1'
    exact x1'.elim
  rw [if_pos nd] at x1'
  have ec := env_call (dv := []) (ds := []) e1 q1 .nil nd.2
  rw [List.append_nil] at ec ⊢
  rw [List.map_nil, List.append_nil] at ec x1'
  have no : ∀ s ∈ slotsOf ρ1 as, s.own = false := fun s hs => by
    have := List.all_eq_true.mp nd.1 s hs
    simpa using this
  refine ⟨by rw [q1.len]; exact hn _ _ _ hr, F1, _, ec, no, ?_⟩
  have x2 := RP.bind x1'
  unfold noXO at x2
  cases hf : f (slotsOf ρ1 as) with
  | error er =>
    rw [hf] at x2
    cases er with
    | stuck => exact x2.elim
    | exc c fs => exact x2.elim
  | ok r =>
    rw [hf] at x2
    have x3 : ∀ p xs F' H', EnvOk K F' σ H' ρ1 → Stp σ ρ F H σ ρ1 F' H' → H p = none → H' p = some (.lst xs) → Das K F' H' xs r.1 → ¬ F' p → ¬ Ow σ ρ1 p → Q (.ref p) H' := x2
    intro p xs F' H' k0 f0 f1 fl hl hn' hp' q' nf'
    have g : Gr F1 H1 F' H' := ⟨k0, f0, f1, fl, hl⟩
    exact x3 p xs F' H' (e1.grow g) (s1.trans g.stp) (live_free s1.live hn') hp' q' nf' (free_ow e1 hn')
theorem do_call0 {k n : Nat} {fM : FO} {f : Addr} {fd : FuncData} {ps : List Str} {x : Str} {p pos : Pos} {e : Expr} {es : List Expr} {t : TA} {ga : R → M (List A × R)} (G : FnOk X.prog X.w X.K X.mg X.base CX0 k f fd ps (spO X.K X.mg n fM)) (hr : Room k X.A) (hm : X.mg x = some (.ref f)) (hk : PySem.W.keepIn X.K (.ref f) = true)
    (hb : Binds X.K fd ps []) (ha : DR X E (e :: es) t ga) (hl : ∀ ρ as ρ', ga ρ = .ok (as, ρ') → as.length = n) (hg : Gl X x := by rfl)
    (hdb : (x == ("__debug__" : Str)) = false := by decide) (he : starEach (e :: es) X.env = (false, eval e X.env) :: starEach es X.env := by rfl) (hpl : (backTo pos (starEach es X.env)).any (·.1) = false := by rfl) :
    DO X E (.Call (.Name x p) (e :: es) [] pos) (tCall (spO X.K X.mg n fM) [] E0 t) (mCallO (noXO fM) [] ga) :=
  ⟨pe_call G hr hg hm hk hb .nil pass0 ha.pa hdb he hpl, ev_callO hl ha.ev⟩
/-! ### a def of the text, by its name -/
structure Def (Pr : Program) (w : World) (K : PySem.W.Frag) (mg : Str → Option Value) (base : Heap) (k : Nat) (x : Str) (ps : List Str) (sp : Sp) : Prop where
  ex : ∃ (f : Addr) (fd : FuncData), FnOk Pr w K mg base CX0 k f fd ps sp ∧ Binds K fd ps [] ∧ PySem.W.keepIn K (.ref f) = true ∧ mg x = some (.ref f)
/-- .. called with its last defaults -/
structure DefB (Pr : Program) (w : World) (K : PySem.W.Frag) (mg : Str → Option Value) (base : Heap) (k : Nat) (x : Str) (ps : List Str) (dv : List V) (sp : Sp) : Prop where
  ex : ∃ (f : Addr) (fd : FuncData) (ds : List Value), FnOk Pr w K mg base CX0 k f fd ps sp ∧ Binds K fd ps ds ∧ Vals dv ds ∧ PySem.W.keepIn K (.ref f) = true ∧ mg x = some (.ref f)
section
variable {Pr : Program} {w : World} {base : Heap} {k n : Nat} {x : Str} {ps : List Str} {sp : Sp}
theorem mk_def {args : Arguments} {body : List Stmt} {scope : Scope} {f : Addr} (Fn : ∃ fd, FunD K x x args body scope [] [] f fd) (ok : ∀ fd, FunD K x x args body scope [] [] f fd → FnOk Pr w K mg base CX0 k f fd ps sp) (hg : mg x = some (.ref f))
    (hb : ∀ (kV doc pm : Value) (an : Option Addr) (cdv ct : Value) (us : List Value), us.length = ps.length → bindArgs (PySem.W.fnOf x x args body scope .none kV doc pm an cdv ct) ⟨us, []⟩ = pure (ps.zip us)) : Def Pr w K mg base k x ps sp := by
  obtain ⟨fd, F⟩ := Fn
  exact ⟨f, fd, ok fd F, F.bindsN hb, F.kp, hg⟩
theorem mk_defG {args : Arguments} {body : List Stmt} {scope : Scope} {dvs : List V} {f : Addr} (Fn : ∃ fd, FunD K x x args body scope dvs [] f fd) (ok : ∀ fd, FunD K x x args body scope dvs [] f fd → FnOk Pr w K mg base CX0 k f fd ps sp) (hg : mg x = some (.ref f))
    (hb : ∀ fd, FunD K x x args body scope dvs [] f fd → Binds K fd ps []) : Def Pr w K mg base k x ps sp := by
  obtain ⟨fd, F⟩ := Fn
  exact ⟨f, fd, ok fd F, hb fd F, F.kp, hg⟩
theorem bnd_all {fd : FuncData} (h : ∃ ds, Vals ([] : List V) ds ∧ Binds K fd ps ds) : Binds K fd ps [] := by
  obtain ⟨ds, hv, hb⟩ := h
  cases hv
  exact hb
theorem fn_vac {f : Addr} {fd : FuncData} (h : ∀ vs H Q E, ¬ sp vs H Q E) : FnOk Pr w K mg base CX0 k f fd ps sp := ⟨fun vs H Q E q => absurd q (h vs H Q E), fun _ _ _ _ _ _ _ _ _ _ _ _ _ q => absurd q (h _ _ _ _)⟩
def mStuck : FM := fun _ => .error .stuck
theorem vac_stuck {n : Nat} : ∀ vs H Q E, ¬ spF K mg n mStuck vs H Q E := fun _ _ _ _ ⟨_, _, _, _, x⟩ => x
end
theorem de_callD {k j n : Nat} {fM : FM} {ps : List Str} {x : Str} {p pos : Pos} {e : Expr} {es : List Expr} {t : TA} {ga : R → M (List A × R)} (G : Def X.prog X.w X.K X.mg X.base k x ps (spF X.K X.mg n fM)) (hr : Room j X.A) (ha : DR X E (e :: es) t ga) (hl : ∀ ρ as ρ', ga ρ = .ok (as, ρ') → as.length = n) (hk : k ≤ j := by first | decide | omega) (hg : Gl X x := by rfl)
    (hdb : (x == ("__debug__" : Str)) = false := by decide) (he : starEach (e :: es) X.env = (false, eval e X.env) :: starEach es X.env := by rfl) (hpl : (backTo pos (starEach es X.env)).any (·.1) = false := by rfl) :
    DE X E (.Call (.Name x p) (e :: es) [] pos) (tCall (spF X.K X.mg n fM) [] E0 t) (mCall (noX fM) [] ga) := by
  obtain ⟨f, fd, G, b, kp, m⟩ := G.ex
  exact de_callN G (hr.mono hk) m kp b ha hl hg hdb he hpl
theorem de_callB {k j n m : Nat} {fM : FM} {ps : List Str} {dv : List V} {dd : List D} {x : Str} {p pos : Pos} {e : Expr} {es : List Expr} {t : TA} {ga : R → M (List A × R)} (G : DefB X.prog X.w X.K X.mg X.base k x ps dv (spF X.K X.mg n fM)) (hr : Room j X.A) (hd : ∀ F H, Das X.K F H dv dd) (ha : DR X E (e :: es) t ga) (hl : ∀ ρ as ρ', ga ρ = .ok (as, ρ') → as.length = m) (hn : m + dd.length = n := by rfl) (hk : k ≤ j := by first | decide | omega) (hg : Gl X x := by rfl)
    (hdb : (x == ("__debug__" : Str)) = false := by decide) (he : starEach (e :: es) X.env = (false, eval e X.env) :: starEach es X.env := by rfl) (hpl : (backTo pos (starEach es X.env)).any (·.1) = false := by rfl) :
    DE X E (.Call (.Name x p) (e :: es) [] pos) (tCall (spF X.K X.mg n fM) dv E0 t) (mCall (noX fM) dd ga) := by
  obtain ⟨f, fd, ds, G, b, hv, kp, mm⟩ := G.ex
  exact de_call0 G (hr.mono hk) mm kp b hv hd ha hl hn hg hdb he hpl
theorem do_callD {k j n : Nat} {fM : FO} {ps : List Str} {x : Str} {p pos : Pos} {e : Expr} {es : List Expr} {t : TA} {ga : R → M (List A × R)} (G : Def X.prog X.w X.K X.mg X.base k x ps (spO X.K X.mg n fM)) (hr : Room j X.A) (ha : DR X E (e :: es) t ga) (hl : ∀ ρ as ρ', ga ρ = .ok (as, ρ') → as.length = n) (hk : k ≤ j := by first | decide | omega) (hg : Gl X x := by rfl)
    (hdb : (x == ("__debug__" : Str)) = false := by decide) (he : starEach (e :: es) X.env = (false, eval e X.env) :: starEach es X.env := by rfl) (hpl : (backTo pos (starEach es X.env)).any (·.1) = false := by rfl) :
    DO X E (.Call (.Name x p) (e :: es) [] pos) (tCall (spO X.K X.mg n fM) [] E0 t) (mCallO (noXO fM) [] ga) := by
  obtain ⟨f, fd, G, b, kp, m⟩ := G.ex
  exact do_call0 G (hr.mono hk) m kp b ha hl hg hdb he hpl
/-- return x, x an own list -/
def mRetO (i : Nat) : SM := fun ρ => lo (ownL ρ i) >>= fun ds => .ok (.rt (.list ds), ρ.set i .un)
theorem ev_retO {i : Nat} : EvS K mg E P (tRet (tVar i)) (mRetO i) := by
  intro F σ H ρ Dn e x
  obtain ⟨ds, hl, x1⟩ := RP.pure x
  obtain ⟨p, xs, hp, hx, qx, nf⟩ := env_L e hl
  have hi : i < ρ.length := (List.getElem?_eq_some_iff.mp (ownL_inv hl)).1
  have ow : OwnAt σ ρ i p := ⟨hp, _, ownL_inv hl, rfl⟩
  have kp : Kp F H (Fz F p) H := ⟨fun _ _ h => h, fun _ _ _ h => h, fun a h => ⟨.inl h, fun _ q => q⟩⟩
  have x1 : FlK K P σ ρ F H Dn (.rt (.list ds)) (ρ.set i .un) := x1
  have sub : ∀ {j q}, OwnAt σ (ρ.set i .un) j q → j ≠ i ∧ OwnAt σ ρ j q := fun {j q} ⟨z1, s, z2, z3⟩ => by
    by_cases hj : i = j
    · subst hj
      rw [List.getElem?_set_self hi] at z2
      obtain rfl := Option.some.inj z2
      cases z3
    · rw [List.getElem?_set_ne hj] at z2
      exact ⟨fun z => hj z.symm, z1, s, z2, z3⟩
  refine ⟨.ref p, hp, x1 _ σ (Fz F p) H ⟨by rw [List.length_set]; exact e.len, fun j s h => ?_, fun a b q h1 h2 => e.sep a b q (sub h1).2 (sub h2).2, fun a h => ?_, e.hl⟩ ⟨fun _ _ h _ => h, fun a ⟨j, z⟩ => .inl ⟨j, (sub z).2⟩, fun a h => .inl h, fun a h => h.elim .inl fun z => .inr (.inr ⟨i, z ▸ ow⟩), fun _ h => h⟩ Pin.refl (.lst (.inr rfl) hx (qx.kp kp))⟩
  · by_cases hj : i = j
    · subst hj
      rw [List.getElem?_set_self hi] at h
      obtain rfl := Option.some.inj h
      trivial
    · rw [List.getElem?_set_ne hj] at h
      refine (e.at_ j s h).kp kp (fun _ _ _ _ q => q) fun q hv ho n z => ?_
      rcases z with z | z
      · exact n z
      · subst z
        exact hj (e.sep i j q ow ⟨hv, s, h, ho⟩)
  · rcases h with h | h
    · exact e.fl a h
    · rw [h, hx]; simp
theorem ds_retO {i : Nat} {e : Expr} {pos : Pos} (h : PE X e (tVar i)) : DS X E P (.Return (some e) pos) (tRet (tVar i)) (mRetO i) := ⟨ps_ret h, ev_retO⟩
end
end DL

/-! DL14: comprehensions whose parts' readings may differ from block to block. -/
namespace DL
open PySem PySem.Spec PyProof.Rows L2
section
variable {X : Cx} {K : PySem.W.Frag} {mg : Str → Option Value} {E : XK} {P : List Nat}
abbrev Blk (X : Cx) (scope : Scope) (s : Shared) (H : Hp) (C : Addr) (cl : List (Str × Addr)) (fp : List Addr) : Cx := X.blk s H scope (compEnvC scope cl C X.env) fp
structure DX (X : Cx) (E : XK) (scope : Scope) (elt tg : Expr) (ifs : List Expr) (js : List Nat) (tgt : D → R → M R) (tst : R → M (Bool × R)) (el : R → M (D × R)) : Prop where
  hg : ∀ (s : Shared) (H : Hp) (C : Addr) (cl : List (Str × Addr)) (fp : List Addr), ∃ g, DG (Blk X scope s H C cl fp) tg js g tgt
  ht : ∀ (s : Shared) (H : Hp) (C : Addr) (cl : List (Str × Addr)) (fp : List Addr), ∃ tt, PTs (Blk X scope s H C cl fp) ifs tt ∧ EvT X.K X.mg E tt tst
  he : ∀ (s : Shared) (H : Hp) (C : Addr) (cl : List (Str × Addr)) (fp : List Addr), ∃ te, DE (Blk X scope s H C cl fp) E elt te el
def gAll (X : Cx) (scope : Scope) (tg : Expr) (js : List Nat) (tgt : D → R → M R) : TG := fun v σ H Q => ∀ g, (∃ s H0 C cl fp, DG (Blk X scope s H0 C cl fp) tg js g tgt) → g v σ H Q
def ttAll (X : Cx) (E : XK) (scope : Scope) (ifs : List Expr) (tst : R → M (Bool × R)) : TT := fun σ H Q => ∀ t, (∃ s H0 C cl fp, PTs (Blk X scope s H0 C cl fp) ifs t ∧ EvT X.K X.mg E t tst) → t σ H Q
def teAll (X : Cx) (E : XK) (scope : Scope) (elt : Expr) (el : R → M (D × R)) : TE := fun σ H Q => ∀ t, (∃ s H0 C cl fp, DE (Blk X scope s H0 C cl fp) E elt t el) → t σ H Q
theorem dx_db {scope : Scope} {elt tg : Expr} {ifs : List Expr} {js : List Nat} {tgt : D → R → M R} {tst : R → M (Bool × R)} {el : R → M (D × R)} (b : DX X E scope elt tg ifs js tgt tst el) :
    DB X E scope elt tg ifs js (gAll X scope tg js tgt) (ttAll X E scope ifs tst) (teAll X E scope elt el) tgt tst el where
  hg := fun s H C cl fp => by
    obtain ⟨g, h⟩ := b.hg s H C cl fp
    refine ⟨⟨fun pins s1 σ H1 v u Q I r q => h.pg.run pins s1 σ H1 v u Q I r (q g ⟨s, H, C, cl, fp, h⟩)⟩, fun F σ H1 ρ ρ' v d Q e q hh k => ?_, h.qt⟩
    rintro g' ⟨s', H', C', cl', fp', h'⟩
    exact h'.ev F σ H1 ρ ρ' v d Q e q hh k
  ht := fun s H C cl fp => by
    obtain ⟨t, h, h2⟩ := b.ht s H C cl fp
    refine ⟨⟨fun pins s1 σ H1 Q I q => h.run pins s1 σ H1 Q I (q t ⟨s, H, C, cl, fp, h, h2⟩)⟩, fun F σ H1 ρ Q e x => ?_⟩
    rintro t' ⟨s', H', C', cl', fp', _, h'⟩
    exact h' F σ H1 ρ Q e x
  he := fun s H C cl fp => by
    obtain ⟨t, h⟩ := b.he s H C cl fp
    refine ⟨⟨fun pins s1 σ H1 Q I q => h.pe.run pins s1 σ H1 Q I (q t ⟨s, H, C, cl, fp, h⟩)⟩, fun F σ H1 ρ Q e x => ?_⟩
    rintro t' ⟨s', H', C', cl', fp', h'⟩
    exact h'.ev F σ H1 ρ Q e x
section
variable {elt tg iter : Expr} {ifs : List Expr} {scope : Scope} {own : List (Str × Nat)} {js vs : List Nat} {pos spos : Pos} {wi : TI} {it : R → M (List D × R)} {tgt : D → R → M R} {tst : R → M (Bool × R)} {el : R → M (D × R)}
theorem do_lcX (hN : X.N.Nodup) (hi : DI X E tg iter wi it) (ok : BlkOk X.N X.env.scope scope own) (b : DX X E scope elt tg ifs js tgt tst el) (hv : own.map (·.2) = vs := by rfl) (hj : ∀ i ∈ js, i ∈ own.map (·.2) := by decide) (hc : X.calm = true := by rfl) (hs : ∀ x, foldedSetIterable iter X.env x = pure x := by intro _; rfl) :
    DO X E (.ListComp elt [⟨tg, iter, ifs, 0⟩] scope pos) (tLc wi (gAll X scope tg js tgt) (ttAll X E scope ifs tst) (teAll X E scope elt el) vs) (mLc vs it tgt tst el) := by
  subst hv
  exact do_lc hN hi ok (dx_db b) hj hc hs
theorem ds_lcX {i : Nat} {y : Str} {py : Pos} (hN : X.N.Nodup) (hsw : swapsWith (.ListComp elt [⟨tg, iter, ifs, 0⟩] scope pos) (some (.Name y py)) spos.line X.env = pure true) (hi : DI X E tg iter wi it) (ok : BlkOk X.N X.env.scope scope own) (b : DX X E scope elt tg ifs js tgt tst el) (hv : own.map (·.2) = vs := by rfl) (hp : i ∉ P := by decide)
    (hj : ∀ i ∈ js, i ∈ own.map (·.2) := by decide) (hc : X.calm = true := by rfl) (hy : X.N[i]? = some y := by rfl) (hyl : X.env.scope.names.lookup y = some .local := by rfl) (hs : ∀ x, foldedSetIterable iter X.env x = pure x := by intro _; rfl) :
    DS X E P (.Assign [.Name y py] (.ListComp elt [⟨tg, iter, ifs, 0⟩] scope pos) spos) (tAsg (tLc wi (gAll X scope tg js tgt) (ttAll X E scope ifs tst) (teAll X E scope elt el) vs) (gName i)) (mAsg (mFz (mLc vs it tgt tst el)) (mSet i)) := by
  subst hv
  exact ds_lc hN hsw hi ok (dx_db b) hp hj hc hy hyl hs
theorem ds_lcOX {i : Nat} {y : Str} {py : Pos} (hN : X.N.Nodup) (hsw : swapsWith (.ListComp elt [⟨tg, iter, ifs, 0⟩] scope pos) (some (.Name y py)) spos.line X.env = pure true) (hi : DI X E tg iter wi it) (ok : BlkOk X.N X.env.scope scope own) (b : DX X E scope elt tg ifs js tgt tst el) (hv : own.map (·.2) = vs := by rfl) (hp : i ∉ P := by decide)
    (hj : ∀ i ∈ js, i ∈ own.map (·.2) := by decide) (hc : X.calm = true := by rfl) (hy : X.N[i]? = some y := by rfl) (hyl : X.env.scope.names.lookup y = some .local := by rfl) (hs : ∀ x, foldedSetIterable iter X.env x = pure x := by intro _; rfl) :
    DS X E P (.Assign [.Name y py] (.ListComp elt [⟨tg, iter, ifs, 0⟩] scope pos) spos) (tAsg (tLc wi (gAll X scope tg js tgt) (ttAll X E scope ifs tst) (teAll X E scope elt el) vs) (gName i)) (mOwn i (mLc vs it tgt tst el)) := by
  subst hv
  exact ds_lcO hN hsw hi ok (dx_db b) hp hj hc hy hyl hs
end
end
end DL

/-! DM0 (plain): reckoning with mirrors: what is wanted behind one, rule by rule, from the head. -/
namespace DL
namespace P0
open PySem PySem.Spec PyProof.Rows L2
/-- bears a continuation, so that a rewriting leaves it alone -/
structure Tg {β : Sort u} (b : β) : Type where
/-- r ends well, with Q behind it -/
def Wp {α : Type} (r : M (α × R)) (Q : α → R → Prop) : Prop := match r with
  | .ok p => Q p.1 p.2
  | .error _ => False
def Ok {α : Type} (o : Option α) (Q : α → Prop) : Prop := match o with
  | some a => Q a
  | none => False
def TgW (r : M R) (Q : R → Prop) : Prop := match r with
  | .ok p => Q p
  | .error _ => False
def At {α : Type} (a : α) (Q : α → Prop) : Prop := Q a
def Br (k : Bool) (A B : Prop) : Prop := if k = true then A else B
def SlD (o : Option Sl) (Q : D → Prop) : Prop := match o with
  | some (.d x) => Q x
  | _ => False
def SlL (o : Option Sl) (Q : List D → Prop) : Prop := match o with
  | some (.l x) => Q x
  | _ => False
def SlK (o : Option Sl) (Q : List (Key × D) → Prop) : Prop := match o with
  | some (.k x) => Q x
  | _ => False
def SlS (o : Option Sl) (Q : List Int → Prop) : Prop := match o with
  | some (.s x) => Q x
  | _ => False
section
variable {α β : Type} {Q : α → R → Prop} {ρ : R}
theorem wp_mono {r : M (α × R)} {Q Q' : α → R → Prop} (h : Wp r Q) (k : ∀ a ρ, Q a ρ → Q' a ρ) : Wp r Q' := by
  unfold Wp at *
  split <;> simp_all
theorem wp_eq {r : M (α × R)} {a : α} {ρ : R} (h : Wp r fun x y => x = a ∧ y = ρ) : r = .ok (a, ρ) := by
  unfold Wp at h
  split at h
  · obtain ⟨rfl, rfl⟩ := h; rfl
  · exact h.elim
theorem wp_ok {a : α} : Wp (.ok (a, ρ)) Q ↔ Q a ρ := Iff.rfl
theorem wp_of {r : M (α × R)} {a : α} {ρ : R} (h : r = .ok (a, ρ)) (k : Q a ρ) : Wp r Q := by rw [h]; exact k
theorem wp_bind {r : M (β × R)} {f : β × R → M (α × R)} : Wp (r >>= f) Q ↔ Wp r fun b ρ' => Wp (f (b, ρ')) Q := by
  cases r <;> exact Iff.rfl
theorem wp_lo {o : Option β} {f : β → M (α × R)} : Wp (lo o >>= f) Q ↔ Ok o fun b => Wp (f b) Q := by
  cases o <;> exact Iff.rfl
theorem wp_lo1 {o : Option (α × R)} : Wp (lo o) Q ↔ Ok o fun b => Q b.1 b.2 := by
  cases o <;> exact Iff.rfl
theorem wp_tg {r : M R} {f : R → M (α × R)} : Wp (r >>= f) Q ↔ TgW r fun b => Wp (f b) Q := by
  cases r <;> exact Iff.rfl
theorem wp_ite {c : Prop} [Decidable c] {a : α} : Wp (if c then Except.ok (a, ρ) else Except.error Er.stuck) Q ↔ c ∧ Q a ρ := by
  by_cases h : c
  · rw [if_pos h]; exact ⟨fun z => ⟨h, z⟩, fun z => z.2⟩
  · rw [if_neg h]; exact ⟨fun z => z.elim, fun z => h z.1⟩
theorem ok_ite {c : Prop} [Decidable c] {a : α} {P : α → Prop} : Ok (if c then some a else none) P ↔ c ∧ P a := by
  by_cases h : c
  · rw [if_pos h]; exact ⟨fun z => ⟨h, z⟩, fun z => z.2⟩
  · rw [if_neg h]; exact ⟨fun z => z.elim, fun z => h z.1⟩
theorem ok_ownL {ρ : R} {i : Nat} {P : List D → Prop} : Ok (ownL ρ i) P ↔ SlL (ρ[i]?) P := by
  unfold ownL SlL
  rcases ρ[i]? with _ | s
  · exact Iff.rfl
  · cases s <;> exact Iff.rfl
theorem ok_ownK {ρ : R} {i : Nat} {P : List (Key × D) → Prop} : Ok (ownK ρ i) P ↔ SlK (ρ[i]?) P := by
  unfold ownK SlK
  rcases ρ[i]? with _ | s
  · exact Iff.rfl
  · cases s <;> exact Iff.rfl
theorem ok_scrD {ρ : R} {i : Nat} {P : List Int → Prop} : Ok (scrD ρ i) P ↔ SlS (ρ[i]?) P := by
  unfold scrD SlS
  rcases ρ[i]? with _ | s
  · exact Iff.rfl
  · cases s <;> exact Iff.rfl
theorem ok_some {a : α} {P : α → Prop} : Ok (some a) P ↔ P a := Iff.rfl
theorem tgw_ok {P : R → Prop} : TgW (.ok ρ) P ↔ P ρ := Iff.rfl
theorem tgw_bind {r : M R} {f : R → M R} {P : R → Prop} : TgW (r >>= f) P ↔ TgW r fun b => TgW (f b) P := by
  cases r <;> exact Iff.rfl
theorem at_iff {a : α} {P : α → Prop} : At a P ↔ P a := Iff.rfl
theorem br_true {A B : Prop} : Br true A B ↔ A := by unfold Br; simp
theorem br_false {A B : Prop} : Br false A B ↔ B := by unfold Br; simp
theorem br_dec {p : Prop} [Decidable p] {A B : Prop} (h1 : p → A) (h2 : ¬ p → B) : Br (decide p) A B := by
  unfold Br
  by_cases h : p
  · simp [h, h1 h]
  · simp [h, h2 h]
theorem br_any {k : Bool} {A B : Prop} (h1 : k = true → A) (h2 : k = false → B) : Br k A B := by
  cases k
  · exact br_false.mpr (h2 rfl)
  · exact br_true.mpr (h1 rfl)
theorem br_not {k : Bool} {A B : Prop} : Br (!k) A B ↔ Br k B A := by cases k <;> simp [Br]
theorem br_decT {p : Prop} [Decidable p] {A B : Prop} (h : p) : Br (decide p) A B ↔ A := by unfold Br; simp [h]
theorem br_decF {p : Prop} [Decidable p] {A B : Prop} (h : ¬ p) : Br (decide p) A B ↔ B := by unfold Br; simp [h]
theorem sld_d {x : D} {P : D → Prop} : SlD (some (.d x)) P ↔ P x := Iff.rfl
theorem sll_l {x : List D} {P : List D → Prop} : SlL (some (.l x)) P ↔ P x := Iff.rfl
theorem slk_k {x : List (Key × D)} {P : List (Key × D) → Prop} : SlK (some (.k x)) P ↔ P x := Iff.rfl
theorem sls_s {x : List Int} {P : List Int → Prop} : SlS (some (.s x)) P ↔ P x := Iff.rfl
end
section
variable {ρ : R} {Q : D → R → Prop} {QL : List D → R → Prop} {QB : Bool → R → Prop} {QF : Fl → R → Prop} {QA : List A → R → Prop} {a b : R → M (D × R)} {c c1 c2 : R → M (Bool × R)} {al : R → M (List D × R)} {s1 s2 : SM} {i j : Nat}
theorem w_var : Wp (mVar i ρ) Q ↔ SlD (ρ[i]?) fun x => Q x ρ := by
  unfold mVar SlD
  rcases ρ[i]? with _ | s
  · exact Iff.rfl
  · cases s <;> exact Iff.rfl
theorem w_c {d : D} : Wp (mC d ρ) Q ↔ Q d ρ := Iff.rfl
theorem w_op {f : D → D → Option D} : Wp (mOp f a b ρ) Q ↔ Wp (a ρ) fun x ρ1 => Wp (b ρ1) fun y ρ2 => Ok (f x y) fun z => Q z ρ2 := by
  unfold mOp
  simp only [wp_bind, wp_lo, wp_ok]
theorem w_un {f : D → Option D} : Wp (mUn f a ρ) Q ↔ Wp (a ρ) fun x ρ1 => Ok (f x) fun z => Q z ρ1 := by
  unfold mUn
  simp only [wp_bind, wp_lo, wp_ok]
theorem w_fn {f : List D → Option D} : Wp (mFn f al ρ) Q ↔ Wp (al ρ) fun x ρ1 => Ok (f x) fun z => Q z ρ1 := by
  unfold mFn
  simp only [wp_bind, wp_lo, wp_ok]
theorem w_fnO {f : List D → Option (List D)} : Wp (mFnO f al ρ) QL ↔ Wp (al ρ) fun x ρ1 => Ok (f x) fun z => QL z ρ1 := by
  unfold mFnO
  simp only [wp_bind, wp_lo, wp_ok]
theorem w_nil : Wp (mNil ρ) QL ↔ QL [] ρ := Iff.rfl
theorem w_cons : Wp (mCons a al ρ) QL ↔ Wp (a ρ) fun x ρ1 => Wp (al ρ1) fun xs ρ2 => QL (x :: xs) ρ2 := by
  unfold mCons
  simp only [wp_bind, wp_ok]
theorem w_tup : Wp (mTup al ρ) Q ↔ Wp (al ρ) fun xs ρ1 => Q (.tuple xs) ρ1 := by
  unfold mTup
  simp only [wp_bind, wp_ok]
theorem w_fz : Wp (mFz al ρ) Q ↔ Wp (al ρ) fun xs ρ1 => Q (.list xs) ρ1 := by
  unfold mFz
  simp only [wp_bind, wp_ok]
theorem w_if {α : Type} {a b : R → M (α × R)} {Q : α → R → Prop} : Wp (mIf c a b ρ) Q ↔ Wp (c ρ) fun k ρ1 => Br k (Wp (a ρ1) Q) (Wp (b ρ1) Q) := by
  unfold mIf
  simp only [wp_bind]
  cases c ρ with
  | error e => exact Iff.rfl
  | ok p => obtain ⟨k, ρ1⟩ := p; cases k <;> simp [Wp, Br]
theorem w_test {f : D → Option Bool} : Wp (mTest f a ρ) QB ↔ Wp (a ρ) fun x ρ1 => Ok (f x) fun k => QB k ρ1 := by
  unfold mTest
  simp only [wp_bind, wp_lo, wp_ok]
theorem w_and : Wp (mAnd c1 c2 ρ) QB ↔ Wp (c1 ρ) fun k ρ1 => Br k (Wp (c2 ρ1) QB) (QB false ρ1) := by
  unfold mAnd
  simp only [wp_bind]
  cases c1 ρ with
  | error e => exact Iff.rfl
  | ok p => obtain ⟨k, ρ1⟩ := p; cases k <;> simp [Wp, Br]
theorem w_or : Wp (mOr c1 c2 ρ) QB ↔ Wp (c1 ρ) fun k ρ1 => Br k (QB true ρ1) (Wp (c2 ρ1) QB) := by
  unfold mOr
  simp only [wp_bind]
  cases c1 ρ with
  | error e => exact Iff.rfl
  | ok p => obtain ⟨k, ρ1⟩ := p; cases k <;> simp [Wp, Br]
theorem w_not : Wp (mNot c1 ρ) QB ↔ Wp (c1 ρ) fun k ρ1 => QB (!k) ρ1 := by
  unfold mNot
  simp only [wp_bind, wp_ok]
theorem w_andV : Wp (mAndV a b ρ) Q ↔ Wp (a ρ) fun x ρ1 => Ok (truthD x) fun k => Br k (Wp (b ρ1) Q) (Q x ρ1) := by
  unfold mAndV
  simp only [wp_bind, wp_lo]
  cases a ρ with
  | error e => exact Iff.rfl
  | ok p =>
    show Ok (truthD p.1) _ ↔ Ok (truthD p.1) _
    cases truthD p.1 with
    | none => exact Iff.rfl
    | some k => cases k <;> simp [Wp, Br, Ok]
theorem w_orV : Wp (mOrV a b ρ) Q ↔ Wp (a ρ) fun x ρ1 => Ok (truthD x) fun k => Br k (Q x ρ1) (Wp (b ρ1) Q) := by
  unfold mOrV
  simp only [wp_bind, wp_lo]
  cases a ρ with
  | error e => exact Iff.rfl
  | ok p =>
    show Ok (truthD p.1) _ ↔ Ok (truthD p.1) _
    cases truthD p.1 with
    | none => exact Iff.rfl
    | some k => cases k <;> simp [Wp, Br, Ok]
theorem w_yes : Wp (mYes ρ) QB ↔ QB true ρ := Iff.rfl
theorem w_notV {f : D → Option Bool} : Wp (mNotV f a ρ) Q ↔ Wp (a ρ) fun x ρ1 => Ok (f x) fun k => Q (.bool (!k)) ρ1 := by
  unfold mNotV
  simp only [wp_bind, wp_lo, wp_ok]
theorem w_isa {T : String} : Wp (mIsa T a ρ) Q ↔ Wp (a ρ) fun x ρ1 => Q (.bool (isaD T x)) ρ1 := by
  unfold mIsa
  simp only [wp_bind, wp_ok]
theorem w_none {QO : Option Int → R → Prop} : Wp (mNone ρ) QO ↔ QO none ρ := Iff.rfl
theorem w_part {QO : Option Int → R → Prop} : Wp (mPart a ρ) QO ↔ Wp (a ρ) fun x ρ1 => Ok (intD x) fun k => QO (some k) ρ1 := by
  unfold mPart
  simp only [wp_bind, wp_lo, wp_ok]
theorem w_cut {l h : R → M (Option Int × R)} : Wp (mCut a l h ρ) Q ↔ Wp (a ρ) fun x ρ1 => Wp (l ρ1) fun p ρ2 => Wp (h ρ2) fun q ρ3 => Ok (cutD x p q) fun z => Q z ρ3 := by
  unfold mCut
  simp only [wp_bind, wp_lo, wp_ok]
def revO : D → Option (List D)
  | .list ds => some ds.reverse
  | _ => none
theorem w_revL : Wp (mRevL a ρ) QL ↔ Wp (a ρ) fun x ρ1 => Ok (revO x) fun z => QL z ρ1 := by
  unfold mRevL
  simp only [wp_bind]
  cases a ρ with
  | error e => exact Iff.rfl
  | ok p => obtain ⟨d, ρ1⟩ := p; cases d <;> exact Iff.rfl
/-! own things -/
theorem wp_nxm {α : Type} {r : M (α × R)} {Q : α → R → Prop} : Wp (nxm r) Q ↔ Wp r Q := by
  cases r with
  | ok p => exact Iff.rfl
  | error e => cases e <;> exact Iff.rfl
theorem w_bor {α : Type} {ok : α → Bool} {g : R → M (α × R)} {Q : α → R → Prop} : Wp (mBor ok i g ρ) Q ↔ SlL (ρ[i]?) fun ds => At (hideR ρ i ds) fun ρ1 => Wp (g ρ1) fun x _ => ok x = true ∧ Q x ρ := by
  unfold mBor
  simp only [wp_lo, ok_ownL, wp_bind, wp_nxm, wp_ite]
  exact Iff.rfl
theorem ok_setAt {ρ2 : R} {k x : D} {P : R → Prop} : Ok (setAt ρ2 i k x) P ↔ SlL (ρ2[i]?) fun ds => Ok (intD k) fun m => Ok (ixN ds.length m) fun n => At (ρ2.set i (.l (ds.set n x))) P := by
  unfold setAt ownL SlL At
  rcases ρ2[i]? with _ | s
  · exact Iff.rfl
  · cases s <;> first | exact Iff.rfl | skip
    simp only [Option.bind]
    cases intD k with
    | none => exact Iff.rfl
    | some m =>
      rename_i ds
      show Ok (Option.map _ (ixN ds.length m)) P ↔ Ok (ixN ds.length m) _
      cases ixN ds.length m <;> exact Iff.rfl
theorem w_setI : Wp (mSetI i a b ρ) QF ↔ Wp (a ρ) fun x ρ1 => SlL (ρ1[i]?) fun _ => Wp (b ρ1) fun k ρ2 => SlL (ρ2[i]?) fun ds => Ok (intD k) fun m => Ok (ixN ds.length m) fun n => At (ρ2.set i (.l (ds.set n x))) fun ρ3 => QF .nx ρ3 := by
  unfold mSetI
  simp only [wp_bind, wp_lo, ok_ownL, ok_setAt, wp_ok]
theorem ok_appAt {ρ2 : R} {x : D} {P : R → Prop} : Ok (appAt ρ2 i x) P ↔ SlL (ρ2[i]?) fun ds => ds.length < sizeLine ∧ At (ρ2.set i (.l (ds ++ [x]))) P := by
  unfold appAt ownL SlL At
  rcases ρ2[i]? with _ | s
  · exact Iff.rfl
  · cases s <;> first | exact Iff.rfl | skip
    simp only [Option.bind]
    exact ok_ite
theorem w_app : Wp (mApp i a ρ) QF ↔ SlL (ρ[i]?) fun _ => Wp (a ρ) fun x ρ1 => SlL (ρ1[i]?) fun ds => ds.length < sizeLine ∧ At (ρ1.set i (.l (ds ++ [x]))) fun ρ2 => QF .nx ρ2 := by
  unfold mApp
  simp only [wp_bind, wp_lo, ok_ownL, ok_appAt, wp_ok]
theorem ok_extAt {es : List D} {P : R → Prop} : Ok (extAt ρ i (.list es)) P ↔ SlL (ρ[i]?) fun ds => ds.length + es.length ≤ sizeLine ∧ At (ρ.set i (.l (ds ++ es))) P := by
  unfold extAt ownL SlL At
  rcases ρ[i]? with _ | s
  · exact Iff.rfl
  · cases s <;> first | exact Iff.rfl | skip
    simp only [Option.bind]
    exact ok_ite
theorem w_ext : Wp (mExt i a ρ) QF ↔ SlL (ρ[i]?) fun _ => Wp (a ρ) fun x ρ1 => Ok (extAt ρ1 i x) fun ρ2 => QF .nx ρ2 := by
  unfold mExt
  simp only [wp_bind, wp_lo, ok_ownL, wp_ok]
theorem w_newK : Wp (mNewK i ρ) QF ↔ i < ρ.length ∧ At (ρ.set i (.k [])) fun ρ1 => QF .nx ρ1 := by
  unfold mNewK At
  exact wp_ite
theorem ok_putAt {ρ2 : R} {k x : D} {P : R → Prop} : Ok (putAt ρ2 i k x) P ↔ SlK (ρ2[i]?) fun kvs => Ok (keyOf k) fun m => kvs.length < sizeLine ∧ At (ρ2.set i (.k (putD kvs m x))) P := by
  unfold putAt ownK SlK At
  rcases ρ2[i]? with _ | s
  · exact Iff.rfl
  · cases s <;> first | exact Iff.rfl | skip
    simp only [Option.bind]
    cases keyOf k with
    | none => exact Iff.rfl
    | some m => exact ok_ite
theorem w_putK : Wp (mPutK i a b ρ) QF ↔ Wp (a ρ) fun x ρ1 => SlK (ρ1[i]?) fun _ => Wp (b ρ1) fun k ρ2 => SlK (ρ2[i]?) fun kvs => Ok (keyOf k) fun m => kvs.length < sizeLine ∧ At (ρ2.set i (.k (putD kvs m x))) fun ρ3 => QF .nx ρ3 := by
  unfold mPutK
  simp only [wp_bind, wp_lo, ok_ownK, ok_putAt, wp_ok]
theorem ok_getAt {k : D} {P : Option D → Prop} : Ok (getAt ρ i k) P ↔ SlK (ρ[i]?) fun kvs => Ok (keyOf k) fun m => P (valD kvs m) := by
  unfold getAt ownK SlK
  rcases ρ[i]? with _ | s
  · exact Iff.rfl
  · cases s <;> first | exact Iff.rfl | skip
    simp only [Option.bind]
    cases keyOf k <;> exact Iff.rfl
theorem w_getK : Wp (mGetK i a b ρ) Q ↔ SlK (ρ[i]?) fun _ => Wp (a ρ) fun k ρ1 => Wp (b ρ1) fun x ρ2 => SlK (ρ2[i]?) fun kvs => Ok (keyOf k) fun m => Q ((valD kvs m).getD x) ρ2 := by
  unfold mGetK
  simp only [wp_bind, wp_lo, ok_ownK, wp_ok, ok_getAt]
theorem w_atK : Wp (mAtK i a ρ) Q ↔ SlK (ρ[i]?) fun _ => Wp (a ρ) fun k ρ1 => SlK (ρ1[i]?) fun kvs => Ok (keyOf k) fun m => Ok (valD kvs m) fun d => Q d ρ1 := by
  unfold mAtK
  simp only [wp_bind, wp_lo, ok_ownK, wp_ok, ok_getAt]
theorem w_sortK : Wp (mSortK i ρ) QL ↔ SlK (ρ[i]?) fun kvs => Ok (intKeys kvs) fun ns => ns.length < 64 ∧ QL ((sortI ns).map .int) ρ := by
  unfold mSortK
  simp only [wp_lo, ok_ownK, wp_ite]
theorem w_scrL : Wp (mScrL i ρ) QL ↔ SlS (ρ[i]?) fun ns => ns.length ≤ sizeLine ∧ QL (ns.map .int) ρ := by
  unfold mScrL
  simp only [wp_lo, ok_scrD, wp_ite]
theorem w_scrC {l h : R → M (Option Int × R)} : Wp (mScrC i l h ρ) QL ↔ SlS (ρ[i]?) fun ns => Wp (l ρ) fun p ρ1 => Wp (h ρ1) fun q ρ2 => ns.length ≤ sizeLine ∧ QL ((cutL ns p q).map .int) ρ2 := by
  unfold mScrC
  simp only [wp_lo, ok_scrD, wp_bind, wp_ite]
/-! calls -/
theorem w_anil : Wp (aNil ρ) QA ↔ QA [] ρ := Iff.rfl
theorem w_aD {ga : R → M (List A × R)} : Wp (aD a ga ρ) QA ↔ Wp (a ρ) fun x ρ1 => Wp (ga ρ1) fun as ρ2 => QA (.d x :: as) ρ2 := by
  unfold aD
  simp only [wp_bind, wp_ok]
def OwnS : Option Sl → Bool
  | some (.l _) => true
  | some (.k _) => true
  | some (.s _) => true
  | _ => false
theorem w_aO {ga : R → M (List A × R)} : Wp (aO j ga ρ) QA ↔ OwnS (ρ[j]?) = true ∧ Wp (ga ρ) fun as ρ2 => QA (.o j :: as) ρ2 := by
  unfold aO OwnS
  rcases ρ[j]? with _ | s
  · simp [Wp]
  · cases s <;> simp [wp_bind, wp_ok] <;> simp [Wp]
theorem w_call {f : FM} {ga : R → M (List A × R)} : Wp (mCall (noX f) [] ga ρ) Q ↔ Wp (ga ρ) fun as ρ1 => (ownJs as).Nodup ∧ At (slotsOf ρ1 as) fun ss => Wp (f ss) fun d ss' => At (putB as ss' ρ1) fun ρ2 => Q d ρ2 := by
  unfold mCall
  simp only [wp_bind]
  have : ∀ (as : List A) (ρ1 : R), Wp (if (ownJs as).Nodup then noX f (slotsOf ρ1 as ++ List.map Sl.d []) >>= fun q => Except.ok (q.1, putB as q.2 ρ1) else Except.error Er.stuck) Q ↔ ((ownJs as).Nodup ∧ At (slotsOf ρ1 as) fun ss => Wp (f ss) fun d ss' => At (putB as ss' ρ1) fun ρ2 => Q d ρ2) := fun as ρ1 => by
    split
    · rename_i h
      simp only [h, true_and, List.map_nil, List.append_nil, wp_bind, wp_ok, At]
      unfold noX
      cases f (slotsOf ρ1 as) with
      | ok p => exact Iff.rfl
      | error e => cases e <;> exact Iff.rfl
    · rename_i h
      simp [h, Wp]
  simp only [this]
theorem w_callO {f : FO} {ga : R → M (List A × R)} : Wp (mCallO (noXO f) [] ga ρ) QL ↔ Wp (ga ρ) fun as ρ1 => At (slotsOf ρ1 as) fun ss => (ss.all fun s => !s.own) = true ∧ (ownJs as).Nodup ∧ Wp (f ss) fun d _ => QL d ρ1 := by
  unfold mCallO
  simp only [wp_bind]
  have : ∀ (as : List A) (ρ1 : R), Wp (if (slotsOf ρ1 as).all (fun s => !s.own) = true ∧ (ownJs as).Nodup then noXO f (slotsOf ρ1 as ++ List.map Sl.d []) >>= fun q => Except.ok (q.1, ρ1) else Except.error Er.stuck) QL ↔ At (slotsOf ρ1 as) fun ss => (ss.all fun s => !s.own) = true ∧ (ownJs as).Nodup ∧ Wp (f ss) fun d _ => QL d ρ1 := fun as ρ1 => by
    unfold At
    split
    · rename_i h
      simp only [h, true_and, List.map_nil, List.append_nil, wp_bind, wp_ok, At, and_self]
      unfold noXO
      cases f (slotsOf ρ1 as) with
      | ok p => exact Iff.rfl
      | error e => cases e <;> exact Iff.rfl
    · rename_i h
      exact ⟨fun z => z.elim, fun z => h ⟨z.1, z.2.1⟩⟩
  simp only [this]
/-! statements -/
theorem w_skip : Wp (mSkip ρ) QF ↔ QF .nx ρ := Iff.rfl
theorem w_brk : Wp (mBrk ρ) QF ↔ QF .bk ρ := Iff.rfl
theorem w_cont : Wp (mCont ρ) QF ↔ QF .ct ρ := Iff.rfl
/-- what goes on -/
def Nx (K : R → Prop) (Q : Fl → R → Prop) : Fl → R → Prop
  | .nx, ρ => K ρ
  | fl, ρ => Q fl ρ
theorem nx_nx {K : R → Prop} : Nx K QF .nx ρ ↔ K ρ := Iff.rfl
theorem nx_rt {K : R → Prop} {d : D} : Nx K QF (.rt d) ρ ↔ QF (.rt d) ρ := Iff.rfl
theorem nx_bk {K : R → Prop} : Nx K QF .bk ρ ↔ QF .bk ρ := Iff.rfl
theorem nx_ct {K : R → Prop} : Nx K QF .ct ρ ↔ QF .ct ρ := Iff.rfl
theorem w_then : Wp (mThen s1 s2 ρ) QF ↔ Wp (s1 ρ) (Nx (fun ρ1 => Wp (s2 ρ1) QF) QF) := by
  unfold mThen
  simp only [wp_bind]
  cases s1 ρ with
  | error e => exact Iff.rfl
  | ok p => obtain ⟨fl, ρ1⟩ := p; cases fl <;> exact Iff.rfl
theorem w_ret : Wp (mRet a ρ) QF ↔ Wp (a ρ) fun x ρ1 => QF (.rt x) ρ1 := by
  unfold mRet
  simp only [wp_bind, wp_ok]
theorem w_retN : Wp (mRetN ρ) QF ↔ QF (.rt .none) ρ := Iff.rfl
theorem w_drop : Wp (mDrop a ρ) QF ↔ Wp (a ρ) fun x ρ1 => QF .nx ρ1 := by
  unfold mDrop
  simp only [wp_bind, wp_ok]
theorem w_asg {h : D → R → M R} : Wp (mAsg a h ρ) QF ↔ Wp (a ρ) fun x ρ1 => TgW (h x ρ1) fun ρ2 => QF .nx ρ2 := by
  unfold mAsg
  simp only [wp_bind, wp_tg, wp_ok]
theorem w_own : Wp (mOwn i al ρ) QF ↔ Wp (al ρ) fun xs ρ1 => i < ρ1.length ∧ At (ρ1.set i (.l xs)) fun ρ2 => QF .nx ρ2 := by
  unfold mOwn
  simp only [wp_bind]
  have : ∀ (xs : List D) (ρ1 : R), Wp (if i < ρ1.length then Except.ok (Fl.nx, ρ1.set i (.l xs)) else Except.error Er.stuck) QF ↔ (i < ρ1.length ∧ At (ρ1.set i (.l xs)) fun ρ2 => QF .nx ρ2) := fun xs ρ1 => by
    unfold At
    exact wp_ite
  simp only [this]
theorem w_par : Wp (mPar i j a b ρ) QF ↔ Wp (a ρ) fun x ρ1 => Wp (b ρ1) fun y ρ2 => (i < ρ2.length ∧ j < ρ2.length) ∧ At ((ρ2.set i (.d x)).set j (.d y)) fun ρ3 => QF .nx ρ3 := by
  unfold mPar
  simp only [wp_bind]
  have : ∀ (x y : D) (ρ2 : R), Wp (if i < ρ2.length ∧ j < ρ2.length then Except.ok (Fl.nx, (ρ2.set i (.d x)).set j (.d y)) else Except.error Er.stuck) QF ↔ ((i < ρ2.length ∧ j < ρ2.length) ∧ At ((ρ2.set i (.d x)).set j (.d y)) fun ρ3 => QF .nx ρ3) := fun x y ρ2 => by
    unfold At
    exact wp_ite
  simp only [this]
theorem w_parO : Wp (mParO i j a al ρ) QF ↔ Wp (a ρ) fun x ρ1 => Wp (al ρ1) fun y ρ2 => (i < ρ2.length ∧ j < ρ2.length) ∧ At ((ρ2.set i (.d x)).set j (.l y)) fun ρ3 => QF .nx ρ3 := by
  unfold mParO
  simp only [wp_bind]
  have : ∀ (x : D) (y : List D) (ρ2 : R), Wp (if i < ρ2.length ∧ j < ρ2.length then Except.ok (Fl.nx, (ρ2.set i (.d x)).set j (.l y)) else Except.error Er.stuck) QF ↔ ((i < ρ2.length ∧ j < ρ2.length) ∧ At ((ρ2.set i (.d x)).set j (.l y)) fun ρ3 => QF .nx ρ3) := fun x y ρ2 => by
    unfold At
    exact wp_ite
  simp only [this]
theorem t_set {d : D} {P : R → Prop} : TgW (mSet i d ρ) P ↔ i < ρ.length ∧ At (ρ.set i (.d d)) P := by
  unfold mSet At
  by_cases h : i < ρ.length
  · rw [if_pos h]; exact ⟨fun z => ⟨h, z⟩, fun z => z.2⟩
  · rw [if_neg h]; exact ⟨fun z => z.elim, fun z => h z.1⟩
theorem t_tup {hs : List D → R → M R} {ds : List D} {P : R → Prop} : TgW (gtTup hs (.tuple ds) ρ) P ↔ TgW (hs ds ρ) P := Iff.rfl
theorem t_cons {h : D → R → M R} {hs : List D → R → M R} {d : D} {ds : List D} {P : R → Prop} : TgW (gtCons h hs (d :: ds) ρ) P ↔ TgW (h d ρ) fun ρ1 => TgW (hs ds ρ1) P := tgw_bind
theorem t_nil {P : R → Prop} : TgW (gtNil [] ρ) P ↔ P ρ := Iff.rfl
/-! loops -/
theorem w_items : Wp (mItems a ρ) QL ↔ Wp (a ρ) fun x ρ1 => Ok (seqItems x) fun z => QL z ρ1 := by
  unfold mItems
  simp only [wp_bind, wp_lo, wp_ok]
theorem w_enum : Wp (mEnum a ρ) QL ↔ Wp (a ρ) fun x ρ1 => Ok (enumD x) fun z => QL z ρ1 := by
  unfold mEnum
  simp only [wp_bind, wp_lo, wp_ok]
theorem w_rng : Wp (mRng al ρ) QL ↔ Wp (al ρ) fun x ρ1 => Ok (rangeD x) fun z => QL z ρ1 := by
  unfold mRng
  simp only [wp_bind, wp_lo, wp_ok]
theorem w_for {tgt : D → R → M R} : Wp (mFor al tgt s1 ρ) QF ↔ Wp (al ρ) fun ds ρ1 => Wp (forL tgt s1 ds ρ1) QF := by
  unfold mFor
  simp only [wp_bind]
theorem w_lc {vs : List Nat} {tgt : D → R → M R} {tst : R → M (Bool × R)} : Wp (mLc vs al tgt tst a ρ) QL ↔ Wp (al ρ) fun ds ρ1 => (ds.length ≤ sizeLine ∧ noOwn ρ1 vs = true) ∧ At (wipeR ρ1 vs) fun ρ2 => Wp (compL vs tgt tst a ds ρ2) fun es ρ3 => At (backR ρ1 ρ3 vs) fun ρ4 => QL es ρ4 := by
  unfold mLc
  simp only [wp_bind]
  have : ∀ (ds : List D) (ρ1 : R), Wp (if ds.length ≤ sizeLine ∧ noOwn ρ1 vs = true then compL vs tgt tst a ds (wipeR ρ1 vs) >>= fun q => Except.ok (q.1, backR ρ1 q.2 vs) else Except.error Er.stuck) QL ↔ ((ds.length ≤ sizeLine ∧ noOwn ρ1 vs = true) ∧ At (wipeR ρ1 vs) fun ρ2 => Wp (compL vs tgt tst a ds ρ2) fun es ρ3 => At (backR ρ1 ρ3 vs) fun ρ4 => QL es ρ4) := fun ds ρ1 => by
    unfold At
    split
    · rename_i h
      simp only [h, true_and, wp_bind, wp_ok, and_self]
    · rename_i h
      simp only [h, false_and, Wp]
  simp only [this]
theorem w_for_nil {tgt : D → R → M R} : Wp (forL tgt s1 [] ρ) QF ↔ QF .nx ρ := Iff.rfl
/-- behind a turn -/
def Tn (K : R → Prop) (Q : Fl → R → Prop) : Fl → R → Prop
  | .nx, ρ => K ρ
  | .ct, ρ => K ρ
  | .bk, ρ => Q .nx ρ
  | .rt d, ρ => Q (.rt d) ρ
theorem tn_nx {K : R → Prop} : Tn K QF .nx ρ ↔ K ρ := Iff.rfl
theorem tn_ct {K : R → Prop} : Tn K QF .ct ρ ↔ K ρ := Iff.rfl
theorem tn_bk {K : R → Prop} : Tn K QF .bk ρ ↔ QF .nx ρ := Iff.rfl
theorem tn_rt {K : R → Prop} {d : D} : Tn K QF (.rt d) ρ ↔ QF (.rt d) ρ := Iff.rfl
theorem w_for_cons {tgt : D → R → M R} {d : D} {ds : List D} : Wp (forL tgt s1 (d :: ds) ρ) QF ↔ TgW (tgt d ρ) fun ρ1 => Wp (s1 ρ1) (Tn (fun ρ2 => Wp (forL tgt s1 ds ρ2) QF) QF) := by
  show Wp (tgt d ρ >>= _) QF ↔ _
  simp only [wp_tg, wp_bind]
  have : ∀ ρ1, (Wp (s1 ρ1) fun b ρ' => Wp (match (b, ρ').1 with
      | .nx => forL tgt s1 ds (b, ρ').2
      | .ct => forL tgt s1 ds (b, ρ').2
      | .bk => .ok (.nx, (b, ρ').2)
      | .rt d => .ok (.rt d, (b, ρ').2)) QF) ↔ Wp (s1 ρ1) (Tn (fun ρ2 => Wp (forL tgt s1 ds ρ2) QF) QF) := fun ρ1 => by
    cases s1 ρ1 with
    | error e => exact Iff.rfl
    | ok p => obtain ⟨fl, ρ2⟩ := p; cases fl <;> exact Iff.rfl
  cases tgt d ρ with
  | error e => exact Iff.rfl
  | ok ρ1 => exact this ρ1
theorem for_inv {tgt : D → R → M R} (I : List D → R → Prop) (hs : ∀ d ds ρ, I (d :: ds) ρ → TgW (tgt d ρ) fun ρ1 => Wp (s1 ρ1) (Tn (fun ρ2 => I ds ρ2) QF)) (he : ∀ ρ, I [] ρ → QF .nx ρ) : ∀ (ds : List D) (ρ : R), I ds ρ → Wp (forL tgt s1 ds ρ) QF
  | [], ρ, h => he ρ h
  | d :: ds, ρ, h => by
    rw [w_for_cons]
    have z := hs d ds ρ h
    unfold TgW at z ⊢
    split
    · rename_i ρ1 e
      rw [e] at z
      refine wp_mono z fun fl ρ2 q => ?_
      cases fl with
      | nx => exact for_inv I hs he ds ρ2 q
      | ct => exact for_inv I hs he ds ρ2 q
      | bk => exact q
      | rt d => exact q
    · rename_i e
      rw [e] at z
      exact z
section
variable {vs : List Nat} {tgt : D → R → M R} {tst : R → M (Bool × R)}
theorem w_comp_nil : Wp (compL vs tgt tst a [] ρ) QL ↔ QL [] ρ := Iff.rfl
theorem w_comp_cons {d : D} {ds : List D} : Wp (compL vs tgt tst a (d :: ds) ρ) QL ↔ TgW (tgt d ρ) fun ρ1 => Wp (tst ρ1) fun k ρ2 => Br k (Wp (a ρ2) fun y ρ3 => At (wipeR ρ3 vs) fun ρ4 => Wp (compL vs tgt tst a ds ρ4) fun ys ρ5 => QL (y :: ys) ρ5) (At (wipeR ρ2 vs) fun ρ4 => Wp (compL vs tgt tst a ds ρ4) QL) := by
  show Wp (tgt d ρ >>= _) QL ↔ _
  simp only [wp_tg, wp_bind]
  have : ∀ (k : Bool) (ρ2 : R), Wp (if (k, ρ2).1 = true then a (k, ρ2).2 >>= fun y => compL vs tgt tst a ds (wipeR y.2 vs) >>= fun z => .ok (y.1 :: z.1, z.2) else compL vs tgt tst a ds (wipeR (k, ρ2).2 vs)) QL ↔ Br k (Wp (a ρ2) fun y ρ3 => At (wipeR ρ3 vs) fun ρ4 => Wp (compL vs tgt tst a ds ρ4) fun ys ρ5 => QL (y :: ys) ρ5) (At (wipeR ρ2 vs) fun ρ4 => Wp (compL vs tgt tst a ds ρ4) QL) := fun k ρ2 => by
    cases k
    · simp [Br, At]
    · simp only [Br, At, if_true, wp_bind, wp_ok]
  simp only [this]
theorem comp_inv (I : List D → List D → R → Prop) (hs : ∀ d ds acc ρ, I (d :: ds) acc ρ → TgW (tgt d ρ) fun ρ1 => Wp (tst ρ1) fun k ρ2 => Br k (Wp (a ρ2) fun y ρ3 => At (wipeR ρ3 vs) fun ρ4 => I ds (acc ++ [y]) ρ4) (At (wipeR ρ2 vs) fun ρ4 => I ds acc ρ4)) :
    ∀ (ds acc : List D) (ρ : R) (QL : List D → R → Prop) (he : ∀ ys ρ', I [] (acc ++ ys) ρ' → QL ys ρ'), I ds acc ρ → Wp (compL vs tgt tst a ds ρ) QL
  | [], acc, ρ, QL, he, h => he [] ρ (by rw [List.append_nil]; exact h)
  | d :: ds, acc, ρ, QL, he, h => by
    rw [w_comp_cons]
    have z := hs d ds acc ρ h
    unfold TgW at z ⊢
    split
    · rename_i ρ1 e
      rw [e] at z
      refine wp_mono z fun k ρ2 q => ?_
      cases k with
      | true =>
        rw [br_true] at q ⊢
        refine wp_mono q fun y ρ3 q => ?_
        exact comp_inv I hs ds (acc ++ [y]) _ _ (fun ys ρ' q => he (y :: ys) ρ' (by rw [List.append_assoc] at q; exact q)) q
      | false =>
        rw [br_false] at q ⊢
        exact comp_inv I hs ds acc _ _ he q
    · rename_i e
      rw [e] at z
      exact z
end
def Bd (Q : D → R → Prop) : Fl → R → Prop
  | .rt d, ρ => Q d ρ
  | .nx, ρ => Q .none ρ
  | _, _ => False
theorem bd_rt {d : D} : Bd Q (.rt d) ρ ↔ Q d ρ := Iff.rfl
theorem bd_nx : Bd Q .nx ρ ↔ Q .none ρ := Iff.rfl
theorem w_bodyO {m n : Nat} {g : R → M (List D × R)} : Wp (mBodyO m n g ρ) QL ↔ ρ.length = n ∧ At (ρ ++ List.replicate (m - n) .un) fun ρ1 => Wp (g ρ1) QL := by
  unfold mBodyO At
  by_cases h : ρ.length = n
  · rw [if_pos h]; exact ⟨fun z => ⟨h, z⟩, fun z => z.2⟩
  · rw [if_neg h]; exact ⟨fun z => z.elim, fun z => h z.1⟩
theorem w_body {m n : Nat} {P : List Nat} {g : SM} : Wp (mBody m n P g ρ) Q ↔ ρ.length = n ∧ At (ρ ++ List.replicate (m - n) .un) fun ρ1 => Wp (g ρ1) fun fl ρ2 => At (outP P n ρ2) fun ρ3 => Bd Q fl ρ3 := by
  unfold mBody At
  split
  · rename_i h
    simp only [h, true_and, wp_bind]
    cases g (ρ ++ List.replicate (m - n) Sl.un) with
    | error e => exact Iff.rfl
    | ok p => obtain ⟨fl, ρ1⟩ := p; cases fl <;> exact Iff.rfl
  · rename_i h
    simp [h, Wp]
end
end P0
end DL

/-! DM1: reckoning with mirrors: what is wanted behind one, rule by rule, from the head. -/
namespace DL
open PySem PySem.Spec PyProof.Rows L2
/-- bears a continuation, so that a rewriting leaves it alone -/
structure Tg {β : Sort u} (b : β) : Type where
/-- r ends well, with Q behind it -/
def Wp {α : Type} (r : M (α × R)) (Q : α → R → Prop) (u : Tg Q := ⟨⟩) : Prop := P0.Wp r Q
def Ok {α : Type} (o : Option α) (Q : α → Prop) (u : Tg Q := ⟨⟩) : Prop := P0.Ok o Q
def TgW (r : M R) (Q : R → Prop) (u : Tg Q := ⟨⟩) : Prop := P0.TgW r Q
def At {α : Type} (a : α) (Q : α → Prop) (u : Tg Q := ⟨⟩) : Prop := P0.At a Q
def Br (k : Bool) (A B : Prop) (u : Tg (A ∧ B) := ⟨⟩) : Prop := P0.Br k A B
def SlD (o : Option Sl) (Q : D → Prop) (u : Tg Q := ⟨⟩) : Prop := P0.SlD o Q
def SlL (o : Option Sl) (Q : List D → Prop) (u : Tg Q := ⟨⟩) : Prop := P0.SlL o Q
def SlK (o : Option Sl) (Q : List (Key × D) → Prop) (u : Tg Q := ⟨⟩) : Prop := P0.SlK o Q
def SlS (o : Option Sl) (Q : List Int → Prop) (u : Tg Q := ⟨⟩) : Prop := P0.SlS o Q
section
variable {α β : Type} {Q : α → R → Prop} {ρ : R}
theorem wp_mono {r : M (α × R)} {Q Q' : α → R → Prop} (h : Wp r Q) (k : ∀ a ρ, Q a ρ → Q' a ρ) : Wp r Q' := by
  unfold Wp P0.Wp at *
  split <;> simp_all
theorem wp_eq {r : M (α × R)} {a : α} {ρ : R} (h : Wp r fun x y => x = a ∧ y = ρ) : r = .ok (a, ρ) := by
  unfold Wp P0.Wp at h
  split at h
  · obtain ⟨rfl, rfl⟩ := h; rfl
  · exact h.elim
theorem wp_ok {a : α} : Wp (.ok (a, ρ)) Q ↔ Q a ρ := Iff.rfl
theorem wp_of {r : M (α × R)} {a : α} {ρ : R} (h : r = .ok (a, ρ)) (k : Q a ρ) : Wp r Q := by rw [h]; exact k
theorem wp_bind {r : M (β × R)} {f : β × R → M (α × R)} : Wp (r >>= f) Q ↔ Wp r fun b ρ' => Wp (f (b, ρ')) Q := P0.wp_bind
theorem wp_lo {o : Option β} {f : β → M (α × R)} : Wp (lo o >>= f) Q ↔ Ok o fun b => Wp (f b) Q := P0.wp_lo
theorem wp_lo1 {o : Option (α × R)} : Wp (lo o) Q ↔ Ok o fun b => Q b.1 b.2 := P0.wp_lo1
theorem wp_tg {r : M R} {f : R → M (α × R)} : Wp (r >>= f) Q ↔ TgW r fun b => Wp (f b) Q := P0.wp_tg
theorem wp_ite {c : Prop} [Decidable c] {a : α} : Wp (if c then Except.ok (a, ρ) else Except.error Er.stuck) Q ↔ c ∧ Q a ρ := P0.wp_ite
theorem ok_ite {c : Prop} [Decidable c] {a : α} {P : α → Prop} : Ok (if c then some a else none) P ↔ c ∧ P a := P0.ok_ite
theorem ok_ownL {ρ : R} {i : Nat} {P : List D → Prop} : Ok (ownL ρ i) P ↔ SlL (ρ[i]?) P := P0.ok_ownL
theorem ok_ownK {ρ : R} {i : Nat} {P : List (Key × D) → Prop} : Ok (ownK ρ i) P ↔ SlK (ρ[i]?) P := P0.ok_ownK
theorem ok_scrD {ρ : R} {i : Nat} {P : List Int → Prop} : Ok (scrD ρ i) P ↔ SlS (ρ[i]?) P := P0.ok_scrD
theorem ok_some {a : α} {P : α → Prop} : Ok (some a) P ↔ P a := Iff.rfl
theorem tgw_ok {P : R → Prop} : TgW (.ok ρ) P ↔ P ρ := Iff.rfl
theorem tgw_bind {r : M R} {f : R → M R} {P : R → Prop} : TgW (r >>= f) P ↔ TgW r fun b => TgW (f b) P := P0.tgw_bind
theorem at_iff {a : α} {P : α → Prop} : At a P ↔ P a := Iff.rfl
theorem br_true {A B : Prop} : Br true A B ↔ A := P0.br_true
theorem br_false {A B : Prop} : Br false A B ↔ B := P0.br_false
theorem br_dec {p : Prop} [Decidable p] {A B : Prop} (h1 : p → A) (h2 : ¬ p → B) : Br (decide p) A B := by
  unfold Br P0.Br
  by_cases h : p
  · simp [h, h1 h]
  · simp [h, h2 h]
theorem br_any {k : Bool} {A B : Prop} (h1 : k = true → A) (h2 : k = false → B) : Br k A B := by
  cases k
  · exact br_false.mpr (h2 rfl)
  · exact br_true.mpr (h1 rfl)
theorem br_not {k : Bool} {A B : Prop} : Br (!k) A B ↔ Br k B A := P0.br_not
theorem br_decT {p : Prop} [Decidable p] {A B : Prop} (h : p) : Br (decide p) A B ↔ A := by unfold Br P0.Br; simp [h]
theorem br_decF {p : Prop} [Decidable p] {A B : Prop} (h : ¬ p) : Br (decide p) A B ↔ B := by unfold Br P0.Br; simp [h]
theorem sld_d {x : D} {P : D → Prop} : SlD (some (.d x)) P ↔ P x := P0.sld_d
theorem sll_l {x : List D} {P : List D → Prop} : SlL (some (.l x)) P ↔ P x := P0.sll_l
theorem slk_k {x : List (Key × D)} {P : List (Key × D) → Prop} : SlK (some (.k x)) P ↔ P x := P0.slk_k
theorem sls_s {x : List Int} {P : List Int → Prop} : SlS (some (.s x)) P ↔ P x := P0.sls_s
end
section
variable {ρ : R} {Q : D → R → Prop} {QL : List D → R → Prop} {QB : Bool → R → Prop} {QF : Fl → R → Prop} {QA : List A → R → Prop} {a b : R → M (D × R)} {c c1 c2 : R → M (Bool × R)} {al : R → M (List D × R)} {s1 s2 : SM} {i j : Nat}
theorem w_var : Wp (mVar i ρ) Q ↔ SlD (ρ[i]?) fun x => Q x ρ := P0.w_var
theorem w_c {d : D} : Wp (mC d ρ) Q ↔ Q d ρ := P0.w_c
theorem w_op {f : D → D → Option D} : Wp (mOp f a b ρ) Q ↔ Wp (a ρ) fun x ρ1 => Wp (b ρ1) fun y ρ2 => Ok (f x y) fun z => Q z ρ2 := P0.w_op
theorem w_un {f : D → Option D} : Wp (mUn f a ρ) Q ↔ Wp (a ρ) fun x ρ1 => Ok (f x) fun z => Q z ρ1 := P0.w_un
theorem w_fn {f : List D → Option D} : Wp (mFn f al ρ) Q ↔ Wp (al ρ) fun x ρ1 => Ok (f x) fun z => Q z ρ1 := P0.w_fn
theorem w_fnO {f : List D → Option (List D)} : Wp (mFnO f al ρ) QL ↔ Wp (al ρ) fun x ρ1 => Ok (f x) fun z => QL z ρ1 := P0.w_fnO
theorem w_nil : Wp (mNil ρ) QL ↔ QL [] ρ := P0.w_nil
theorem w_cons : Wp (mCons a al ρ) QL ↔ Wp (a ρ) fun x ρ1 => Wp (al ρ1) fun xs ρ2 => QL (x :: xs) ρ2 := P0.w_cons
theorem w_tup : Wp (mTup al ρ) Q ↔ Wp (al ρ) fun xs ρ1 => Q (.tuple xs) ρ1 := P0.w_tup
theorem w_fz : Wp (mFz al ρ) Q ↔ Wp (al ρ) fun xs ρ1 => Q (.list xs) ρ1 := P0.w_fz
theorem w_if {α : Type} {a b : R → M (α × R)} {Q : α → R → Prop} : Wp (mIf c a b ρ) Q ↔ Wp (c ρ) fun k ρ1 => Br k (Wp (a ρ1) Q) (Wp (b ρ1) Q) := P0.w_if
theorem w_test {f : D → Option Bool} : Wp (mTest f a ρ) QB ↔ Wp (a ρ) fun x ρ1 => Ok (f x) fun k => QB k ρ1 := P0.w_test
theorem w_and : Wp (mAnd c1 c2 ρ) QB ↔ Wp (c1 ρ) fun k ρ1 => Br k (Wp (c2 ρ1) QB) (QB false ρ1) := P0.w_and
theorem w_or : Wp (mOr c1 c2 ρ) QB ↔ Wp (c1 ρ) fun k ρ1 => Br k (QB true ρ1) (Wp (c2 ρ1) QB) := P0.w_or
theorem w_not : Wp (mNot c1 ρ) QB ↔ Wp (c1 ρ) fun k ρ1 => QB (!k) ρ1 := P0.w_not
theorem w_andV : Wp (mAndV a b ρ) Q ↔ Wp (a ρ) fun x ρ1 => Ok (truthD x) fun k => Br k (Wp (b ρ1) Q) (Q x ρ1) := P0.w_andV
theorem w_orV : Wp (mOrV a b ρ) Q ↔ Wp (a ρ) fun x ρ1 => Ok (truthD x) fun k => Br k (Q x ρ1) (Wp (b ρ1) Q) := P0.w_orV
theorem w_yes : Wp (mYes ρ) QB ↔ QB true ρ := Iff.rfl
theorem w_notV {f : D → Option Bool} : Wp (mNotV f a ρ) Q ↔ Wp (a ρ) fun x ρ1 => Ok (f x) fun k => Q (.bool (!k)) ρ1 := P0.w_notV
theorem w_isa {T : String} : Wp (mIsa T a ρ) Q ↔ Wp (a ρ) fun x ρ1 => Q (.bool (isaD T x)) ρ1 := P0.w_isa
theorem w_none {QO : Option Int → R → Prop} : Wp (mNone ρ) QO ↔ QO none ρ := P0.w_none
theorem w_part {QO : Option Int → R → Prop} : Wp (mPart a ρ) QO ↔ Wp (a ρ) fun x ρ1 => Ok (intD x) fun k => QO (some k) ρ1 := P0.w_part
theorem w_cut {l h : R → M (Option Int × R)} : Wp (mCut a l h ρ) Q ↔ Wp (a ρ) fun x ρ1 => Wp (l ρ1) fun p ρ2 => Wp (h ρ2) fun q ρ3 => Ok (cutD x p q) fun z => Q z ρ3 := P0.w_cut
abbrev revO := P0.revO
theorem w_revL : Wp (mRevL a ρ) QL ↔ Wp (a ρ) fun x ρ1 => Ok (revO x) fun z => QL z ρ1 := P0.w_revL
/-! own things -/
theorem wp_nxm {α : Type} {r : M (α × R)} {Q : α → R → Prop} : Wp (nxm r) Q ↔ Wp r Q := P0.wp_nxm
theorem w_bor {α : Type} {ok : α → Bool} {g : R → M (α × R)} {Q : α → R → Prop} : Wp (mBor ok i g ρ) Q ↔ SlL (ρ[i]?) fun ds => At (hideR ρ i ds) fun ρ1 => Wp (g ρ1) fun x _ => ok x = true ∧ Q x ρ := P0.w_bor
theorem ok_setAt {ρ2 : R} {k x : D} {P : R → Prop} : Ok (setAt ρ2 i k x) P ↔ SlL (ρ2[i]?) fun ds => Ok (intD k) fun m => Ok (ixN ds.length m) fun n => At (ρ2.set i (.l (ds.set n x))) P := P0.ok_setAt
theorem w_setI : Wp (mSetI i a b ρ) QF ↔ Wp (a ρ) fun x ρ1 => SlL (ρ1[i]?) fun _ => Wp (b ρ1) fun k ρ2 => SlL (ρ2[i]?) fun ds => Ok (intD k) fun m => Ok (ixN ds.length m) fun n => At (ρ2.set i (.l (ds.set n x))) fun ρ3 => QF .nx ρ3 := P0.w_setI
theorem ok_appAt {ρ2 : R} {x : D} {P : R → Prop} : Ok (appAt ρ2 i x) P ↔ SlL (ρ2[i]?) fun ds => ds.length < sizeLine ∧ At (ρ2.set i (.l (ds ++ [x]))) P := P0.ok_appAt
theorem w_app : Wp (mApp i a ρ) QF ↔ SlL (ρ[i]?) fun _ => Wp (a ρ) fun x ρ1 => SlL (ρ1[i]?) fun ds => ds.length < sizeLine ∧ At (ρ1.set i (.l (ds ++ [x]))) fun ρ2 => QF .nx ρ2 := P0.w_app
theorem ok_extAt {es : List D} {P : R → Prop} : Ok (extAt ρ i (.list es)) P ↔ SlL (ρ[i]?) fun ds => ds.length + es.length ≤ sizeLine ∧ At (ρ.set i (.l (ds ++ es))) P := P0.ok_extAt
theorem w_ext : Wp (mExt i a ρ) QF ↔ SlL (ρ[i]?) fun _ => Wp (a ρ) fun x ρ1 => Ok (extAt ρ1 i x) fun ρ2 => QF .nx ρ2 := P0.w_ext
theorem w_newK : Wp (mNewK i ρ) QF ↔ i < ρ.length ∧ At (ρ.set i (.k [])) fun ρ1 => QF .nx ρ1 := P0.w_newK
theorem ok_putAt {ρ2 : R} {k x : D} {P : R → Prop} : Ok (putAt ρ2 i k x) P ↔ SlK (ρ2[i]?) fun kvs => Ok (keyOf k) fun m => kvs.length < sizeLine ∧ At (ρ2.set i (.k (putD kvs m x))) P := P0.ok_putAt
theorem w_putK : Wp (mPutK i a b ρ) QF ↔ Wp (a ρ) fun x ρ1 => SlK (ρ1[i]?) fun _ => Wp (b ρ1) fun k ρ2 => SlK (ρ2[i]?) fun kvs => Ok (keyOf k) fun m => kvs.length < sizeLine ∧ At (ρ2.set i (.k (putD kvs m x))) fun ρ3 => QF .nx ρ3 := P0.w_putK
theorem ok_getAt {k : D} {P : Option D → Prop} : Ok (getAt ρ i k) P ↔ SlK (ρ[i]?) fun kvs => Ok (keyOf k) fun m => P (valD kvs m) := P0.ok_getAt
theorem w_getK : Wp (mGetK i a b ρ) Q ↔ SlK (ρ[i]?) fun _ => Wp (a ρ) fun k ρ1 => Wp (b ρ1) fun x ρ2 => SlK (ρ2[i]?) fun kvs => Ok (keyOf k) fun m => Q ((valD kvs m).getD x) ρ2 := P0.w_getK
theorem w_atK : Wp (mAtK i a ρ) Q ↔ SlK (ρ[i]?) fun _ => Wp (a ρ) fun k ρ1 => SlK (ρ1[i]?) fun kvs => Ok (keyOf k) fun m => Ok (valD kvs m) fun d => Q d ρ1 := P0.w_atK
theorem w_sortK : Wp (mSortK i ρ) QL ↔ SlK (ρ[i]?) fun kvs => Ok (intKeys kvs) fun ns => ns.length < 64 ∧ QL ((sortI ns).map .int) ρ := P0.w_sortK
theorem w_scrL : Wp (mScrL i ρ) QL ↔ SlS (ρ[i]?) fun ns => ns.length ≤ sizeLine ∧ QL (ns.map .int) ρ := P0.w_scrL
theorem w_scrC {l h : R → M (Option Int × R)} : Wp (mScrC i l h ρ) QL ↔ SlS (ρ[i]?) fun ns => Wp (l ρ) fun p ρ1 => Wp (h ρ1) fun q ρ2 => ns.length ≤ sizeLine ∧ QL ((cutL ns p q).map .int) ρ2 := P0.w_scrC
/-! calls -/
theorem w_anil : Wp (aNil ρ) QA ↔ QA [] ρ := P0.w_anil
theorem w_aD {ga : R → M (List A × R)} : Wp (aD a ga ρ) QA ↔ Wp (a ρ) fun x ρ1 => Wp (ga ρ1) fun as ρ2 => QA (.d x :: as) ρ2 := P0.w_aD
abbrev OwnS := P0.OwnS
theorem w_aO {ga : R → M (List A × R)} : Wp (aO j ga ρ) QA ↔ OwnS (ρ[j]?) = true ∧ Wp (ga ρ) fun as ρ2 => QA (.o j :: as) ρ2 := P0.w_aO
theorem w_call {f : FM} {ga : R → M (List A × R)} : Wp (mCall (noX f) [] ga ρ) Q ↔ Wp (ga ρ) fun as ρ1 => (ownJs as).Nodup ∧ At (slotsOf ρ1 as) fun ss => Wp (f ss) fun d ss' => At (putB as ss' ρ1) fun ρ2 => Q d ρ2 := P0.w_call
theorem w_callO {f : FO} {ga : R → M (List A × R)} : Wp (mCallO (noXO f) [] ga ρ) QL ↔ Wp (ga ρ) fun as ρ1 => At (slotsOf ρ1 as) fun ss => (ss.all fun s => !s.own) = true ∧ (ownJs as).Nodup ∧ Wp (f ss) fun d _ => QL d ρ1 := P0.w_callO
/-! statements -/
theorem w_skip : Wp (mSkip ρ) QF ↔ QF .nx ρ := P0.w_skip
theorem w_brk : Wp (mBrk ρ) QF ↔ QF .bk ρ := P0.w_brk
theorem w_cont : Wp (mCont ρ) QF ↔ QF .ct ρ := P0.w_cont
/-- what goes on -/
def Nx (K : R → Prop) (Q : Fl → R → Prop) : Fl → R → Prop
  | .nx, ρ => K ρ
  | fl, ρ => Q fl ρ
theorem nx_nx {K : R → Prop} : Nx K QF .nx ρ ↔ K ρ := Iff.rfl
theorem nx_rt {K : R → Prop} {d : D} : Nx K QF (.rt d) ρ ↔ QF (.rt d) ρ := Iff.rfl
theorem nx_bk {K : R → Prop} : Nx K QF .bk ρ ↔ QF .bk ρ := Iff.rfl
theorem nx_ct {K : R → Prop} : Nx K QF .ct ρ ↔ QF .ct ρ := Iff.rfl
theorem w_then : Wp (mThen s1 s2 ρ) QF ↔ Wp (s1 ρ) (Nx (fun ρ1 => Wp (s2 ρ1) QF) QF) := P0.w_then
theorem w_ret : Wp (mRet a ρ) QF ↔ Wp (a ρ) fun x ρ1 => QF (.rt x) ρ1 := P0.w_ret
theorem w_retN : Wp (mRetN ρ) QF ↔ QF (.rt .none) ρ := P0.w_retN
theorem w_drop : Wp (mDrop a ρ) QF ↔ Wp (a ρ) fun x ρ1 => QF .nx ρ1 := P0.w_drop
theorem w_asg {h : D → R → M R} : Wp (mAsg a h ρ) QF ↔ Wp (a ρ) fun x ρ1 => TgW (h x ρ1) fun ρ2 => QF .nx ρ2 := P0.w_asg
theorem w_own : Wp (mOwn i al ρ) QF ↔ Wp (al ρ) fun xs ρ1 => i < ρ1.length ∧ At (ρ1.set i (.l xs)) fun ρ2 => QF .nx ρ2 := P0.w_own
theorem w_par : Wp (mPar i j a b ρ) QF ↔ Wp (a ρ) fun x ρ1 => Wp (b ρ1) fun y ρ2 => (i < ρ2.length ∧ j < ρ2.length) ∧ At ((ρ2.set i (.d x)).set j (.d y)) fun ρ3 => QF .nx ρ3 := P0.w_par
theorem w_parO : Wp (mParO i j a al ρ) QF ↔ Wp (a ρ) fun x ρ1 => Wp (al ρ1) fun y ρ2 => (i < ρ2.length ∧ j < ρ2.length) ∧ At ((ρ2.set i (.d x)).set j (.l y)) fun ρ3 => QF .nx ρ3 := P0.w_parO
theorem t_set {d : D} {P : R → Prop} : TgW (mSet i d ρ) P ↔ i < ρ.length ∧ At (ρ.set i (.d d)) P := P0.t_set
theorem t_tup {hs : List D → R → M R} {ds : List D} {P : R → Prop} : TgW (gtTup hs (.tuple ds) ρ) P ↔ TgW (hs ds ρ) P := P0.t_tup
theorem t_cons {h : D → R → M R} {hs : List D → R → M R} {d : D} {ds : List D} {P : R → Prop} : TgW (gtCons h hs (d :: ds) ρ) P ↔ TgW (h d ρ) fun ρ1 => TgW (hs ds ρ1) P := P0.t_cons
theorem t_nil {P : R → Prop} : TgW (gtNil [] ρ) P ↔ P ρ := P0.t_nil
/-! loops -/
theorem w_items : Wp (mItems a ρ) QL ↔ Wp (a ρ) fun x ρ1 => Ok (seqItems x) fun z => QL z ρ1 := P0.w_items
theorem w_enum : Wp (mEnum a ρ) QL ↔ Wp (a ρ) fun x ρ1 => Ok (enumD x) fun z => QL z ρ1 := P0.w_enum
theorem w_rng : Wp (mRng al ρ) QL ↔ Wp (al ρ) fun x ρ1 => Ok (rangeD x) fun z => QL z ρ1 := P0.w_rng
theorem w_for {tgt : D → R → M R} : Wp (mFor al tgt s1 ρ) QF ↔ Wp (al ρ) fun ds ρ1 => Wp (forL tgt s1 ds ρ1) QF := P0.w_for
theorem w_lc {vs : List Nat} {tgt : D → R → M R} {tst : R → M (Bool × R)} : Wp (mLc vs al tgt tst a ρ) QL ↔ Wp (al ρ) fun ds ρ1 => (ds.length ≤ sizeLine ∧ noOwn ρ1 vs = true) ∧ At (wipeR ρ1 vs) fun ρ2 => Wp (compL vs tgt tst a ds ρ2) fun es ρ3 => At (backR ρ1 ρ3 vs) fun ρ4 => QL es ρ4 := P0.w_lc
theorem w_for_nil {tgt : D → R → M R} : Wp (forL tgt s1 [] ρ) QF ↔ QF .nx ρ := P0.w_for_nil
/-- behind a turn -/
def Tn (K : R → Prop) (Q : Fl → R → Prop) : Fl → R → Prop
  | .nx, ρ => K ρ
  | .ct, ρ => K ρ
  | .bk, ρ => Q .nx ρ
  | .rt d, ρ => Q (.rt d) ρ
theorem tn_nx {K : R → Prop} : Tn K QF .nx ρ ↔ K ρ := Iff.rfl
theorem tn_ct {K : R → Prop} : Tn K QF .ct ρ ↔ K ρ := Iff.rfl
theorem tn_bk {K : R → Prop} : Tn K QF .bk ρ ↔ QF .nx ρ := Iff.rfl
theorem tn_rt {K : R → Prop} {d : D} : Tn K QF (.rt d) ρ ↔ QF (.rt d) ρ := Iff.rfl
theorem w_for_cons {tgt : D → R → M R} {d : D} {ds : List D} : Wp (forL tgt s1 (d :: ds) ρ) QF ↔ TgW (tgt d ρ) fun ρ1 => Wp (s1 ρ1) (Tn (fun ρ2 => Wp (forL tgt s1 ds ρ2) QF) QF) := P0.w_for_cons
theorem for_inv {tgt : D → R → M R} (I : List D → R → Prop) (hs : ∀ d ds ρ, I (d :: ds) ρ → TgW (tgt d ρ) fun ρ1 => Wp (s1 ρ1) (Tn (fun ρ2 => I ds ρ2) QF)) (he : ∀ ρ, I [] ρ → QF .nx ρ) : ∀ (ds : List D) (ρ : R), I ds ρ → Wp (forL tgt s1 ds ρ) QF
  | [], ρ, h => he ρ h
  | d :: ds, ρ, h => by
    rw [w_for_cons]
    have z := hs d ds ρ h
    unfold TgW P0.TgW at z ⊢
    split
    · rename_i ρ1 e
      rw [e] at z
      refine wp_mono z fun fl ρ2 q => ?_
      cases fl with
      | nx => exact for_inv I hs he ds ρ2 q
      | ct => exact for_inv I hs he ds ρ2 q
      | bk => exact q
      | rt d => exact q
    · rename_i e
      rw [e] at z
      exact z
section
variable {vs : List Nat} {tgt : D → R → M R} {tst : R → M (Bool × R)}
theorem w_comp_nil : Wp (compL vs tgt tst a [] ρ) QL ↔ QL [] ρ := P0.w_comp_nil
theorem w_comp_cons {d : D} {ds : List D} : Wp (compL vs tgt tst a (d :: ds) ρ) QL ↔ TgW (tgt d ρ) fun ρ1 => Wp (tst ρ1) fun k ρ2 => Br k (Wp (a ρ2) fun y ρ3 => At (wipeR ρ3 vs) fun ρ4 => Wp (compL vs tgt tst a ds ρ4) fun ys ρ5 => QL (y :: ys) ρ5) (At (wipeR ρ2 vs) fun ρ4 => Wp (compL vs tgt tst a ds ρ4) QL) := P0.w_comp_cons
theorem comp_inv (I : List D → List D → R → Prop) (hs : ∀ d ds acc ρ, I (d :: ds) acc ρ → TgW (tgt d ρ) fun ρ1 => Wp (tst ρ1) fun k ρ2 => Br k (Wp (a ρ2) fun y ρ3 => At (wipeR ρ3 vs) fun ρ4 => I ds (acc ++ [y]) ρ4) (At (wipeR ρ2 vs) fun ρ4 => I ds acc ρ4)) :
    ∀ (ds acc : List D) (ρ : R) (QL : List D → R → Prop) (he : ∀ ys ρ', I [] (acc ++ ys) ρ' → QL ys ρ'), I ds acc ρ → Wp (compL vs tgt tst a ds ρ) QL
  | [], acc, ρ, QL, he, h => he [] ρ (by rw [List.append_nil]; exact h)
  | d :: ds, acc, ρ, QL, he, h => by
    rw [w_comp_cons]
    have z := hs d ds acc ρ h
    unfold TgW P0.TgW at z ⊢
    split
    · rename_i ρ1 e
      rw [e] at z
      refine wp_mono z fun k ρ2 q => ?_
      cases k with
      | true =>
        rw [br_true] at q ⊢
        refine wp_mono q fun y ρ3 q => ?_
        exact comp_inv I hs ds (acc ++ [y]) _ _ (fun ys ρ' q => he (y :: ys) ρ' (by rw [List.append_assoc] at q; exact q)) q
      | false =>
        rw [br_false] at q ⊢
        exact comp_inv I hs ds acc _ _ he q
    · rename_i e
      rw [e] at z
      exact z
end
def Bd (Q : D → R → Prop) : Fl → R → Prop
  | .rt d, ρ => Q d ρ
  | .nx, ρ => Q .none ρ
  | _, _ => False
theorem bd_rt {d : D} : Bd Q (.rt d) ρ ↔ Q d ρ := Iff.rfl
theorem bd_nx : Bd Q .nx ρ ↔ Q .none ρ := Iff.rfl
theorem w_bodyO {m n : Nat} {g : R → M (List D × R)} : Wp (mBodyO m n g ρ) QL ↔ ρ.length = n ∧ At (ρ ++ List.replicate (m - n) .un) fun ρ1 => Wp (g ρ1) QL := P0.w_bodyO
theorem w_body {m n : Nat} {P : List Nat} {g : SM} : Wp (mBody m n P g ρ) Q ↔ ρ.length = n ∧ At (ρ ++ List.replicate (m - n) .un) fun ρ1 => Wp (g ρ1) fun fl ρ2 => At (outP P n ρ2) fun ρ3 => Bd Q fl ρ3 := P0.w_body
end
end DL

/-! DM2 (printed by mkdm2.py): reckoning with mirrors: data. -/
namespace DL
open PySem PySem.Spec PyProof.Rows L2
def p18 : Int := 10 ^ (18 : Int).toNat
def p12 : Int := 10 ^ (12 : Int).toNat
theorem p12_ok : 0 ≤ p12 ∧ p12 < 2 ^ 64 := by decide +kernel
def p60 : Int := 10 ^ (60 : Int).toNat
def pbig : Int := p60 ^ (64 : Int).toNat
theorem pbig_pos : 0 < pbig := by decide +kernel
section
theorem o_of {α : Type} {o : Option α} {a : α} {P : α → Prop} (h : o = some a) (k : P a) : Ok o P := by rw [h]; exact k
theorem o_iff {α : Type} {o : Option α} {a : α} {P : α → Prop} (h : o = some a) : Ok o P ↔ P a := by rw [h]; exact Iff.rfl
theorem eqC_of {a b : D} (ha : a.plain = true) (hb : b.plain = true) (h : min a.depth b.depth ≤ 150) : eqC a b = true := by
  unfold eqC
  rw [ha, hb]
  simpa using h
theorem eqD_of {a b : D} (h : eqC a b = true) : eqD a b = some (.bool (PyData.eqv a b)) := if_pos h
theorem neD_of {a b : D} (h : eqC a b = true) : neD a b = some (.bool (!PyData.eqv a b)) := if_pos h
theorem eqv_int {i j : Int} : PyData.eqv (.int i) (.int j) = decide (i = j) := by
  unfold PyData.eqv
  first | rfl | simp
theorem eqv_bool {i j : Bool} : PyData.eqv (.bool i) (.bool j) = decide (i = j) := by
  unfold PyData.eqv
  cases i <;> cases j <;> first | rfl | simp
theorem eqI_ {K : D → Prop} {i j : Int} : Ok (eqD (.int i) (.int j)) K ↔ K (.bool (decide (i = j))) := by rw [eqD_of (eqC_of rfl rfl (by simp [PyData.depth])), eqv_int]; exact Iff.rfl
theorem neI_ {K : D → Prop} {i j : Int} : Ok (neD (.int i) (.int j)) K ↔ K (.bool (!decide (i = j))) := by rw [neD_of (eqC_of rfl rfl (by simp [PyData.depth])), eqv_int]; exact Iff.rfl
theorem eqB_ {K : D → Prop} {i j : Bool} : Ok (eqD (.bool i) (.bool j)) K ↔ K (.bool (decide (i = j))) := by rw [eqD_of (eqC_of rfl rfl (by simp [PyData.depth])), eqv_bool]; exact Iff.rfl
theorem neB_ {K : D → Prop} {i j : Bool} : Ok (neD (.bool i) (.bool j)) K ↔ K (.bool (!decide (i = j))) := by rw [neD_of (eqC_of rfl rfl (by simp [PyData.depth])), eqv_bool]; exact Iff.rfl
theorem ixN_nat {k n : Nat} (h : n < k) : ixN k (n : Int) = some n := by
  unfold ixN
  rw [if_pos (by omega), if_pos (by omega)]
  simp
theorem atI_nat {α : Type} {l : List α} {n : Nat} {d : α} (h : l[n]? = some d) : atI l (n : Int) = some d := by
  unfold atI
  rw [ixN_nat (List.getElem?_eq_some_iff.mp h).1]
  exact h
theorem ix_l {K : D → Prop} {l : List D} {n : Nat} {d : D} (h : l[n]? = some d) : Ok (ixD (.list l) (.int n)) K ↔ K d := o_iff (atI_nat h)
theorem ix_t {K : D → Prop} {l : List D} {n : Nat} {d : D} (h : l[n]? = some d) : Ok (ixD (.tuple l) (.int n)) K ↔ K d := o_iff (atI_nat h)
theorem maxl_ {K : D → Prop} {l : List D} : Ok (maxD [.list l]) K ↔ Ok (intsOf l) fun ns => 0 < ns.length ∧ K (.int (maxI ns)) := by
  show Ok ((intsOf l).bind _) K ↔ _
  cases intsOf l with
  | none => exact Iff.rfl
  | some ns => exact ok_ite
theorem sum_ {K : D → Prop} {l : List D} : Ok (sumD [.list l]) K ↔ Ok (intsOf l) fun ns => K (.int ns.sum) := by
  show Ok ((intsOf l).map _) K ↔ _
  cases intsOf l <;> exact Iff.rfl
theorem tI_ {K : Bool → Prop} {i : Int} : Ok (truthD (.int i)) K ↔ K (!decide (i = 0)) := by
  refine o_iff ?_
  show some (i != 0) = _
  by_cases h : i = 0 <;> simp [h]
theorem pw_ {K : D → Prop} {i j r : Int} (h : powB i j = true) (e : r = i ^ j.toNat) : Ok (powD (.int i) (.int j)) K ↔ K (.int r) := by
  subst e
  exact o_iff (if_pos h)
theorem q_lt {K : D → Prop} {i j : Int} : Ok (ltD (.int i) (.int j)) K ↔ K (.bool (decide (i < j))) := Iff.rfl
theorem q_le {K : D → Prop} {i j : Int} : Ok (leD (.int i) (.int j)) K ↔ K (.bool (decide (i ≤ j))) := Iff.rfl
theorem q_gt {K : D → Prop} {i j : Int} : Ok (gtD (.int i) (.int j)) K ↔ K (.bool (decide (j < i))) := Iff.rfl
theorem q_ge {K : D → Prop} {i j : Int} : Ok (geD (.int i) (.int j)) K ↔ K (.bool (decide (j ≤ i))) := Iff.rfl
theorem q_sub {K : D → Prop} {i j : Int} : Ok (subD (.int i) (.int j)) K ↔ K (.int (i - j)) := Iff.rfl
theorem q_addI {K : D → Prop} {i j : Int} : Ok (addD (.int i) (.int j)) K ↔ K (.int (i + j)) := Iff.rfl
theorem q_mul {K : D → Prop} {i j : Int} : Ok (mulD (.int i) (.int j)) K ↔ mulB i j = true ∧ K (.int (i * j)) := ok_ite
theorem q_fdiv {K : D → Prop} {i j : Int} : Ok (fdivD (.int i) (.int j)) K ↔ fdivB i j = true ∧ K (.int (i / j)) := ok_ite
theorem q_mod {K : D → Prop} {i j : Int} : Ok (modD (.int i) (.int j)) K ↔ modB i j = true ∧ K (.int (i % j)) := ok_ite
theorem q_addT {K : D → Prop} {a b : List D} : Ok (addD (.tuple a) (.tuple b)) K ↔ a.length + b.length ≤ sizeLine ∧ K (.tuple (a ++ b)) := ok_ite
theorem q_addL {K : D → Prop} {a b : List D} : Ok (addD (.list a) (.list b)) K ↔ a.length + b.length ≤ sizeLine ∧ K (.list (a ++ b)) := ok_ite
theorem q_addS {K : D → Prop} {a b : Str} : Ok (addD (.str a) (.str b)) K ↔ a.length + b.length ≤ sizeLine ∧ K (.str (a ++ b)) := ok_ite
theorem q_eqI {K : D → Prop} {i j : Int} : Ok (eqD (.int i) (.int j)) K ↔ K (.bool (decide (i = j))) := eqI_
theorem q_neI {K : D → Prop} {i j : Int} : Ok (neD (.int i) (.int j)) K ↔ K (.bool (!decide (i = j))) := neI_
theorem q_eqB {K : D → Prop} {i j : Bool} : Ok (eqD (.bool i) (.bool j)) K ↔ K (.bool (decide (i = j))) := eqB_
theorem q_neB {K : D → Prop} {i j : Bool} : Ok (neD (.bool i) (.bool j)) K ↔ K (.bool (!decide (i = j))) := neB_
theorem q_ixl0 {K : D → Prop} {x0 : D} {l : List D} : Ok (ixD (.list (x0 :: l)) (.int 0)) K ↔ K x0 := ix_l (n := 0) rfl
theorem q_ixl1 {K : D → Prop} {x0 x1 : D} {l : List D} : Ok (ixD (.list (x0 :: x1 :: l)) (.int 1)) K ↔ K x1 := ix_l (n := 1) rfl
theorem q_ixl2 {K : D → Prop} {x0 x1 x2 : D} {l : List D} : Ok (ixD (.list (x0 :: x1 :: x2 :: l)) (.int 2)) K ↔ K x2 := ix_l (n := 2) rfl
theorem q_ixl3 {K : D → Prop} {x0 x1 x2 x3 : D} {l : List D} : Ok (ixD (.list (x0 :: x1 :: x2 :: x3 :: l)) (.int 3)) K ↔ K x3 := ix_l (n := 3) rfl
theorem q_ixl4 {K : D → Prop} {x0 x1 x2 x3 x4 : D} {l : List D} : Ok (ixD (.list (x0 :: x1 :: x2 :: x3 :: x4 :: l)) (.int 4)) K ↔ K x4 := ix_l (n := 4) rfl
theorem q_ixl5 {K : D → Prop} {x0 x1 x2 x3 x4 x5 : D} {l : List D} : Ok (ixD (.list (x0 :: x1 :: x2 :: x3 :: x4 :: x5 :: l)) (.int 5)) K ↔ K x5 := ix_l (n := 5) rfl
theorem q_ixl6 {K : D → Prop} {x0 x1 x2 x3 x4 x5 x6 : D} {l : List D} : Ok (ixD (.list (x0 :: x1 :: x2 :: x3 :: x4 :: x5 :: x6 :: l)) (.int 6)) K ↔ K x6 := ix_l (n := 6) rfl
theorem q_ixl7 {K : D → Prop} {x0 x1 x2 x3 x4 x5 x6 x7 : D} {l : List D} : Ok (ixD (.list (x0 :: x1 :: x2 :: x3 :: x4 :: x5 :: x6 :: x7 :: l)) (.int 7)) K ↔ K x7 := ix_l (n := 7) rfl
theorem q_lenl {K : D → Prop} {l : List D} : Ok (lenD [.list l]) K ↔ K (.int l.length) := Iff.rfl
theorem q_tupl {K : D → Prop} {l : List D} : Ok (tupleD [.list l]) K ↔ K (.tuple l) := Iff.rfl
theorem q_itl {K : List D → Prop} {l : List D} : Ok (itemsD [.list l]) K ↔ K l := Iff.rfl
theorem q_sql {K : List D → Prop} {l : List D} : Ok (seqItems (.list l)) K ↔ K l := Iff.rfl
theorem q_tl {K : Bool → Prop} {l : List D} : Ok (truthD (.list l)) K ↔ K (!l.isEmpty) := Iff.rfl
theorem q_isNl {K : D → Prop} {l : List D} : Ok (isNoneD (.list l) .none) K ↔ K (.bool false) := Iff.rfl
theorem q_noNl {K : D → Prop} {l : List D} : Ok (notNoneD (.list l) .none) K ↔ K (.bool true) := Iff.rfl
theorem q_cutl {K : D → Prop} {l : List D} {a b : Option Int} : Ok (cutD (.list l) a b) K ↔ K (.list (cutL l a b)) := Iff.rfl
theorem q_ixt0 {K : D → Prop} {x0 : D} {l : List D} : Ok (ixD (.tuple (x0 :: l)) (.int 0)) K ↔ K x0 := ix_t (n := 0) rfl
theorem q_ixt1 {K : D → Prop} {x0 x1 : D} {l : List D} : Ok (ixD (.tuple (x0 :: x1 :: l)) (.int 1)) K ↔ K x1 := ix_t (n := 1) rfl
theorem q_ixt2 {K : D → Prop} {x0 x1 x2 : D} {l : List D} : Ok (ixD (.tuple (x0 :: x1 :: x2 :: l)) (.int 2)) K ↔ K x2 := ix_t (n := 2) rfl
theorem q_ixt3 {K : D → Prop} {x0 x1 x2 x3 : D} {l : List D} : Ok (ixD (.tuple (x0 :: x1 :: x2 :: x3 :: l)) (.int 3)) K ↔ K x3 := ix_t (n := 3) rfl
theorem q_ixt4 {K : D → Prop} {x0 x1 x2 x3 x4 : D} {l : List D} : Ok (ixD (.tuple (x0 :: x1 :: x2 :: x3 :: x4 :: l)) (.int 4)) K ↔ K x4 := ix_t (n := 4) rfl
theorem q_ixt5 {K : D → Prop} {x0 x1 x2 x3 x4 x5 : D} {l : List D} : Ok (ixD (.tuple (x0 :: x1 :: x2 :: x3 :: x4 :: x5 :: l)) (.int 5)) K ↔ K x5 := ix_t (n := 5) rfl
theorem q_ixt6 {K : D → Prop} {x0 x1 x2 x3 x4 x5 x6 : D} {l : List D} : Ok (ixD (.tuple (x0 :: x1 :: x2 :: x3 :: x4 :: x5 :: x6 :: l)) (.int 6)) K ↔ K x6 := ix_t (n := 6) rfl
theorem q_ixt7 {K : D → Prop} {x0 x1 x2 x3 x4 x5 x6 x7 : D} {l : List D} : Ok (ixD (.tuple (x0 :: x1 :: x2 :: x3 :: x4 :: x5 :: x6 :: x7 :: l)) (.int 7)) K ↔ K x7 := ix_t (n := 7) rfl
theorem q_lent {K : D → Prop} {l : List D} : Ok (lenD [.tuple l]) K ↔ K (.int l.length) := Iff.rfl
theorem q_tupt {K : D → Prop} {l : List D} : Ok (tupleD [.tuple l]) K ↔ K (.tuple l) := Iff.rfl
theorem q_itt {K : List D → Prop} {l : List D} : Ok (itemsD [.tuple l]) K ↔ K l := Iff.rfl
theorem q_sqt {K : List D → Prop} {l : List D} : Ok (seqItems (.tuple l)) K ↔ K l := Iff.rfl
theorem q_tt {K : Bool → Prop} {l : List D} : Ok (truthD (.tuple l)) K ↔ K (!l.isEmpty) := Iff.rfl
theorem q_isNt {K : D → Prop} {l : List D} : Ok (isNoneD (.tuple l) .none) K ↔ K (.bool false) := Iff.rfl
theorem q_noNt {K : D → Prop} {l : List D} : Ok (notNoneD (.tuple l) .none) K ↔ K (.bool true) := Iff.rfl
theorem q_cutt {K : D → Prop} {l : List D} {a b : Option Int} : Ok (cutD (.tuple l) a b) K ↔ K (.tuple (cutL l a b)) := Iff.rfl
theorem q_isN {K : D → Prop} : Ok (isNoneD .none .none) K ↔ K (.bool true) := Iff.rfl
theorem q_noN {K : D → Prop} : Ok (notNoneD .none .none) K ↔ K (.bool false) := Iff.rfl
theorem q_max2 {K : D → Prop} {i j : Int} : Ok (maxD [.int i, .int j]) K ↔ K (.int (max i j)) := Iff.rfl
theorem q_min2 {K : D → Prop} {i j : Int} : Ok (minD [.int i, .int j]) K ↔ K (.int (min i j)) := Iff.rfl
theorem q_maxl {K : D → Prop} {l : List D} : Ok (maxD [.list l]) K ↔ Ok (intsOf l) fun ns => 0 < ns.length ∧ K (.int (maxI ns)) := maxl_
theorem q_sum {K : D → Prop} {l : List D} : Ok (sumD [.list l]) K ↔ Ok (intsOf l) fun ns => K (.int ns.sum) := sum_
theorem q_abs {K : D → Prop} {i : Int} : Ok (absD [.int i]) K ↔ K (.int (if i < 0 then -i else i)) := Iff.rfl
theorem q_int {K : D → Prop} {i : Int} : Ok (int1D [.int i]) K ↔ K (.int i) := Iff.rfl
theorem q_tB {K : Bool → Prop} {b : Bool} : Ok (truthD (.bool b)) K ↔ K b := Iff.rfl
theorem q_tI {K : Bool → Prop} {i : Int} : Ok (truthD (.int i)) K ↔ K (!decide (i = 0)) := tI_
theorem q_bB {K : Bool → Prop} {b : Bool} : Ok (boolD (.bool b)) K ↔ K b := Iff.rfl
theorem q_iI {K : Int → Prop} {i : Int} : Ok (intD (.int i)) K ↔ K i := Iff.rfl
theorem q_en {K : List D → Prop} {l : List D} : Ok (enumD (.list l)) K ↔ K (enumFrom 0 l) := Iff.rfl
theorem q_rv {K : List D → Prop} {l : List D} : Ok (revO (.list l)) K ↔ K l.reverse := Iff.rfl
theorem q_kI {K : Key → Prop} {i : Int} : Ok (keyOf (.int i)) K ↔ K (.inl i) := Iff.rfl
theorem q_kS {K : Key → Prop} {i : Str} : Ok (keyOf (.str i)) K ↔ K (.inr i) := Iff.rfl
theorem q_r2 {K : List D → Prop} : Ok (rangeD [.int 2]) K ↔ K [.int 0, .int 1] := Iff.rfl
theorem q_r3 {K : List D → Prop} : Ok (rangeD [.int 3]) K ↔ K [.int 0, .int 1, .int 2] := Iff.rfl
theorem q_r8 {K : List D → Prop} : Ok (rangeD [.int 8]) K ↔ K [.int 0, .int 1, .int 2, .int 3, .int 4, .int 5, .int 6, .int 7] := Iff.rfl
theorem q_r12 {K : List D → Prop} : Ok (rangeD [.int 12]) K ↔ K [.int 0, .int 1, .int 2, .int 3, .int 4, .int 5, .int 6, .int 7, .int 8, .int 9, .int 10, .int 11] := Iff.rfl
theorem q_x70 {K : Nat → Prop} : Ok (ixN 7 0) K ↔ K 0 := Iff.rfl
theorem q_x71 {K : Nat → Prop} : Ok (ixN 7 1) K ↔ K 1 := Iff.rfl
theorem q_x72 {K : Nat → Prop} : Ok (ixN 7 2) K ↔ K 2 := Iff.rfl
theorem q_x73 {K : Nat → Prop} : Ok (ixN 7 3) K ↔ K 3 := Iff.rfl
theorem q_x74 {K : Nat → Prop} : Ok (ixN 7 4) K ↔ K 4 := Iff.rfl
theorem q_x75 {K : Nat → Prop} : Ok (ixN 7 5) K ↔ K 5 := Iff.rfl
theorem q_x76 {K : Nat → Prop} : Ok (ixN 7 6) K ↔ K 6 := Iff.rfl
theorem q_x30 {K : Nat → Prop} : Ok (ixN 3 0) K ↔ K 0 := Iff.rfl
theorem q_x31 {K : Nat → Prop} : Ok (ixN 3 1) K ↔ K 1 := Iff.rfl
theorem q_x32 {K : Nat → Prop} : Ok (ixN 3 2) K ↔ K 2 := Iff.rfl
theorem q_p18 {K : D → Prop} : Ok (powD (.int 10) (.int 18)) K ↔ K (.int p18) := pw_ (by decide +kernel) rfl
theorem q_p12 {K : D → Prop} : Ok (powD (.int 10) (.int 12)) K ↔ K (.int p12) := pw_ (by decide +kernel) rfl
theorem q_p60 {K : D → Prop} : Ok (powD (.int 10) (.int 60)) K ↔ K (.int p60) := pw_ (by decide +kernel) rfl
theorem q_pbig {K : D → Prop} : Ok (powD (.int p60) (.int 64)) K ↔ K (.int pbig) := pw_ (by decide +kernel) rfl
theorem q_vd {x : D} {K : D → Prop} : SlD (some (.d x)) K ↔ K x := Iff.rfl
theorem q_vl {x : List D} {K : List D → Prop} : SlL (some (.l x)) K ↔ K x := Iff.rfl
theorem q_vk {x : List (Key × D)} {K : List (Key × D) → Prop} : SlK (some (.k x)) K ↔ K x := Iff.rfl
theorem q_vs {x : List Int} {K : List Int → Prop} : SlS (some (.s x)) K ↔ K x := Iff.rfl
theorem q_mulB {i j : Int} : (mulB i j = true) ↔ ((-(2 ^ 64) < i ∧ i < 2 ^ 64) ∨ (-(2 ^ 64) < j ∧ j < 2 ^ 64)) := decide_eq_true_iff
theorem q_fdivB {i j : Int} : (fdivB i j = true) ↔ (0 < j ∧ j < 2 ^ 64) := decide_eq_true_iff
theorem q_modB {i j : Int} : (modB i j = true) ↔ 0 < j := decide_eq_true_iff
theorem q_ls {n : Nat} (h : n ≤ 1000) : (n ≤ sizeLine) ↔ True := iff_true_intro (Nat.le_trans h (by decide))
theorem q_lt_s {n : Nat} (h : n < 1000) : (n < sizeLine) ↔ True := iff_true_intro (Nat.lt_of_lt_of_le h (by decide))
theorem z_sl0 (ρ : R) : slotsOf ρ [] = [] := rfl
theorem z_sl1 (ρ : R) (x : D) (as : List A) : slotsOf ρ (.d x :: as) = .d x :: slotsOf ρ as := rfl
theorem z_sl2 (ρ : R) (j : Nat) (as : List A) : slotsOf ρ (.o j :: as) = ρ.getD j .un :: slotsOf ρ as := rfl
theorem z_oj0 : ownJs [] = [] := rfl
theorem z_oj1 (x : D) (as : List A) : ownJs (.d x :: as) = ownJs as := rfl
theorem z_oj2 (j : Nat) (as : List A) : ownJs (.o j :: as) = j :: ownJs as := rfl
theorem z_out1 (P : List Nat) (ρ : R) : outP P 1 ρ = [if 0 ∈ P then ρ.getD 0 .un else .un] := rfl
theorem z_out2 (P : List Nat) (ρ : R) : outP P 2 ρ = [if 0 ∈ P then ρ.getD 0 .un else .un, if 1 ∈ P then ρ.getD 1 .un else .un] := rfl
theorem z_out3 (P : List Nat) (ρ : R) : outP P 3 ρ = [if 0 ∈ P then ρ.getD 0 .un else .un, if 1 ∈ P then ρ.getD 1 .un else .un, if 2 ∈ P then ρ.getD 2 .un else .un] := rfl
theorem z_out4 (P : List Nat) (ρ : R) : outP P 4 ρ = [if 0 ∈ P then ρ.getD 0 .un else .un, if 1 ∈ P then ρ.getD 1 .un else .un, if 2 ∈ P then ρ.getD 2 .un else .un, if 3 ∈ P then ρ.getD 3 .un else .un] := rfl
theorem z_out5 (P : List Nat) (ρ : R) : outP P 5 ρ = [if 0 ∈ P then ρ.getD 0 .un else .un, if 1 ∈ P then ρ.getD 1 .un else .un, if 2 ∈ P then ρ.getD 2 .un else .un, if 3 ∈ P then ρ.getD 3 .un else .un, if 4 ∈ P then ρ.getD 4 .un else .un] := rfl
theorem z_out6 (P : List Nat) (ρ : R) : outP P 6 ρ = [if 0 ∈ P then ρ.getD 0 .un else .un, if 1 ∈ P then ρ.getD 1 .un else .un, if 2 ∈ P then ρ.getD 2 .un else .un, if 3 ∈ P then ρ.getD 3 .un else .un, if 4 ∈ P then ρ.getD 4 .un else .un, if 5 ∈ P then ρ.getD 5 .un else .un] := rfl
theorem z_no0 (ρ : R) : noOwn ρ [] = true := rfl
theorem z_no1 (ρ : R) (v : Nat) (vs : List Nat) : noOwn ρ (v :: vs) = (!((ρ.getD v .un).own) && noOwn ρ vs) := rfl
theorem z_os1 (x : List D) : OwnS (some (.l x)) = true := rfl
theorem z_os2 (x : List (Key × D)) : OwnS (some (.k x)) = true := rfl
theorem z_os3 (x : List Int) : OwnS (some (.s x)) = true := rfl
theorem z_is_tuple_int (i : Int) : isaD "tuple" (.int i) = false := rfl
theorem z_is_tuple_bool (i : Bool) : isaD "tuple" (.bool i) = false := rfl
theorem z_is_tuple_tuple (i : List D) : isaD "tuple" (.tuple i) = true := rfl
theorem z_is_tuple_list (i : List D) : isaD "tuple" (.list i) = false := rfl
theorem z_is_tuple_str (i : Str) : isaD "tuple" (.str i) = false := rfl
theorem z_is_tuple_none : isaD "tuple" .none = false := by decide +kernel
theorem z_is_bool_int (i : Int) : isaD "bool" (.int i) = false := rfl
theorem z_is_bool_bool (i : Bool) : isaD "bool" (.bool i) = true := rfl
theorem z_is_bool_tuple (i : List D) : isaD "bool" (.tuple i) = false := rfl
theorem z_is_bool_list (i : List D) : isaD "bool" (.list i) = false := rfl
theorem z_is_bool_str (i : Str) : isaD "bool" (.str i) = false := rfl
theorem z_is_bool_none : isaD "bool" .none = false := by decide +kernel
theorem z_is_int_int (i : Int) : isaD "int" (.int i) = true := rfl
theorem z_is_int_bool (i : Bool) : isaD "int" (.bool i) = true := rfl
theorem z_is_int_tuple (i : List D) : isaD "int" (.tuple i) = false := rfl
theorem z_is_int_list (i : List D) : isaD "int" (.list i) = false := rfl
theorem z_is_int_str (i : Str) : isaD "int" (.str i) = false := rfl
theorem z_is_int_none : isaD "int" .none = false := by decide +kernel
theorem z_is_str_int (i : Int) : isaD "str" (.int i) = false := rfl
theorem z_is_str_bool (i : Bool) : isaD "str" (.bool i) = false := rfl
theorem z_is_str_tuple (i : List D) : isaD "str" (.tuple i) = false := rfl
theorem z_is_str_list (i : List D) : isaD "str" (.list i) = false := rfl
theorem z_is_str_str (i : Str) : isaD "str" (.str i) = true := rfl
theorem z_is_str_none : isaD "str" .none = false := by decide +kernel
theorem z_is_list_int (i : Int) : isaD "list" (.int i) = false := rfl
theorem z_is_list_bool (i : Bool) : isaD "list" (.bool i) = false := rfl
theorem z_is_list_tuple (i : List D) : isaD "list" (.tuple i) = false := rfl
theorem z_is_list_list (i : List D) : isaD "list" (.list i) = true := rfl
theorem z_is_list_str (i : Str) : isaD "list" (.str i) = false := rfl
theorem z_is_list_none : isaD "list" .none = false := by decide +kernel
theorem z_rep1 : List.replicate 1 Sl.un = [.un] := rfl
theorem z_rep2 : List.replicate 2 Sl.un = [.un, .un] := rfl
theorem z_rep3 : List.replicate 3 Sl.un = [.un, .un, .un] := rfl
theorem z_rep4 : List.replicate 4 Sl.un = [.un, .un, .un, .un] := rfl
theorem z_rep5 : List.replicate 5 Sl.un = [.un, .un, .un, .un, .un] := rfl
theorem z_rep6 : List.replicate 6 Sl.un = [.un, .un, .un, .un, .un, .un] := rfl
theorem z_rep7 : List.replicate 7 Sl.un = [.un, .un, .un, .un, .un, .un, .un] := rfl
theorem z_rep8 : List.replicate 8 Sl.un = [.un, .un, .un, .un, .un, .un, .un, .un] := rfl
theorem z_rep9 : List.replicate 9 Sl.un = [.un, .un, .un, .un, .un, .un, .un, .un, .un] := rfl
theorem z_rep10 : List.replicate 10 Sl.un = [.un, .un, .un, .un, .un, .un, .un, .un, .un, .un] := rfl
theorem z_rep11 : List.replicate 11 Sl.un = [.un, .un, .un, .un, .un, .un, .un, .un, .un, .un, .un] := rfl
theorem and_k {p q : Prop} (k : q) (h : p) : p ∧ q := ⟨h, k⟩
end
end DL

/-! DK1: tuple(dict), a tuple turned round, list.extend of a tuple. -/
namespace L2
open PySem PySem.Spec PyProof.Rows
section
variable {prog : Program} {w : World} {A : Around} {E : Value → Shared → Prop} {s : Shared} {T : String} {r d : Addr} {n : Nat} {P : Nat → Value → Prop} {OK : Heap → Prop}
theorem dk_collect {Q : List Value → Shared → Prop} (S : PySem.W.KdlSrc prog w T r d n P OK) (hh : A.handled = none) (hok : OK s.heap) (hn : n ≤ sizeLine)
    (hQ : ∀ (h' : Heap) (tk : Nat) (acc : Array Value), (∀ b o, s.heap.get? b = some o → h'.get? b = some o) → ItemsOf P acc n → Q acc.toList { s with heap := h', toks := tk }) :
    wpAny (model prog w) A (collect (.ref r)) Q E s := by
  unfold collect
  refine wpAny_bind (wpAny_runValue (codeAny_builtin F.entry_proto_collect ?_))
  rw [Around.under_plainId F.plain_proto_collect _]
  show wpAny _ A.in1 (newList [] >>= fun l => again (.builtin "list.__iadd__" ⟨[l, .ref r], []⟩)) _ _ s
  refine wpAny_bind (wpAny_newObj_type ?_)
  refine wpAny_pure ⟨plainId_quiet F.plain_list_iadd _, codeAny_builtin F.entry_list_iadd ?_⟩
  rw [Around.under_plainId F.plain_list_iadd _]
  show wpAny _ A.in1 (Builtin.List.listExtendWith (.ref s.heap.objs.size) (.ref r) (.ref s.heap.objs.size)) _ _ _
  have hS : (s.heap.push { cls := .type "list", data := .seq ([] : List Value).toArray }).get? s.heap.objs.size = some { cls := .type "list", data := .seq #[] 0 } := Heap.get?_push_size _ rfl
  obtain ⟨lr, ld⟩ := S.there _ hok
  refine wpAny_mono (PySem.W.kdl_extend (A := A) (R := fun rr s' => rr = .ok (.ret (.ref s.heap.objs.size)) ∧ ∃ (h' : Heap) (tk : Nat) (acc : Array Value) (c' : Nat), s' = { s with heap := h', toks := tk } ∧
      (∀ b o, s.heap.get? b = some o → h'.get? b = some o) ∧ h'.get? s.heap.objs.size = some { cls := .type "list", dict := none, data := .seq acc c', slots := #[] } ∧ ItemsOf P acc n)
    (s := { s with heap := s.heap.push { cls := .type "list", data := .seq ([] : List Value).toArray } }) S hh (S.keep _ _ hok fun b _ o e => Heap.get?_push_of_some _ e) s.heap.objs.size (fun e => Nat.lt_irrefl _ (e ▸ lr)) (fun e => Nat.lt_irrefl _ (e ▸ ld)) _ 0 hS
    (fun h' tk acc c' hk e hi => ⟨rfl, h', tk, acc, c', rfl, fun b o q => hk b o (Nat.ne_of_lt (Heap.lt_size q)) (Heap.get?_push_of_some _ q), e, hi⟩) hn) (fun fin s' h => ?_) (fun e s' h => ?_)
  · cases fin with
    | done f =>
      obtain ⟨e, h', tk, acc, c', rfl, hk, hS', hi⟩ := h
      cases e
      show wpAny _ A (load s.heap.objs.size >>= _) _ _ _
      exact wpAny_bind (wpAny_load hS' (wpAny_pure (hQ h' tk acc hk hi)))
    | again c' =>
      refine ⟨h.1, codeAny_mono h.2 fun rr s'' hr' => ?_⟩
      obtain ⟨rfl, h', tk, acc, c', rfl, hk, hS', hi⟩ := hr'
      show wpAny _ A (load s.heap.objs.size >>= _) _ _ _
      exact wpAny_bind (wpAny_load hS' (wpAny_pure (hQ h' tk acc hk hi)))
  · exact absurd h.1 (by simp)
theorem dk_tuple_code {Q₁ : Value → Shared → Prop} (S : PySem.W.KdlSrc prog w "dict" r d n P OK) (hh : A.handled = none) (hok : OK s.heap) (hn : n ≤ sizeLine)
    (h : ∀ (h' : Heap) (tk : Nat) (acc : Array Value), (∀ b o, s.heap.get? b = some o → h'.get? b = some o) → ItemsOf P acc n →
      Q₁ (.ref h'.objs.size) { s with heap := h'.push { cls := .type "tuple", data := .seq acc }, toks := tk }) :
    codeAny (model prog w) A (.call (.builtin "tuple.__new__") ⟨[.type "tuple", .ref r], []⟩) (wants Q₁ E) s := by
  refine codeAny_of_tree ?_
  show wpAny _ A.in1 (do checkBuiltinCall "tuple.__new__" ⟨[.type "tuple", .ref r], []⟩; again (.builtin "tuple.__new__" ⟨[.type "tuple", .ref r], []⟩)) _ _ s
  refine wpAny_bind (wpAny_of_eq (F.newCall_tuple_1 _) (wpAny_pure ⟨plainId_quiet F.plain_tuple_new _, codeAny_builtin F.entry_tuple_new ?_⟩))
  rw [Around.under_plainId F.plain_tuple_new _]
  have hsub := sub_tuple_self
  have hinit := init_tuple_lookup
  have hmh := madeHere_tuple
  have hTI : s.TypeIs (.ref r) "dict" := S.type s hok
  have hh1 : A.in1.handled = none := hh
  wp_walk using wpAny_typeOf hTI, dk_collect (A := A.in1) S hh1 hok hn
  intro h' tk acc hk hacc
  show wpAny _ _ (Builtin.Tuple.tupleExact acc.toList.toArray >>= fun v => ret v) _ _ _
  unfold Builtin.Tuple.tupleExact
  refine wpAny_bind (wpAny_newObj_type ?_ (by show acc.toList.toArray.size ≤ sizeLine; simp only [Array.toArray_toList]; rw [hacc.1]; exact hn))
  refine wpAny_pure ?_
  have e : acc.toList.toArray = acc := by simp
  rw [e]
  exact h h' tk acc hk hacc
theorem dk_tuple {Q : Value → Shared → Prop} (S : PySem.W.KdlSrc prog w "dict" r d n P OK) (hh : A.handled = none) (hok : OK s.heap) (hn : n ≤ sizeLine)
    (hQ : ∀ (h' : Heap) (tk : Nat) (acc : Array Value), (∀ b o, s.heap.get? b = some o → h'.get? b = some o) → ItemsOf P acc n →
      Q (.ref h'.objs.size) { s with heap := h'.push { cls := .type "tuple", data := .seq acc }, toks := tk }) :
    wpAny (model prog w) A (call (.type "tuple") [.ref r]) Q E s := by
  refine callType_codes (Q₁ := fun obj s₁ => s₁.TypeIs obj "tuple" ∧ Q obj s₁) F.called_tuple (F.typeCall_tuple_1 _) F.entry_object_init
    (dk_tuple_code (A := A.in1) S hh hok hn fun h' tk acc hk hacc => ⟨⟨_, Heap.get?_push_size _ rfl, rfl⟩, hQ h' tk acc hk hacc⟩) fun obj s₁ h₁ => ?_
  exact ⟨h₁.1, F.args_object_init_2 obj _, object_init_meets F.called_tuple.init.lookup F.called_tuple.made (by decide) prog w A.in1 _ s₁ ⟨h₁.1, rfl, h₁.2⟩⟩
end
/-- tuple(d) -/
def rTupleD : List V → Hp → VK → Prop := fun xs H Q => ∃ p kvs, xs = [.ref p] ∧ H p = some (.dK kvs) ∧ ∀ q, H q = none → Q (.ref q) (upd H q (.tup (kvs.map fun kv => kV kv.1)))
theorem call_tuple_dK {X : Cx} (hc : X.calm = true) : CallR X (.type "tuple") rTupleD := by
  intro pins s σ H xs us Q I r h
  obtain ⟨p, kvs, e, hk, q⟩ := h
  subst e
  obtain ⟨u, eu, rx⟩ := vals1 r
  subst eu
  obtain rfl : u = Value.ref p := rx
  obtain ⟨z, lo, vs, rk, hd⟩ := (show ObjOk X.prog X.w H s.heap p (.dK kvs) from I.hok p _ hk)
  obtain ⟨ep, hat⟩ := hd.dictAt
  have hl : kvs.length = vs.length := Paired.length rk
  refine dk_tuple (PySem.W.kdl_dict (knd := mixKind X.prog X.w) (kvs := vs) (ep := ep) lo) (I.ok.hd hc) hat (by rw [← hl]; exact z) fun h' tk acc' hkeep hacc => ?_
  have I2 : Inv X pins σ H { s with heap := h', toks := tk } := I.kept hkeep
  refine ⟨.ref h'.objs.size, upd H h'.objs.size (.tup (kvs.map fun kv => kV kv.1)), I2.laid (t' := tk) (fun c o e => Heap.get?_push_of_some _ e) (Nat.le_refl _) (show ObjOk X.prog X.w _ _ _ (.tup (kvs.map fun kv => kV kv.1)) from ⟨?_, acc'.toList, ?_, ?_⟩), rfl, q _ (I2.hok.fresh (Nat.le_refl _))⟩
  · rw [List.length_map]; exact z
  · have el : acc'.toList.length = acc'.size := by simp
    refine vals_of_at (by rw [List.length_map, el, hacc.1, hl]) fun j x w h1 h2 => ?_
    obtain ⟨k, y, hky, hi⟩ := hacc.2 j w (by rw [← Array.getElem?_toList]; exact h2)
    have e1 : (kvs.map (·.1))[j]? = some k := by
      rw [KV.keys rk, List.getElem?_map, hky] <;> rfl
    have e2 : (kvs.map fun kv => kV kv.1)[j]? = some (kV k) := by
      have e3 : (kvs.map fun kv => kV kv.1) = (kvs.map (·.1)).map kV := by rw [List.map_map] <;> rfl
      rw [e3, List.getElem?_map, e1] <;> rfl
    rw [e2] at h1
    cases h1
    exact keyIs_rel hi
  · rw [Array.toArray_toList]; exact IsTup.new _ _
end L2

/-! DK2: a tuple turned round, list.extend of a tuple. -/
namespace L2
open PySem PySem.Spec PyProof.Rows
section
variable {prog : Program} {w : World} {A : Around} {E : Value → Shared → Prop} {s : Shared}
theorem dk_sliceRev {sl : Addr} {vl vu vs : Value} {n : Nat} {Q : Int × Int × Nat → Shared → Prop} (hs : s.heap.IsSliceOf sl vl vu vs) (pl : IsPart vl none) (pu : IsPart vu none) (ps : IsPart vs (some (-1)))
    (h : Q ((n : Int) - 1, -1, n) s) : wpAny (model prog w) A (Builtin.Slice.sliceApplied (.ref sl) (pure (n : Int))) Q E s := by
  obtain ⟨os, hos, hcs, hds⟩ := id hs
  unfold Builtin.Slice.sliceApplied Builtin.Slice.sliceFields
  refine wpAny_bind (wpAny_bind (wpAny_field hos hds (x := vl) rfl (wpAny_bind (wpAny_field hos hds (x := vu) rfl (wpAny_bind (wpAny_field hos hds (x := vs) rfl (wpAny_pure ?_)))))))
  refine wpAny_bind (HT.slicePart_ ps ?_)
  show wpAny _ _ (if ((-1 : Int) == 0) = true then _ else _) _ _ s
  rw [if_neg (by decide)]
  refine wpAny_bind (HT.slicePart_ pl (wpAny_bind (HT.slicePart_ pu (wpAny_bind (wpAny_pure ?_)))))
  show wpAny _ _ (match Builtin.Slice.sliceAdjust none none (-1) (n : Int) with | (lo, hi) => pure (lo, (-1 : Int), Builtin.Slice.slicePlaces lo hi (-1))) _ _ s
  have e : Builtin.Slice.sliceAdjust none none (-1) (n : Int) = ((n : Int) - 1, -1) := rfl
  rw [e]
  show wpAny _ _ (pure ((n : Int) - 1, (-1 : Int), Builtin.Slice.slicePlaces ((n : Int) - 1) (-1) (-1))) _ _ s
  have e2 : Builtin.Slice.slicePlaces ((n : Int) - 1) (-1) (-1) = n := by
    unfold Builtin.Slice.slicePlaces
    have h1 : ¬ ((-1 : Int) > 0) := by omega
    simp only [h1, if_false]
    split
    · have : (- -1 : Int) = 1 := rfl
      rw [this, Int.ediv_one]
      omega
    · omega
  rw [e2]
  exact wpAny_pure h
theorem dk_fmc {α β : Type} {f g : α → Option β} : ∀ {l : List α} (h : ∀ a ∈ l, f a = g a), l.filterMap f = l.filterMap g
  | [], _ => rfl
  | a :: l, h => by
    rw [List.filterMap_cons, List.filterMap_cons, h a List.mem_cons_self, dk_fmc fun b hb => h b (List.mem_cons_of_mem _ hb)]
theorem dk_pick (xs : Array Value) : ((List.range xs.size).filterMap fun (m : Nat) => xs[((xs.size : Int) - 1 + (m : Int) * -1).toNat]?).toArray = xs.toList.reverse.toArray := by
  congr 1
  have e : (List.range xs.size).filterMap (fun (m : Nat) => xs[((xs.size : Int) - 1 + (m : Int) * -1).toNat]?) = ((List.range xs.size).map fun m => xs.size - 1 - m).filterMap (xs[·]?) := by
    rw [List.filterMap_map]
    refine dk_fmc fun m hm => ?_
    have : m < xs.size := List.mem_range.mp hm
    have : ((xs.size : Int) - 1 + (m : Int) * -1).toNat = xs.size - 1 - m := by omega
    rw [this]
    rfl
  rw [e, PySem.W.krv_range, List.filterMap_reverse, PySem.W.krv_all]
theorem dk_tupRev {t sl : Addr} {items : Array Value} {vl vu vs : Value} {Q : Value → Shared → Prop} (ht : IsTup s.heap t items) (hs : s.heap.IsSliceOf sl vl vu vs) (pl : IsPart vl none) (pu : IsPart vu none) (ps : IsPart vs (some (-1)))
    (h : Q (.ref s.heap.objs.size) { s with heap := s.heap.push { cls := .type "tuple", data := .seq items.toList.reverse.toArray } })
    (hsz : items.size ≤ sizeLine) : wpAny (model prog w) A (getItem (.ref t) (.ref sl)) Q E s := by
  have htake : sizeOk (.seq items.toList.reverse.toArray) := by
    show items.toList.reverse.toArray.size ≤ sizeLine
    rw [List.size_toArray, List.length_reverse, Array.length_toList]
    exact hsz
  obtain ⟨os, hos, hcs, hds⟩ := id hs
  have hTs : s.TypeIs (.ref sl) "slice" := ⟨os, hos, hcs⟩
  unfold getItem
  try with_reducible refine wpAny_holding ?_
  first | refine wpAny_bind (wpAny_pure ?_) | skip
  refine wpAny_bind (wpAny_sequenceKey ht.typeIs (by decide) ?_)
  refine wpAny_bind (wpAny_callSpecial?_slot (name := Str.ofString "__getitem__") ht.typeIs PyProof.Rows.slot_tuple_getitem
    (wpAny_call_entry PyProof.Rows.slot_tuple_getitem ht.typeIs entry_tuple_getitem ?_ (args_tuple_getitem _ _)))
  show wpAny _ _ (Builtin.Tuple.tupleItemsOf (.ref t) >>= _) _ _ s
  refine wpAny_bind (tupleItemsOf_ ht ?_)
  refine wpAny_bind (wpAny_typeOf hTs ?_)
  rw [if_pos (by decide)]
  refine wpAny_bind (dk_sliceRev hs pl pu ps ?_)
  have hno : ¬ ((((items.size : Int) - 1) == 0 && (-1 : Int) == 1 && items.size == items.size) = true) := by
    intro q
    rw [Bool.and_eq_true, Bool.and_eq_true] at q
    exact absurd q.1.2 (by decide)
  show wpAny _ _ (if (((items.size : Int) - 1) == 0 && (-1 : Int) == 1 && items.size == items.size) = true then _ else _) _ _ s
  rw [if_neg hno, dk_pick]
  first
    | exact wpAny_bind (m := Builtin.Tuple.tupleExact _) (wpAny_newObj_type (wpAny_pure ⟨_, rfl, wpAny_pure h⟩) htake)
    | exact wpAny_bind (m := Builtin.Tuple.tupleExact _) (wpAny_newObj_type (wpAny_bind (wpAny_pure (wpAny_pure ⟨_, rfl, wpAny_pure h⟩))) htake)
    | exact wpAny_bind (wpAny_bind (m := Builtin.Tuple.tupleExact _) (wpAny_newObj_type (wpAny_pure (wpAny_pure ⟨_, rfl, wpAny_pure h⟩)) htake))
    | exact wpAny_bind (wpAny_bind (m := Builtin.Tuple.tupleExact _) (wpAny_newObj_type (wpAny_pure ⟨_, rfl, wpAny_pure h⟩) htake))
end
section
variable {X : Cx}
def tRevA (K : PySem.W.Frag) (te : TE) : TE := fun σ H Q => te σ H fun x H1 => ∃ a xs, x = .ref a ∧ ((SqL K H1 a xs ∧ ∀ p, H1 p = none → Q (.ref p) (upd H1 p (.lst xs.reverse))) ∨ (SqT K H1 a xs ∧ ∀ p, H1 p = none → Q (.ref p) (upd H1 p (.tup xs.reverse))))
theorem pe_revT {e : Expr} {te : TE} {k : Nat} {p1 p2 p3 pos : Pos} (he : PE X e te) : PE X (.Subscript e (.Slice none none (some (.UnaryOp .USub (.Constant (.int 1) k p1) p2)) p3) pos) (tRevA X.K te) := by
  refine ⟨fun pins s σ H Q I h => ?_⟩
  refine Subscript_ (thn (he.run pins s σ H _ I h) fun v s1 ⟨x, H1, I1, r1, q1⟩ => ?_)
  obtain ⟨a, xs, ex, q1⟩ := q1
  subst ex
  cases r1
  have hst : PO X (some (.UnaryOp .USub (.Constant (.int 1) k p1) p2)) (tPart (tUn (rU fun i => .int (-i)) (tC (.int 1)))) := po_some (pe_un un_neg pe_int)
  refine wpAny_Slice (thn (po_none.run pins s1 σ H1 (fun o H2 => o = none ∧ H2 = H1) I1 ⟨rfl, rfl⟩) fun vl s2 ⟨l, H2, I2, pl, el, e2⟩ => ?_)
  subst el e2
  refine thn (po_none.run pins s2 σ H2 (fun o H3 => o = none ∧ H3 = H2) I2 ⟨rfl, rfl⟩) fun vu s3 ⟨u, H3, I3, pu, eu, e3⟩ => ?_
  subst eu e3
  refine thn (hst.run pins s3 σ H3 (fun o H4 => o = some (-1) ∧ H4 = H3) I3 ⟨1, rfl, -1, rfl, rfl, rfl⟩) fun vs s4 ⟨o, H4, I4, ps, eo, e4⟩ => ?_
  subst eo e4
  have I5 : Inv X pins σ H4 { s4 with heap := s4.heap.push { cls := .type "slice", data := .fields #[vl, vu, vs] } } := I4.kept (t' := s4.toks) fun b ob q => Heap.get?_push_of_some _ q
  show wpAny (model X.prog X.w) X.A (subscriptTail e (.Slice none none (some (.UnaryOp .USub (.Constant (.int 1) k p1) p2)) p3) (.ref a) (.ref s4.heap.objs.size)) (EP X pins σ Q) X.xe { s4 with heap := s4.heap.push { cls := .type "slice", data := .fields #[vl, vu, vs] } }
  rcases q1 with ⟨hx, q⟩ | ⟨hx, q⟩
  · obtain ⟨its, r, ht, hz⟩ := I5.list hx
    have hlen := r.length
    refine tail_any (ops := [.ref a, .ref s4.heap.objs.size]) ht.isList.typeIs (PySem.slot_list_getitem.lookup) ?_ (by with_unfolding_all rfl)
    refine wpAny_getItem_list_slice ht.isList (Heap.IsSliceOf.new _ vl vu vs) pl pu ps (by decide) ?_ (by rw [List.size_toArray]; omega)
    rw [PySem.W.krv_pick]
    refine ⟨.ref _, _, I5.laid (t' := s4.toks) (o := .lst xs.reverse) (fun b ob q => Heap.get?_push_of_some _ q) (Nat.le_refl _) ?_, rfl, q _ (I5.hok.fresh (Nat.le_refl _))⟩
    exact ⟨by rw [List.length_reverse]; exact hz, _, 0, r.reverse, Heap.get?_push_size _ rfl⟩
  · obtain ⟨its, r, ht, hz⟩ := I5.tuple hx
    have hlen := r.length
    refine tail_any (ops := [.ref a, .ref s4.heap.objs.size]) ht.typeIs PyProof.Rows.slot_tuple_getitem.lookup ?_ (by with_unfolding_all rfl)
    refine dk_tupRev ht (Heap.IsSliceOf.new _ vl vu vs) pl pu ps ?_ (by rw [List.size_toArray]; omega)
    refine ⟨.ref _, _, I5.laid (t' := s4.toks) (o := .tup xs.reverse) (fun b ob q => Heap.get?_push_of_some _ q) (Nat.le_refl _) ?_, rfl, q _ (I5.hok.fresh (Nat.le_refl _))⟩
    exact ⟨by rw [List.length_reverse]; exact hz, _, r.reverse, IsTup.new _ _⟩
end
end L2

/-! DK3: list.extend of a tuple. -/
namespace L2
open PySem PySem.Spec PyProof.Rows
theorem dk_ext_meets {l b : Addr} {items items2 : Array Value} {n n2 : Nat} {o : Obj} (hc : o.cls = .type "tuple") (hd : o.data = .seq items2 n2) (hs0 : ¬(!items.isEmpty && Builtin.List.listTooLong (items.size + items2.size)) = true) (hs1 : items.size ≤ sizeLine) (hs2 : items.size + items2.size ≤ sizeLine + 1) :
    Meets (Builtin.«list.extend» ⟨[.ref l, .ref b], []⟩) (fun _ R s => s.heap.get? l = some { cls := .type "list", dict := none, data := .seq items n, slots := #[] } ∧ s.heap.get? b = some o ∧ R (.ok (.ret Value.none)) { s with heap := s.heap.update l (Obj.mapSeq fun x => x ++ items2), toks := s.toks }) :=
  .of_wp fun prog w A R s h => by
    obtain ⟨hl, hb, h⟩ := h
    have hz' : (items ++ items2).size ≤ sizeLine + 1 := by rw [Array.size_append]; exact hs2
    show wpAny _ _ (Builtin.List.listExtendWith (.ref l) (.ref b) .none) _ _ s
    unfold Builtin.List.listExtendWith
    refine wpAny_bind (wpAny_typeOf ⟨o, hb, hc⟩ ?_)
    have h1 : (Builtin.List.listSameRef (.ref l) (.ref b) || Value.type "tuple" == Value.type "list" || Value.type "tuple" == Value.type "tuple") = true := by simp
    simp only [h1, if_true]
    refine wpAny_bind ?_
    unfold Builtin.List.listItems
    refine wpAny_bind (wpAny_seqItems hb hd (wpAny_pure ?_))
    refine wpAny_bind ?_
    refine wpAny_bind (wpAny_seqItems hl rfl (wpAny_pure ?_))
    rw [if_neg hs0]
    show wpAny _ _ (updateSeq l (· ++ items2) >>= fun _ => ret .none) _ _ s
    refine wpAny_bind (wpAny_updateSeq hl rfl (hz := hs1) (_hz' := hz') ?_)
    exact wpAny_pure ⟨_, rfl, h⟩
def rExtendT (K : PySem.W.Frag) : V → List V → Hp → VK → Prop := fun x vs H Q => ∃ l b xs zs, x = .ref l ∧ vs = [.ref b] ∧ H l = some (.lst xs) ∧ SqT K H b zs ∧ xs.length + zs.length ≤ sizeLine ∧ Q .non (upd H l (.lst (xs ++ zs)))
section
variable {X : Cx}
theorem mt_extendT : MtM X "list.extend" (rExtendT X.K) := by
  intro pins s σ H x vs v us Q I rx rv h
  obtain ⟨l, b, xs, zs, rfl, rfl, hH, hB, hz, q⟩ := h
  cases rx
  obtain ⟨u, rfl, ru⟩ := rv.one
  cases ru
  obtain ⟨z, its, n, r, hl, e⟩ := I.lstM hH
  obtain ⟨its2, r2, ht, hz2⟩ := I.tuple hB
  obtain ⟨o, ho, hc, n2, hd⟩ := ht
  have hl2 := r2.length
  have hsz : its.toArray.size + its2.toArray.size ≤ sizeLine := by rw [List.size_toArray, List.size_toArray]; omega
  have hlong : ¬ (!its.toArray.isEmpty && Builtin.List.listTooLong (its.toArray.size + its2.toArray.size)) = true := by
    rw [notLongL hsz, Bool.and_false]
    exact Bool.false_ne_true
  refine call_meets F.slot_list_extend ⟨_, e, rfl⟩ F.entry_list_extend (F.args_list_extend_2 _ _)
    (dk_ext_meets hc hd hlong (by rw [List.size_toArray]; omega) (by omega)) ⟨e, ho, ?_⟩
  refine ⟨.non, _, I.lset (its' := its ++ its2) hH e (by simp) (r.append r2) ?_, rfl, q⟩
  rw [List.length_append]
  omega
/-- either -/
def rExtendA (K : PySem.W.Frag) : V → List V → Hp → VK → Prop := fun x vs H Q => rExtend x vs H Q ∨ rExtendT K x vs H Q
theorem mt_extendA : MtM X "list.extend" (rExtendA X.K) := by
  intro pins s σ H x vs v us Q I rx rv h
  rcases h with h | h
  · exact mt_extend pins s σ H x vs v us Q I rx rv h
  · exact mt_extendT pins s σ H x vs v us Q I rx rv h
end
end L2

/-! DK4: the rules of DK1 to DK3 on data; three at once; a <= b <= c. -/
namespace DL
open PySem PySem.Spec PyProof.Rows L2
section
variable {X : Cx} {K : PySem.W.Frag} {mg : Str → Option Value} {E : XK} {P : List Nat}
/-! ### extend by a list or a tuple -/
def extA (ρ : R) (i : Nat) (d : D) : Option R := (ownL ρ i).bind fun ds => match d with
  | .list es => if ds.length + es.length ≤ sizeLine then some (ρ.set i (.l (ds ++ es))) else none
  | .tuple es => if ds.length + es.length ≤ sizeLine then some (ρ.set i (.l (ds ++ es))) else none
  | _ => none
def mExtA (i : Nat) (a : R → M (D × R)) : SM := fun ρ => lo (ownL ρ i) >>= fun _ => a ρ >>= fun p => lo (extA p.2 i p.1) >>= fun ρ' => .ok (.nx, ρ')
theorem ev_extA {i : Nat} {te : TE} {a : R → M (D × R)} (ha : EvE K mg E te a) : EvS K mg E P (tDrop (tBM K "list" (rExtendA K) (tVar i) (tCons te tNil))) (mExtA i a) := by
  intro F σ H ρ Dn e x
  obtain ⟨ds0, h0, x0⟩ := RP.pure x
  obtain ⟨p, xs0, hp, hx0, _⟩ := env_L e h0
  refine ⟨.ref p, hp, .inl ⟨rfl, _, SqL.of hx0⟩, ?_⟩
  refine ha F σ H ρ _ e ((RP.bind x0).later Stp.refl fun d ρ1 _ x1 v F1 H1 e1 s1 q1 => ?_)
  obtain ⟨ρ2, h2, x2⟩ := RP.pure x1
  replace h2 : extA ρ1 i d = some ρ2 := h2
  unfold extA at h2
  cases hl : ownL ρ1 i with
  | none => rw [hl] at h2; cases h2
  | some ds =>
    rw [hl] at h2
    obtain ⟨p2, xs, hp2, hx, qx, nf⟩ := env_L e1 hl
    rw [hp] at hp2; cases hp2
    cases q1 with
    | lst f r q =>
      rename_i b ys es hr0
      replace h2 : (if ds.length + es.length ≤ sizeLine then some (ρ1.set i (.l (ds ++ es))) else none) = some ρ2 := h2
      by_cases hz : ds.length + es.length ≤ sizeLine
      · rw [if_pos hz] at h2
        obtain rfl := Option.some.inj h2
        have hz2 : xs.length + ys.length ≤ sizeLine := by rw [qx.length, q.length]; exact hz
        refine .inl ⟨p, b, xs, ys, rfl, rfl, hx, r, hz2, ?_⟩
        obtain ⟨e3, s3⟩ := own_app e1 hp hl hx qx nf q (by rw [List.length_append]; exact hz2)
        exact x2 σ F1 _ e3 (s1.trans s3) Pin.refl
      · rw [if_neg hz] at h2
        cases h2
    | tup r q =>
      rename_i b ys es hr0
      replace h2 : (if ds.length + es.length ≤ sizeLine then some (ρ1.set i (.l (ds ++ es))) else none) = some ρ2 := h2
      by_cases hz : ds.length + es.length ≤ sizeLine
      · rw [if_pos hz] at h2
        obtain rfl := Option.some.inj h2
        have hz2 : xs.length + ys.length ≤ sizeLine := by rw [qx.length, q.length]; exact hz
        refine .inr ⟨p, b, xs, ys, rfl, rfl, hx, r, hz2, ?_⟩
        obtain ⟨e3, s3⟩ := own_app e1 hp hl hx qx nf q (by rw [List.length_append]; exact hz2)
        exact x2 σ F1 _ e3 (s1.trans s3) Pin.refl
      · rw [if_neg hz] at h2
        cases h2
    | _ => cases h2
theorem ds_extA {i : Nat} {o e : Expr} {apos cpos pos : Pos} {te : TE} {g : R → M (D × R)} (ho : PE X o (tVar i)) (h : DE X E e te g) (hs : swapsWith (.Call (.Attribute o "extend" apos) [e] [] cpos) none pos.line X.env = pure false := by rfl) (hbase : attributeBase o "extend" X.env (eval o X.env) = eval o X.env := by rfl)
    (hfew : ((backTo cpos (starEach [e] X.env)).all (fun x => !x.1) && (backToKw cpos (keywordEach [] X.env)).all (fun x => x.1.isSome) && decide (([e] : List Expr).length + ([] : List Keyword).length + (if ([] : List Keyword).isEmpty then 0 else 1) < 30)) = true := by rfl)
    (hline : (apos.endLine == cpos.line) = true := by rfl) (hst : starEach [e] X.env = (false, eval e X.env) :: starEach [] X.env := by rfl) (hpl : (backTo cpos (starEach [] X.env)).any (·.1) = false := by rfl) :
    DS X E P (.Expr (.Call (.Attribute o "extend" apos) [e] [] cpos) pos) (tDrop (tBM X.K "list" (rExtendA X.K) (tVar i) (tCons te tNil))) (mExtA i g) :=
  ⟨ps_expr (pe_bm PySem.F.plainAttrs_list PySem.F.slot_list_extend PySem.F.type_list_extend mt_extendA ho (pa_cons h.pe pa_nil hst) hbase hfew hline hst hpl) hs, ev_extA h.ev⟩
/-! ### x[::-1], a datum -/
def revA : D → Option D
  | .list ds => some (.list ds.reverse)
  | .tuple ds => some (.tuple ds.reverse)
  | _ => none
theorem ev_revA {ta : TE} {a : R → M (D × R)} (ha : EvE K mg E ta a) : EvE K mg E (tRevA K ta) (mUn revA a) := by
  intro F σ H ρ Q e x
  refine ha F σ H ρ _ e ((RP.bind x).later Stp.refl fun d ρ1 _ x1 v F1 H1 e1 s1 q1 => ?_)
  obtain ⟨z, hz, x2⟩ := RP.pure x1
  replace hz : revA d = some z := hz
  cases q1 with
  | lst f r q =>
    rename_i p xs ds hr0
    obtain rfl := Option.some.inj hz
    refine ⟨p, xs, rfl, .inl ⟨SqL.of r, fun n hn => ?_⟩⟩
    have g : Gr F1 H1 (Fz F1 n) (upd H1 n (.lst xs.reverse)) := Gr.newF e1.fl hn (e1.hl.lst (by rw [List.length_reverse]; exact e1.hl _ _ (.inl r)))
    exact x2 (.ref n) _ _ (e1.grow g) (s1.trans g.stp) (.lst (.inr rfl) upd_same ((q.kp g.kp).reverse))
  | tup r q =>
    rename_i p xs ds hr0
    obtain rfl := Option.some.inj hz
    refine ⟨p, xs, rfl, .inr ⟨r, fun n hn => ?_⟩⟩
    have g : Gr F1 H1 F1 (upd H1 n (.tup xs.reverse)) := Gr.new e1.fl hn (e1.hl.tup (by rw [List.length_reverse]; exact e1.hl.t r))
    exact x2 (.ref n) _ _ (e1.grow g) (s1.trans g.stp) (.tup (SqT.of upd_same) ((q.kp g.kp).reverse))
  | _ => cases hz
theorem de_revA {e : Expr} {te : TE} {g : R → M (D × R)} {k : Nat} {p1 p2 p3 pos : Pos} (he : DE X E e te g) : DE X E (.Subscript e (.Slice none none (some (.UnaryOp .USub (.Constant (.int 1) k p1) p2)) p3) pos) (tRevA X.K te) (mUn revA g) := ⟨pe_revT he.pe, ev_revA he.ev⟩
/-! ### tuple(d), d an own dict -/
def kyD : Key → D
  | .inl i => .int i
  | .inr x => .str x
theorem kyD_da {F : Addr → Prop} {H : Hp} : ∀ {xs : List (Key × V)} {kvs : List (Key × D)}, Dks K F H xs kvs → Das K F H (xs.map fun kv => kV kv.1) (kvs.map fun kv => kyD kv.1)
  | _, _, .nil => .nil
  | _, _, .cons (k := .inl i) a b => .cons (.int i) (kyD_da b)
  | _, _, .cons (k := .inr i) a b => .cons (.str i) (kyD_da b)
theorem Dks.length {F : Addr → Prop} {H : Hp} : ∀ {xs : List (Key × V)} {kvs : List (Key × D)}, Dks K F H xs kvs → xs.length = kvs.length
  | _, _, .nil => rfl
  | _, _, .cons a b => by rw [List.length_cons, List.length_cons, Dks.length b]
def mTupK (i : Nat) : R → M (D × R) := fun ρ => lo (ownK ρ i) >>= fun kvs => if kvs.length ≤ sizeLine then .ok (.tuple (kvs.map fun kv => kyD kv.1), ρ) else .error .stuck
theorem ev_tupK {i : Nat} : EvE K mg E (tCB rTupleD (tCons (tVar i) tNil)) (mTupK i) := by
  intro F σ H ρ Q e x
  obtain ⟨kvs, hl, x1⟩ := RP.pure x
  obtain ⟨p, xs, hp, hx, qx, nf⟩ := env_K e hl
  have x1' : RP K mg E σ ρ F H (if kvs.length ≤ sizeLine then .ok (.tuple (kvs.map fun kv => kyD kv.1), ρ) else .error .stuck) (fun d ρ' => ∀ v F' H', EnvOk K F' σ H' ρ' → Stp σ ρ F H σ ρ' F' H' → Da K F' H' v d → Q v H') := x1
  by_cases hz : kvs.length ≤ sizeLine
  case neg =>
    rw [if_neg hz] at x1'
    exact x1'.elim
  rw [if_pos hz] at x1'
  refine ⟨.ref p, hp, p, xs, rfl, hx, fun q hq => ?_⟩
  have g : Gr F H F (upd H q (.tup (xs.map fun kv => kV kv.1))) := Gr.new e.fl hq (e.hl.tup (by rw [List.length_map, Dks.length qx]; exact hz))
  exact x1' (.ref q) F _ (e.grow g) g.stp (.tup (SqT.of upd_same) ((kyD_da qx).kp g.kp))
theorem de_tupK {i : Nat} {o : Expr} {p pos : Pos} (ho : PE X o (tVar i)) (hm : X.mg "tuple" = none) (hc : X.calm = true := by rfl) (hg : Gl X "tuple" := by rfl) (he : starEach [o] X.env = (false, eval o X.env) :: starEach [] X.env := by rfl) (hpl : (backTo pos (starEach [] X.env)).any (·.1) = false := by rfl) :
    DE X E (.Call (.Name "tuple" p) [o] [] pos) (tCB rTupleD (tCons (tVar i) tNil)) (mTupK i) := ⟨pe_callTy (call_tuple_dK hc) hg hm (by decide +kernel) (pa_cons ho pa_nil he) (by decide) (by decide) he hpl, ev_tupK⟩
/-! ### a, b, c = x, y, z -/
def mPar3 (i j l : Nat) (a b c : R → M (D × R)) : SM := fun ρ => a ρ >>= fun p => b p.2 >>= fun q => c q.2 >>= fun r => if i < r.2.length ∧ j < r.2.length ∧ l < r.2.length then .ok (.nx, ((r.2.set i (.d p.1)).set j (.d q.1)).set l (.d r.1)) else .error .stuck
theorem ev_par3 {i j l : Nat} {ta tb tc : TE} {a b c : R → M (D × R)} (ha : EvE K mg E ta a) (hb : EvE K mg E tb b) (hc : EvE K mg E tc c) (hi : i ∉ P) (hj : j ∉ P) (hl : l ∉ P) : EvS K mg E P (tPar3 i j l (tCons ta (tCons tb (tCons tc tNil)))) (mPar3 i j l a b c) := by
  intro F σ H ρ Dn e x
  refine ha F σ H ρ _ e ((RP.bind x).later Stp.refl fun d ρ1 _ x1 v F1 H1 e1 s1 q1 => ?_)
  refine hb F1 σ H1 ρ1 _ e1 ((RP.go s1 x1).later Stp.refl fun d2 ρ2 _ x2 w F2 H2 e2 s2 q2 => ?_)
  refine hc F2 σ H2 ρ2 _ e2 ((RP.go (s1.trans s2) x2).later Stp.refl fun d3 ρ3 _ x3 u F3 H3 e3 s3 q3 => ?_)
  have x3' : RP K mg E σ ρ F H (if i < ρ3.length ∧ j < ρ3.length ∧ l < ρ3.length then .ok (Fl.nx, ((ρ3.set i (.d d)).set j (.d d2)).set l (.d d3)) else .error .stuck) (FlK K P σ ρ F H Dn) := x3
  by_cases hcc : i < ρ3.length ∧ j < ρ3.length ∧ l < ρ3.length
  case neg =>
    rw [if_neg hcc] at x3'
    exact x3'.elim
  rw [if_pos hcc] at x3'
  have e4 := e3.setD ((q1.kp (s2.kp e1)).kp (s3.kp e2)) hcc.1
  have e5 := e4.setD (q2.kp (s3.kp e2)) (i := j) (by rw [List.length_set]; exact hcc.2.1)
  have e6 := e5.setD q3 (i := l) (by rw [List.length_set, List.length_set]; exact hcc.2.2)
  refine ⟨v, w, u, rfl, x3' _ F3 H3 e6 ((((s1.trans s2).trans s3).trans (Stp.setD rfl)).trans ((Stp.setD rfl).trans (Stp.setD rfl))) ?_⟩
  have one : ∀ {σ : L2.St} {k : Nat} {z : V}, k ∉ P → Pin P σ (σ.set k (some z)) := fun {σ k z} hk => Pin.agree agree_set fun m hm => by
    have : m = k := by simpa using hm
    rw [this]; exact hk
  exact ((one hi).trans (one hj)).trans (one hl)
theorem ds_par3 {x y z : Str} {a b c : Expr} {ta tb tc : TE} {px py pz pt pos : Pos} {kt k2 : Nat} {pt2 : Pos} {i j l : Nat} {ga gb gc : R → M (D × R)} (hN : X.N.Nodup) (ha : DE X E a ta ga) (hb : DE X E b tb gb) (hc : DE X E c tc gc) (hij : i ≠ j := by decide) (hil : i ≠ l := by decide) (hjl : j ≠ l := by decide) (hi : i ∉ P := by decide) (hj : j ∉ P := by decide) (hl : l ∉ P := by decide)
    (hx0 : X.N[i]? = some x := by rfl) (hy0 : X.N[j]? = some y := by rfl) (hz0 : X.N[l]? = some z := by rfl) (hx : X.env.scope.names.lookup x = some .local := by rfl) (hy : X.env.scope.names.lookup y = some .local := by rfl) (hz : X.env.scope.names.lookup z = some .local := by rfl) (hcm : X.calm = true := by rfl)
    (hst : starEach [a, b, c] X.env = (false, eval a X.env) :: starEach [b, c] X.env := by rfl) (hst2 : starEach [b, c] X.env = (false, eval b X.env) :: starEach [c] X.env := by rfl) (hst3 : starEach [c] X.env = (false, eval c X.env) :: starEach [] X.env := by rfl)
    (hw : swappedStores [.Tuple [.Name x px, .Name y py, .Name z pz] kt pt] (.Tuple [a, b, c] k2 pt2) X.env = pure (some [x, y, z]) := by rfl) (hs : swapsWithSole [.Tuple [.Name x px, .Name y py, .Name z pz] kt pt] (.Tuple [a, b, c] k2 pt2) pos.line X.env = pure false := by rfl) :
    DS X E P (.Assign [.Tuple [.Name x px, .Name y py, .Name z pz] kt pt] (.Tuple [a, b, c] k2 pt2) pos) (tPar3 i j l (tCons ta (tCons tb (tCons tc tNil)))) (mPar3 i j l ga gb gc) :=
  ⟨ps_par3 hcm hN hx0 hy0 hz0 hij hil hjl hx hy hz (pa_cons ha.pe (pa_cons hb.pe (pa_cons hc.pe pa_nil hst3) hst2) hst) hw hs, ev_par3 ha.ev hb.ev hc.ev hi hj hl⟩
/-! ### zip of two of a kind -/
def zipD : List D → List D → List D
  | a :: as, b :: bs => .tuple [a, b] :: zipD as bs
  | _, _ => []
theorem zipD_get : ∀ {as bs : List D} {i : Nat} {e : D}, (zipD as bs)[i]? = some e → ∃ a b, as[i]? = some a ∧ bs[i]? = some b ∧ e = .tuple [a, b]
  | [], _, i, e, h => by cases h
  | _ :: _, [], i, e, h => by cases h
  | a :: as, b :: bs, 0, e, h => by
    obtain rfl := Option.some.inj h
    exact ⟨a, b, rfl, rfl, rfl⟩
  | a :: as, b :: bs, i + 1, e, h => by
    obtain ⟨x, y, h1, h2, h3⟩ := zipD_get (as := as) (bs := bs) (i := i) (by simpa [zipD] using h)
    exact ⟨x, y, by simpa using h1, by simpa using h2, h3⟩
theorem zipD_len : ∀ as bs : List D, (zipD as bs).length = min as.length bs.length
  | [], _ => by simp [zipD]
  | _ :: _, [] => by simp [zipD]
  | a :: as, b :: bs => by
    show (zipD as bs).length + 1 = _
    rw [zipD_len as bs, List.length_cons, List.length_cons]
    omega
end
end DL

/-! DK5: zip of two things of which each is a list or a tuple: one turn for any pair of inner iterators. -/
namespace L2
open PySem PySem.Spec PyProof.Rows
/-- an inner iterator over items, k behind -/
structure ZSub (prog : Program) (w : World) (it l : Addr) (items : Array Value) (St : Heap → Nat → Prop) : Prop where
  item : ∀ {A : Around} {E : Value → Shared → Prop} {s : Shared} {k : Nat} {x : Value} {Q : Value → Shared → Prop}, St s.heap k → items[k]? = some x →
    (∀ h', St h' (k + 1) → Heap.SameBut it s.heap h' → Q x { s with heap := h' }) → wpAny (model prog w) A (Builtin.SmallTypes.nextOf (.ref it)) Q E s
  fin : ∀ {A : Around} {E : Value → Shared → Prop} {s : Shared} {k : Nat} {Q : Value → Shared → Prop}, A.handled = none → St s.heap k → items[k]? = none →
    (∀ h' e, Heap.ExtBut it s.heap h' → (∃ o, h'.get? e = some o ∧ o.cls = .type "StopIteration") → E (.ref e) { s with heap := h' }) → wpAny (model prog w) A (Builtin.SmallTypes.nextOf (.ref it)) Q E s
  ext : ∀ {h h' : Heap} {b : Addr} {k : Nat}, St h k → Heap.ExtBut b h h' → b ≠ it → b ≠ l → St h' k
  lt : ∀ {h : Heap} {k : Nat}, St h k → it < h.objs.size
theorem zsub_list {prog : Program} {w : World} {it l : Addr} {items : Array Value} (hne : it ≠ l) : ZSub prog w it l items fun h k => h.IsListIter it l k ∧ h.IsList l items where
  item := fun st hx hQ => wpAny_nextOf_list_item st.1 st.2 hx fun h' a sb => hQ h' ⟨a, st.2.extBut sb.extBut hne.symm⟩ sb
  fin := fun hh st hx hE => wpAny_nextOf_list_end hh st.1 st.2 hx hE
  ext := fun st x n1 n2 => ⟨st.1.extBut x n1.symm, st.2.extBut x n2.symm⟩
  lt := fun st => by obtain ⟨⟨_, e, _⟩, _⟩ := st; exact Heap.lt_size e
theorem zsub_tup {prog : Program} {w : World} {it l : Addr} {items : Array Value} (hne : it ≠ l) : ZSub prog w it l items fun h k => h.IsTupleIter it l k ∧ h.IsTuple l items where
  item := fun st hx hQ => RZ.nextOf_tuple_item st.1 st.2 hx fun h' a sb => hQ h' ⟨a, st.2.extBut sb.extBut hne.symm⟩ sb
  fin := fun hh st hx hE => RZ.nextOf_tuple_end hh st.1 st.2 hx hE
  ext := fun st x n1 n2 => ⟨st.1.extBut x n1.symm, st.2.extBut x n2.symm⟩
  lt := fun st => by obtain ⟨⟨_, e, _⟩, _⟩ := st; exact Heap.lt_size e
section
variable {prog : Program} {w : World} {A : Around} {E : Value → Shared → Prop} {s : Shared} {z TI TO i1 i2 l1 l2 : Addr} {k1 k2 : Nat} {xs ys : Array Value} {a b : Value} {S1 S2 : Heap → Nat → Prop}
/-- all but the zip's own four stand -/
def ZKeep (z TO i1 i2 : Addr) (h h' : Heap) : Prop := ∀ c o, c ≠ z → c ≠ TO → c ≠ i1 → c ≠ i2 → h.get? c = some o → h'.get? c = some o
theorem z_item (Z1 : ZSub prog w i1 l1 xs S1) (Z2 : ZSub prog w i2 l2 ys S2) {x y : Value} {Q : Value → Shared → Prop} (D : ZipApart z TI TO i1 i2 l1 l2)
    (hz : IsZip s.heap z TI TO .none) (hTI : IsPair s.heap TI (.ref i1) (.ref i2)) (hTO : IsPair s.heap TO a b) (h1 : S1 s.heap k1) (h2 : S2 s.heap k2) (hx : xs[k1]? = some x) (hy : ys[k2]? = some y)
    (hQ : ∀ h', IsZip h' z TI TO (rawInt s.heap.objs.size) → IsPair h' TO x y → S1 h' (k1 + 1) → S2 h' (k2 + 1) → IsPair h' s.heap.objs.size x y → h'.objs.size = s.heap.objs.size + 1 → ZKeep z TO i1 i2 s.heap h' → Q (.ref s.heap.objs.size) { s with heap := h' }) :
    wpAny (model prog w) A (Builtin.«zip.__next__» ⟨[.ref z], []⟩) (fun fin s' => ∃ v, fin = .done (.ret v) ∧ Q v s') E s := by
  show wpAny _ _ (field (.ref z) 2 >>= _) _ _ _
  refine wpAny_bind (wpAny_field hz rfl (x := .bool false) rfl ?_)
  show wpAny _ _ (field (.ref z) 3 >>= _) _ _ _
  refine wpAny_bind (wpAny_field hz rfl (x := .ref TI) rfl (wpAny_bind (wpAny_seqItems hTI rfl ?_)))
  show wpAny _ _ (Builtin.SmallTypes.ownedTupleIsFree (.ref z) >>= _) _ _ _
  refine wpAny_bind ?_
  unfold Builtin.SmallTypes.ownedTupleIsFree
  refine wpAny_bind (wpAny_field hz rfl (x := .none) rfl (wpAny_pure ?_))
  simp only [if_true]
  refine wpAny_bind (wpAny_rule (wpAny_bind (wpAny_field hz rfl (x := .ref TO) rfl (wpAny_bind (wpAny_setField_rec hz (by simp) fun ha hza sa => ?_)))))
  replace hza : IsZip ha z TI TO .ellipsis := hza
  refine wpAny_bind ?_
  simp only [List.zipIdx_cons, List.zipIdx_nil, List.forIn_cons, List.forIn_nil]
  have ea := sa.extBut
  refine wpAny_bind (wpAny_bind (wpAny_onRaise ?_))
  show wpAny _ _ (Builtin.SmallTypes.nextOf (.ref i1) >>= _) _ _ _
  refine wpAny_bind (Z1.item (Z1.ext h1 ea D.i1z.symm D.l1z.symm) hx fun hb t1 sb => wpAny_pure ?_)
  have eb := sb.extBut
  have pb : IsPair hb TO a b := eb _ _ D.TOi1 (ea _ _ D.TOz hTO)
  refine wpAny_bind (wpAny_seqItems pb rfl (wpAny_bind (wpAny_updateSeq_pair pb fun hc pc sc => ?_)))
  replace pc : IsPair hc TO x b := pc
  have ec := sc.extBut
  refine wpAny_bind (wpAny_letGo (wpAny_pure (wpAny_bind (wpAny_bind (wpAny_onRaise ?_)))))
  show wpAny _ _ (Builtin.SmallTypes.nextOf (.ref i2) >>= _) _ _ _
  have t2 : S2 hc k2 := Z2.ext (Z2.ext (Z2.ext h2 ea D.i2z.symm D.l2z.symm) eb D.i12 D.l2i1.symm) ec D.TOi2 D.l2TO.symm
  refine wpAny_bind (Z2.item t2 hy fun hd t2 sd => wpAny_pure ?_)
  have ed := sd.extBut
  have pd : IsPair hd TO x b := ed _ _ D.TOi2 pc
  refine wpAny_bind (wpAny_seqItems pd rfl (wpAny_bind (wpAny_updateSeq_pair pd fun he pe se => ?_)))
  replace pe : IsPair he TO x y := pe
  have ee := se.extBut
  refine wpAny_bind (wpAny_letGo (wpAny_pure (wpAny_pure (wpAny_bind (wpAny_seqItems pe rfl (wpAny_bind (wpAny_newTuple ?_)))))))
  have size : he.objs.size = s.heap.objs.size := by rw [se.1, sd.1, sc.1, sb.1, sa.1]
  have ze : IsZip he z TI TO .ellipsis := ee _ _ D.TOz.symm (ed _ _ D.i2z.symm (ec _ _ D.TOz.symm (eb _ _ D.i1z.symm hza)))
  have keep : ZKeep z TO i1 i2 s.heap he := fun c o n1 n2 n3 n4 q => ee _ _ n2 (ed _ _ n4 (ec _ _ n2 (eb _ _ n3 (ea _ _ n1 q))))
  have u1 : S1 he (k1 + 1) := Z1.ext (Z1.ext (Z1.ext t1 ec D.TOi1 D.l1TO.symm) ed D.i12.symm D.l1i2.symm) ee D.TOi1 D.l1TO.symm
  have u2 : S2 he (k2 + 1) := Z2.ext t2 ee D.TOi2 D.l2TO.symm
  have zlt : z < he.objs.size := Heap.lt_size ze
  show wpAny _ _ (Builtin.SmallTypes.ownedTupleHandOut (.ref z) (.ref he.objs.size) >>= _) _ _ _
  refine wpAny_bind ?_
  unfold Builtin.SmallTypes.ownedTupleHandOut
  have zf : IsZip (he.push { cls := .type "tuple", data := .seq #[x, y] }) z TI TO .ellipsis := Heap.get?_push_of_some _ ze
  refine wpAny_bind (wpAny_setField_rec zf (by simp) fun hg zg sg => ?_)
  replace zg : IsZip hg z TI TO (rawInt he.objs.size) := zg
  refine wpAny_setField_rec zg (by simp) fun hk zk sk => ?_
  replace zk : IsZip hk z TI TO (rawInt he.objs.size) := zk
  have ep : Heap.ExtBut z he hk := fun c o n q => sk.extBut _ _ n (sg.extBut _ _ n (Heap.get?_push_of_some _ q))
  have pk : IsPair hk he.objs.size x y := sk.extBut _ _ (Nat.ne_of_gt zlt) (sg.extBut _ _ (Nat.ne_of_gt zlt) (Heap.get?_push_size _ rfl))
  have sz : hk.objs.size = he.objs.size + 1 := by rw [sk.1, sg.1, Heap.size_push]
  rw [size] at zk pk sz
  refine wpAny_pure ⟨_, rfl, ?_⟩
  show Q (.ref he.objs.size) _
  rw [size]
  exact hQ hk zk (ep _ _ D.TOz pe) (Z1.ext u1 ep D.i1z.symm D.l1z.symm) (Z2.ext u2 ep D.i2z.symm D.l2z.symm) pk sz fun c o n1 n2 n3 n4 q => ep c o n1 (keep c o n1 n2 n3 n4 q)
theorem z_end (Z1 : ZSub prog w i1 l1 xs S1) (Z2 : ZSub prog w i2 l2 ys S2) {Q : Fin → Shared → Prop} (hh : A.handled = none) (D : ZipApart z TI TO i1 i2 l1 l2)
    (hz : IsZip s.heap z TI TO .none) (hTI : IsPair s.heap TI (.ref i1) (.ref i2)) (hTO : IsPair s.heap TO a b) (h1 : S1 s.heap k1) (h2 : S2 s.heap k2) (hend : xs[k1]? = none ∨ ys[k2]? = none)
    (hE : ∀ h' e, ZKeep z TO i1 i2 s.heap h' → (∃ o, h'.get? e = some o ∧ o.cls = .type "StopIteration") → E (.ref e) { s with heap := h' }) :
    wpAny (model prog w) A (Builtin.«zip.__next__» ⟨[.ref z], []⟩) Q E s := by
  show wpAny _ _ (field (.ref z) 2 >>= _) _ _ _
  refine wpAny_bind (wpAny_field hz rfl (x := .bool false) rfl ?_)
  show wpAny _ _ (field (.ref z) 3 >>= _) _ _ _
  refine wpAny_bind (wpAny_field hz rfl (x := .ref TI) rfl (wpAny_bind (wpAny_seqItems hTI rfl ?_)))
  show wpAny _ _ (Builtin.SmallTypes.ownedTupleIsFree (.ref z) >>= _) _ _ _
  refine wpAny_bind ?_
  unfold Builtin.SmallTypes.ownedTupleIsFree
  refine wpAny_bind (wpAny_field hz rfl (x := .none) rfl (wpAny_pure ?_))
  simp only [if_true]
  refine wpAny_bind (wpAny_rule (wpAny_bind (wpAny_field hz rfl (x := .ref TO) rfl (wpAny_bind (wpAny_setField_rec hz (by simp) fun ha hza sa => ?_)))))
  replace hza : IsZip ha z TI TO .ellipsis := hza
  refine wpAny_bind ?_
  simp only [List.zipIdx_cons, List.zipIdx_nil, List.forIn_cons, List.forIn_nil]
  have ea := sa.extBut
  have stop : ∀ {h : Heap} {e : Addr}, IsZip h z TI TO .ellipsis → (∃ o, h.get? e = some o ∧ o.cls = .type "StopIteration") → e ≠ z := fun {h e} q ⟨o, ho, hc⟩ x => by
    subst x
    rw [q] at ho
    cases ho
    simp at hc
  refine wpAny_bind (wpAny_bind (wpAny_onRaise ?_))
  show wpAny _ _ (Builtin.SmallTypes.nextOf (.ref i1) >>= _) _ _ _
  have t1 := Z1.ext h1 ea D.i1z.symm D.l1z.symm
  cases hx : xs[k1]? with
  | none =>
    refine wpAny_bind (Z1.fin hh t1 hx fun hb e eb he => ?_)
    have zb : IsZip hb z TI TO .ellipsis := eb _ _ D.i1z.symm hza
    obtain ⟨o, ho, hc⟩ := he
    have n := stop zb ⟨o, ho, hc⟩
    exact wpAny_setField_rec zb (by simp) fun hc' _ sc => hE hc' e (fun c o n1 _ n3 _ q => sc.extBut _ _ n1 (eb _ _ n3 (ea _ _ n1 q))) ⟨o, sc.extBut _ _ n ho, hc⟩
  | some x =>
    have hy : ys[k2]? = none := by
      rcases hend with q | q
      · rw [hx] at q; cases q
      · exact q
    refine wpAny_bind (Z1.item t1 hx fun hb t1 sb => wpAny_pure ?_)
    have eb := sb.extBut
    have pb : IsPair hb TO a b := eb _ _ D.TOi1 (ea _ _ D.TOz hTO)
    refine wpAny_bind (wpAny_seqItems pb rfl (wpAny_bind (wpAny_updateSeq_pair pb fun hc pc sc => ?_)))
    have ec := sc.extBut
    refine wpAny_bind (wpAny_letGo (wpAny_pure (wpAny_bind (wpAny_bind (wpAny_onRaise ?_)))))
    show wpAny _ _ (Builtin.SmallTypes.nextOf (.ref i2) >>= _) _ _ _
    have t2 : S2 hc k2 := Z2.ext (Z2.ext (Z2.ext h2 ea D.i2z.symm D.l2z.symm) eb D.i12 D.l2i1.symm) ec D.TOi2 D.l2TO.symm
    refine wpAny_bind (Z2.fin hh t2 hy fun hd e ed he => ?_)
    have zd : IsZip hd z TI TO .ellipsis := ed _ _ D.i2z.symm (ec _ _ D.TOz.symm (eb _ _ D.i1z.symm hza))
    obtain ⟨o, ho, hc'⟩ := he
    have n := stop zd ⟨o, ho, hc'⟩
    exact wpAny_setField_rec zd (by simp) fun hf _ sf => hE hf e (fun c o n1 n2 n3 n4 q => sf.extBut _ _ n1 (ed _ _ n4 (ec _ _ n2 (eb _ _ n3 (ea _ _ n1 q))))) ⟨o, sf.extBut _ _ n ho, hc'⟩
end
end L2

/-! DK6: zip of a list and a tuple. -/
namespace L2
open PySem PySem.Spec PyProof.Rows
abbrev zl1 (h : Heap) (a : Addr) : Heap := h.push { cls := .type "list_iterator", data := .fields #[.ref a, .int 0 0] }
abbrev zl2 (h : Heap) (a b : Addr) : Heap := (zl1 h a).push { cls := .type "tuple_iterator", data := .fields #[.ref b, .int 0 0] }
abbrev zl3 (h : Heap) (a b : Addr) : Heap := (zl2 h a b).push { cls := .type "tuple", data := .seq #[.ref h.objs.size, .ref (zl1 h a).objs.size] }
abbrev zl4 (h : Heap) (a b : Addr) : Heap := (zl3 h a b).push { cls := .type "tuple", data := .seq #[.none, .none] }
abbrev zl5 (h : Heap) (a b : Addr) : Heap := (zl4 h a b).push { cls := .type "zip", data := .fields #[.none, .bool false, .bool false, .ref (zl2 h a b).objs.size, .ref (zl3 h a b).objs.size] }
theorem zl_meets (a b : Addr) (xs ys : Array Value) :
    Meets (Builtin.«zip.__new__» ⟨[.type "zip", .ref a, .ref b], []⟩) (fun _ R s => s.heap.IsList a xs ∧ s.heap.IsTuple b ys ∧ R (.ok (.ret (.ref (zl4 s.heap a b).objs.size))) { s with heap := zl5 s.heap a b }) :=
  .of_wp fun prog w A R s h => by
    obtain ⟨hp, g, d, tk, os⟩ := s
    obtain ⟨ha, hb, h⟩ := h
    have hsub := sub_zip
    have i1 : Heap.IsList (Shared.heap ⟨hp, g, d, tk, os⟩) a xs := ha
    have i2 : Heap.IsTuple (Shared.heap ⟨hp.push { cls := .type "list_iterator", data := .fields #[.ref a, .int 0 0] }, g, d, tk, os⟩) b ys := Heap.IsTuple.push hb _
    wp_walk using wpAny_pyIter_list i1, wpAny_pyIter_tuple i2
    exact ⟨_, rfl, h⟩
section
variable {prog : Program} {w : World} {A : Around} {E : Value → Shared → Prop} {s : Shared} {a b : Addr} {xs ys : Array Value}
theorem zl_call {Q : Value → Shared → Prop} (ha : s.heap.IsList a xs) (hb : s.heap.IsTuple b ys)
    (h : ∀ h', IsZip h' (s.heap.objs.size + 4) (s.heap.objs.size + 2) (s.heap.objs.size + 3) .none → IsPair h' (s.heap.objs.size + 2) (.ref s.heap.objs.size) (.ref (s.heap.objs.size + 1)) → IsPair h' (s.heap.objs.size + 3) .none .none →
      h'.IsListIter s.heap.objs.size a 0 → h'.IsTupleIter (s.heap.objs.size + 1) b 0 → (∀ c o, s.heap.get? c = some o → h'.get? c = some o) → Q (.ref (s.heap.objs.size + 4)) { s with heap := h' }) :
    wpAny (model prog w) A (call (.type "zip") [.ref a, .ref b]) Q E s := by
  refine callType_new F.called_zip (by decide) (F.typeCall_zip_2 _ _) (F.newCall_zip_2 _ _) (fun obj => F.args_object_init_3 obj _ _) F.entry_zip_new (zl_meets a b xs ys) ⟨ha, hb, ?_⟩
  have n1 : (zl1 s.heap a).objs.size = s.heap.objs.size + 1 := Heap.size_push ..
  have n2 : (zl2 s.heap a b).objs.size = s.heap.objs.size + 2 := by rw [Heap.size_push, n1]
  have n3 : (zl3 s.heap a b).objs.size = s.heap.objs.size + 3 := by rw [Heap.size_push, n2]
  have n4 : (zl4 s.heap a b).objs.size = s.heap.objs.size + 4 := by rw [Heap.size_push, n3]
  have up : ∀ {h : Heap} {o o' : Obj} {c : Addr}, h.get? c = some o → (h.push o').get? c = some o := fun q => Heap.get?_push_of_some _ q
  have o5 : (zl5 s.heap a b).get? (zl4 s.heap a b).objs.size = some _ := Heap.get?_push_size _ rfl
  have o4 : (zl5 s.heap a b).get? (zl3 s.heap a b).objs.size = some _ := up (Heap.get?_push_size _ rfl)
  have o3 : (zl5 s.heap a b).get? (zl2 s.heap a b).objs.size = some _ := up (up (Heap.get?_push_size _ rfl))
  have o2 : (zl5 s.heap a b).get? (zl1 s.heap a).objs.size = some _ := up (up (up (Heap.get?_push_size _ rfl)))
  have o1 : (zl5 s.heap a b).get? s.heap.objs.size = some _ := up (up (up (up (Heap.get?_push_size _ rfl))))
  show _ ∧ _
  rw [n2, n3, n4] at o5
  rw [n1, n2] at o3
  rw [n3] at o4
  rw [n1] at o2
  rw [n4]
  exact ⟨⟨_, o5, rfl⟩, h _ o5 o3 o4 ⟨_, o1, rfl, rfl⟩ ⟨_, o2, rfl, rfl⟩ fun c o q => up (up (up (up (up q))))⟩
theorem z_nextItem {z TI TO i1 i2 l1 l2 : Addr} {k1 k2 : Nat} {c d x y : Value} {S1 S2 : Heap → Nat → Prop} (Z1 : ZSub prog w i1 l1 xs S1) (Z2 : ZSub prog w i2 l2 ys S2) {Q : Option Value → Shared → Prop} (D : ZipApart z TI TO i1 i2 l1 l2)
    (hz : IsZip s.heap z TI TO .none) (hTI : IsPair s.heap TI (.ref i1) (.ref i2)) (hTO : IsPair s.heap TO c d) (h1 : S1 s.heap k1) (h2 : S2 s.heap k2) (hx : xs[k1]? = some x) (hy : ys[k2]? = some y)
    (hQ : ∀ h', IsZip h' z TI TO (rawInt s.heap.objs.size) → IsPair h' TO x y → S1 h' (k1 + 1) → S2 h' (k2 + 1) → IsPair h' s.heap.objs.size x y → h'.objs.size = s.heap.objs.size + 1 → ZKeep z TO i1 i2 s.heap h' → Q (some (.ref s.heap.objs.size)) { s with heap := h' }) :
    wpAny (model prog w) A (pyNext (.ref z)) Q E s := by
  have ty : s.TypeIs (.ref z) "zip" := ⟨_, hz, rfl⟩
  unfold pyNext
  refine wpAny_bind (wpAny_attempt (wpAny_callSpecial?_slot (name := Str.ofString "__next__") ty F.slot_zip_next (wpAny_call_entry F.slot_zip_next ty F.entry_zip_next ?_ (F.args_zip_next_1 _))))
  exact z_item Z1 Z2 D hz hTI hTO h1 h2 hx hy fun h' q1 q2 q3 q4 q5 q6 q7 => wpAny_pure (hQ h' q1 q2 q3 q4 q5 q6 q7)
theorem z_nextEnd {z TI TO i1 i2 l1 l2 : Addr} {k1 k2 : Nat} {c d : Value} {S1 S2 : Heap → Nat → Prop} (Z1 : ZSub prog w i1 l1 xs S1) (Z2 : ZSub prog w i2 l2 ys S2) {Q : Option Value → Shared → Prop} (hh : A.handled = none) (D : ZipApart z TI TO i1 i2 l1 l2)
    (hz : IsZip s.heap z TI TO .none) (hTI : IsPair s.heap TI (.ref i1) (.ref i2)) (hTO : IsPair s.heap TO c d) (h1 : S1 s.heap k1) (h2 : S2 s.heap k2) (hend : xs[k1]? = none ∨ ys[k2]? = none)
    (hQ : ∀ h', ZKeep z TO i1 i2 s.heap h' → Q none { s with heap := h' }) : wpAny (model prog w) A (pyNext (.ref z)) Q E s := by
  have ty : s.TypeIs (.ref z) "zip" := ⟨_, hz, rfl⟩
  unfold pyNext
  refine wpAny_bind (wpAny_attempt (wpAny_callSpecial?_slot (name := Str.ofString "__next__") ty F.slot_zip_next (wpAny_call_entry F.slot_zip_next ty F.entry_zip_next ?_ (F.args_zip_next_1 _))))
  refine z_end Z1 Z2 hh D hz hTI hTO h1 h2 hend fun h' e hk ⟨o, ho, hc⟩ => ?_
  exact wpAny_bind (wpAny_isInstance (T := "StopIteration") (b := true) ⟨o, ho, hc⟩ isSubtype_stop (wpAny_pure (hQ _ hk)))
end
/-- a list at a, a tuple at b -/
def ItzM (K : PySem.W.Frag) (a b : Addr) : It :=
  ⟨fun i H => ∃ (xs ys : List V) (x y : V), (SqL K H a xs ∧ xs[i]? = some x) ∧ SqT K H b ys ∧ ys[i]? = some y,
    fun i H v H' => ∃ T x y, v = .ref T ∧ H T = none ∧ H' = upd H T (.tup [x, y]) ∧ (∀ xs, SqL K H a xs → xs[i]? = some x) ∧ ∀ ys, SqT K H b ys → ys[i]? = some y,
    fun i H => ∃ xs ys : List V, (SqL K H a xs ∧ SqT K H b ys) ∧ (xs.length ≤ i ∨ ys.length ≤ i)⟩
/-- its own five objects as they stand -/
def ZmSt (a b z TI TO i1 i2 : Addr) (i : Nat) (h : Heap) : Prop := IsZip h z TI TO .none ∧ IsPair h TI (.ref i1) (.ref i2) ∧ (∃ x y, IsPair h TO x y) ∧ h.IsListIter i1 a i ∧ h.IsTupleIter i2 b i
theorem zm_five {z TI TO i1 i2 c : Addr} (h : c ∈ [z, TI, TO, i1, i2]) : c = z ∨ c = TI ∨ c = TO ∨ c = i1 ∨ c = i2 := by simpa using h
theorem zm_turn {P : Program} {w : World} {K : PySem.W.Frag} {elts : List Expr} {kk : Nat} {tpos : Pos} {a b z TI TO i1 i2 : Addr} (D : ZipApart z TI TO i1 i2 a b) : Turn P w K (.Tuple elts kk tpos) (ItzM K a b) [z, TI, TO, i1, i2] z (ZmSt a b z TI TO i1 i2) where
  mem := by simp
  obj := fun i h ⟨hz, hTI, ⟨x, y, hTO⟩, ⟨o1, e1, _, d1⟩, ⟨o2, e2, _, d2⟩⟩ c hc => by
    rcases zm_five hc with rfl | rfl | rfl | rfl | rfl
    · exact ⟨_, hz, fun v q => nomatch q⟩
    · exact ⟨_, hTI, fun v q => nomatch q⟩
    · exact ⟨_, hTO, fun v q => nomatch q⟩
    · exact ⟨o1, e1, fun v q => by rw [d1] at q; cases q⟩
    · exact ⟨o2, e2, fun v q => by rw [d2] at q; cases q⟩
  keep := fun i h h' ⟨hz, hTI, ⟨x, y, hTO⟩, h1, h2⟩ k => ⟨k z (by simp) _ hz, k TI (by simp) _ hTI, ⟨x, y, k TO (by simp) _ hTO⟩, h1.at fun o q => k i1 (by simp) o q, h2.at fun o q => k i2 (by simp) o q⟩
  item := by
    intro X hP hw hK hc i pins s σ H E I hf st hg
    subst hP hw hK
    obtain ⟨hz, hTI, ⟨x0, y0, hTO⟩, h1, h2⟩ := st
    obtain ⟨xs, ys, x, y, ⟨qx, hx⟩, qy, hy⟩ := hg
    obtain ⟨its, rv, p, _⟩ := I.list qx
    obtain ⟨its2, rv2, p2, _⟩ := I.tuple qy
    obtain ⟨u, hu, ru⟩ := rv.get hx
    obtain ⟨u2, hu2, ru2⟩ := rv2.get hy
    have zlt : z < s.heap.objs.size := Heap.lt_size hz
    refine z_nextItem (zsub_list D.l1i1.symm) (zsub_tup D.l2i2.symm) D hz hTI hTO ⟨h1, p.isList⟩ ⟨h2, (show s.heap.IsTuple b its2.toArray from p2)⟩ (x := u) (y := u2) (by simpa using hu) (by simpa using hu2) fun h' z' TO' g1 g2 hT hsz hk => ?_
    refine ⟨_, rfl, wpAny_letOwnedTupleGo_zip (s := { s with heap := h' }) z' fun h'' z'' sb => ?_⟩
    have hT2 : h''.get? s.heap.objs.size = some { cls := .type "tuple", data := .seq #[u, u2] } := (sb.2 _ (Nat.ne_of_gt zlt)).trans hT
    have new : ObjOk X.prog X.w (upd H s.heap.objs.size (.tup [x, y])) h'' s.heap.objs.size (.tup [x, y]) := ⟨by show 2 ≤ sizeLine; decide, [u, u2], .cons ru (.cons ru2 .nil), ⟨_, hT2, rfl, _, rfl⟩⟩
    have J : Inv X pins σ (upd H s.heap.objs.size (.tup [x, y])) { s with heap := h'' } :=
      I.turnedNew (t' := s.toks) (ch := [z, TI, TO, i1, i2]) (fun c o hb q => by
        have n : c ≠ z ∧ c ≠ TI ∧ c ≠ TO ∧ c ≠ i1 ∧ c ≠ i2 := by simpa using hb
        exact (sb.2 c n.1).trans (hk c o n.1 n.2.2.1 n.2.2.2.1 n.2.2.2.2 q)) hf (Nat.le_refl _) new
    refine ⟨.ref s.heap.objs.size, _, J, rfl, ⟨_, x, y, rfl, I.hok.fresh (Nat.le_refl _), rfl, fun l hl => by rw [I.list_inj hl qx]; exact hx, fun l hl => by rw [I.tuple_inj hl qy]; exact hy⟩, ⟨z'', ?_, ⟨u, u2, ?_⟩, ?_, ?_⟩, fun c hcm => ?_⟩
    · exact (sb.2 _ D.TIz).trans (hk _ _ D.TIz D.TITO D.TIi1 D.TIi2 hTI)
    · exact (sb.2 _ D.TOz).trans TO'
    · exact g1.1.at fun o q => (sb.2 _ D.i1z).trans q
    · exact g2.1.at fun o q => (sb.2 _ D.i2z).trans q
    · have lt : c < s.heap.objs.size := by
        rcases zm_five hcm with rfl | rfl | rfl | rfl | rfl
        · exact zlt
        · exact Heap.lt_size hTI
        · exact Heap.lt_size hTO
        · obtain ⟨_, e1, _⟩ := h1; exact Heap.lt_size e1
        · obtain ⟨_, e2, _⟩ := h2; exact Heap.lt_size e2
      rw [upd_ne (Nat.ne_of_lt lt)]
      exact (hf c hcm).1
  done := by
    intro X hP hw hK hc i pins s σ H E I hf st hg
    subst hP hw hK
    obtain ⟨hz, hTI, ⟨x0, y0, hTO⟩, h1, h2⟩ := st
    obtain ⟨xs, ys, ⟨qx, qy⟩, hend⟩ := hg
    obtain ⟨its, rv, p, _⟩ := I.list qx
    obtain ⟨its2, rv2, p2, _⟩ := I.tuple qy
    have n1 := rv.length
    have n2 := rv2.length
    have he : its.toArray[i]? = none ∨ its2.toArray[i]? = none := by
      rcases hend with q | q
      · exact .inl (by simp; omega)
      · exact .inr (by simp; omega)
    refine z_nextEnd (zsub_list D.l1i1.symm) (zsub_tup D.l2i2.symm) (I.ok.hd hc) D hz hTI hTO ⟨h1, p.isList⟩ ⟨h2, (show s.heap.IsTuple b its2.toArray from p2)⟩ he fun h' hk => ⟨rfl, I.turnedL (t' := s.toks) (ch := [z, TI, TO, i1, i2]) (fun c o hb q => by
      have n : c ≠ z ∧ c ≠ TI ∧ c ≠ TO ∧ c ≠ i1 ∧ c ≠ i2 := by simpa using hb
      exact hk c o n.1 n.2.2.1 n.2.2.2.1 n.2.2.2.2 q) hf⟩
  self := fun A i s Q E st h => wpAny_pyIter_zip st.1 h
/-- zip of two lists, two tuples, a list and a tuple -/
def iZipE (K : PySem.W.Frag) (ta : TA) : TI := fun σ H R => ta σ H fun vs H1 => ∃ a b xs ys, vs = [.ref a, .ref b] ∧ ((SqL K H1 a xs ∧ SqL K H1 b ys ∧ R (Itz K a b) H1) ∨ (SqT K H1 a xs ∧ SqT K H1 b ys ∧ R (RZ.ItzT K a b) H1) ∨ (SqL K H1 a xs ∧ SqT K H1 b ys ∧ R (ItzM K a b) H1))
theorem pi_zipE {X : Cx} {e e2 : Expr} {ta : TA} {p pos tpos : Pos} {elts : List Expr} {kk : Nat} (hg : Gl X "zip") (hm : X.mg "zip" = none) (ha : PA X [e, e2] ta)
    (hs : starEach [e, e2] X.env = (false, eval e X.env) :: starEach [e2] X.env := by rfl) (hpl : (backTo pos (starEach [e2] X.env)).any (·.1) = false := by rfl) :
    PI X (.Tuple elts kk tpos) (.Call (.Name "zip" p) [e, e2] [] pos) (iZipE X.K ta) := by
  refine ⟨fun pins s σ H R I h => ?_⟩
  refine Call_ (ld_blt I hg hm PyProof.Rows.boot_zip (PyProof.Rows.callWith_type1 (thn (ha.run pos pins s σ H _ I h) fun us t ⟨vs, H1, I1, r1, a, b, xs, ys, ex, q⟩ => ?_) hs hpl))
  subst ex
  obtain ⟨u1, u2, rfl, rfl, rfl⟩ : ∃ u1 u2, us = [u1, u2] ∧ u1 = Value.ref a ∧ u2 = Value.ref b := by
    cases r1 with
    | cons r rr =>
      cases rr with
      | cons r' rr =>
        cases rr
        exact ⟨_, _, rfl, r, r'⟩
  have fresh : ∀ c, c ∈ [t.heap.objs.size + 4, t.heap.objs.size + 2, t.heap.objs.size + 3, t.heap.objs.size, t.heap.objs.size + 1] → FpOk X pins H1 c := fun c hcm => by
    have le : t.heap.objs.size ≤ c := by rcases zm_five hcm with q | q | q | q | q <;> (rw [q]; omega)
    exact I1.fpOk le (I1.hok.fresh le)
  rcases q with ⟨qx, qy, q⟩ | ⟨qx, qy, q⟩ | ⟨qx, qy, q⟩
  · obtain ⟨its, _, p1, _⟩ := I1.list qx
    obtain ⟨its2, _, p2, _⟩ := I1.list qy
    refine call_zip_2 p1.isList p2.isList fun h' hz hTI hTO g1 g2 _ hk => wpAny_pyIter_zip hz ?_
    exact ⟨_, _, _, _, H1, rfl, (I1.kept (t' := t.toks) hk : Inv X pins σ H1 { t with heap := h' }), turn_zip (PySem.W.ktu_apart t.heap.objs.size a b p1.lt p2.lt), ⟨hz, hTI, ⟨_, _, hTO⟩, g1, g2⟩, fresh, q⟩
  · obtain ⟨its, _, p1, _⟩ := I1.tuple qx
    obtain ⟨its2, _, p2, _⟩ := I1.tuple qy
    obtain ⟨o1, ho1, _⟩ := id p1
    obtain ⟨o2, ho2, _⟩ := id p2
    refine RZ.call_zipT (show t.heap.IsTuple a its.toArray from p1) (show t.heap.IsTuple b its2.toArray from p2) fun h' hz hTI hTO g1 g2 _ hk => wpAny_pyIter_zip hz ?_
    exact ⟨_, _, _, _, H1, rfl, (I1.kept (t' := t.toks) hk : Inv X pins σ H1 { t with heap := h' }), RZ.turn_zipT (PySem.W.ktu_apart t.heap.objs.size a b (Heap.lt_size ho1) (Heap.lt_size ho2)), ⟨hz, hTI, ⟨_, _, hTO⟩, g1, g2⟩, fresh, q⟩
  · obtain ⟨its, _, p1, _⟩ := I1.list qx
    obtain ⟨its2, _, p2, _⟩ := I1.tuple qy
    obtain ⟨o2, ho2, _⟩ := id p2
    refine zl_call p1.isList (show t.heap.IsTuple b its2.toArray from p2) fun h' hz hTI hTO g1 g2 hk => wpAny_pyIter_zip hz ?_
    exact ⟨_, _, _, _, H1, rfl, (I1.kept (t' := t.toks) hk : Inv X pins σ H1 { t with heap := h' }), zm_turn (PySem.W.ktu_apart t.heap.objs.size a b p1.lt (Heap.lt_size ho2)), ⟨hz, hTI, ⟨_, _, hTO⟩, g1, g2⟩, fresh, q⟩
theorem walk_zipM {K : PySem.W.Frag} {a b : Addr} {xs ys : List V} {n : Nat} (hn : n = min xs.length ys.length) : Walk (ItzM K a b) n (fun H => SqL K H a xs ∧ SqT K H b ys) (YPair (fun i => xs[i]?) (fun i => ys[i]?)) := by
  subst hn
  refine ⟨fun i _ hi q => ?_, fun _ q => ⟨xs, ys, q, by omega⟩, fun i H v H' _ q y => ?_⟩
  · have h1 : i < xs.length := by omega
    have h2 : i < ys.length := by omega
    exact ⟨xs, ys, xs[i], ys[i], ⟨q.1, List.getElem?_eq_getElem h1⟩, q.2, List.getElem?_eq_getElem h2⟩
  · obtain ⟨T, x, y, e1, e2, e3, e4, e5⟩ := y
    exact ⟨T, x, y, e1, e2, e3, e4 xs q.1, e5 ys q.2⟩
end L2

/-! DK7: zip and chains of comparisons, on data. -/
namespace DL
open PySem PySem.Spec PyProof.Rows L2
section
variable {X : Cx} {K : PySem.W.Frag} {mg : Str → Option Value} {E : XK} {P : List Nat}
theorem walk_zipTT {a b : Addr} {xs ys : List V} {n : Nat} (hn : n = min xs.length ys.length) : Walk (RZ.ItzT K a b) n (fun H => SqT K H a xs ∧ SqT K H b ys) (YPair (fun i => xs[i]?) (fun i => ys[i]?)) := by
  subst hn
  refine ⟨fun i _ hi q => ?_, fun _ q => ⟨xs, ys, q.1, q.2, by omega⟩, fun i H v H' _ q y => ?_⟩
  · have h1 : i < xs.length := by omega
    have h2 : i < ys.length := by omega
    exact ⟨xs, ys, xs[i], ys[i], q.1, q.2, List.getElem?_eq_getElem h1, List.getElem?_eq_getElem h2⟩
  · obtain ⟨T, x, y, e1, e2, e3, e4, e5⟩ := y
    exact ⟨T, x, y, e1, e2, e3, e4 xs q.1, e5 ys q.2⟩
def zipO : D → D → Option (List D)
  | .list a, .list b => some (zipD a b)
  | .tuple a, .tuple b => some (zipD a b)
  | .list a, .tuple b => some (zipD a b)
  | _, _ => none
def mZip (a b : R → M (D × R)) : R → M (List D × R) := fun ρ => a ρ >>= fun p => b p.2 >>= fun q => lo (zipO p.1 q.1) >>= fun z => .ok (z, q.2)
theorem ev_zip {ta tb : TE} {ga gb : R → M (D × R)} (ha : EvE K mg E ta ga) (hb : EvE K mg E tb gb) : EvI K mg E (iZipE K (tCons ta (tCons tb tNil))) (mZip ga gb) := by
  intro F σ H ρ Q e x
  refine ha F σ H ρ _ e ((RP.bind x).later Stp.refl fun d ρ1 _ x1 v F1 H1 e1 s1 q1 => ?_)
  refine hb F1 σ H1 ρ1 _ e1 ((RP.go s1 x1).later Stp.refl fun d2 ρ2 _ x2 w F2 H2 e2 s2 q2 => ?_)
  obtain ⟨es, he, x3⟩ := RP.pure x2
  replace he : zipO d d2 = some es := he
  have q1 := q1.kp (s2.kp e1)
  have sq := s1.trans s2
  have pr : ∀ {xs ys : List V} {as bs : List D}, Das K F2 H2 xs as → Das K F2 H2 ys bs → es = zipD as bs → ∀ (i : Nat) (x y : V) (d : D), xs[i]? = some x → ys[i]? = some y → es[i]? = some d → ∃ a b, d = .tuple [a, b] ∧ Da K F2 H2 x a ∧ Da K F2 H2 y b := by
    intro xs ys as bs p q e i x y d hx hy hd
    subst e
    obtain ⟨a, b, h1, h2, h3⟩ := zipD_get hd
    obtain ⟨x', g1, g2⟩ := p.get h1
    obtain ⟨y', g3, g4⟩ := q.get h2
    rw [hx] at g1
    rw [hy] at g3
    obtain rfl := Option.some.inj g1
    obtain rfl := Option.some.inj g3
    exact ⟨a, b, h3, g2, g4⟩
  cases q1 with
  | lst f r q =>
    rename_i a xs as h0
    cases q2 with
    | lst f' r' q' =>
      rename_i b ys bs h0'
      obtain rfl := Option.some.inj he
      exact ⟨a, b, xs, ys, rfl, .inl ⟨SqL.of r, SqL.of r', x3 _ F2 H2 e2 sq (wk_pair (by rw [zipD_len, ← q.length, ← q'.length]) (walk_zip rfl) (fun F3 H3 k => ⟨SqL.of ((k.fro a f).2 _ r), SqL.of ((k.fro b f').2 _ r')⟩) (pr q q' rfl))⟩⟩
    | tup r' q' =>
      rename_i b ys bs h0'
      obtain rfl := Option.some.inj he
      exact ⟨a, b, xs, ys, rfl, .inr (.inr ⟨SqL.of r, r', x3 _ F2 H2 e2 sq (wk_pair (by rw [zipD_len, ← q.length, ← q'.length]) (walk_zipM rfl) (fun F3 H3 k => ⟨SqL.of ((k.fro a f).2 _ r), k.sqT r'⟩) (pr q q' rfl))⟩)⟩
    | _ => cases he
  | tup r q =>
    rename_i a xs as h0
    cases q2 with
    | tup r' q' =>
      rename_i b ys bs h0'
      obtain rfl := Option.some.inj he
      exact ⟨a, b, xs, ys, rfl, .inr (.inl ⟨r, r', x3 _ F2 H2 e2 sq (wk_pair (by rw [zipD_len, ← q.length, ← q'.length]) (walk_zipTT rfl) (fun F3 H3 k => ⟨k.sqT r, k.sqT r'⟩) (pr q q' rfl))⟩)⟩
    | _ => cases he
  | _ => cases he
theorem di_zip {a b : Expr} {ta tb : TE} {ga gb : R → M (D × R)} {p pos tpos : Pos} {elts : List Expr} {kk : Nat} (hm : X.mg "zip" = none) (ha : DE X E a ta ga) (hb : DE X E b tb gb) (hg : Gl X "zip" := by rfl)
    (hs : starEach [a, b] X.env = (false, eval a X.env) :: starEach [b] X.env := by rfl) (hs2 : starEach [b] X.env = (false, eval b X.env) :: starEach [] X.env := by rfl) (hpl : (backTo pos (starEach [b] X.env)).any (·.1) = false := by rfl) :
    DI X E (.Tuple elts kk tpos) (.Call (.Name "zip" p) [a, b] [] pos) (iZipE X.K (tCons ta (tCons tb tNil))) (mZip ga gb) := ⟨pi_zipE hg hm (pa_cons ha.pe (pa_cons hb.pe pa_nil hs2) hs) hs hpl, ev_zip ha.ev hb.ev⟩
/-! ### a <= b <= c -/
theorem ev_chain {r r' : R2} {f f' : D → D → Option D} {ta tb tc : TE} {ga gb gc : R → M (D × R)} (hf : OpD K r f) (hf' : OpD K r' f') (ha : EvE K mg E ta ga) (hb : EvE K mg E tb gb) (hc : EvE K mg E tc gc) : EvE K mg E (tChain r r' ta tb tc) (mChain f f' ga gb gc) := by
  intro F σ H ρ Q e x
  refine ha F σ H ρ _ e ((RP.bind x).later Stp.refl fun d ρ1 _ x1 v F1 H1 e1 s1 q1 => ?_)
  refine hb F1 σ H1 ρ1 _ e1 ((RP.go s1 x1).later Stp.refl fun d2 ρ2 _ x2 w F2 H2 e2 s2 q2 => ?_)
  obtain ⟨z, hz, x3⟩ := RP.pure x2
  obtain ⟨k, hk, x4⟩ := RP.pure x3
  have s12 := s1.trans s2
  refine hf F2 H2 v w d d2 z _ e2.fl e2.hl (q1.kp (s2.kp e1)) q2 hz fun u F3 H3 g3 q3 => ?_
  have e3 := e2.grow g3
  have s3 : Stp σ ρ F H σ ρ2 F3 H3 := s12.trans g3.stp
  have hz' : z = .bool k := by
    cases z with
    | bool c => obtain rfl := Option.some.inj hk; rfl
    | _ => cases hk
  subst hz'
  cases q3
  refine ⟨k, rfl, ?_⟩
  cases k with
  | false => exact x4 (.bl false) F3 H3 e3 s3 (.bl _)
  | true =>
    refine hc F3 σ H3 ρ2 _ e3 ((RP.go s3 x4).later Stp.refl fun d3 ρ4 _ x5 t F4 H4 e4 s4 q4 => ?_)
    obtain ⟨y, hy, x6⟩ := RP.pure x5
    exact hf' F4 H4 w t d2 d3 y Q e4.fl e4.hl ((q2.kp g3.kp).kp (s4.kp e3)) q4 hy fun u F5 H5 g5 q5 => x6 u F5 H5 (e4.grow g5) ((s3.trans s4).trans g5.stp) q5
theorem de_chain {a b c : Expr} {op op' : CmpOp} {r r' : R2} {f f' : D → D → Option D} {ta tb tc : TE} {ga gb gc : R → M (D × R)} {pos : Pos} (ho : OpR X (compareOp op) r) (hf : OpD X.K r f) (ho' : OpR X (compareOp op') r') (hf' : OpD X.K r' f') (ha : DE X E a ta ga) (hb : DE X E b tb gb) (hc : DE X E c tc gc)
    (hm : lastMarks [op, op'] [b, c] = false := by with_unfolding_all rfl) : DE X E (.Compare a [op, op'] [b, c] pos) (tChain r r' ta tb tc) (mChain f f' ga gb gc) := ⟨pe_chain ho ho' ha.pe hb.pe hc.pe hm, ev_chain hf hf' ha.ev hb.ev hc.ev⟩
theorem dt_chain {a b c : Expr} {op op' : CmpOp} {r r' : R2} {f f' : D → D → Option D} {ta tb tc : TE} {ga gb gc : R → M (D × R)} {pos : Pos} (ho : OpR X (compareOp op) r) (hf : OpD X.K r f) (ho' : OpR X (compareOp op') r') (hf' : OpD X.K r' f') (ha : DE X E a ta ga) (hb : DE X E b tb gb) (hc : DE X E c tc gc)
    (hm : lastMarks [op, op'] [b, c] = false := by with_unfolding_all rfl) : DT X E (.Compare a [op, op'] [b, c] pos) (tTest (tChain r r' ta tb tc)) (mTest boolD (mChain f f' ga gb gc)) := ⟨pt_chain ho ho' ha.pe hb.pe hc.pe hm, ev_test (ev_chain hf hf' ha.ev hb.ev hc.ev)⟩
end
end DL

/-! DK8: a tuple times 0 or 1, and times on data. -/
namespace L2
open PySem PySem.Spec PyProof.Rows
theorem dk_mul1 (l : Addr) (items : Array Value) (n : Nat) (dd : Option Addr) (sl : Array (Option Value)) (u : Tok) :
    Meets (Builtin.«tuple.__mul__» ⟨[.ref l, .int 1 u], []⟩) (fun _ R s => s.heap.get? l = some { cls := .type "tuple", dict := dd, data := .seq items n, slots := sl } ∧ R (.ok (.ret (Value.ref l))) s) :=
  .of_wp fun prog w A R s h => by
    obtain ⟨hp, g, d, tk, os⟩ := s
    obtain ⟨hl, h⟩ := h
    have f1 := AutoSeq1.idx_int
    have c1 : (items.isEmpty || (1 : Int) == 1) = true := by simp
    wp_walk using wpAny_loadPart' hl
    repeat (first
      | (refine wpAny_ite_true (decide_eq_true (by rw [c1])) ?_; wp_walk using wpAny_loadPart' hl)
      | (refine wpAny_ite_false (decide_eq_false (by decide)) ?_; wp_walk using wpAny_loadPart' hl))
    exact ⟨_, rfl, h⟩
theorem dk_mul0 (l : Addr) (items : Array Value) (n : Nat) (dd : Option Addr) (sl : Array (Option Value)) (u : Tok) (hne : items.isEmpty = false) :
    Meets (Builtin.«tuple.__mul__» ⟨[.ref l, .int 0 u], []⟩) (fun _ R s => s.heap.get? l = some { cls := .type "tuple", dict := dd, data := .seq items n, slots := sl } ∧
      R (.ok (.ret (Value.ref s.heap.objs.size))) { s with heap := s.heap.push { cls := Value.type "tuple", data := Data.seq #[] }, toks := s.toks }) :=
  .of_wp fun prog w A R s h => by
    obtain ⟨hp, g, d, tk, os⟩ := s
    obtain ⟨hl, h⟩ := h
    have f1 := AutoSeq1.idx_int
    have c1 : (items.isEmpty || (0 : Int) == 1) = false := by rw [hne]; rfl
    have c2 : (decide ((0 : Int) ≤ 0) || items.isEmpty) = true := by simp
    wp_walk using wpAny_loadPart' hl
    repeat (first
      | (refine wpAny_ite_false (decide_eq_false (by rw [c1]; exact Bool.false_ne_true)) ?_; wp_walk using wpAny_loadPart' hl)
      | (refine wpAny_ite_true (decide_eq_true (by rw [c2])) ?_; wp_walk using wpAny_loadPart' hl)
      | (refine wpAny_ite_false (decide_eq_false (by decide)) ?_; wp_walk using wpAny_loadPart' hl))
    exact ⟨_, rfl, h⟩
def rRep01 (K : PySem.W.Frag) : R2 := fun x y H Q => ∃ l xs, x = .ref l ∧ SqT K H l xs ∧ xs ≠ [] ∧ ((y = .int 1 ∧ Q (.ref l) H) ∨ (y = .int 0 ∧ ∀ p, H p = none → Q (.ref p) (upd H p (.tup []))))
theorem op_rep01 {X : Cx} : OpR X (binaryOp .Mult) (rRep01 X.K) := by
  intro pins s σ H x y v u Q I rx ry h
  obtain ⟨l, xs, rfl, hT, hne, h⟩ := h
  cases rx
  obtain ⟨its, r, ⟨⟨cls, dd, data, sl⟩, ho, hc, n, hd⟩, hs⟩ := I.tuple hT
  simp only at hc hd
  subst hc hd
  have hle : its.length = xs.length := r.length.symm
  have hi : its.toArray.isEmpty = false := by
    cases its with
    | nil => exact absurd (List.eq_nil_of_length_eq_zero hle.symm) hne
    | cons a b => rfl
  rcases h with ⟨rfl, q⟩ | ⟨rfl, q⟩
  · obtain ⟨t, rfl⟩ := ry
    refine wpAny_binaryOp_repeat_ref (T := "tuple") (U := "int") (by decide) ⟨_, ho, rfl⟩ (fun s' => typeIs_int s' 1 t) noFill_tuple_mul F.fills_int_mul F.slot_int_rmul repeat_tuple F.slot_int_index.lookup
      (call_meets F.slot_int_rmul (typeIs_int s 1 t) F.entry_int_rmul (F.args_int_rmul_2 _ _) (int_rmul_tuple 1 t l its.toArray n dd sl) ⟨ho, rfl, ⟨_, ho, rfl⟩, ?_⟩)
    exact call_meets F.slot_tuple_mul ⟨_, ho, rfl⟩ F.entry_tuple_mul (F.args_tuple_mul_2 _ _) (dk_mul1 l its.toArray n dd sl t) ⟨ho, ⟨.ref l, H, I, rfl, q⟩⟩
  · obtain ⟨t, rfl⟩ := ry
    refine wpAny_binaryOp_repeat_ref (T := "tuple") (U := "int") (by decide) ⟨_, ho, rfl⟩ (fun s' => typeIs_int s' 0 t) noFill_tuple_mul F.fills_int_mul F.slot_int_rmul repeat_tuple F.slot_int_index.lookup
      (call_meets F.slot_int_rmul (typeIs_int s 0 t) F.entry_int_rmul (F.args_int_rmul_2 _ _) (int_rmul_tuple 0 t l its.toArray n dd sl) ⟨ho, rfl, ⟨_, ho, rfl⟩, ?_⟩)
    refine call_meets F.slot_tuple_mul ⟨_, ho, rfl⟩ F.entry_tuple_mul (F.args_tuple_mul_2 _ _) (dk_mul0 l its.toArray n dd sl t hi) ⟨ho, ?_⟩
    refine ⟨.ref s.heap.objs.size, _, I.laid (t' := s.toks) (o := .tup []) (fun b ob q => Heap.get?_push_of_some _ q) (Nat.le_refl _) ?_, rfl, q _ (I.hok.fresh (Nat.le_refl _))⟩
    exact ⟨Nat.zero_le _, [], .nil, IsTup.new _ _⟩
end L2
namespace DL
open PySem PySem.Spec PyProof.Rows L2
section
variable {X : Cx} {K : PySem.W.Frag} {mg : Str → Option Value} {E : XK}
/-- times: ints; a tuple that is not empty, few times -/
def mulA : D → D → Option D
  | .tuple (d :: ds), .int k => if 0 ≤ k ∧ k ≤ 1000 ∧ ds.length < 1000 then some (.tuple (List.replicate k.toNat (d :: ds)).flatten) else none
  | a, b => mulD a b
def rMulA (K : PySem.W.Frag) : R2 := fun x y H Q => (rI CMul fun i j => .int (i * j)) x y H Q ∨ (rRep01 K x y H Q ∨ rRepT K x y H Q)
theorem op_mulA : OpR X (binaryOp .Mult) (rMulA X.K) := OpR.or op_mul (OpR.or op_rep01 op_repT)
theorem Das.rep {F : Addr → Prop} {H : Hp} {xs : List V} {ds : List D} (q : Das K F H xs ds) : ∀ n : Nat, Das K F H (List.replicate n xs).flatten (List.replicate n ds).flatten
  | 0 => .nil
  | n + 1 => by
    rw [List.replicate_succ, List.replicate_succ, List.flatten_cons, List.flatten_cons]
    exact q.append (Das.rep q n)
theorem od_mulA : OpD K (rMulA K) mulA := by
  intro F H x y dx dy d Q fl hl hx hy h k
  unfold mulA at h
  split at h
  · rename_i e es n
    split at h
    · rename_i c
      obtain rfl := Option.some.inj h
      cases hy.int_inv
      cases hx with
      | tup r q =>
        rename_i a xs
        have hlen := q.length
        rw [List.length_cons] at hlen
        have ne : xs ≠ [] := fun e => by rw [e] at hlen; simp at hlen
        have le1 : xs.length ≤ 1000 := by omega
        by_cases c1 : n = 1
        · subst c1
          refine .inr (.inl ⟨a, xs, rfl, r, ne, .inl ⟨rfl, ?_⟩⟩)
          have e1 : (List.replicate (1 : Int).toNat (e :: es)).flatten = e :: es := by simp
          exact k _ F H (Gr.refl fl hl) (by rw [e1]; exact .tup r q)
        · by_cases c0 : n = 0
          · subst c0
            refine .inr (.inl ⟨a, xs, rfl, r, ne, .inr ⟨rfl, fun p hp => ?_⟩⟩)
            have g : Gr F H F (upd H p (.tup [])) := Gr.new fl hp (hl.tup (Nat.zero_le _))
            exact k _ F _ g (.tup (SqT.of upd_same) .nil)
          · refine .inr (.inr ⟨a, n, xs, rfl, rfl, r, ne, by omega, c.2.1, le1, fun p hp => ?_⟩)
            have g : Gr F H F (upd H p (.tup (List.replicate n.toNat xs).flatten)) := Gr.new fl hp (hl.tup (by
              rw [PyProof.Rows.lm_len_rep_flat, sizeLine_eq]
              have a1 : n.toNat * xs.length ≤ 1000 * 1000 := Nat.mul_le_mul (by omega) le1
              omega))
            exact k _ F _ g (.tup (SqT.of upd_same) ((Das.rep q n.toNat).kp g.kp))
    · cases h
  · exact .inl (od_mul F H x y _ _ d Q fl hl hx hy h k)
theorem de_mulA {a b : Expr} {ta tb : TE} {ga gb : R → M (D × R)} {pos : Pos} (ha : DE X E a ta ga) (hb : DE X E b tb gb) : DE X E (.BinOp a .Mult b pos) (tOp (rMulA X.K) ta tb) (mOp mulA ga gb) := de_op op_mulA od_mulA ha hb
end
end DL

/-! DK9: enumerate of a tuple. -/
namespace L2
open PySem PySem.Spec PyProof.Rows
section
variable {prog : Program} {w : World} {A : Around} {E : Value → Shared → Prop} {s : Shared} {e it l : Addr} {i : Nat} {items : Array Value} {old : Value} {S : Heap → Nat → Prop}
theorem en_item (Z : ZSub prog w it l items S) {x : Value} {Q : Value → Shared → Prop} (he : IsEnum s.heap e it i old) (st : S s.heap i) (hx : items[i]? = some x) (hne : e ≠ it) (hnl : e ≠ l)
    (hQ : ∀ h', IsEnumOut h' e it ((i : Int) + 1) x s.heap.objs.size → S h' (i + 1) → h'.get? s.heap.objs.size = some { cls := .type "tuple", data := .seq #[.int i s.toks, x] } → h'.objs.size = s.heap.objs.size + 1 →
      (∀ b o, b ≠ e → b ≠ it → s.heap.get? b = some o → h'.get? b = some o) → Q (.ref s.heap.objs.size) { s with heap := h', toks := s.toks + 1 })
    (hpush : ∀ (h : Heap) (o : Obj) (k : Nat), S h k → S (h.push o) k) :
    wpAny (model prog w) A (Builtin.«enumerate.__next__» ⟨[.ref e], []⟩) (fun fin s' => ∃ v, fin = .done (.ret v) ∧ Q v s') E s := by
  obtain ⟨hp, g, d, tk, os⟩ := s
  show wpAny _ _ (field (.ref e) 2 >>= _) _ _ _
  refine wpAny_bind (wpAny_field he rfl (x := .ref it) rfl (wpAny_bind (Z.item st hx fun ha ta sa => ?_)))
  replace sa : Heap.SameBut it hp ha := sa
  have ea : IsEnum ha e it i old := (sa.2 e hne).trans he
  show wpAny _ _ (field (.ref e) 3 >>= _) _ _ ⟨ha, g, d, tk, os⟩
  refine wpAny_bind (wpAny_field ea rfl (x := rawInt i) rfl ?_)
  show wpAny _ _ (field (.ref e) 4 >>= _) _ _ ⟨ha, g, d, tk, os⟩
  refine wpAny_bind (wpAny_field ea rfl (x := .none) rfl ?_)
  show wpAny _ _ (mkInt i >>= _) _ _ ⟨ha, g, d, tk, os⟩
  refine wpAny_bind (wpAny_mkInt ?_)
  show wpAny _ _ (setField (.ref e) 3 (rawInt ((i : Int) + 1)) >>= _) _ _ ⟨ha, g, d, tk + 1, os⟩
  refine wpAny_bind (wpAny_setField_rec ea (by simp) fun hb eb sb => ?_)
  replace sb : Heap.SameBut e ha hb := sb
  replace eb : IsEnum hb e it ((i : Int) + 1) old := eb
  show wpAny _ _ (setField (.ref e) 4 .none >>= _) _ _ ⟨hb, g, d, tk + 1, os⟩
  refine wpAny_bind (wpAny_setField_rec eb (by simp) fun hc ec sc => ?_)
  replace sc : Heap.SameBut e hb hc := sc
  replace ec : IsEnum hc e it ((i : Int) + 1) old := ec
  show wpAny _ _ (newTuple [.int i tk, x] >>= _) _ _ ⟨hc, g, d, tk + 1, os⟩
  refine wpAny_bind (wpAny_newTuple ?_)
  have ed : IsEnum (hc.push { cls := .type "tuple", data := .seq #[.int i tk, x] }) e it ((i : Int) + 1) old := Heap.get?_push_of_some _ ec
  have td : S (hc.push { cls := .type "tuple", data := .seq #[.int i tk, x] }) (i + 1) := hpush _ _ _ (Z.ext (Z.ext ta sb.extBut hne hnl) sc.extBut hne hnl)
  have size : hc.objs.size = hp.objs.size := by rw [sc.1, sb.1, sa.1]
  have lt : e < hp.objs.size := Heap.lt_size he
  have pd : (hc.push { cls := .type "tuple", data := .seq #[.int i tk, x] }).get? hp.objs.size = some { cls := .type "tuple", data := .seq #[.int i tk, x] } := by rw [← size]; exact Heap.get?_push_size _ rfl
  have zd : (hc.push { cls := .type "tuple", data := .seq #[.int i tk, x] }).objs.size = hp.objs.size + 1 := by rw [Heap.size_push, size]
  have kd : ∀ b o, b ≠ e → b ≠ it → hp.get? b = some o → (hc.push { cls := .type "tuple", data := .seq #[.int i tk, x] }).get? b = some o := fun b o n1 n2 q =>
    Heap.get?_push_of_some _ (sc.extBut b o n1 (sb.extBut b o n1 (sa.extBut b o n2 q)))
  generalize hc.push { cls := .type "tuple", data := .seq #[.int i tk, x] } = hd at ed td pd zd kd
  show wpAny _ _ (Builtin.SmallTypes.ownedTupleIsFree (.ref e) >>= _) _ _ ⟨hd, g, d, tk + 1, os⟩
  rw [size]
  refine wpAny_bind ?_
  unfold Builtin.SmallTypes.ownedTupleIsFree
  refine wpAny_bind (wpAny_field ed rfl (x := .none) rfl (wpAny_pure ?_))
  simp only [if_true]
  refine wpAny_bind (wpAny_rule (wpAny_bind (wpAny_field ed rfl (x := old) rfl (wpAny_bind (wpAny_setField_rec ed (by simp) fun hf ef sf => ?_)))))
  replace sf : Heap.SameBut e hd hf := sf
  replace ef : IsEnum hf e it ((i : Int) + 1) x := ef
  show wpAny _ _ (Builtin.SmallTypes.ownedTupleHandOut (.ref e) (.ref hp.objs.size) >>= _) _ _ ⟨hf, g, d, tk + 1, os⟩
  refine wpAny_bind ?_
  unfold Builtin.SmallTypes.ownedTupleHandOut
  refine wpAny_bind (wpAny_setField_rec ef (by simp) fun hg eg sg => ?_)
  replace sg : Heap.SameBut e hf hg := sg
  replace eg : IsEnumOut hg e it ((i : Int) + 1) x hp.objs.size := eg
  refine wpAny_setField_rec eg (by simp) fun hk ek sk => ?_
  replace sk : Heap.SameBut e hg hk := sk
  replace ek : IsEnumOut hk e it ((i : Int) + 1) x hp.objs.size := ek
  have up : ∀ b o, b ≠ e → hd.get? b = some o → hk.get? b = some o := fun b o n q => sk.extBut b o n (sg.extBut b o n (sf.extBut b o n q))
  refine wpAny_bind (wpAny_letGo (wpAny_pure ⟨_, rfl, hQ hk ek (Z.ext (Z.ext (Z.ext td sf.extBut hne hnl) sg.extBut hne hnl) sk.extBut hne hnl) (up _ _ (Nat.ne_of_gt lt) pd) ?_ fun b o n1 n2 q => up b o n1 (kd b o n1 n2 q)⟩))
  rw [sk.1, sg.1, sf.1, zd]
theorem en_next (Z : ZSub prog w it l items S) {x : Value} {Q : Option Value → Shared → Prop} (he : IsEnum s.heap e it i old) (st : S s.heap i) (hx : items[i]? = some x) (hne : e ≠ it) (hnl : e ≠ l) (hpush : ∀ (h : Heap) (o : Obj) (k : Nat), S h k → S (h.push o) k)
    (hQ : ∀ h', IsEnumOut h' e it ((i : Int) + 1) x s.heap.objs.size → S h' (i + 1) → h'.get? s.heap.objs.size = some { cls := .type "tuple", data := .seq #[.int i s.toks, x] } → h'.objs.size = s.heap.objs.size + 1 →
      (∀ b o, b ≠ e → b ≠ it → s.heap.get? b = some o → h'.get? b = some o) → Q (some (.ref s.heap.objs.size)) { s with heap := h', toks := s.toks + 1 }) :
    wpAny (model prog w) A (pyNext (.ref e)) Q E s := by
  have ty : s.TypeIs (.ref e) "enumerate" := ⟨_, he, rfl⟩
  unfold pyNext
  refine wpAny_bind (wpAny_attempt (wpAny_callSpecial?_slot (name := Str.ofString "__next__") ty F.slot_enumerate_next (wpAny_call_entry F.slot_enumerate_next ty F.entry_enumerate_next ?_ (F.args_enumerate_next_1 _))))
  exact en_item Z he st hx hne hnl (fun h' q1 q2 q3 q4 q5 => wpAny_pure (hQ h' q1 q2 q3 q4 q5)) hpush
theorem en_stop (Z : ZSub prog w it l items S) {Q : Option Value → Shared → Prop} (hh : A.handled = none) (he : IsEnum s.heap e it i old) (st : S s.heap i) (hx : items[i]? = none)
    (hQ : ∀ h', Heap.ExtBut it s.heap h' → Q none { s with heap := h' }) : wpAny (model prog w) A (pyNext (.ref e)) Q E s := by
  have ty : s.TypeIs (.ref e) "enumerate" := ⟨_, he, rfl⟩
  unfold pyNext
  refine wpAny_bind (wpAny_attempt (wpAny_callSpecial?_slot (name := Str.ofString "__next__") ty F.slot_enumerate_next (wpAny_call_entry F.slot_enumerate_next ty F.entry_enumerate_next ?_ (F.args_enumerate_next_1 _))))
  show wpAny _ _ (field (.ref e) 2 >>= _) _ _ _
  refine wpAny_bind (wpAny_field he rfl (x := .ref it) rfl (wpAny_bind (Z.fin hh st hx fun h' x he' ⟨o, ho, hc⟩ => ?_)))
  exact wpAny_bind (wpAny_isInstance (T := "StopIteration") (b := true) ⟨o, ho, hc⟩ isSubtype_stop (wpAny_pure (hQ _ he')))
end
theorem en_meets (l : Addr) (items : Array Value) :
    Meets (Builtin.«enumerate.__new__» ⟨[.type "enumerate", .ref l], []⟩) (fun _ R s => s.heap.IsTuple l items ∧
      R (.ok (.ret (.ref (s.heap.push { cls := .type "tuple_iterator", data := .fields #[.ref l, .int 0 0] }).objs.size))) { s with heap := (s.heap.push { cls := .type "tuple_iterator", data := .fields #[.ref l, .int 0 0] }).push { cls := .type "enumerate", data := .fields #[.none, .bool false, .ref s.heap.objs.size, rawInt 0, .none, .none] } }) :=
  .of_wp fun prog w A R s h => by
    obtain ⟨hp, g, d, tk, os⟩ := s
    obtain ⟨hl, h⟩ := h
    have hsub := sub_enumerate
    have hL : Heap.IsTuple (Shared.heap ⟨hp, g, d, tk, os⟩) l items := hl
    wp_walk
    refine wpAny_stack_any fun _ => wpAny_pure ?_
    split
    · rename_i c _ _ _ _ _
      cases (c == Value.type "enumerate") <;> (wp_walk using wpAny_pyIter_tuple hL; exact ⟨_, rfl, h⟩)
    · wp_walk using wpAny_pyIter_tuple hL
      exact ⟨_, rfl, h⟩
theorem en_call {prog : Program} {w : World} {A : Around} {E : Value → Shared → Prop} {s : Shared} {l : Addr} {items : Array Value} {Q : Value → Shared → Prop} (hL : s.heap.IsTuple l items)
    (h : ∀ h', IsEnum h' (s.heap.objs.size + 1) s.heap.objs.size 0 .none → h'.IsTupleIter s.heap.objs.size l 0 → (∀ b o, s.heap.get? b = some o → h'.get? b = some o) → Q (.ref (s.heap.objs.size + 1)) { s with heap := h' }) :
    wpAny (model prog w) A (call (.type "enumerate") [.ref l]) Q E s := by
  refine callType_new F.called_enumerate (by decide) (F.typeCall_enumerate_1 _) (F.newCall_enumerate_1 _) (fun obj => F.args_object_init_2 obj _) F.entry_enumerate_new (en_meets l items) ⟨hL, ?_⟩
  have n1 : (s.heap.push { cls := .type "tuple_iterator", data := .fields #[.ref l, .int 0 0] }).objs.size = s.heap.objs.size + 1 := Heap.size_push ..
  have o2 := Heap.get?_push_size (s.heap.push { cls := .type "tuple_iterator", data := .fields #[.ref l, .int 0 0] }) (o := { cls := .type "enumerate", data := .fields #[.none, .bool false, .ref s.heap.objs.size, rawInt 0, .none, .none] }) rfl
  have o1 : ((s.heap.push { cls := .type "tuple_iterator", data := .fields #[.ref l, .int 0 0] }).push { cls := .type "enumerate", data := .fields #[.none, .bool false, .ref s.heap.objs.size, rawInt 0, .none, .none] }).get? s.heap.objs.size = some _ := Heap.get?_push_of_some _ (Heap.get?_push_size _ rfl)
  show _ ∧ _
  rw [n1] at o2 ⊢
  exact ⟨⟨_, o2, rfl⟩, h _ o2 ⟨_, o1, rfl, rfl⟩ fun b o q => Heap.get?_push_of_some _ (Heap.get?_push_of_some _ q)⟩
def IteT (K : PySem.W.Frag) (a : Addr) : It :=
  ⟨fun i H => ∃ (xs : List V) (x : V), SqT K H a xs ∧ xs[i]? = some x, fun i H v H' => ∃ T x, v = .ref T ∧ H T = none ∧ H' = upd H T (.tup [.int (i : Nat), x]) ∧ ∀ xs, SqT K H a xs → xs[i]? = some x, fun i H => ∃ xs : List V, SqT K H a xs ∧ xs.length ≤ i⟩
theorem en_two {e it c : Addr} (h : c ∈ [e, it]) : c = e ∨ c = it := by simpa using h
theorem en_turn {P : Program} {w : World} {K : PySem.W.Frag} {elts : List Expr} {kk : Nat} {tpos : Pos} (a e it : Addr) (hia : it ≠ a) (hea : e ≠ a) :
    Turn P w K (.Tuple elts kk tpos) (IteT K a) [e, it] e (fun i h => (∃ old, IsEnum h e it ((i : Nat) : Int) old) ∧ h.IsTupleIter it a i ∧ e ≠ it) where
  mem := by simp
  obj := fun i h ⟨⟨old, he⟩, ⟨o, ho, hc, hd⟩, _⟩ b hb => by
    rcases en_two hb with rfl | rfl
    · exact ⟨_, he, fun v q => nomatch q⟩
    · exact ⟨o, ho, fun v q => by rw [hd] at q; cases q⟩
  keep := fun i h h' ⟨⟨old, he⟩, hi, hne⟩ k => ⟨⟨old, k e (by simp) _ he⟩, hi.at fun o q => k it (by simp) o q, hne⟩
  item := by
    intro X hP hw hK hc i pins s σ H E I hf st hg
    subst hP hw hK
    obtain ⟨⟨old, he⟩, hit, hne⟩ := st
    obtain ⟨xs, x, hq, hx⟩ := hg
    obtain ⟨its, rv, p, hz⟩ := I.tuple hq
    obtain ⟨u, hu, ru⟩ := rv.get hx
    have el : e < s.heap.objs.size := Heap.lt_size he
    have il : it < s.heap.objs.size := by obtain ⟨_, q, _⟩ := hit; exact Heap.lt_size q
    refine en_next (zsub_tup hia) he ⟨hit, (show s.heap.IsTuple a its.toArray from p)⟩ (x := u) (by simpa using hu) hne hea (fun h o k q => ⟨q.1.at fun o' z => Heap.get?_push_of_some _ z, Heap.IsTuple.push q.2 _⟩) fun h' ho st' hT hsz hk => ?_
    refine ⟨_, rfl, wpAny_letOwnedTupleGo_enum (s := { s with heap := h', toks := s.toks + 1 }) ho fun h'' he' sb => ?_⟩
    have hT2 : h''.get? s.heap.objs.size = some { cls := .type "tuple", data := .seq #[.int i s.toks, u] } := (sb.2 _ (Nat.ne_of_gt el)).trans hT
    have new : ObjOk X.prog X.w (upd H s.heap.objs.size (.tup [.int (i : Nat), x])) h'' s.heap.objs.size (.tup [.int (i : Nat), x]) := ⟨by show 2 ≤ sizeLine; decide, [.int i s.toks, u], .cons ⟨_, rfl⟩ (.cons ru .nil), ⟨_, hT2, rfl, _, rfl⟩⟩
    have J : Inv X pins σ (upd H s.heap.objs.size (.tup [.int (i : Nat), x])) { s with heap := h'', toks := s.toks + 1 } := I.turnedNew (ch := [e, it]) (fun b ob hb q => by
      have n : b ≠ e ∧ b ≠ it := by simpa using hb
      exact (sb.2 b n.1).trans (hk b ob n.1 n.2 q)) hf (Nat.le_refl _) new
    refine ⟨.ref s.heap.objs.size, _, J, rfl, ⟨_, x, rfl, I.hok.fresh (Nat.le_refl _), rfl, fun ys hy => by rw [I.tuple_inj hy hq]; exact hx⟩, ⟨⟨u, ?_⟩, st'.1.at fun o q => (sb.2 it hne.symm).trans q, hne⟩, fun b hb => ?_⟩
    · rw [show ((i + 1 : Nat) : Int) = (i : Int) + 1 by omega]
      exact he'
    · have lt : b < s.heap.objs.size := by rcases en_two hb with rfl | rfl <;> assumption
      rw [upd_ne (Nat.ne_of_lt lt)]
      exact (hf b hb).1
  done := by
    intro X hP hw hK hc i pins s σ H E I hf st hg
    subst hP hw hK
    obtain ⟨⟨old, he⟩, hit, hne⟩ := st
    obtain ⟨xs, hq, hx⟩ := hg
    obtain ⟨its, rv, p, hz⟩ := I.tuple hq
    obtain ⟨f0, f1, f2, f3, f4, f5⟩ := hf it (by simp)
    have hl := rv.length
    exact en_stop (zsub_tup hia) (I.ok.hd hc) he ⟨hit, (show s.heap.IsTuple a its.toArray from p)⟩ (by simp; omega) fun h' eb => ⟨rfl, I.turned (t' := s.toks) (fun b o hb q => eb b o hb q) f0 f1 f3 f4 f5⟩
  self := fun A i s Q E ⟨⟨_, he⟩, _⟩ h => wpAny_pyIter_enum he h
end L2

/-! DK10: enumerate of a list or a tuple, on data. -/
namespace L2
open PySem PySem.Spec PyProof.Rows
def iEnumE (K : PySem.W.Frag) (ta : TA) : TI := fun σ H R => ta σ H fun vs H1 => ∃ a xs, vs = [.ref a] ∧ ((SqL K H1 a xs ∧ R (Ite K a) H1) ∨ (SqT K H1 a xs ∧ R (IteT K a) H1))
theorem pi_enumE {X : Cx} {e : Expr} {ta : TA} {p pos tpos : Pos} {elts : List Expr} {kk : Nat} (hg : Gl X "enumerate") (hm : X.mg "enumerate" = none) (ha : PA X [e] ta) (hs : starEach [e] X.env = [(false, eval e X.env)] := by rfl) :
    PI X (.Tuple elts kk tpos) (.Call (.Name "enumerate" p) [e] [] pos) (iEnumE X.K ta) := by
  refine ⟨fun pins s σ H R I h => ?_⟩
  refine Call_ (ld_blt I hg hm boot_enumerate (PyProof.Rows.callWith_type1 (thn (ha.run pos pins s σ H _ I h) fun us t ⟨vs, H1, I1, r1, a, xs, ex, q⟩ => ?_) hs rfl))
  subst ex
  obtain ⟨u, rfl, ru⟩ := r1.one
  obtain rfl : u = Value.ref a := ru
  have fresh : ∀ b, b ∈ [t.heap.objs.size + 1, t.heap.objs.size] → FpOk X pins H1 b := fun b hb => by
    have le : t.heap.objs.size ≤ b := by rcases en_two hb with q | q <;> (rw [q]; omega)
    exact I1.fpOk le (I1.hok.fresh le)
  rcases q with ⟨qx, q⟩ | ⟨qx, q⟩
  · obtain ⟨its, _, p1, _⟩ := I1.list qx
    refine call_enumerate_list p1.isList fun h' he hit _ hk => wpAny_pyIter_enum he ?_
    exact ⟨_, _, _, _, H1, rfl, (I1.kept (t' := t.toks) hk : Inv X pins σ H1 { t with heap := h' }), turn_enum a (t.heap.objs.size + 1) t.heap.objs.size, ⟨⟨.none, he⟩, hit, Nat.succ_ne_self _⟩, fresh, q⟩
  · obtain ⟨its, _, p1, _⟩ := I1.tuple qx
    obtain ⟨o, ho, _⟩ := id p1
    have lt : a < t.heap.objs.size := Heap.lt_size ho
    refine en_call (show t.heap.IsTuple a its.toArray from p1) fun h' he hit hk => wpAny_pyIter_enum he ?_
    exact ⟨_, _, _, _, H1, rfl, (I1.kept (t' := t.toks) hk : Inv X pins σ H1 { t with heap := h' }), en_turn a (t.heap.objs.size + 1) t.heap.objs.size (Nat.ne_of_gt lt) (Nat.ne_of_gt (Nat.lt_succ_of_lt lt)), ⟨⟨.none, he⟩, hit, Nat.succ_ne_self _⟩, fresh, q⟩
theorem walk_enumT {K : PySem.W.Frag} {a : Addr} {xs : List V} : Walk (IteT K a) xs.length (fun H => SqT K H a xs) (YPair (fun i => some (.int (i : Nat))) (fun i => xs[i]?)) := by
  refine ⟨fun i _ hi q => ⟨xs, xs[i], q, List.getElem?_eq_getElem hi⟩, fun _ q => ⟨xs, q, Nat.le_refl _⟩, fun i H v H' _ q y => ?_⟩
  obtain ⟨T, x, h1, h2, h3, h4⟩ := y
  exact ⟨T, .int (i : Nat), x, h1, h2, h3, rfl, h4 xs q⟩
end L2
namespace DL
open PySem PySem.Spec PyProof.Rows L2
section
variable {X : Cx} {K : PySem.W.Frag} {mg : Str → Option Value} {E : XK}
def enumE : D → Option (List D)
  | .list ds => some (enumFrom 0 ds)
  | .tuple ds => some (enumFrom 0 ds)
  | _ => none
def mEnumE (a : R → M (D × R)) : R → M (List D × R) := fun ρ => a ρ >>= fun p => lo (enumE p.1) >>= fun z => .ok (z, p.2)
theorem ev_enumE {te : TE} {ga : R → M (D × R)} (ha : EvE K mg E te ga) : EvI K mg E (iEnumE K (tCons te tNil)) (mEnumE ga) := by
  intro F σ H ρ Q e x
  refine ha F σ H ρ _ e ((RP.bind x).later Stp.refl fun d ρ1 _ x1 v F1 H1 e1 s1 q1 => ?_)
  obtain ⟨es, he, x2⟩ := RP.pure x1
  replace he : enumE d = some es := he
  have pr : ∀ {xs : List V} {ds : List D}, Das K F1 H1 xs ds → es = enumFrom 0 ds → ∀ (i : Nat) (x y : V) (d : D), (some (V.int (i : Nat)) : Option V) = some x → xs[i]? = some y → es[i]? = some d → ∃ a b, d = .tuple [a, b] ∧ Da K F1 H1 x a ∧ Da K F1 H1 y b := by
    intro xs ds q e i x y d hx hy hd
    subst e
    obtain ⟨d', h1, h2⟩ := enumFrom_get hd
    obtain ⟨v, h3, h4⟩ := q.get h1
    rw [hy] at h3
    obtain rfl := Option.some.inj h3
    obtain rfl := Option.some.inj hx
    exact ⟨_, _, h2, by rw [Nat.zero_add]; exact .int _, h4⟩
  cases q1 with
  | lst f r q =>
    rename_i a xs ds hr0
    obtain rfl := Option.some.inj he
    exact ⟨a, xs, rfl, .inl ⟨SqL.of r, x2 _ F1 H1 e1 s1 (wk_pair (n := xs.length) (by rw [enumFrom_len, q.length]) walk_enum (fun F2 H2 k => SqL.of ((k.fro a f).2 _ r)) (pr q rfl))⟩⟩
  | tup r q =>
    rename_i a xs ds hr0
    obtain rfl := Option.some.inj he
    exact ⟨a, xs, rfl, .inr ⟨r, x2 _ F1 H1 e1 s1 (wk_pair (n := xs.length) (by rw [enumFrom_len, q.length]) walk_enumT (fun F2 H2 k => k.sqT r) (pr q rfl))⟩⟩
  | _ => cases he
theorem di_enumE {e : Expr} {te : TE} {g : R → M (D × R)} {p pos tpos : Pos} {elts : List Expr} {kk : Nat} (hm : X.mg "enumerate" = none) (h : DE X E e te g) (hg : Gl X "enumerate" := by rfl) (hs : starEach [e] X.env = [(false, eval e X.env)] := by rfl) :
    DI X E (.Tuple elts kk tpos) (.Call (.Name "enumerate" p) [e] [] pos) (iEnumE X.K (tCons te tNil)) (mEnumE g) := ⟨pi_enumE hg hm (pa_cons h.pe pa_nil hs) hs, ev_enumE h.ev⟩
end
end DL

/-! DM3: reckoning rules for the mirrors of DK4 to DK10. -/
namespace DL
open PySem PySem.Spec PyProof.Rows L2
namespace P0
section
variable {ρ : R} {Q : D → R → Prop} {QL : List D → R → Prop} {QF : Fl → R → Prop} {a b c : R → M (D × R)} {i j l : Nat}
theorem w_zip : Wp (mZip a b ρ) QL ↔ Wp (a ρ) fun x ρ1 => Wp (b ρ1) fun y ρ2 => Ok (zipO x y) fun z => QL z ρ2 := by
  unfold mZip
  simp only [wp_bind, wp_lo, wp_ok]
theorem w_enumE : Wp (mEnumE a ρ) QL ↔ Wp (a ρ) fun x ρ1 => Ok (enumE x) fun z => QL z ρ1 := by
  unfold mEnumE
  simp only [wp_bind, wp_lo, wp_ok]
theorem w_par3 : Wp (mPar3 i j l a b c ρ) QF ↔ Wp (a ρ) fun x ρ1 => Wp (b ρ1) fun y ρ2 => Wp (c ρ2) fun z ρ3 => (i < ρ3.length ∧ j < ρ3.length ∧ l < ρ3.length) ∧ At (((ρ3.set i (.d x)).set j (.d y)).set l (.d z)) fun ρ4 => QF .nx ρ4 := by
  unfold mPar3
  simp only [wp_bind, wp_ite]
  exact Iff.rfl
theorem w_tupK : Wp (mTupK i ρ) Q ↔ SlK (ρ[i]?) fun kvs => kvs.length ≤ sizeLine ∧ Q (.tuple (kvs.map fun kv => kyD kv.1)) ρ := by
  unfold mTupK
  simp only [wp_lo, ok_ownK, wp_ite]
theorem w_chain {f f' : D → D → Option D} : Wp (mChain f f' a b c ρ) Q ↔ Wp (a ρ) fun x ρ1 => Wp (b ρ1) fun y ρ2 => Ok (f x y) fun z => Ok (boolD z) fun k => Br k (Wp (c ρ2) fun w ρ3 => Ok (f' y w) fun v => Q v ρ3) (Q (.bool false) ρ2) := by
  unfold mChain
  simp only [wp_bind, wp_lo]
  have : ∀ (y : D) (ρ2 : R) (k : Bool), Wp (if k = true then c ρ2 >>= fun r => lo (f' y r.1) >>= fun w => .ok (w, r.2) else .ok (.bool false, ρ2)) Q ↔ Br k (Wp (c ρ2) fun w ρ3 => Ok (f' y w) fun v => Q v ρ3) (Q (.bool false) ρ2) := fun y ρ2 k => by
    cases k
    · simp [Br, wp_ok]
    · simp only [Br, if_true, wp_bind, wp_lo, wp_ok]
  simp only [this]
theorem ok_extA {es : List D} {P : R → Prop} : (Ok (extA ρ i (.list es)) P ↔ SlL (ρ[i]?) fun ds => ds.length + es.length ≤ sizeLine ∧ At (ρ.set i (.l (ds ++ es))) P) ∧ (Ok (extA ρ i (.tuple es)) P ↔ SlL (ρ[i]?) fun ds => ds.length + es.length ≤ sizeLine ∧ At (ρ.set i (.l (ds ++ es))) P) := by
  unfold extA ownL SlL At
  constructor <;>
  · rcases ρ[i]? with _ | s
    · exact Iff.rfl
    · cases s <;> first | exact Iff.rfl | skip
      simp only [Option.bind]
      exact ok_ite
theorem w_extA : Wp (mExtA i a ρ) QF ↔ SlL (ρ[i]?) fun _ => Wp (a ρ) fun x ρ1 => Ok (extA ρ1 i x) fun ρ2 => QF .nx ρ2 := by
  unfold mExtA
  simp only [wp_bind, wp_lo, ok_ownL, wp_ok]
theorem w_pop : Wp (mPop i ρ) Q ↔ SlL (ρ[i]?) fun ds => Ok (ds[ds.length - 1]?) fun d => At (ρ.set i (.l ds.dropLast)) fun ρ1 => Q d ρ1 := by
  unfold mPop
  rw [wp_lo1]
  unfold popAt ownL SlL At
  rcases ρ[i]? with _ | s
  · exact Iff.rfl
  · cases s <;> first | exact Iff.rfl | skip
    rename_i ds
    simp only [Option.bind]
    cases ds[ds.length - 1]? <;> exact Iff.rfl
theorem w_retO : Wp (mRetO i ρ) QF ↔ SlL (ρ[i]?) fun ds => At (ρ.set i .un) fun ρ1 => QF (.rt (.list ds)) ρ1 := by
  unfold mRetO
  simp only [wp_lo, ok_ownL, wp_ok]
  exact Iff.rfl
theorem w_while_succ {n : Nat} {tst : R → M (Bool × R)} {s1 : SM} : Wp (whileL tst s1 (n + 1) ρ) QF ↔ Wp (tst ρ) fun k ρ1 => Br k (Wp (s1 ρ1) (Tn (fun ρ2 => Wp (whileL tst s1 n ρ2) QF) QF)) (QF .nx ρ1) := by
  show Wp (tst ρ >>= _) QF ↔ _
  simp only [wp_bind]
  cases tst ρ with
  | error e => exact Iff.rfl
  | ok p =>
    obtain ⟨k, ρ1⟩ := p
    cases k
    · exact Iff.rfl
    · show Wp (s1 ρ1 >>= _) QF ↔ Br true (Wp (s1 ρ1) _) _
      simp only [wp_bind, br_true]
      cases s1 ρ1 with
      | error e => exact Iff.rfl
      | ok p => obtain ⟨fl, ρ2⟩ := p; cases fl <;> exact Iff.rfl
theorem w_inK {neg : Bool} : Wp (mInK neg i a ρ) Q ↔ Wp (a ρ) fun k ρ1 => SlK (ρ1[i]?) fun kvs => Ok (keyOf k) fun m => Q (.bool (if neg then !(valD kvs m).isSome else (valD kvs m).isSome)) ρ1 := by
  unfold mInK
  simp only [wp_bind, wp_lo, ok_getAt, wp_ok]
end
end P0
section
variable {ρ : R} {Q : D → R → Prop} {QL : List D → R → Prop} {QF : Fl → R → Prop} {a b c : R → M (D × R)} {i j l : Nat}
theorem w_zip : Wp (mZip a b ρ) QL ↔ Wp (a ρ) fun x ρ1 => Wp (b ρ1) fun y ρ2 => Ok (zipO x y) fun z => QL z ρ2 := P0.w_zip
theorem w_enumE : Wp (mEnumE a ρ) QL ↔ Wp (a ρ) fun x ρ1 => Ok (enumE x) fun z => QL z ρ1 := P0.w_enumE
theorem w_par3 : Wp (mPar3 i j l a b c ρ) QF ↔ Wp (a ρ) fun x ρ1 => Wp (b ρ1) fun y ρ2 => Wp (c ρ2) fun z ρ3 => (i < ρ3.length ∧ j < ρ3.length ∧ l < ρ3.length) ∧ At (((ρ3.set i (.d x)).set j (.d y)).set l (.d z)) fun ρ4 => QF .nx ρ4 := P0.w_par3
theorem w_tupK : Wp (mTupK i ρ) Q ↔ SlK (ρ[i]?) fun kvs => kvs.length ≤ sizeLine ∧ Q (.tuple (kvs.map fun kv => kyD kv.1)) ρ := P0.w_tupK
theorem w_chain {f f' : D → D → Option D} : Wp (mChain f f' a b c ρ) Q ↔ Wp (a ρ) fun x ρ1 => Wp (b ρ1) fun y ρ2 => Ok (f x y) fun z => Ok (boolD z) fun k => Br k (Wp (c ρ2) fun w ρ3 => Ok (f' y w) fun v => Q v ρ3) (Q (.bool false) ρ2) := P0.w_chain
theorem ok_extA {es : List D} {P : R → Prop} : (Ok (extA ρ i (.list es)) P ↔ SlL (ρ[i]?) fun ds => ds.length + es.length ≤ sizeLine ∧ At (ρ.set i (.l (ds ++ es))) P) ∧ (Ok (extA ρ i (.tuple es)) P ↔ SlL (ρ[i]?) fun ds => ds.length + es.length ≤ sizeLine ∧ At (ρ.set i (.l (ds ++ es))) P) := P0.ok_extA
theorem w_extA : Wp (mExtA i a ρ) QF ↔ SlL (ρ[i]?) fun _ => Wp (a ρ) fun x ρ1 => Ok (extA ρ1 i x) fun ρ2 => QF .nx ρ2 := P0.w_extA
theorem w_pop : Wp (mPop i ρ) Q ↔ SlL (ρ[i]?) fun ds => Ok (ds[ds.length - 1]?) fun d => At (ρ.set i (.l ds.dropLast)) fun ρ1 => Q d ρ1 := P0.w_pop
theorem w_retO : Wp (mRetO i ρ) QF ↔ SlL (ρ[i]?) fun ds => At (ρ.set i .un) fun ρ1 => QF (.rt (.list ds)) ρ1 := P0.w_retO
theorem w_while_succ {n : Nat} {tst : R → M (Bool × R)} {s1 : SM} : Wp (whileL tst s1 (n + 1) ρ) QF ↔ Wp (tst ρ) fun k ρ1 => Br k (Wp (s1 ρ1) (Tn (fun ρ2 => Wp (whileL tst s1 n ρ2) QF) QF)) (QF .nx ρ1) := P0.w_while_succ
theorem w_inK {neg : Bool} : Wp (mInK neg i a ρ) Q ↔ Wp (a ρ) fun k ρ1 => SlK (ρ1[i]?) fun kvs => Ok (keyOf k) fun m => Q (.bool (if neg then !(valD kvs m).isSome else (valD kvs m).isSome)) ρ1 := P0.w_inK
end
end DL

/-! DM4: reckoning with mirrors: more data, loops over states, texts. -/
namespace DL
open PySem PySem.Spec PyProof.Rows L2
section
variable {K : D → Prop} {KL : List D → Prop}
theorem ofString_inj {a b : String} : (Str.ofString a = Str.ofString b) ↔ a = b := by
  rw [Str.ofString_eq_toList, Str.ofString_eq_toList]
  constructor
  · intro h
    have h : a.toList.map Char.toNat = b.toList.map Char.toNat := by simpa using h
    have inj : ∀ (x y : List Char), x.map Char.toNat = y.map Char.toNat → x = y := by
      intro x
      induction x with
      | nil => intro y e; cases y with
        | nil => rfl
        | cons => cases e
      | cons c x ih => intro y e; cases y with
        | nil => cases e
        | cons d y =>
          rw [List.map_cons, List.map_cons] at e
          obtain ⟨e1, e2⟩ := List.cons.inj e
          rw [ih y e2, Char.toNat_inj.mp e1]
    exact String.toList_inj.mp (inj _ _ h)
  · rintro rfl; rfl
theorem eqv_str {i j : Str} : PyData.eqv (.str i) (.str j) = decide (i = j) := by
  unfold PyData.eqv
  first | rfl | simp
theorem q_eqS {i j : Str} : Ok (eqD (.str i) (.str j)) K ↔ K (.bool (decide (i = j))) := by rw [eqD_of (eqC_of rfl rfl (by simp [PyData.depth])), eqv_str]; exact Iff.rfl
theorem q_neS {i j : Str} : Ok (neD (.str i) (.str j)) K ↔ K (.bool (!decide (i = j))) := by rw [neD_of (eqC_of rfl rfl (by simp [PyData.depth])), eqv_str]; exact Iff.rfl
theorem q_zLL {a b : List D} : Ok (zipO (.list a) (.list b)) KL ↔ KL (zipD a b) := Iff.rfl
theorem q_zTT {a b : List D} : Ok (zipO (.tuple a) (.tuple b)) KL ↔ KL (zipD a b) := Iff.rfl
theorem q_zLT {a b : List D} : Ok (zipO (.list a) (.tuple b)) KL ↔ KL (zipD a b) := Iff.rfl
theorem q_eeL {a : List D} : Ok (enumE (.list a)) KL ↔ KL (enumFrom 0 a) := Iff.rfl
theorem q_eeT {a : List D} : Ok (enumE (.tuple a)) KL ↔ KL (enumFrom 0 a) := Iff.rfl
theorem q_rvL {a : List D} : Ok (revA (.list a)) K ↔ K (.list a.reverse) := Iff.rfl
theorem q_rvT {a : List D} : Ok (revA (.tuple a)) K ↔ K (.tuple a.reverse) := Iff.rfl
theorem q_mulT {x : D} {l : List D} {i : Int} : Ok (mulA (.tuple (x :: l)) (.int i)) K ↔ (0 ≤ i ∧ i ≤ 1000 ∧ l.length < 1000) ∧ K (.tuple (List.replicate i.toNat (x :: l)).flatten) := ok_ite
theorem q_str {i : Int} : Ok (strD [.int i]) K ↔ i.natAbs.log2 < 1920 ∧ K (.str (toString i)) := ok_ite
theorem q_lenS {z : Str} : Ok (lenD [.str z]) K ↔ z.length ≤ sizeLine ∧ K (.int z.length) := ok_ite
theorem plain_strs : ∀ xs : List Str, PyData.plainAll (xs.map PyData.str) = true
  | [] => rfl
  | a :: L => by
    show (PyData.plain (.str a) && PyData.plainAll (L.map PyData.str)) = true
    rw [plain_strs L]; rfl
theorem any_strs (a : Str) : ∀ xs : List Str, ((xs.map PyData.str).any fun z => PyData.eqv z (.str a)) = decide (a ∈ xs)
  | [] => by simp
  | b :: xs => by
    rw [List.map_cons, List.any_cons, any_strs a xs, eqv_str]
    by_cases h : b = a
    · subst h; simp
    · have : ¬ a = b := fun e => h e.symm
      simp [h, this]
theorem inS_ {a : Str} {xs : List Str} (neg : Bool) : inSeq neg (.str a) (xs.map .str) = some (.bool (if neg then !decide (a ∈ xs) else decide (a ∈ xs))) := by
  unfold inSeq
  rw [plain_strs, any_strs]
  rfl
theorem q_inL {a : Str} {xs : List Str} : Ok (inD false (.str a) (.list (xs.map .str))) K ↔ K (.bool (decide (a ∈ xs))) := o_iff (inS_ false)
theorem q_inT {a : Str} {xs : List Str} : Ok (inD false (.str a) (.tuple (xs.map .str))) K ↔ K (.bool (decide (a ∈ xs))) := o_iff (inS_ false)
theorem q_niL {a : Str} {xs : List Str} : Ok (inD true (.str a) (.list (xs.map .str))) K ↔ K (.bool (!decide (a ∈ xs))) := o_iff (inS_ true)
theorem q_niT {a : Str} {xs : List Str} : Ok (inD true (.str a) (.tuple (xs.map .str))) K ↔ K (.bool (!decide (a ∈ xs))) := o_iff (inS_ true)
theorem q_in2 {a x y : Str} : Ok (inD false (.str a) (.tuple [.str x, .str y])) K ↔ K (.bool (decide (a ∈ [x, y]))) := q_inT (xs := [x, y])
theorem q_in3 {a x y z : Str} : Ok (inD false (.str a) (.tuple [.str x, .str y, .str z])) K ↔ K (.bool (decide (a ∈ [x, y, z]))) := q_inT (xs := [x, y, z])
theorem q_in4 {a x y z u : Str} : Ok (inD false (.str a) (.tuple [.str x, .str y, .str z, .str u])) K ↔ K (.bool (decide (a ∈ [x, y, z, u]))) := q_inT (xs := [x, y, z, u])
end
/-! loops over states -/
inductive F2 {α β : Type} (r : α → β → Prop) : List α → List β → Prop
  | nil : F2 r [] []
  | cons {a : α} {b : β} {as : List α} {bs : List β} : r a b → F2 r as bs → F2 r (a :: as) (b :: bs)
theorem F2.length {α β : Type} {r : α → β → Prop} : ∀ {as : List α} {bs : List β}, F2 r as bs → as.length = bs.length
  | _, _, .nil => rfl
  | _, _, .cons _ h => by rw [List.length_cons, List.length_cons, h.length]
theorem F2.ex {α β γ : Type} {e : γ → β} {P : γ → Prop} : ∀ {as : List α} {bs : List β}, F2 (fun _ y => ∃ b, y = e b ∧ P b) as bs → ∃ cs : List γ, bs = cs.map e ∧ cs.length = as.length ∧ ∀ c ∈ cs, P c
  | _, _, .nil => ⟨[], rfl, rfl, by simp⟩
  | _, _, .cons ⟨c, e1, p⟩ h => by
    obtain ⟨cs, h1, h2, h3⟩ := h.ex
    subst e1 h1
    refine ⟨c :: cs, rfl, by simp [h2], fun x hx => ?_⟩
    rcases List.mem_cons.mp hx with z | z
    · subst z; exact p
    · exact h3 x z
theorem comp_st {σ α : Type} {vs : List Nat} {tgt : D → R → M R} {el : R → M (D × R)} {mk : σ → R} {I : σ → Prop} {enc : α → D} {r : α → D → Prop} : ∀ {L : List α} {s : σ} {QL : List D → R → Prop},
    (∀ x ∈ L, ∀ s, I s → TgW (tgt (enc x) (mk s)) fun ρ1 => Wp (el ρ1) fun y ρ2 => At (wipeR ρ2 vs) fun ρ3 => r x y ∧ ∃ s', I s' ∧ ρ3 = mk s') → I s → (∀ ys s', F2 r L ys → I s' → QL ys (mk s')) → Wp (compL vs tgt mYes el (L.map enc) (mk s)) QL
  | [], s, QL, _, i, k => k [] s .nil i
  | x :: L, s, QL, h, i, k => by
    rw [List.map_cons, w_comp_cons]
    have z := h x List.mem_cons_self s i
    unfold TgW P0.TgW at z ⊢
    split
    · rename_i ρ1 e
      rw [e] at z
      refine w_yes.mpr (br_true.mpr ?_)
      refine wp_mono z fun y ρ2 e2 => ?_
      rw [at_iff] at e2 ⊢
      obtain ⟨e1, s', i', e2⟩ := e2
      have e2 : wipeR ρ2 vs = mk s' := e2
      rw [e2]
      exact comp_st (fun x hx => h x (List.mem_cons_of_mem _ hx)) i' fun ys s'' q i'' => k (y :: ys) s'' (.cons e1 q) i''
    · rename_i e
      rw [e] at z
      exact z
theorem comp_stL {σ α : Type} {vs : List Nat} {tgt : D → R → M R} {el : R → M (D × R)} {mk : σ → R} (I : List α → σ → Prop) {enc : α → D} {r : α → D → Prop} : ∀ {L : List α} {s : σ} {QL : List D → R → Prop},
    (∀ x L s, I (x :: L) s → TgW (tgt (enc x) (mk s)) fun ρ1 => Wp (el ρ1) fun y ρ2 => At (wipeR ρ2 vs) fun ρ3 => r x y ∧ ∃ s', I L s' ∧ ρ3 = mk s') → I L s → (∀ ys s', F2 r L ys → I [] s' → QL ys (mk s')) → Wp (compL vs tgt mYes el (L.map enc) (mk s)) QL
  | [], s, QL, _, i, k => k [] s .nil i
  | x :: L, s, QL, h, i, k => by
    rw [List.map_cons, w_comp_cons]
    have z := h x L s i
    unfold TgW P0.TgW at z ⊢
    split
    · rename_i ρ1 e
      rw [e] at z
      refine w_yes.mpr (br_true.mpr ?_)
      refine wp_mono z fun y ρ2 e2 => ?_
      rw [at_iff] at e2 ⊢
      obtain ⟨e1, s', i', e2⟩ := e2
      have e2 : wipeR ρ2 vs = mk s' := e2
      rw [e2]
      exact comp_stL I h i' fun ys s'' q i'' => k (y :: ys) s'' (.cons e1 q) i''
    · rename_i e
      rw [e] at z
      exact z
theorem comp_all {α : Type} {vs : List Nat} {tgt : D → R → M R} {el : R → M (D × R)} {ρ : R} {enc f : α → D} : ∀ {L : List α} (h : ∀ x ∈ L, TgW (tgt (enc x) ρ) fun ρ1 => Wp (el ρ1) fun y ρ2 => At (wipeR ρ2 vs) fun ρ3 => y = f x ∧ ρ3 = ρ), compL vs tgt mYes el (L.map enc) ρ = .ok (L.map f, ρ)
  | [], _ => rfl
  | x :: L, h => by
    refine wp_eq ?_
    rw [List.map_cons, w_comp_cons]
    have z := h x List.mem_cons_self
    unfold TgW P0.TgW at z ⊢
    split
    · rename_i ρ1 e
      rw [e] at z
      refine w_yes.mpr (br_true.mpr ?_)
      refine wp_mono z fun y ρ2 e2 => ?_
      rw [at_iff] at e2 ⊢
      obtain ⟨e1, e2⟩ := e2
      subst e1
      have e2 : wipeR ρ2 vs = ρ := e2
      rw [e2, comp_all fun x hx => h x (List.mem_cons_of_mem _ hx)]
      exact ⟨rfl, rfl⟩
    · rename_i e
      rw [e] at z
      exact z
theorem comp_some {α : Type} {vs : List Nat} {tgt : D → R → M R} {tst : R → M (Bool × R)} {el : R → M (D × R)} {ρ : R} {enc f : α → D} {p : α → Bool} : ∀ {L : List α} (h : ∀ x ∈ L, TgW (tgt (enc x) ρ) fun ρ1 => Wp (tst ρ1) fun k ρ2 => k = p x ∧ Wp (el ρ2) fun y ρ3 => At (wipeR ρ3 vs) fun ρ4 => y = f x ∧ ρ4 = ρ ∧ wipeR ρ2 vs = ρ), compL vs tgt tst el (L.map enc) ρ = .ok ((L.filter p).map f, ρ)
  | [], _ => rfl
  | x :: L, h => by
    refine wp_eq ?_
    rw [List.map_cons, w_comp_cons]
    have z := h x List.mem_cons_self
    unfold TgW P0.TgW at z ⊢
    split
    · rename_i ρ1 e
      rw [e] at z
      refine wp_mono z fun k ρ2 ⟨hk, z⟩ => ?_
      cases hp : p x with
      | true =>
        rw [hk, hp, br_true]
        refine wp_mono z fun y ρ3 e2 => ?_
        rw [at_iff] at e2 ⊢
        obtain ⟨e1, e2, e3⟩ := e2
        subst e1
        have e2 : wipeR ρ3 vs = ρ := e2
        rw [e2, comp_some fun x hx => h x (List.mem_cons_of_mem _ hx), List.filter_cons, if_pos hp]
        exact ⟨rfl, rfl⟩
      | false =>
        rw [hk, hp, br_false]
        have e3 : wipeR ρ2 vs = ρ := by
          unfold Wp P0.Wp at z
          split at z
          · exact (at_iff.mp z).2.2
          · exact z.elim
        rw [at_iff, e3, comp_some fun x hx => h x (List.mem_cons_of_mem _ hx), List.filter_cons, if_neg (by rw [hp]; decide)]
        exact ⟨rfl, rfl⟩
    · rename_i e
      rw [e] at z
      exact z
/-- a for over encoded items, with a state -/
theorem for_st {σ α : Type} {tgt : D → R → M R} {s1 : SM} {enc : α → D} {QF : Fl → R → Prop} (I : List α → σ → Prop) (mk : σ → R) (hs : ∀ x L s, I (x :: L) s → TgW (tgt (enc x) (mk s)) fun ρ1 => Wp (s1 ρ1) (Tn (fun ρ2 => ∃ s', I L s' ∧ ρ2 = mk s') QF)) (he : ∀ s, I [] s → QF .nx (mk s)) : ∀ {L : List α} {s : σ}, I L s → Wp (forL tgt s1 (L.map enc) (mk s)) QF
  | [], s, i => he s i
  | x :: L, s, i => by
    rw [List.map_cons, w_for_cons]
    have z := hs x L s i
    unfold TgW P0.TgW at z ⊢
    split
    · rename_i ρ1 e
      rw [e] at z
      refine wp_mono z fun fl ρ2 q => ?_
      cases fl with
      | nx =>
        obtain ⟨s', i', rfl⟩ := q
        exact for_st I mk hs he i'
      | ct =>
        obtain ⟨s', i', rfl⟩ := q
        exact for_st I mk hs he i'
      | bk => exact q
      | rt d => exact q
    · rename_i e
      rw [e] at z
      exact z
theorem intsOf_mapf {α : Type} (g : α → Int) : ∀ L : List α, intsOf (L.map fun p => .int (g p)) = some (L.map g)
  | [] => rfl
  | a :: L => by
    show (intsOf (L.map fun p => .int (g p))).map (g a :: ·) = _
    rw [intsOf_mapf g L]; rfl
theorem zipD_map {α β : Type} {e : α → D} {f : β → D} : ∀ (a : List α) (b : List β), zipD (a.map e) (b.map f) = (a.zip b).map fun p => .tuple [e p.1, f p.2]
  | [], _ => rfl
  | _ :: _, [] => rfl
  | x :: a, y :: b => by
    show _ :: zipD (a.map e) (b.map f) = _
    rw [zipD_map a b]; rfl
theorem enumFrom_map {α : Type} {e : α → D} : ∀ (n : Nat) (a : List α), enumFrom n (a.map e) = (a.zipIdx n).map fun p => .tuple [.int (p.2 : Nat), e p.1]
  | _, [] => rfl
  | n, x :: a => by
    show _ :: enumFrom (n + 1) (a.map e) = _
    rw [enumFrom_map (n + 1) a]; rfl
theorem range_ok {i : Int} (h0 : 0 ≤ i) (h : i ≤ 1000) : rangeD [.int i] = some ((List.range i.toNat).map fun z => .int (z : Nat)) := by
  simp only [rangeD]
  rw [if_pos ⟨by omega, by omega⟩]
theorem cut_drop {α : Type} (xs : List α) (n : Nat) : cutL xs (some (n : Int)) none = xs.drop n := by
  unfold cutL
  rw [HT.sIx_nat, HT.sIx_none]
  by_cases h : n ≤ xs.length
  · rw [Nat.min_eq_left h]
    exact List.take_of_length_le (by rw [List.length_drop]; omega)
  · rw [Nat.min_eq_right (by omega), List.drop_of_length_le (Nat.le_refl _), List.drop_of_length_le (by omega), List.take_nil]
theorem cut_take {α : Type} (xs : List α) (n : Nat) : cutL xs none (some (n : Int)) = xs.take n := by
  unfold cutL
  rw [HT.sIx_nat, HT.sIx_none]
  by_cases h : n ≤ xs.length
  · rw [Nat.min_eq_left h]; rfl
  · rw [Nat.min_eq_right (by omega), List.take_of_length_le (by omega : xs.length ≤ n)]
    show (xs.drop 0).take (xs.length - 0) = xs
    rw [List.drop_zero, Nat.sub_zero, List.take_length]
theorem cut_drop1 {α : Type} (xs : List α) : cutL xs (some 1) none = xs.drop 1 := cut_drop xs 1
theorem cut_drop2 {α : Type} (xs : List α) : cutL xs (some 2) none = xs.drop 2 := cut_drop xs 2
theorem cut_drop3 {α : Type} (xs : List α) : cutL xs (some 3) none = xs.drop 3 := cut_drop xs 3
theorem cut_take1 {α : Type} (xs : List α) : cutL xs none (some 1) = xs.take 1 := cut_take xs 1
theorem cut_take4 {α : Type} (xs : List α) : cutL xs none (some 4) = xs.take 4 := cut_take xs 4
theorem cut_dropI {α : Type} (xs : List α) {i : Int} (h : 0 ≤ i) : cutL xs (some i) none = xs.drop i.toNat := by
  have e : i = (i.toNat : Int) := by omega
  rw [e]; exact cut_drop xs _
theorem cut_takeI {α : Type} (xs : List α) {i : Int} (h : 0 ≤ i) : cutL xs none (some i) = xs.take i.toNat := by
  have e : i = (i.toNat : Int) := by omega
  rw [e]; exact cut_take xs _
end DL

/-! DM5 (printed by mkdm2.py): the rules at a glance. -/
namespace DL
open PySem PySem.Spec PyProof.Rows L2
def W0 := (And.intro (And.intro (And.intro (And.intro (And.intro (And.intro (And.intro @w_var @w_c) (And.intro @w_op (And.intro @w_un @w_fn))) (And.intro (And.intro @w_fnO (And.intro @w_nil @w_cons)) (And.intro @w_tup (And.intro @w_fz @w_if)))) (And.intro (And.intro (And.intro @w_test (And.intro @w_and @w_or)) (And.intro @w_not (And.intro @w_andV @w_orV))) (And.intro (And.intro @w_yes (And.intro @w_notV @w_isa)) (And.intro @w_none (And.intro @w_part @w_cut))))) (And.intro (And.intro (And.intro (And.intro @w_revL (And.intro @w_bor @w_setI)) (And.intro @w_app (And.intro @w_ext @w_newK))) (And.intro (And.intro @w_putK (And.intro @w_getK @w_atK)) (And.intro @w_sortK (And.intro @w_scrL @w_scrC)))) (And.intro (And.intro (And.intro @w_anil (And.intro @w_aD @w_aO)) (And.intro @w_call (And.intro @w_callO @w_skip))) (And.intro (And.intro @w_brk (And.intro @w_cont @nx_nx)) (And.intro @nx_rt (And.intro @nx_bk @nx_ct)))))) (And.intro (And.intro (And.intro (And.intro (And.intro @w_ret @w_retN) (And.intro @w_drop (And.intro @w_asg @w_own))) (And.intro (And.intro @w_par (And.intro @w_parO @t_set)) (And.intro @t_tup (And.intro @t_cons @t_nil)))) (And.intro (And.intro (And.intro @w_items (And.intro @w_enum @w_rng)) (And.intro @w_for (And.intro @w_lc @w_for_nil))) (And.intro (And.intro @tn_nx (And.intro @tn_ct @tn_bk)) (And.intro @tn_rt (And.intro @w_comp_nil @bd_rt))))) (And.intro (And.intro (And.intro (And.intro @bd_nx (And.intro @w_bodyO @w_body)) (And.intro @w_zip (And.intro @w_enumE @w_par3))) (And.intro (And.intro @w_tupK (And.intro @w_chain @w_extA)) (And.intro @w_pop (And.intro @w_retO @w_inK)))) (And.intro (And.intro (And.intro @ok_extAt (And.intro @ok_extA @q_eqS)) (And.intro @q_neS (And.intro @q_zLL @q_zTT))) (And.intro (And.intro @q_zLT (And.intro @q_eeL @q_eeT)) (And.intro @q_rvL (And.intro @q_rvT @q_mulT))))))) (And.intro (And.intro (And.intro (And.intro (And.intro (And.intro @q_str @q_lenS) (And.intro @q_inL (And.intro @q_inT @q_niL))) (And.intro (And.intro @q_niT (And.intro @q_in2 @q_in3)) (And.intro @q_in4 (And.intro @q_lt @q_le)))) (And.intro (And.intro (And.intro @q_gt (And.intro @q_ge @q_sub)) (And.intro @q_addI (And.intro @q_mul @q_fdiv))) (And.intro (And.intro @q_mod (And.intro @q_addT @q_addL)) (And.intro @q_addS (And.intro @q_eqI @q_neI))))) (And.intro (And.intro (And.intro (And.intro @q_eqB (And.intro @q_neB @q_ixl0)) (And.intro @q_ixl1 (And.intro @q_ixl2 @q_ixl3))) (And.intro (And.intro @q_ixl4 (And.intro @q_ixl5 @q_ixl6)) (And.intro @q_ixl7 (And.intro @q_lenl @q_tupl)))) (And.intro (And.intro (And.intro @q_itl (And.intro @q_sql @q_tl)) (And.intro @q_isNl (And.intro @q_noNl @q_cutl))) (And.intro (And.intro @q_ixt0 (And.intro @q_ixt1 @q_ixt2)) (And.intro @q_ixt3 (And.intro @q_ixt4 @q_ixt5)))))) (And.intro (And.intro (And.intro (And.intro (And.intro @q_ixt6 @q_ixt7) (And.intro @q_lent (And.intro @q_tupt @q_itt))) (And.intro (And.intro @q_sqt (And.intro @q_tt @q_isNt)) (And.intro @q_noNt (And.intro @q_cutt @q_isN)))) (And.intro (And.intro (And.intro @q_noN (And.intro @q_max2 @q_min2)) (And.intro @q_maxl (And.intro @q_sum @q_abs))) (And.intro (And.intro @q_int (And.intro @q_tB @q_tI)) (And.intro @q_bB (And.intro @q_iI @q_en))))) (And.intro (And.intro (And.intro (And.intro @q_rv (And.intro @q_kI @q_kS)) (And.intro @q_r2 (And.intro @q_r3 @q_r8))) (And.intro (And.intro @q_r12 (And.intro @q_x70 @q_x71)) (And.intro @q_x72 (And.intro @q_x73 @q_x74)))) (And.intro (And.intro (And.intro @q_x75 (And.intro @q_x76 @q_x30)) (And.intro @q_x31 (And.intro @q_x32 @q_p18))) (And.intro (And.intro @q_p12 (And.intro @q_p60 @q_pbig)) (And.intro @br_true (And.intro @br_false @br_not))))))))
def W1 := (And.intro (And.intro (And.intro (And.intro (And.intro (And.intro @ofString_inj @cut_drop1) (And.intro @cut_drop2 @cut_drop3)) (And.intro (And.intro @cut_take1 @cut_take4) (And.intro @q_vd (And.intro @q_vl @q_vk)))) (And.intro (And.intro (And.intro @q_vs @q_mulB) (And.intro @q_fdivB @q_modB)) (And.intro (And.intro @z_sl0 @z_sl1) (And.intro @z_sl2 (And.intro @z_oj0 @z_oj1))))) (And.intro (And.intro (And.intro (And.intro @z_oj2 @z_out1) (And.intro @z_out2 @z_out3)) (And.intro (And.intro @z_out4 @z_out5) (And.intro @z_out6 (And.intro @z_no0 @z_no1)))) (And.intro (And.intro (And.intro @z_os1 @z_os2) (And.intro @z_os3 (And.intro @z_is_tuple_int @z_is_tuple_bool))) (And.intro (And.intro @z_is_tuple_tuple @z_is_tuple_list) (And.intro @z_is_tuple_str (And.intro @z_is_tuple_none @z_is_bool_int)))))) (And.intro (And.intro (And.intro (And.intro (And.intro @z_is_bool_bool @z_is_bool_tuple) (And.intro @z_is_bool_list @z_is_bool_str)) (And.intro (And.intro @z_is_bool_none @z_is_int_int) (And.intro @z_is_int_bool (And.intro @z_is_int_tuple @z_is_int_list)))) (And.intro (And.intro (And.intro @z_is_int_str @z_is_int_none) (And.intro @z_is_str_int @z_is_str_bool)) (And.intro (And.intro @z_is_str_tuple @z_is_str_list) (And.intro @z_is_str_str (And.intro @z_is_str_none @z_is_list_int))))) (And.intro (And.intro (And.intro (And.intro @z_is_list_bool @z_is_list_tuple) (And.intro @z_is_list_list @z_is_list_str)) (And.intro (And.intro @z_is_list_none @z_rep1) (And.intro @z_rep2 (And.intro @z_rep3 @z_rep4)))) (And.intro (And.intro (And.intro @z_rep5 @z_rep6) (And.intro @z_rep7 (And.intro @z_rep8 @z_rep9))) (And.intro (And.intro @z_rep10 @z_rep11) (And.intro @at_iff (And.intro @ok_some @wp_ok)))))))
end DL

/-! printed by gen.py: the defs of termwarrant_k50_mentions -/
namespace DL
open PySem PySem.Spec PyProof.Rows L2
def top (i : Nat) : Stmt := PySem.Challenge.pw_termwarrant_k50_mentions.main.body.getD i (.Pass ⟨0, 0, 0, 0⟩)
structure TX (K : PySem.W.Frag) (mg : Str → Option Value) : Prop where
  f_abs : mg "abs" = none
  f_enumerate : mg "enumerate" = none
  f_int : mg "int" = none
  f_isinstance : mg "isinstance" = none
  f_len : mg "len" = none
  f_list : mg "list" = none
  f_range : mg "range" = none
  f_str : mg "str" = none
  f_sum : mg "sum" = none
  f_tuple : mg "tuple" = none
  f_zip : mg "zip" = none
  d_l_draw : ∃ f, (∃ fd, FunD K "_law_draw" "_law_draw" (defArgs (top 12)) (defBody (top 12)) (defScope (top 12)) [] [] f fd) ∧ mg "_law_draw" = some (.ref f)
  d_l_pick : ∃ f, (∃ fd, FunD K "_law_pick" "_law_pick" (defArgs (top 13)) (defBody (top 13)) (defScope (top 13)) [] [] f fd) ∧ mg "_law_pick" = some (.ref f)
  d_l_one : ∃ f, (∃ fd, FunD K "_law_one" "_law_one" (defArgs (top 14)) (defBody (top 14)) (defScope (top 14)) [] [] f fd) ∧ mg "_law_one" = some (.ref f)
  d_l_some : ∃ f, (∃ fd, FunD K "_law_some" "_law_some" (defArgs (top 21)) (defBody (top 21)) (defScope (top 21)) [] [] f fd) ∧ mg "_law_some" = some (.ref f)
  d_l_somes : ∃ f, (∃ fd, FunD K "_law_somes" "_law_somes" (defArgs (top 22)) (defBody (top 22)) (defScope (top 22)) [] [] f fd) ∧ mg "_law_somes" = some (.ref f)
  d_l_name : ∃ f, (∃ fd, FunD K "_law_name" "_law_name" (defArgs (top 15)) (defBody (top 15)) (defScope (top 15)) [] [] f fd) ∧ mg "_law_name" = some (.ref f)
  d_l_rooms : ∃ f, (∃ fd, FunD K "_law_rooms" "_law_rooms" (defArgs (top 23)) (defBody (top 23)) (defScope (top 23)) [] [] f fd) ∧ mg "_law_rooms" = some (.ref f)
  d_l_any_row : ∃ f, (∃ fd, FunD K "_law_any_row" "_law_any_row" (defArgs (top 24)) (defBody (top 24)) (defScope (top 24)) [] [] f fd) ∧ mg "_law_any_row" = some (.ref f)
  d_p_given_names : ∃ f, (∃ fd, FunD K "given_names" "given_names" (defArgs (top 8)) (defBody (top 8)) (defScope (top 8)) [] [] f fd) ∧ mg "given_names" = some (.ref f)
  d_p_entry_terms : ∃ f, (∃ fd, FunD K "entry_terms" "entry_terms" (defArgs (top 5)) (defBody (top 5)) (defScope (top 5)) [] [] f fd) ∧ mg "entry_terms" = some (.ref f)
  d_p_row_terms : ∃ f, (∃ fd, FunD K "row_terms" "row_terms" (defArgs (top 6)) (defBody (top 6)) (defScope (top 6)) [] [] f fd) ∧ mg "row_terms" = some (.ref f)
  d_p_parts_of : ∃ f, (∃ fd, FunD K "parts_of" "parts_of" (defArgs (top 1)) (defBody (top 1)) (defScope (top 1)) [] [] f fd) ∧ mg "parts_of" = some (.ref f)
  d_p_constants_in : ∃ f, (∃ fd, FunD K "constants_in" "constants_in" (defArgs (top 3)) (defBody (top 3)) (defScope (top 3)) [] [] f fd) ∧ mg "constants_in" = some (.ref f)
  d_p_mentions : ∃ f, (∃ fd, FunD K "mentions" "mentions" (defArgs (top 10)) (defBody (top 10)) (defScope (top 10)) [] [] f fd) ∧ mg "mentions" = some (.ref f)
  d_l_terms : ∃ f, (∃ fd, FunD K "_law_terms" "_law_terms" (defArgs (top 18)) (defBody (top 18)) (defScope (top 18)) [] [] f fd) ∧ mg "_law_terms" = some (.ref f)
  d_l_given : ∃ f, (∃ fd, FunD K "_law_given" "_law_given" (defArgs (top 17)) (defBody (top 17)) (defScope (top 17)) [] [] f fd) ∧ mg "_law_given" = some (.ref f)
  d_l_parts : ∃ f, (∃ fd, FunD K "_law_parts" "_law_parts" (defArgs (top 16)) (defBody (top 16)) (defScope (top 16)) [] [] f fd) ∧ mg "_law_parts" = some (.ref f)
  d_l_said : ∃ f, (∃ fd, FunD K "_law_said" "_law_said" (defArgs (top 19)) (defBody (top 19)) (defScope (top 19)) [] [] f fd) ∧ mg "_law_said" = some (.ref f)
  d_l_mentioned : ∃ f, (∃ fd, FunD K "_law_mentioned" "_law_mentioned" (defArgs (top 20)) (defBody (top 20)) (defScope (top 20)) [] [] f fd) ∧ mg "_law_mentioned" = some (.ref f)
  d_the_law : ∃ f, (∃ fd, FunD K "law" "law" (defArgs (top 25)) (defBody (top 25)) (defScope (top 25)) [] [] f fd) ∧ mg "law" = some (.ref f)
section
variable {Pr : Program} {w : World} {K : PySem.W.Frag} {mg : Str → Option Value} {base : Heap}
/-! _law_draw -/
abbrev s_l_draw : Stmt := top 12
theorem sc_l_draw : FnScope ["_law_script"] ["_law_script"] (defScope s_l_draw) := ⟨rfl, rfl, rfl, by decide +kernel, rfl, by decide +kernel, by decide +kernel⟩
def M_l_draw : FO := mBodyO 1 1 (mCons (mFz (mScrL 0)) (mCons (mC (.int 0)) (mCons (mC (.int 0)) (mCons (mC (.int 0)) (mCons (mC (.int 0)) (mCons (mC (.int 0)) (mCons (mFn sumD (mCons (mFz (mScrC 0 mNone (mPart (mC (.int 1))))) mNil)) mNil)))))))
theorem df_l_draw (gm : TX K mg) : Def Pr w K mg base 1 "_law_draw" ["_law_script"] (spO K mg 1 M_l_draw) := by
  obtain ⟨f, Fx, hg⟩ := gm.d_l_draw
  exact mk_defG Fx (fun fd F => fnO_ok F sc_l_draw rfl rfl fun cdv Ar outer s H E hr => ⟨_, (do_lstN 7 (da_cons (de_fz (do_scrL (pe_var (i := 0) rfl (by first | exact Or.inl rfl | exact Or.inr (Or.inl rfl) | exact Or.inr (Or.inr rfl))) gm.f_list)) (da_cons de_int (da_cons de_int (da_cons de_int (da_cons de_int (da_cons de_int (da_cons (de_fn (cr_sum rfl) fd_sum gm.f_sum (by decide +kernel) (da_cons (de_fz (do_scrC (pe_var (i := 0) rfl (by first | exact Or.inl rfl | exact Or.inr (Or.inl rfl) | exact Or.inr (Or.inr rfl))) dp_none (dp_some de_int))) da_nil)) da_nil))))))) (len_cons (len_cons (len_cons (len_cons (len_cons (len_cons (len_cons len_nil))))))))⟩) hg (fun fd F => F.bindsN fun _ _ _ _ _ _ us hl => match us, hl with | [_], _ => rfl)
/-! _law_pick -/
abbrev s_l_pick : Stmt := top 13
theorem sc_l_pick : FnScope ["_law_draw_here", "_law_many", "_law_cell", "_law_digit", "_law_one_here", "_law_two"] ["_law_draw_here", "_law_many"] (defScope s_l_pick) := ⟨rfl, rfl, rfl, by decide +kernel, rfl, by decide +kernel, by decide +kernel⟩
def b_l_pick : SM :=
  (mThen (mIf (mTest boolD (mOp ltD (mVar 1) (mC (.int 2)))) (mRet (mC (.int 0))) mSkip)
  (mThen (mIf (mBor (fun _ => true) 0 (mAnd (mTest boolD (mOp eqD (mOp ixD (mVar 0) (mC (.int 2))) (mC (.int 0)))) (mTest boolD (mOp eqD (mOp ixD (mVar 0) (mC (.int 3))) (mC (.int 0)))))) (mThen (mAsg (mBor noL 0 (mOp addD (mOp addD (mOp ixD (mVar 0) (mC (.int 6))) (mOp mulD (mC (.int 7919)) (mOp ixD (mVar 0) (mC (.int 5))))) (mC (.int 5)))) (mSet 2))
    (mThen (mIf (mBor (fun _ => true) 0 (mTest boolD (mOp ltD (mOp ixD (mVar 0) (mC (.int 1))) (mFn lenD (mCons (mOp ixD (mVar 0) (mC (.int 0))) mNil))))) (mThen (mAsg (mBor noL 0 (mOp ixD (mOp ixD (mVar 0) (mC (.int 0))) (mOp ixD (mVar 0) (mC (.int 1))))) (mSet 2))
      (mThen (mSetI 0 (mBor noL 0 (mOp addD (mOp ixD (mVar 0) (mC (.int 1))) (mC (.int 1)))) (mC (.int 1)))
      (mSetI 0 (mIf (mTest boolD (mOp geD (mFn absD (mCons (mVar 2) mNil)) (mOp powD (mC (.int 10)) (mC (.int 18))))) (mOp modD (mFn int1D (mCons (mFn absD (mCons (mVar 2) mNil)) mNil)) (mOp powD (mOp powD (mC (.int 10)) (mC (.int 60))) (mC (.int 64)))) (mC (.int 0))) (mC (.int 2))))) mSkip)
    (mThen (mSetI 0 (mBor noL 0 (mIf (mTest truthD (mOp ixD (mVar 0) (mC (.int 2)))) (mC (.int 0)) (mC (.int 6)))) (mC (.int 3)))
    (mSetI 0 (mOp addD (mOp modD (mFn int1D (mCons (mFn absD (mCons (mVar 2) mNil)) mNil)) (mC (.int 2147483629))) (mIf (mTest boolD (mOp ltD (mVar 2) (mC (.int 0)))) (mC (.int 17)) (mC (.int 0)))) (mC (.int 4)))))) mSkip)
  (mThen (mIf (mBor (fun _ => true) 0 (mTest boolD (mOp gtD (mOp ixD (mVar 0) (mC (.int 2))) (mC (.int 0))))) (mThen (mAsg (mBor noL 0 (mOp modD (mFn int1D (mCons (mOp ixD (mVar 0) (mC (.int 2))) mNil)) (mVar 1))) (mSet 3))
    (mThen (mSetI 0 (mBor noL 0 (mOp fdivD (mOp ixD (mVar 0) (mC (.int 2))) (mVar 1))) (mC (.int 2)))
    (mRet (mVar 3)))) mSkip)
  (mThen (mSetI 0 (mBor noL 0 (mOp subD (mOp ixD (mVar 0) (mC (.int 3))) (mC (.int 1)))) (mC (.int 3)))
  (mThen (mSetI 0 (mBor noL 0 (mOp addD (mOp ixD (mVar 0) (mC (.int 5))) (mC (.int 1)))) (mC (.int 5)))
  (mThen (mAsg (mBor noL 0 (mOp modD (mFn int1D (mCons (mOp addD (mOp addD (mOp mulD (mOp ixD (mVar 0) (mC (.int 4))) (mC (.int 48271))) (mOp mulD (mOp ixD (mVar 0) (mC (.int 5))) (mC (.int 69621)))) (mC (.int 11))) mNil)) (mC (.int 2147483647)))) (mSet 4))
  (mThen (mAsg (mBor noL 0 (mOp modD (mFn int1D (mCons (mOp addD (mOp mulD (mVar 4) (mVar 4)) (mOp mulD (mOp ixD (mVar 0) (mC (.int 5))) (mC (.int 1299709)))) mNil)) (mC (.int 1000000007)))) (mSet 5))
  (mRet (mOp modD (mFn int1D (mCons (mOp fdivD (mOp modD (mFn int1D (mCons (mOp addD (mOp mulD (mVar 5) (mC (.int 40692))) (mOp fdivD (mVar 4) (mC (.int 7)))) mNil)) (mC (.int 2147483399))) (mC (.int 3))) mNil)) (mVar 1))))))))))
def M_l_pick : FM := mBody 6 2 [0] b_l_pick
theorem df_l_pick (gm : TX K mg) : Def Pr w K mg base 1 "_law_pick" ["_law_draw_here", "_law_many"] (spF K mg 2 M_l_pick) := by
  obtain ⟨f, Fx, hg⟩ := gm.d_l_pick
  exact mk_defG Fx (fun fd F => fnd_ok F sc_l_pick rfl (by decide) (by decide) fun cdv Ar outer s H E hr =>
    ⟨_, (dss_cons (ds_if (dt_cmp op_lt od_lt (de_v 1) de_int (nomark _)) (dss_one (ds_ret de_int)) dss_nil)
  (dss_cons (ds_if (dt_bor 0 (dt_w (dw_and (dt_cmp (op_eqP (hu200 hr)) od_eq (de_ix (de_v 0) de_int) de_int (nomark _)) (dw_and1 (dt_cmp (op_eqP (hu200 hr)) od_eq (de_ix (de_v 0) de_int) de_int (nomark _)))))) (dss_cons (ds_set sc_l_pick.nd (de_bor 0 (de_add (de_add (de_ix (de_v 0) de_int) (de_mul de_int (de_ix (de_v 0) de_int))) de_int)))
    (dss_cons (ds_if (dt_bor 0 (dt_cmp op_lt od_lt (de_ix (de_v 0) de_int) (de_fn call_lenA fd_len gm.f_len (by decide +kernel) (da_cons (de_ix (de_v 0) de_int) da_nil)) (nomark _))) (dss_cons (ds_set sc_l_pick.nd (de_bor 0 (de_ix (de_ix (de_v 0) de_int) (de_ix (de_v 0) de_int))))
      (dss_cons (ds_setI (pe_var (i := 0) rfl (by first | exact Or.inl rfl | exact Or.inr (Or.inl rfl) | exact Or.inr (Or.inr rfl))) de_int (de_bor 0 (de_add (de_ix (de_v 0) de_int) de_int)))
      (dss_one (ds_setI (pe_var (i := 0) rfl (by first | exact Or.inl rfl | exact Or.inr (Or.inl rfl) | exact Or.inr (Or.inr rfl))) de_int (de_if (dt_cmp op_ge od_ge (de_fn call_abs fd_abs gm.f_abs (by decide +kernel) (da_cons (de_v 2) da_nil)) (de_pow de_int de_int) (nomark _)) (de_mod (de_ty call_int1 fd_int1 gm.f_int (by decide +kernel) (da_cons (de_fn call_abs fd_abs gm.f_abs (by decide +kernel) (da_cons (de_v 2) da_nil)) da_nil)) (de_pow (de_pow de_int de_int) de_int)) de_int))))) dss_nil)
    (dss_cons (ds_setI (pe_var (i := 0) rfl (by first | exact Or.inl rfl | exact Or.inr (Or.inl rfl) | exact Or.inr (Or.inr rfl))) de_int (de_bor 0 (de_if (dt_bool (de_ix (de_v 0) de_int)) de_int de_int)))
    (dss_one (ds_setI (pe_var (i := 0) rfl (by first | exact Or.inl rfl | exact Or.inr (Or.inl rfl) | exact Or.inr (Or.inr rfl))) de_int (de_add (de_mod (de_ty call_int1 fd_int1 gm.f_int (by decide +kernel) (da_cons (de_fn call_abs fd_abs gm.f_abs (by decide +kernel) (da_cons (de_v 2) da_nil)) da_nil)) de_int) (de_if (dt_cmp op_lt od_lt (de_v 2) de_int (nomark _)) de_int de_int))))))) dss_nil)
  (dss_cons (ds_if (dt_bor 0 (dt_cmp op_gt od_gt (de_ix (de_v 0) de_int) de_int (nomark _))) (dss_cons (ds_set sc_l_pick.nd (de_bor 0 (de_mod (de_ty call_int1 fd_int1 gm.f_int (by decide +kernel) (da_cons (de_ix (de_v 0) de_int) da_nil)) (de_v 1))))
    (dss_cons (ds_setI (pe_var (i := 0) rfl (by first | exact Or.inl rfl | exact Or.inr (Or.inl rfl) | exact Or.inr (Or.inr rfl))) de_int (de_bor 0 (de_fdiv (de_ix (de_v 0) de_int) (de_v 1))))
    (dss_one (ds_ret (de_v 3))))) dss_nil)
  (dss_cons (ds_setI (pe_var (i := 0) rfl (by first | exact Or.inl rfl | exact Or.inr (Or.inl rfl) | exact Or.inr (Or.inr rfl))) de_int (de_bor 0 (de_sub (de_ix (de_v 0) de_int) de_int)))
  (dss_cons (ds_setI (pe_var (i := 0) rfl (by first | exact Or.inl rfl | exact Or.inr (Or.inl rfl) | exact Or.inr (Or.inr rfl))) de_int (de_bor 0 (de_add (de_ix (de_v 0) de_int) de_int)))
  (dss_cons (ds_set sc_l_pick.nd (de_bor 0 (de_mod (de_ty call_int1 fd_int1 gm.f_int (by decide +kernel) (da_cons (de_add (de_add (de_mul (de_ix (de_v 0) de_int) de_int) (de_mul (de_ix (de_v 0) de_int) de_int)) de_int) da_nil)) de_int)))
  (dss_cons (ds_set sc_l_pick.nd (de_bor 0 (de_mod (de_ty call_int1 fd_int1 gm.f_int (by decide +kernel) (da_cons (de_add (de_mul (de_v 4) (de_v 4)) (de_mul (de_ix (de_v 0) de_int) de_int)) da_nil)) de_int)))
  (dss_one (ds_ret (de_mod (de_ty call_int1 fd_int1 gm.f_int (by decide +kernel) (da_cons (de_fdiv (de_mod (de_ty call_int1 fd_int1 gm.f_int (by decide +kernel) (da_cons (de_add (de_mul (de_v 5) de_int) (de_fdiv (de_v 4) de_int)) da_nil)) de_int) de_int) da_nil)) (de_v 1)))))))))))⟩) hg (fun fd F => F.bindsN fun _ _ _ _ _ _ us hl => match us, hl with | [_, _], _ => rfl)
/-! _law_one -/
abbrev s_l_one : Stmt := top 14
theorem sc_l_one : FnScope ["_law_draw_here", "_law_row"] ["_law_draw_here", "_law_row"] (defScope s_l_one) := ⟨rfl, rfl, rfl, by decide +kernel, rfl, by decide +kernel, by decide +kernel⟩
def b_l_one : SM :=
  (mRet (mOp ixD (mVar 1) (mCall (noX M_l_pick) [] (aO 0 (aD (mFn lenD (mCons (mVar 1) mNil)) aNil)))))
def M_l_one : FM := mBody 2 2 [0] b_l_one
theorem df_l_one (gm : TX K mg) : Def Pr w K mg base 2 "_law_one" ["_law_draw_here", "_law_row"] (spF K mg 2 M_l_one) := by
  obtain ⟨f, Fx, hg⟩ := gm.d_l_one
  exact mk_defG Fx (fun fd F => fnd_ok F sc_l_one rfl (by decide) (by decide) fun cdv Ar outer s H E hr =>
    ⟨_, (dss_one (ds_ret (de_ix (de_v 1) (de_callD (df_l_pick gm) hr (dr_o (pe_var (i := 0) rfl (by first | exact Or.inl rfl | exact Or.inr (Or.inl rfl) | exact Or.inr (Or.inr rfl))) (dr_d (de_fn call_lenA fd_len gm.f_len (by decide +kernel) (da_cons (de_v 1) da_nil)) dr_nil)) (al_o (al_d al_nil))))))⟩) hg (fun fd F => F.bindsN fun _ _ _ _ _ _ us hl => match us, hl with | [_, _], _ => rfl)
/-! _law_some -/
abbrev s_l_some : Stmt := top 21
theorem sc_l_some : FnScope ["_law_draw_here", "_law_room", "_law_pool", "_law_under", "_law_lots", "_law_way", "_law_level", "_law_third", "_law_front", "_law_k", "_law_cut", "_law_tag", "_law_inner"] ["_law_draw_here", "_law_room", "_law_pool", "_law_under", "_law_lots"] (defScope s_l_some) := ⟨rfl, rfl, rfl, by decide +kernel, rfl, by decide +kernel, by decide +kernel⟩
def b_l_some (rf : FM) : SM :=
  (mThen (mPar 5 6 (mCall (noX M_l_pick) [] (aO 0 (aD (mC (.int 10)) aNil))) (mTup (mCons (mCall (noX M_l_pick) [] (aO 0 (aD (mC (.int 3)) aNil))) (mCons (mTup mNil) mNil))))
  (mThen (mIf (mOr (mTest boolD (mOp ltD (mVar 1) (mC (.int 3)))) (mTest boolD (mOp ltD (mVar 5) (mC (.int 2))))) (mThen (mIf (mTest truthD (mVar 4)) (mAsg (mTup (mCons (mC (.int 0)) (mCons (mTup (mCons (mTup (mCons (mCall (noX M_l_pick) [] (aO 0 (aD (mVar 4) aNil))) (mCons (mOp ixD (mVar 6) (mC (.int 0))) mNil))) mNil)) mNil))) (mSet 6)) mSkip)
    (mThen (mIf (mTest boolD (mOp eqD (mCall (noX M_l_pick) [] (aO 0 (aD (mC (.int 4)) aNil))) (mC (.int 0)))) (mRet (mIf (mAnd (mTest truthD (mVar 3)) (mTest truthD (mOp modD (mFn int1D (mCons (mVar 5) mNil)) (mC (.int 2))))) (mTup (mCons (mC (.str "var")) (mCons (mCall (noX M_l_pick) [] (aO 0 (aD (mVar 3) aNil))) mNil))) (mTup (mCons (mC (.str "univ")) (mCons (mVar 6) mNil))))) mSkip)
    (mRet (mTup (mCons (mC (.str "const")) (mCons (mCall (noX M_l_one) [] (aO 0 (aD (mVar 2) aNil))) (mCons (mOp mulA (mTup (mCons (mVar 6) mNil)) (mCall (noX M_l_pick) [] (aO 0 (aD (mC (.int 4)) aNil)))) mNil))))))) mSkip)
  (mThen (mIf (mAnd (mTest boolD (mOp eqD (mVar 5) (mC (.int 2)))) (mTest boolD (mOp gtD (mVar 1) (mC (.int 3))))) (mThen (mAsg (mOp fdivD (mOp subD (mVar 1) (mC (.int 1))) (mC (.int 3))) (mSet 7))
    (mThen (mAsg (mFn tupleD (mCons (mFz (mLc [9] (mRng (mCons (mC (.int 2)) mNil)) (mSet 9) mYes (mCall (noX rf) [] (aO 0 (aD (mVar 7) (aD (mVar 2) (aD (mVar 3) (aD (mVar 4) aNil)))))))) mNil)) (mSet 8))
    (mRet (mOp addD (mOp addD (mTup (mCons (mC (.str "let")) mNil)) (mVar 8)) (mTup (mCons (mCall (noX rf) [] (aO 0 (aD (mVar 7) (aD (mVar 2) (aD (mOp addD (mVar 3) (mC (.int 1))) (aD (mVar 4) aNil)))))) mNil)))))) mSkip)
  (mThen (mPar 10 11 (mOp addD (mC (.int 1)) (mCall (noX M_l_pick) [] (aO 0 (aD (mOp subD (mVar 1) (mC (.int 2))) aNil)))) (mCall (noX M_l_one) [] (aO 0 (aD (mFz (mCons (mC (.str "app")) (mCons (mC (.str "app")) (mCons (mC (.str "pi")) (mCons (mC (.str "fun")) mNil))))) aNil))))
  (mThen (mAsg (mIf (mTest boolD (mOp eqD (mVar 11) (mC (.str "app")))) (mVar 3) (mOp addD (mVar 3) (mC (.int 1)))) (mSet 12))
  (mRet (mTup (mCons (mVar 11) (mCons (mCall (noX rf) [] (aO 0 (aD (mVar 10) (aD (mVar 2) (aD (mVar 3) (aD (mVar 4) aNil)))))) (mCons (mCall (noX rf) [] (aO 0 (aD (mOp subD (mOp subD (mVar 1) (mC (.int 1))) (mVar 10)) (aD (mVar 2) (aD (mVar 12) (aD (mVar 4) aNil)))))) mNil))))))))))
def M_l_some : Nat → FM
  | 0 => mStuck
  | n + 1 => mBody 13 5 [0] (b_l_some (M_l_some n))
theorem df_l_some (gm : TX K mg) : ∀ n : Nat, Def Pr w K mg base (2 + n) "_law_some" ["_law_draw_here", "_law_room", "_law_pool", "_law_under", "_law_lots"] (spF K mg 5 (M_l_some n))
  | 0 => by
    obtain ⟨f, Fx, hg⟩ := gm.d_l_some
    exact mk_defG Fx (fun fd F => fn_vac vac_stuck) hg (fun fd F => F.bindsN fun _ _ _ _ _ _ us hl => match us, hl with | [_, _, _, _, _], _ => rfl)
  | n + 1 => by
    have ih := df_l_some gm n
    obtain ⟨f, Fx, hg⟩ := gm.d_l_some
    exact mk_defG (k := 2 + n + 1) Fx (fun fd F => fnd_ok F sc_l_some rfl (by decide) (by decide) fun cdv Ar outer s H E hr =>
      ⟨_, (dss_cons (ds_par sc_l_some.nd (de_callD (df_l_pick gm) hr (dr_o (pe_var (i := 0) rfl (by first | exact Or.inl rfl | exact Or.inr (Or.inl rfl) | exact Or.inr (Or.inr rfl))) (dr_d de_int dr_nil)) (al_o (al_d al_nil))) (de_tupN 2 (da_cons (de_callD (df_l_pick gm) hr (dr_o (pe_var (i := 0) rfl (by first | exact Or.inl rfl | exact Or.inr (Or.inl rfl) | exact Or.inr (Or.inr rfl))) (dr_d de_int dr_nil)) (al_o (al_d al_nil))) (da_cons (de_tupN 0 da_nil len_nil) da_nil)) (len_cons (len_cons len_nil))))
  (dss_cons (ds_if (dt_w (dw_or (dt_cmp op_lt od_lt (de_v 1) de_int (nomark _)) (dw_or1 (dt_cmp op_lt od_lt (de_v 5) de_int (nomark _))))) (dss_cons (ds_if (dt_bool (de_v 4)) (dss_one (ds_set sc_l_some.nd (de_tupN 2 (da_cons de_int (da_cons (de_tupN 1 (da_cons (de_tupN 2 (da_cons (de_callD (df_l_pick gm) hr (dr_o (pe_var (i := 0) rfl (by first | exact Or.inl rfl | exact Or.inr (Or.inl rfl) | exact Or.inr (Or.inr rfl))) (dr_d (de_v 4) dr_nil)) (al_o (al_d al_nil))) (da_cons (de_ix (de_v 6) de_int) da_nil)) (len_cons (len_cons len_nil))) da_nil) (len_cons len_nil)) da_nil)) (len_cons (len_cons len_nil))))) dss_nil)
    (dss_cons (ds_if (dt_cmp (op_eqP (hu200 hr)) od_eq (de_callD (df_l_pick gm) hr (dr_o (pe_var (i := 0) rfl (by first | exact Or.inl rfl | exact Or.inr (Or.inl rfl) | exact Or.inr (Or.inr rfl))) (dr_d de_int dr_nil)) (al_o (al_d al_nil))) de_int (nomark _)) (dss_one (ds_ret (de_if (dt_w (dw_and (dt_bool (de_v 3)) (dw_and1 (dt_bool (de_mod (de_ty call_int1 fd_int1 gm.f_int (by decide +kernel) (da_cons (de_v 5) da_nil)) de_int))))) (de_tupN 2 (da_cons de_str (da_cons (de_callD (df_l_pick gm) hr (dr_o (pe_var (i := 0) rfl (by first | exact Or.inl rfl | exact Or.inr (Or.inl rfl) | exact Or.inr (Or.inr rfl))) (dr_d (de_v 3) dr_nil)) (al_o (al_d al_nil))) da_nil)) (len_cons (len_cons len_nil))) (de_tupN 2 (da_cons de_str (da_cons (de_v 6) da_nil)) (len_cons (len_cons len_nil)))))) dss_nil)
    (dss_one (ds_ret (de_tupN 3 (da_cons de_str (da_cons (de_callD (df_l_one gm) hr (dr_o (pe_var (i := 0) rfl (by first | exact Or.inl rfl | exact Or.inr (Or.inl rfl) | exact Or.inr (Or.inr rfl))) (dr_d (de_v 2) dr_nil)) (al_o (al_d al_nil))) (da_cons (de_mulA (de_tupN 1 (da_cons (de_v 6) da_nil) (len_cons len_nil)) (de_callD (df_l_pick gm) hr (dr_o (pe_var (i := 0) rfl (by first | exact Or.inl rfl | exact Or.inr (Or.inl rfl) | exact Or.inr (Or.inr rfl))) (dr_d de_int dr_nil)) (al_o (al_d al_nil)))) da_nil))) (len_cons (len_cons (len_cons len_nil)))))))) dss_nil)
  (dss_cons (ds_if (dt_w (dw_and (dt_cmp (op_eqP (hu200 hr)) od_eq (de_v 5) de_int (nomark _)) (dw_and1 (dt_cmp op_gt od_gt (de_v 1) de_int (nomark _))))) (dss_cons (ds_set sc_l_some.nd (de_fdiv (de_sub (de_v 1) de_int) de_int))
    (dss_cons (ds_set sc_l_some.nd (de_ty call_tuple_of fd_tuple gm.f_tuple (by decide +kernel) (da_cons (de_fz (do_lcX sc_l_some.nd (di_range1 gm.f_range de_int) (blkOk_by (N := ["_law_draw_here", "_law_room", "_law_pool", "_law_under", "_law_lots", "_law_way", "_law_level", "_law_third", "_law_front", "_law_k", "_law_cut", "_law_tag", "_law_inner"]) (sc := defScope s_l_some) (own := [("_law_k", 9)]) (by decide +kernel)) ⟨fun s H C cl fp => ⟨_, (dg_name (pg_name (i := 9) sc_l_some.nd rfl (by first | exact .inl rfl | exact .inr rfl)))⟩, fun s H C cl fp => ⟨_, dts_nil⟩, fun s H C cl fp => ⟨_, (de_callD ih hr (dr_o (pe_var (i := 0) rfl (by first | exact Or.inl rfl | exact Or.inr (Or.inl rfl) | exact Or.inr (Or.inr rfl))) (dr_d (de_v 7) (dr_d (de_v 2) (dr_d (de_v 3) (dr_d (de_v 4) dr_nil))))) (al_o (al_d (al_d (al_d (al_d al_nil))))))⟩⟩)) da_nil)))
    (dss_one (ds_ret (de_add (de_add (de_tupN 1 (da_cons de_str da_nil) (len_cons len_nil)) (de_v 8)) (de_tupN 1 (da_cons (de_callD ih hr (dr_o (pe_var (i := 0) rfl (by first | exact Or.inl rfl | exact Or.inr (Or.inl rfl) | exact Or.inr (Or.inr rfl))) (dr_d (de_v 7) (dr_d (de_v 2) (dr_d (de_add (de_v 3) de_int) (dr_d (de_v 4) dr_nil))))) (al_o (al_d (al_d (al_d (al_d al_nil)))))) da_nil) (len_cons len_nil))))))) dss_nil)
  (dss_cons (ds_par sc_l_some.nd (de_add de_int (de_callD (df_l_pick gm) hr (dr_o (pe_var (i := 0) rfl (by first | exact Or.inl rfl | exact Or.inr (Or.inl rfl) | exact Or.inr (Or.inr rfl))) (dr_d (de_sub (de_v 1) de_int) dr_nil)) (al_o (al_d al_nil)))) (de_callD (df_l_one gm) hr (dr_o (pe_var (i := 0) rfl (by first | exact Or.inl rfl | exact Or.inr (Or.inl rfl) | exact Or.inr (Or.inr rfl))) (dr_d (de_fz (do_lstN 4 (da_cons de_str (da_cons de_str (da_cons de_str (da_cons de_str da_nil)))) (len_cons (len_cons (len_cons (len_cons len_nil)))))) dr_nil)) (al_o (al_d al_nil))))
  (dss_cons (ds_set sc_l_some.nd (de_if (dt_cmp (op_eqP (hu200 hr)) od_eq (de_v 11) de_str (nomark _)) (de_v 3) (de_add (de_v 3) de_int)))
  (dss_one (ds_ret (de_tupN 3 (da_cons (de_v 11) (da_cons (de_callD ih hr (dr_o (pe_var (i := 0) rfl (by first | exact Or.inl rfl | exact Or.inr (Or.inl rfl) | exact Or.inr (Or.inr rfl))) (dr_d (de_v 10) (dr_d (de_v 2) (dr_d (de_v 3) (dr_d (de_v 4) dr_nil))))) (al_o (al_d (al_d (al_d (al_d al_nil)))))) (da_cons (de_callD ih hr (dr_o (pe_var (i := 0) rfl (by first | exact Or.inl rfl | exact Or.inr (Or.inl rfl) | exact Or.inr (Or.inr rfl))) (dr_d (de_sub (de_sub (de_v 1) de_int) (de_v 10)) (dr_d (de_v 2) (dr_d (de_v 12) (dr_d (de_v 4) dr_nil))))) (al_o (al_d (al_d (al_d (al_d al_nil)))))) da_nil))) (len_cons (len_cons (len_cons len_nil)))))))))))⟩) hg (fun fd F => F.bindsN fun _ _ _ _ _ _ us hl => match us, hl with | [_, _, _, _, _], _ => rfl)
/-! _law_somes -/
abbrev s_l_somes : Stmt := top 22
theorem sc_l_somes : FnScope ["_law_draw_here", "_law_many_rooms", "_law_pool", "_law_under", "_law_lots", "_law_step", "_law_k", "_law_room"] ["_law_draw_here", "_law_many_rooms", "_law_pool", "_law_under", "_law_lots", "_law_step"] (defScope s_l_somes) := ⟨rfl, rfl, rfl, by decide +kernel, rfl, by decide +kernel, by decide +kernel⟩
def b_l_somes : SM :=
  (mRet (mFn tupleD (mCons (mFz (mLc [6, 7] (mEnumE (mVar 1)) (gtTup (gtCons (mSet 6) (gtCons (mSet 7) gtNil))) mYes (mCall (noX (M_l_some 12)) [] (aO 0 (aD (mVar 7) (aD (mVar 2) (aD (mOp addD (mVar 3) (mOp mulD (mVar 6) (mVar 5))) (aD (mVar 4) aNil)))))))) mNil)))
def M_l_somes : FM := mBody 8 6 [0] b_l_somes
theorem df_l_somes (gm : TX K mg) : Def Pr w K mg base 15 "_law_somes" ["_law_draw_here", "_law_many_rooms", "_law_pool", "_law_under", "_law_lots", "_law_step"] (spF K mg 6 M_l_somes) := by
  obtain ⟨f, Fx, hg⟩ := gm.d_l_somes
  exact mk_defG Fx (fun fd F => fnd_ok F sc_l_somes rfl (by decide) (by decide) fun cdv Ar outer s H E hr =>
    ⟨_, (dss_one (ds_ret (de_ty call_tuple_of fd_tuple gm.f_tuple (by decide +kernel) (da_cons (de_fz (do_lcX sc_l_somes.nd (di_enumE gm.f_enumerate (de_v 1)) (blkOk_by (N := ["_law_draw_here", "_law_many_rooms", "_law_pool", "_law_under", "_law_lots", "_law_step", "_law_k", "_law_room"]) (sc := defScope s_l_somes) (own := [("_law_k", 6), ("_law_room", 7)]) (by decide +kernel)) ⟨fun s H C cl fp => ⟨_, (dg_tup rfl (dgs_cons (dg_name (pg_name (i := 6) sc_l_somes.nd rfl (by first | exact .inl rfl | exact .inr rfl))) (dgs_cons (dg_name (pg_name (i := 7) sc_l_somes.nd rfl (by first | exact .inl rfl | exact .inr rfl))) dgs_nil)))⟩, fun s H C cl fp => ⟨_, dts_nil⟩, fun s H C cl fp => ⟨_, (de_callD (df_l_some gm 12) hr (dr_o (pe_var (i := 0) rfl (by first | exact Or.inl rfl | exact Or.inr (Or.inl rfl) | exact Or.inr (Or.inr rfl))) (dr_d (de_v 7) (dr_d (de_v 2) (dr_d (de_add (de_v 3) (de_mul (de_v 6) (de_v 5))) (dr_d (de_v 4) dr_nil))))) (al_o (al_d (al_d (al_d (al_d al_nil))))))⟩⟩)) da_nil))))⟩) hg (fun fd F => F.bindsN fun _ _ _ _ _ _ us hl => match us, hl with | [_, _, _, _, _, _], _ => rfl)
/-! _law_name -/
abbrev s_l_name : Stmt := top 15
theorem sc_l_name : FnScope ["_law_draw_here", "_law_taken", "_law_name_here", "_law_k"] ["_law_draw_here", "_law_taken"] (defScope s_l_name) := ⟨rfl, rfl, rfl, by decide +kernel, rfl, by decide +kernel, by decide +kernel⟩
def b_l_name : SM :=
  (mThen (mAsg (mCall (noX M_l_one) [] (aO 0 (aD (mC (.str "bcdeghjkmnopqrtvwyz")) aNil))) (mSet 2))
  (mThen (mFor (mRng (mCons (mOp ixD (mFz (mCons (mC (.int 0)) (mCons (mC (.int 1)) (mCons (mC (.int 2)) (mCons (mC (.int 3)) (mCons (mC (.int 5)) mNil)))))) (mCall (noX M_l_pick) [] (aO 0 (aD (mC (.int 5)) aNil)))) mNil)) (mSet 3) (mAsg (mOp addD (mVar 2) (mCall (noX M_l_one) [] (aO 0 (aD (mC (.str "abcdefghijklmnopqrstuvwxyz0123456789")) aNil)))) (mSet 2)))
  (mThen (mFor (mRng (mCons (mBor noL 1 (mOp addD (mFn lenD (mCons (mVar 1) mNil)) (mC (.int 1)))) mNil)) (mSet 3) (mIf (mBor (fun _ => true) 1 (mTest boolD (mOp (inD false) (mVar 2) (mVar 1)))) (mAsg (mBor noL 1 (mOp addD (mOp addD (mOp addD (mC (.str "q")) (mFn strD (mCons (mVar 3) mNil))) (mC (.str "z"))) (mFn strD (mCons (mFn lenD (mCons (mVar 1) mNil)) mNil)))) (mSet 2)) mSkip))
  (mThen (mApp 1 (mVar 2))
  (mRet (mVar 2))))))
def M_l_name : FM := mBody 4 2 [0, 1] b_l_name
theorem df_l_name (gm : TX K mg) : Def Pr w K mg base 3 "_law_name" ["_law_draw_here", "_law_taken"] (spF K mg 2 M_l_name) := by
  obtain ⟨f, Fx, hg⟩ := gm.d_l_name
  exact mk_defG Fx (fun fd F => fnd_ok F sc_l_name rfl (by decide) (by decide) fun cdv Ar outer s H E hr =>
    ⟨_, (dss_cons (ds_set sc_l_name.nd (de_callD (df_l_one gm) hr (dr_o (pe_var (i := 0) rfl (by first | exact Or.inl rfl | exact Or.inr (Or.inl rfl) | exact Or.inr (Or.inr rfl))) (dr_d de_str dr_nil)) (al_o (al_d al_nil))))
  (dss_cons (ds_for (di_range1 gm.f_range (de_ix (de_fz (do_lstN 5 (da_cons de_int (da_cons de_int (da_cons de_int (da_cons de_int (da_cons de_int da_nil))))) (len_cons (len_cons (len_cons (len_cons (len_cons len_nil))))))) (de_callD (df_l_pick gm) hr (dr_o (pe_var (i := 0) rfl (by first | exact Or.inl rfl | exact Or.inr (Or.inl rfl) | exact Or.inr (Or.inr rfl))) (dr_d de_int dr_nil)) (al_o (al_d al_nil))))) (dg_name (pg_name (i := 3) sc_l_name.nd rfl (by first | exact .inl rfl | exact .inr rfl))) (dss_one (ds_set sc_l_name.nd (de_add (de_v 2) (de_callD (df_l_one gm) hr (dr_o (pe_var (i := 0) rfl (by first | exact Or.inl rfl | exact Or.inr (Or.inl rfl) | exact Or.inr (Or.inr rfl))) (dr_d de_str dr_nil)) (al_o (al_d al_nil)))))) PassesOwn.never)
  (dss_cons (ds_for (di_range1 gm.f_range (de_bor 1 (de_add (de_fn call_lenA fd_len gm.f_len (by decide +kernel) (da_cons (de_v 1) da_nil)) de_int))) (dg_name (pg_name (i := 3) sc_l_name.nd rfl (by first | exact .inl rfl | exact .inr rfl))) (dss_one (ds_if (dt_bor 1 (dt_cmp (op_inA (hu200 hr)) od_in (de_v 2) (de_v 1) rfl)) (dss_one (ds_set sc_l_name.nd (de_bor 1 (de_add (de_add (de_add de_str (de_ty call_str_int fd_str gm.f_str (by decide +kernel) (da_cons (de_v 3) da_nil))) de_str) (de_ty call_str_int fd_str gm.f_str (by decide +kernel) (da_cons (de_fn call_lenA fd_len gm.f_len (by decide +kernel) (da_cons (de_v 1) da_nil)) da_nil)))))) dss_nil)) PassesOwn.never)
  (dss_cons (ds_app (pe_var (i := 1) rfl (by first | exact Or.inl rfl | exact Or.inr (Or.inl rfl) | exact Or.inr (Or.inr rfl))) (de_v 2))
  (dss_one (ds_ret (de_v 2)))))))⟩) hg (fun fd F => F.bindsN fun _ _ _ _ _ _ us hl => match us, hl with | [_, _], _ => rfl)
/-! _law_rooms -/
abbrev s_l_rooms : Stmt := top 23
theorem sc_l_rooms : FnScope ["_law_draw_here", "_law_most", "_law_k"] ["_law_draw_here", "_law_most"] (defScope s_l_rooms) := ⟨rfl, rfl, rfl, by decide +kernel, rfl, by decide +kernel, by decide +kernel⟩
def b_l_rooms : SM :=
  (mRet (mFz (mLc [2] (mRng (mCons (mCall (noX M_l_pick) [] (aO 0 (aD (mOp addD (mVar 1) (mC (.int 1))) aNil))) mNil)) (mSet 2) mYes (mOp addD (mC (.int 1)) (mCall (noX M_l_pick) [] (aO 0 (aD (mC (.int 8)) aNil)))))))
def M_l_rooms : FM := mBody 3 2 [0] b_l_rooms
theorem df_l_rooms (gm : TX K mg) : Def Pr w K mg base 2 "_law_rooms" ["_law_draw_here", "_law_most"] (spF K mg 2 M_l_rooms) := by
  obtain ⟨f, Fx, hg⟩ := gm.d_l_rooms
  exact mk_defG Fx (fun fd F => fnd_ok F sc_l_rooms rfl (by decide) (by decide) fun cdv Ar outer s H E hr =>
    ⟨_, (dss_one (ds_ret (de_fz (do_lcX sc_l_rooms.nd (di_range1 gm.f_range (de_callD (df_l_pick gm) hr (dr_o (pe_var (i := 0) rfl (by first | exact Or.inl rfl | exact Or.inr (Or.inl rfl) | exact Or.inr (Or.inr rfl))) (dr_d (de_add (de_v 1) de_int) dr_nil)) (al_o (al_d al_nil)))) (blkOk_by (N := ["_law_draw_here", "_law_most", "_law_k"]) (sc := defScope s_l_rooms) (own := [("_law_k", 2)]) (by decide +kernel)) ⟨fun s H C cl fp => ⟨_, (dg_name (pg_name (i := 2) sc_l_rooms.nd rfl (by first | exact .inl rfl | exact .inr rfl)))⟩, fun s H C cl fp => ⟨_, dts_nil⟩, fun s H C cl fp => ⟨_, (de_add de_int (de_callD (df_l_pick gm) hr (dr_o (pe_var (i := 0) rfl (by first | exact Or.inl rfl | exact Or.inr (Or.inl rfl) | exact Or.inr (Or.inr rfl))) (dr_d de_int dr_nil)) (al_o (al_d al_nil))))⟩⟩))))⟩) hg (fun fd F => F.bindsN fun _ _ _ _ _ _ us hl => match us, hl with | [_, _], _ => rfl)
/-! _law_any_row -/
abbrev s_l_any_row : Stmt := top 24
theorem sc_l_any_row : FnScope ["_law_draw_here", "_law_taken", "_law_names", "_law_k", "_law_name_here", "_law_others", "_law_lots", "_law_pool", "_law_one_here", "_law_word", "_law_params", "_law_few", "_law_kinds", "_law_kind", "_law_makers", "_law_args", "_law_ends", "_law_indices"] ["_law_draw_here"] (defScope s_l_any_row) := ⟨rfl, rfl, rfl, by decide +kernel, rfl, by decide +kernel, by decide +kernel⟩
def b_l_any_row : SM :=
  (mThen (mOwn 1 mNil)
  (mThen (mAsg (mFz (mLc [3] (mRng (mCons (mOp addD (mC (.int 2)) (mCall (noX M_l_pick) [] (aO 0 (aD (mC (.int 5)) aNil)))) mNil)) (mSet 3) mYes (mCall (noX M_l_name) [] (aO 0 (aO 1 aNil))))) (mSet 2))
  (mThen (mAsg (mTup (mCons (mOp ixD (mVar 2) (mC (.int 0))) (mCons (mCut (mVar 2) (mPart (mC (.int 1))) mNone) (mCons (mCall (noX M_l_pick) [] (aO 0 (aD (mC (.int 3)) aNil))) mNil)))) (gtTup (gtCons (mSet 4) (gtCons (mSet 5) (gtCons (mSet 6) gtNil)))))
  (mThen (mAsg (mOp addD (mOp addD (mVar 2) (mFz (mLc [8] (mItems (mVar 2)) (mSet 8) mYes (mOp addD (mVar 8) (mC (.str ".rec")))))) (mFz (mLc [8] (mItems (mVar 2)) (mSet 8) mYes (mOp addD (mVar 8) (mC (.str ".mk")))))) (mSet 7))
  (mThen (mAsg (mOp addD (mVar 7) (mFz (mLc [8] (mItems (mVar 5)) (mSet 8) mYes (mOp addD (mOp addD (mVar 4) (mC (.str "."))) (mVar 8))))) (mSet 7))
  (mThen (mAsg (mCall (noX M_l_one) [] (aO 0 (aD (mFz (mCons (mC (.str "axiom")) (mCons (mC (.str "define")) (mCons (mC (.str "result")) (mCons (mC (.str "family")) (mCons (mC (.str "family")) (mCons (mC (.str "record")) mNil))))))) aNil))) (mSet 9))
  (mThen (mIf (mTest boolD (mOp eqD (mVar 9) (mC (.str "axiom")))) (mRet (mTup (mCons (mVar 9) (mCons (mVar 4) (mCons (mVar 6) (mCons (mCall (noX (M_l_some 12)) [] (aO 0 (aD (mC (.int 8)) (aD (mVar 7) (aD (mC (.int 0)) (aD (mVar 6) aNil)))))) mNil)))))) mSkip)
  (mThen (mIf (mAnd (mTest boolD (mOp neD (mVar 9) (mC (.str "family")))) (mTest boolD (mOp neD (mVar 9) (mC (.str "record"))))) (mRet (mOp addD (mTup (mCons (mVar 9) (mCons (mVar 4) (mCons (mVar 6) mNil)))) (mCall (noX M_l_somes) [] (aO 0 (aD (mFz (mCons (mOp addD (mC (.int 1)) (mCall (noX M_l_pick) [] (aO 0 (aD (mC (.int 8)) aNil)))) (mCons (mC (.int 8)) mNil))) (aD (mVar 7) (aD (mC (.int 0)) (aD (mVar 6) (aD (mC (.int 0)) aNil))))))))) mSkip)
  (mThen (mAsg (mCall (noX M_l_somes) [] (aO 0 (aD (mCall (noX M_l_rooms) [] (aO 0 (aD (mC (.int 3)) aNil))) (aD (mVar 7) (aD (mC (.int 0)) (aD (mVar 6) (aD (mC (.int 1)) aNil))))))) (mSet 10))
  (mThen (mIf (mTest boolD (mOp eqD (mVar 9) (mC (.str "record")))) (mThen (mAsg (mCut (mVar 5) (mPart (mCall (noX M_l_pick) [] (aO 0 (aD (mFn lenD (mCons (mVar 5) mNil)) aNil)))) mNone) (mSet 11))
    (mThen (mAsg (mCall (noX M_l_somes) [] (aO 0 (aD (mFz (mLc [8] (mItems (mCut (mVar 11) mNone (mPart (mC (.int 4))))) (mSet 8) mYes (mOp addD (mC (.int 1)) (mCall (noX M_l_pick) [] (aO 0 (aD (mC (.int 8)) aNil)))))) (aD (mVar 7) (aD (mFn lenD (mCons (mVar 10) mNil)) (aD (mVar 6) (aD (mC (.int 1)) aNil))))))) (mSet 12))
    (mRet (mTup (mCons (mVar 9) (mCons (mVar 4) (mCons (mVar 6) (mCons (mVar 10) (mCons (mTup (mCons (mC (.int 0)) (mCons (mTup mNil) mNil))) (mCons (mFn tupleD (mCons (mFz (mLc [8, 13] (mZip (mVar 11) (mVar 12)) (gtTup (gtCons (mSet 8) (gtCons (mSet 13) gtNil))) mYes (mTup (mCons (mVar 8) (mCons (mVar 13) mNil))))) mNil)) mNil)))))))))) mSkip)
  (mThen (mOwn 14 mNil)
  (mThen (mFor (mItems (mCut (mVar 5) mNone (mPart (mCall (noX M_l_pick) [] (aO 0 (aD (mOp addD (mFn lenD (mCons (mVar 5) mNil)) (mC (.int 1))) aNil)))))) (mSet 8) (mThen (mAsg (mCall (noX M_l_somes) [] (aO 0 (aD (mCall (noX M_l_rooms) [] (aO 0 (aD (mC (.int 5)) aNil))) (aD (mVar 7) (aD (mFn lenD (mCons (mVar 10) mNil)) (aD (mVar 6) (aD (mC (.int 1)) aNil))))))) (mSet 15))
    (mThen (mAsg (mCall (noX M_l_somes) [] (aO 0 (aD (mCall (noX M_l_rooms) [] (aO 0 (aD (mC (.int 2)) aNil))) (aD (mVar 7) (aD (mOp addD (mFn lenD (mCons (mVar 10) mNil)) (mFn lenD (mCons (mVar 15) mNil))) (aD (mVar 6) (aD (mC (.int 0)) aNil))))))) (mSet 16))
    (mApp 14 (mTup (mCons (mVar 8) (mCons (mVar 15) (mCons (mVar 16) mNil))))))))
  (mThen (mAsg (mCall (noX M_l_somes) [] (aO 0 (aD (mCall (noX M_l_rooms) [] (aO 0 (aD (mC (.int 2)) aNil))) (aD (mVar 7) (aD (mFn lenD (mCons (mVar 10) mNil)) (aD (mVar 6) (aD (mC (.int 1)) aNil))))))) (mSet 17))
  (mRet (mBor noL 14 (mTup (mCons (mVar 9) (mCons (mVar 4) (mCons (mVar 6) (mCons (mVar 10) (mCons (mVar 17) (mCons (mTup (mCons (mC (.int 1)) (mCons (mTup mNil) mNil))) (mCons (mFn tupleD (mCons (mVar 14) mNil)) mNil)))))))))))))))))))))))
def M_l_any_row : FM := mBody 18 1 [0] b_l_any_row
theorem df_l_any_row (gm : TX K mg) : Def Pr w K mg base 16 "_law_any_row" ["_law_draw_here"] (spF K mg 1 M_l_any_row) := by
  obtain ⟨f, Fx, hg⟩ := gm.d_l_any_row
  exact mk_defG Fx (fun fd F => fnd_ok F sc_l_any_row rfl (by decide) (by decide) fun cdv Ar outer s H E hr =>
    ⟨_, (dss_cons (ds_own sc_l_any_row.nd (do_lstN 0 da_nil len_nil))
  (dss_cons (ds_lcX sc_l_any_row.nd (sw_true rfl rfl rfl (by decide +kernel)) (di_range1 gm.f_range (de_add de_int (de_callD (df_l_pick gm) hr (dr_o (pe_var (i := 0) rfl (by first | exact Or.inl rfl | exact Or.inr (Or.inl rfl) | exact Or.inr (Or.inr rfl))) (dr_d de_int dr_nil)) (al_o (al_d al_nil))))) (blkOk_by (N := ["_law_draw_here", "_law_taken", "_law_names", "_law_k", "_law_name_here", "_law_others", "_law_lots", "_law_pool", "_law_one_here", "_law_word", "_law_params", "_law_few", "_law_kinds", "_law_kind", "_law_makers", "_law_args", "_law_ends", "_law_indices"]) (sc := defScope s_l_any_row) (own := [("_law_k", 3)]) (by decide +kernel)) ⟨fun s H C cl fp => ⟨_, (dg_name (pg_name (i := 3) sc_l_any_row.nd rfl (by first | exact .inl rfl | exact .inr rfl)))⟩, fun s H C cl fp => ⟨_, dts_nil⟩, fun s H C cl fp => ⟨_, (de_callD (df_l_name gm) hr (dr_o (pe_var (i := 0) rfl (by first | exact Or.inl rfl | exact Or.inr (Or.inl rfl) | exact Or.inr (Or.inr rfl))) (dr_o (pe_var (i := 1) rfl (by first | exact Or.inl rfl | exact Or.inr (Or.inl rfl) | exact Or.inr (Or.inr rfl))) dr_nil)) (al_o (al_o al_nil)))⟩⟩)
  (dss_cons (ds_asg (de_tupN 3 (da_cons (de_ix (de_v 2) de_int) (da_cons (de_cut (de_v 2) (dp_some de_int) dp_none) (da_cons (de_callD (df_l_pick gm) hr (dr_o (pe_var (i := 0) rfl (by first | exact Or.inl rfl | exact Or.inr (Or.inl rfl) | exact Or.inr (Or.inr rfl))) (dr_d de_int dr_nil)) (al_o (al_d al_nil))) da_nil))) (len_cons (len_cons (len_cons len_nil)))) (dg_tup rfl (dgs_cons (dg_name (pg_name (i := 4) sc_l_any_row.nd rfl (by first | exact .inl rfl | exact .inr rfl))) (dgs_cons (dg_name (pg_name (i := 5) sc_l_any_row.nd rfl (by first | exact .inl rfl | exact .inr rfl))) (dgs_cons (dg_name (pg_name (i := 6) sc_l_any_row.nd rfl (by first | exact .inl rfl | exact .inr rfl))) dgs_nil)))))
  (dss_cons (ds_set sc_l_any_row.nd (de_add (de_add (de_v 2) (de_fz (do_lcX sc_l_any_row.nd (di_seq (de_v 2)) (blkOk_by (N := ["_law_draw_here", "_law_taken", "_law_names", "_law_k", "_law_name_here", "_law_others", "_law_lots", "_law_pool", "_law_one_here", "_law_word", "_law_params", "_law_few", "_law_kinds", "_law_kind", "_law_makers", "_law_args", "_law_ends", "_law_indices"]) (sc := defScope s_l_any_row) (own := [("_law_one_here", 8)]) (by decide +kernel)) ⟨fun s H C cl fp => ⟨_, (dg_name (pg_name (i := 8) sc_l_any_row.nd rfl (by first | exact .inl rfl | exact .inr rfl)))⟩, fun s H C cl fp => ⟨_, dts_nil⟩, fun s H C cl fp => ⟨_, (de_add (de_v 8) de_str)⟩⟩))) (de_fz (do_lcX sc_l_any_row.nd (di_seq (de_v 2)) (blkOk_by (N := ["_law_draw_here", "_law_taken", "_law_names", "_law_k", "_law_name_here", "_law_others", "_law_lots", "_law_pool", "_law_one_here", "_law_word", "_law_params", "_law_few", "_law_kinds", "_law_kind", "_law_makers", "_law_args", "_law_ends", "_law_indices"]) (sc := defScope s_l_any_row) (own := [("_law_one_here", 8)]) (by decide +kernel)) ⟨fun s H C cl fp => ⟨_, (dg_name (pg_name (i := 8) sc_l_any_row.nd rfl (by first | exact .inl rfl | exact .inr rfl)))⟩, fun s H C cl fp => ⟨_, dts_nil⟩, fun s H C cl fp => ⟨_, (de_add (de_v 8) de_str)⟩⟩))))
  (dss_cons (ds_set sc_l_any_row.nd (de_add (de_v 7) (de_fz (do_lcX sc_l_any_row.nd (di_seq (de_v 5)) (blkOk_by (N := ["_law_draw_here", "_law_taken", "_law_names", "_law_k", "_law_name_here", "_law_others", "_law_lots", "_law_pool", "_law_one_here", "_law_word", "_law_params", "_law_few", "_law_kinds", "_law_kind", "_law_makers", "_law_args", "_law_ends", "_law_indices"]) (sc := defScope s_l_any_row) (own := [("_law_one_here", 8)]) (by decide +kernel)) ⟨fun s H C cl fp => ⟨_, (dg_name (pg_name (i := 8) sc_l_any_row.nd rfl (by first | exact .inl rfl | exact .inr rfl)))⟩, fun s H C cl fp => ⟨_, dts_nil⟩, fun s H C cl fp => ⟨_, (de_add (de_add (de_v 4) de_str) (de_v 8))⟩⟩))))
  (dss_cons (ds_set sc_l_any_row.nd (de_callD (df_l_one gm) hr (dr_o (pe_var (i := 0) rfl (by first | exact Or.inl rfl | exact Or.inr (Or.inl rfl) | exact Or.inr (Or.inr rfl))) (dr_d (de_fz (do_lstN 6 (da_cons de_str (da_cons de_str (da_cons de_str (da_cons de_str (da_cons de_str (da_cons de_str da_nil)))))) (len_cons (len_cons (len_cons (len_cons (len_cons (len_cons len_nil)))))))) dr_nil)) (al_o (al_d al_nil))))
  (dss_cons (ds_if (dt_cmp (op_eqP (hu200 hr)) od_eq (de_v 9) de_str (nomark _)) (dss_one (ds_ret (de_tupN 4 (da_cons (de_v 9) (da_cons (de_v 4) (da_cons (de_v 6) (da_cons (de_callD (df_l_some gm 12) hr (dr_o (pe_var (i := 0) rfl (by first | exact Or.inl rfl | exact Or.inr (Or.inl rfl) | exact Or.inr (Or.inr rfl))) (dr_d de_int (dr_d (de_v 7) (dr_d de_int (dr_d (de_v 6) dr_nil))))) (al_o (al_d (al_d (al_d (al_d al_nil)))))) da_nil)))) (len_cons (len_cons (len_cons (len_cons len_nil))))))) dss_nil)
  (dss_cons (ds_if (dt_w (dw_and (dt_cmp (op_neP (hu200 hr)) od_ne (de_v 9) de_str (nomark _)) (dw_and1 (dt_cmp (op_neP (hu200 hr)) od_ne (de_v 9) de_str (nomark _))))) (dss_one (ds_ret (de_add (de_tupN 3 (da_cons (de_v 9) (da_cons (de_v 4) (da_cons (de_v 6) da_nil))) (len_cons (len_cons (len_cons len_nil)))) (de_callD (df_l_somes gm) hr (dr_o (pe_var (i := 0) rfl (by first | exact Or.inl rfl | exact Or.inr (Or.inl rfl) | exact Or.inr (Or.inr rfl))) (dr_d (de_fz (do_lstN 2 (da_cons (de_add de_int (de_callD (df_l_pick gm) hr (dr_o (pe_var (i := 0) rfl (by first | exact Or.inl rfl | exact Or.inr (Or.inl rfl) | exact Or.inr (Or.inr rfl))) (dr_d de_int dr_nil)) (al_o (al_d al_nil)))) (da_cons de_int da_nil)) (len_cons (len_cons len_nil)))) (dr_d (de_v 7) (dr_d de_int (dr_d (de_v 6) (dr_d de_int dr_nil)))))) (al_o (al_d (al_d (al_d (al_d (al_d al_nil)))))))))) dss_nil)
  (dss_cons (ds_set sc_l_any_row.nd (de_callD (df_l_somes gm) hr (dr_o (pe_var (i := 0) rfl (by first | exact Or.inl rfl | exact Or.inr (Or.inl rfl) | exact Or.inr (Or.inr rfl))) (dr_d (de_callD (df_l_rooms gm) hr (dr_o (pe_var (i := 0) rfl (by first | exact Or.inl rfl | exact Or.inr (Or.inl rfl) | exact Or.inr (Or.inr rfl))) (dr_d de_int dr_nil)) (al_o (al_d al_nil))) (dr_d (de_v 7) (dr_d de_int (dr_d (de_v 6) (dr_d de_int dr_nil)))))) (al_o (al_d (al_d (al_d (al_d (al_d al_nil))))))))
  (dss_cons (ds_if (dt_cmp (op_eqP (hu200 hr)) od_eq (de_v 9) de_str (nomark _)) (dss_cons (ds_set sc_l_any_row.nd (de_cut (de_v 5) (dp_some (de_callD (df_l_pick gm) hr (dr_o (pe_var (i := 0) rfl (by first | exact Or.inl rfl | exact Or.inr (Or.inl rfl) | exact Or.inr (Or.inr rfl))) (dr_d (de_fn call_lenA fd_len gm.f_len (by decide +kernel) (da_cons (de_v 5) da_nil)) dr_nil)) (al_o (al_d al_nil)))) dp_none))
    (dss_cons (ds_set sc_l_any_row.nd (de_callD (df_l_somes gm) hr (dr_o (pe_var (i := 0) rfl (by first | exact Or.inl rfl | exact Or.inr (Or.inl rfl) | exact Or.inr (Or.inr rfl))) (dr_d (de_fz (do_lcX sc_l_any_row.nd (di_seq (de_cut (de_v 11) dp_none (dp_some de_int))) (blkOk_by (N := ["_law_draw_here", "_law_taken", "_law_names", "_law_k", "_law_name_here", "_law_others", "_law_lots", "_law_pool", "_law_one_here", "_law_word", "_law_params", "_law_few", "_law_kinds", "_law_kind", "_law_makers", "_law_args", "_law_ends", "_law_indices"]) (sc := defScope s_l_any_row) (own := [("_law_one_here", 8)]) (by decide +kernel)) ⟨fun s H C cl fp => ⟨_, (dg_name (pg_name (i := 8) sc_l_any_row.nd rfl (by first | exact .inl rfl | exact .inr rfl)))⟩, fun s H C cl fp => ⟨_, dts_nil⟩, fun s H C cl fp => ⟨_, (de_add de_int (de_callD (df_l_pick gm) hr (dr_o (pe_var (i := 0) rfl (by first | exact Or.inl rfl | exact Or.inr (Or.inl rfl) | exact Or.inr (Or.inr rfl))) (dr_d de_int dr_nil)) (al_o (al_d al_nil))))⟩⟩)) (dr_d (de_v 7) (dr_d (de_fn call_lenA fd_len gm.f_len (by decide +kernel) (da_cons (de_v 10) da_nil)) (dr_d (de_v 6) (dr_d de_int dr_nil)))))) (al_o (al_d (al_d (al_d (al_d (al_d al_nil))))))))
    (dss_one (ds_ret (de_tupN 6 (da_cons (de_v 9) (da_cons (de_v 4) (da_cons (de_v 6) (da_cons (de_v 10) (da_cons (de_tupN 2 (da_cons de_int (da_cons (de_tupN 0 da_nil len_nil) da_nil)) (len_cons (len_cons len_nil))) (da_cons (de_ty call_tuple_of fd_tuple gm.f_tuple (by decide +kernel) (da_cons (de_fz (do_lcX sc_l_any_row.nd (di_zip gm.f_zip (de_v 11) (de_v 12)) (blkOk_by (N := ["_law_draw_here", "_law_taken", "_law_names", "_law_k", "_law_name_here", "_law_others", "_law_lots", "_law_pool", "_law_one_here", "_law_word", "_law_params", "_law_few", "_law_kinds", "_law_kind", "_law_makers", "_law_args", "_law_ends", "_law_indices"]) (sc := defScope s_l_any_row) (own := [("_law_one_here", 8), ("_law_kind", 13)]) (by decide +kernel)) ⟨fun s H C cl fp => ⟨_, (dg_tup rfl (dgs_cons (dg_name (pg_name (i := 8) sc_l_any_row.nd rfl (by first | exact .inl rfl | exact .inr rfl))) (dgs_cons (dg_name (pg_name (i := 13) sc_l_any_row.nd rfl (by first | exact .inl rfl | exact .inr rfl))) dgs_nil)))⟩, fun s H C cl fp => ⟨_, dts_nil⟩, fun s H C cl fp => ⟨_, (de_tupN 2 (da_cons (de_v 8) (da_cons (de_v 13) da_nil)) (len_cons (len_cons len_nil)))⟩⟩)) da_nil)) da_nil)))))) (len_cons (len_cons (len_cons (len_cons (len_cons (len_cons len_nil))))))))))) dss_nil)
  (dss_cons (ds_own sc_l_any_row.nd (do_lstN 0 da_nil len_nil))
  (dss_cons (ds_for (di_seq (de_cut (de_v 5) dp_none (dp_some (de_callD (df_l_pick gm) hr (dr_o (pe_var (i := 0) rfl (by first | exact Or.inl rfl | exact Or.inr (Or.inl rfl) | exact Or.inr (Or.inr rfl))) (dr_d (de_add (de_fn call_lenA fd_len gm.f_len (by decide +kernel) (da_cons (de_v 5) da_nil)) de_int) dr_nil)) (al_o (al_d al_nil)))))) (dg_name (pg_name (i := 8) sc_l_any_row.nd rfl (by first | exact .inl rfl | exact .inr rfl))) (dss_cons (ds_set sc_l_any_row.nd (de_callD (df_l_somes gm) hr (dr_o (pe_var (i := 0) rfl (by first | exact Or.inl rfl | exact Or.inr (Or.inl rfl) | exact Or.inr (Or.inr rfl))) (dr_d (de_callD (df_l_rooms gm) hr (dr_o (pe_var (i := 0) rfl (by first | exact Or.inl rfl | exact Or.inr (Or.inl rfl) | exact Or.inr (Or.inr rfl))) (dr_d de_int dr_nil)) (al_o (al_d al_nil))) (dr_d (de_v 7) (dr_d (de_fn call_lenA fd_len gm.f_len (by decide +kernel) (da_cons (de_v 10) da_nil)) (dr_d (de_v 6) (dr_d de_int dr_nil)))))) (al_o (al_d (al_d (al_d (al_d (al_d al_nil))))))))
    (dss_cons (ds_set sc_l_any_row.nd (de_callD (df_l_somes gm) hr (dr_o (pe_var (i := 0) rfl (by first | exact Or.inl rfl | exact Or.inr (Or.inl rfl) | exact Or.inr (Or.inr rfl))) (dr_d (de_callD (df_l_rooms gm) hr (dr_o (pe_var (i := 0) rfl (by first | exact Or.inl rfl | exact Or.inr (Or.inl rfl) | exact Or.inr (Or.inr rfl))) (dr_d de_int dr_nil)) (al_o (al_d al_nil))) (dr_d (de_v 7) (dr_d (de_add (de_fn call_lenA fd_len gm.f_len (by decide +kernel) (da_cons (de_v 10) da_nil)) (de_fn call_lenA fd_len gm.f_len (by decide +kernel) (da_cons (de_v 15) da_nil))) (dr_d (de_v 6) (dr_d de_int dr_nil)))))) (al_o (al_d (al_d (al_d (al_d (al_d al_nil))))))))
    (dss_one (ds_app (pe_var (i := 14) rfl (by first | exact Or.inl rfl | exact Or.inr (Or.inl rfl) | exact Or.inr (Or.inr rfl))) (de_tupN 3 (da_cons (de_v 8) (da_cons (de_v 15) (da_cons (de_v 16) da_nil))) (len_cons (len_cons (len_cons len_nil)))))))) PassesOwn.never)
  (dss_cons (ds_set sc_l_any_row.nd (de_callD (df_l_somes gm) hr (dr_o (pe_var (i := 0) rfl (by first | exact Or.inl rfl | exact Or.inr (Or.inl rfl) | exact Or.inr (Or.inr rfl))) (dr_d (de_callD (df_l_rooms gm) hr (dr_o (pe_var (i := 0) rfl (by first | exact Or.inl rfl | exact Or.inr (Or.inl rfl) | exact Or.inr (Or.inr rfl))) (dr_d de_int dr_nil)) (al_o (al_d al_nil))) (dr_d (de_v 7) (dr_d (de_fn call_lenA fd_len gm.f_len (by decide +kernel) (da_cons (de_v 10) da_nil)) (dr_d (de_v 6) (dr_d de_int dr_nil)))))) (al_o (al_d (al_d (al_d (al_d (al_d al_nil))))))))
  (dss_one (ds_ret (de_bor 14 (de_tupN 7 (da_cons (de_v 9) (da_cons (de_v 4) (da_cons (de_v 6) (da_cons (de_v 10) (da_cons (de_v 17) (da_cons (de_tupN 2 (da_cons de_int (da_cons (de_tupN 0 da_nil len_nil) da_nil)) (len_cons (len_cons len_nil))) (da_cons (de_ty call_tuple_of fd_tuple gm.f_tuple (by decide +kernel) (da_cons (de_v 14) da_nil)) da_nil))))))) (len_cons (len_cons (len_cons (len_cons (len_cons (len_cons (len_cons len_nil))))))))))))))))))))))))⟩) hg (fun fd F => F.bindsN fun _ _ _ _ _ _ us hl => match us, hl with | [_], _ => rfl)
/-! given_names -/
abbrev s_p_given_names : Stmt := top 8
theorem sc_p_given_names : FnScope ["row", "maker", "field"] ["row"] (defScope s_p_given_names) := ⟨rfl, rfl, rfl, by decide +kernel, rfl, by decide +kernel, by decide +kernel⟩
def b_p_given_names : SM :=
  (mThen (mIf (mTest boolD (mOp eqD (mOp ixD (mVar 0) (mC (.int 0))) (mC (.str "family")))) (mRet (mOp addD (mOp addD (mTup (mCons (mOp ixD (mVar 0) (mC (.int 1))) mNil)) (mFn tupleD (mCons (mFz (mLc [1] (mItems (mOp ixD (mVar 0) (mC (.int 6)))) (mSet 1) mYes (mOp ixD (mVar 1) (mC (.int 0))))) mNil))) (mTup (mCons (mOp addD (mOp ixD (mVar 0) (mC (.int 1))) (mC (.str ".rec"))) mNil)))) mSkip)
  (mThen (mIf (mTest boolD (mOp eqD (mOp ixD (mVar 0) (mC (.int 0))) (mC (.str "record")))) (mRet (mOp addD (mTup (mCons (mOp ixD (mVar 0) (mC (.int 1))) (mCons (mOp addD (mOp ixD (mVar 0) (mC (.int 1))) (mC (.str ".mk"))) mNil))) (mFn tupleD (mCons (mFz (mLc [2] (mItems (mOp ixD (mVar 0) (mC (.int 5)))) (mSet 2) mYes (mOp addD (mOp addD (mOp ixD (mVar 0) (mC (.int 1))) (mC (.str "."))) (mOp ixD (mVar 2) (mC (.int 0)))))) mNil)))) mSkip)
  (mRet (mTup (mCons (mOp ixD (mVar 0) (mC (.int 1))) mNil)))))
def M_p_given_names : FM := mBody 3 1 [] b_p_given_names
theorem df_p_given_names (gm : TX K mg) : Def Pr w K mg base 1 "given_names" ["row"] (spF K mg 1 M_p_given_names) := by
  obtain ⟨f, Fx, hg⟩ := gm.d_p_given_names
  exact mk_defG Fx (fun fd F => fnd_ok F sc_p_given_names rfl (by decide) (by decide) fun cdv Ar outer s H E hr =>
    ⟨_, (dss_cons (ds_if (dt_cmp (op_eqP (hu200 hr)) od_eq (de_ix (de_v 0) de_int) de_str (nomark _)) (dss_one (ds_ret (de_add (de_add (de_tupN 1 (da_cons (de_ix (de_v 0) de_int) da_nil) (len_cons len_nil)) (de_ty call_tuple_of fd_tuple gm.f_tuple (by decide +kernel) (da_cons (de_fz (do_lcX sc_p_given_names.nd (di_seq (de_ix (de_v 0) de_int)) (blkOk_by (N := ["row", "maker", "field"]) (sc := defScope s_p_given_names) (own := [("maker", 1)]) (by decide +kernel)) ⟨fun s H C cl fp => ⟨_, (dg_name (pg_name (i := 1) sc_p_given_names.nd rfl (by first | exact .inl rfl | exact .inr rfl)))⟩, fun s H C cl fp => ⟨_, dts_nil⟩, fun s H C cl fp => ⟨_, (de_ix (de_v 1) de_int)⟩⟩)) da_nil))) (de_tupN 1 (da_cons (de_add (de_ix (de_v 0) de_int) de_str) da_nil) (len_cons len_nil))))) dss_nil)
  (dss_cons (ds_if (dt_cmp (op_eqP (hu200 hr)) od_eq (de_ix (de_v 0) de_int) de_str (nomark _)) (dss_one (ds_ret (de_add (de_tupN 2 (da_cons (de_ix (de_v 0) de_int) (da_cons (de_add (de_ix (de_v 0) de_int) de_str) da_nil)) (len_cons (len_cons len_nil))) (de_ty call_tuple_of fd_tuple gm.f_tuple (by decide +kernel) (da_cons (de_fz (do_lcX sc_p_given_names.nd (di_seq (de_ix (de_v 0) de_int)) (blkOk_by (N := ["row", "maker", "field"]) (sc := defScope s_p_given_names) (own := [("field", 2)]) (by decide +kernel)) ⟨fun s H C cl fp => ⟨_, (dg_name (pg_name (i := 2) sc_p_given_names.nd rfl (by first | exact .inl rfl | exact .inr rfl)))⟩, fun s H C cl fp => ⟨_, dts_nil⟩, fun s H C cl fp => ⟨_, (de_add (de_add (de_ix (de_v 0) de_int) de_str) (de_ix (de_v 2) de_int))⟩⟩)) da_nil))))) dss_nil)
  (dss_one (ds_ret (de_tupN 1 (da_cons (de_ix (de_v 0) de_int) da_nil) (len_cons len_nil))))))⟩) hg (fun fd F => F.bindsN fun _ _ _ _ _ _ us hl => match us, hl with | [_], _ => rfl)
/-! entry_terms -/
abbrev s_p_entry_terms : Stmt := top 5
theorem sc_p_entry_terms : FnScope ["front", "context", "telescope", "i", "kind"] ["front", "context", "telescope"] (defScope s_p_entry_terms) := ⟨rfl, rfl, rfl, by decide +kernel, rfl, by decide +kernel, by decide +kernel⟩
def b_p_entry_terms : SM :=
  (mRet (mFn tupleD (mCons (mFz (mLc [3, 4] (mEnumE (mVar 2)) (gtTup (gtCons (mSet 3) (gtCons (mSet 4) gtNil))) mYes (mTup (mCons (mOp addD (mVar 0) (mTup (mCons (mVar 3) mNil))) (mCons (mOp addD (mVar 1) (mCut (mVar 2) mNone (mPart (mVar 3)))) (mCons (mVar 4) mNil)))))) mNil)))
def M_p_entry_terms : FM := mBody 5 3 [] b_p_entry_terms
theorem df_p_entry_terms (gm : TX K mg) : Def Pr w K mg base 1 "entry_terms" ["front", "context", "telescope"] (spF K mg 3 M_p_entry_terms) := by
  obtain ⟨f, Fx, hg⟩ := gm.d_p_entry_terms
  exact mk_defG Fx (fun fd F => fnd_ok F sc_p_entry_terms rfl (by decide) (by decide) fun cdv Ar outer s H E hr =>
    ⟨_, (dss_one (ds_ret (de_ty call_tuple_of fd_tuple gm.f_tuple (by decide +kernel) (da_cons (de_fz (do_lcX sc_p_entry_terms.nd (di_enumE gm.f_enumerate (de_v 2)) (blkOk_by (N := ["front", "context", "telescope", "i", "kind"]) (sc := defScope s_p_entry_terms) (own := [("i", 3), ("kind", 4)]) (by decide +kernel)) ⟨fun s H C cl fp => ⟨_, (dg_tup rfl (dgs_cons (dg_name (pg_name (i := 3) sc_p_entry_terms.nd rfl (by first | exact .inl rfl | exact .inr rfl))) (dgs_cons (dg_name (pg_name (i := 4) sc_p_entry_terms.nd rfl (by first | exact .inl rfl | exact .inr rfl))) dgs_nil)))⟩, fun s H C cl fp => ⟨_, dts_nil⟩, fun s H C cl fp => ⟨_, (de_tupN 3 (da_cons (de_add (de_v 0) (de_tupN 1 (da_cons (de_v 3) da_nil) (len_cons len_nil))) (da_cons (de_add (de_v 1) (de_cut (de_v 2) dp_none (dp_some (de_v 3)))) (da_cons (de_v 4) da_nil))) (len_cons (len_cons (len_cons len_nil))))⟩⟩)) da_nil))))⟩) hg (fun fd F => F.bindsN fun _ _ _ _ _ _ us hl => match us, hl with | [_, _, _], _ => rfl)
/-! row_terms -/
abbrev s_p_row_terms : Stmt := top 6
theorem sc_p_row_terms : FnScope ["row", "found", "name", "kind", "args", "results", "i", "term"] ["row"] (defScope s_p_row_terms) := ⟨rfl, rfl, rfl, by decide +kernel, rfl, by decide +kernel, by decide +kernel⟩
def b_p_row_terms : SM :=
  (mThen (mIf (mTest boolD (mOp eqD (mOp ixD (mVar 0) (mC (.int 0))) (mC (.str "axiom")))) (mRet (mTup (mCons (mTup (mCons (mTup (mCons (mC (.str "kind")) mNil)) (mCons (mTup mNil) (mCons (mOp ixD (mVar 0) (mC (.int 3))) mNil)))) mNil))) mSkip)
  (mThen (mIf (mAnd (mTest boolD (mOp neD (mOp ixD (mVar 0) (mC (.int 0))) (mC (.str "family")))) (mTest boolD (mOp neD (mOp ixD (mVar 0) (mC (.int 0))) (mC (.str "record"))))) (mRet (mTup (mCons (mTup (mCons (mTup (mCons (mC (.str "kind")) mNil)) (mCons (mTup mNil) (mCons (mOp ixD (mVar 0) (mC (.int 3))) mNil)))) (mCons (mTup (mCons (mTup (mCons (mC (.str "body")) mNil)) (mCons (mTup mNil) (mCons (mOp ixD (mVar 0) (mC (.int 4))) mNil)))) mNil)))) mSkip)
  (mThen (mAsg (mCall (noX M_p_entry_terms) [] (aD (mTup (mCons (mC (.str "param")) mNil)) (aD (mTup mNil) (aD (mOp ixD (mVar 0) (mC (.int 3))) aNil)))) (mSet 1))
  (mThen (mIf (mTest boolD (mOp eqD (mOp ixD (mVar 0) (mC (.int 0))) (mC (.str "record")))) (mRet (mOp addD (mVar 1) (mCall (noX M_p_entry_terms) [] (aD (mTup (mCons (mC (.str "field")) mNil)) (aD (mOp ixD (mVar 0) (mC (.int 3))) (aD (mFn tupleD (mCons (mFz (mLc [2, 3] (mItems (mOp ixD (mVar 0) (mC (.int 5)))) (gtTup (gtCons (mSet 2) (gtCons (mSet 3) gtNil))) mYes (mVar 3))) mNil)) aNil)))))) mSkip)
  (mThen (mAsg (mOp addD (mVar 1) (mCall (noX M_p_entry_terms) [] (aD (mTup (mCons (mC (.str "index")) mNil)) (aD (mOp ixD (mVar 0) (mC (.int 3))) (aD (mOp ixD (mVar 0) (mC (.int 4))) aNil))))) (mSet 1))
  (mThen (mFor (mItems (mOp ixD (mVar 0) (mC (.int 6)))) (gtTup (gtCons (mSet 2) (gtCons (mSet 4) (gtCons (mSet 5) gtNil)))) (mThen (mAsg (mOp addD (mVar 1) (mCall (noX M_p_entry_terms) [] (aD (mTup (mCons (mC (.str "arg")) (mCons (mVar 2) mNil))) (aD (mOp ixD (mVar 0) (mC (.int 3))) (aD (mVar 4) aNil))))) (mSet 1))
    (mAsg (mOp addD (mVar 1) (mFn tupleD (mCons (mFz (mLc [6, 7] (mEnumE (mVar 5)) (gtTup (gtCons (mSet 6) (gtCons (mSet 7) gtNil))) mYes (mTup (mCons (mTup (mCons (mC (.str "result")) (mCons (mVar 2) (mCons (mVar 6) mNil)))) (mCons (mOp addD (mOp ixD (mVar 0) (mC (.int 3))) (mVar 4)) (mCons (mVar 7) mNil)))))) mNil))) (mSet 1))))
  (mRet (mVar 1))))))))
def M_p_row_terms : FM := mBody 8 1 [] b_p_row_terms
theorem df_p_row_terms (gm : TX K mg) : Def Pr w K mg base 2 "row_terms" ["row"] (spF K mg 1 M_p_row_terms) := by
  obtain ⟨f, Fx, hg⟩ := gm.d_p_row_terms
  exact mk_defG Fx (fun fd F => fnd_ok F sc_p_row_terms rfl (by decide) (by decide) fun cdv Ar outer s H E hr =>
    ⟨_, (dss_cons (ds_if (dt_cmp (op_eqP (hu200 hr)) od_eq (de_ix (de_v 0) de_int) de_str (nomark _)) (dss_one (ds_ret (de_tupN 1 (da_cons (de_tupN 3 (da_cons (de_tupN 1 (da_cons de_str da_nil) (len_cons len_nil)) (da_cons (de_tupN 0 da_nil len_nil) (da_cons (de_ix (de_v 0) de_int) da_nil))) (len_cons (len_cons (len_cons len_nil)))) da_nil) (len_cons len_nil)))) dss_nil)
  (dss_cons (ds_if (dt_w (dw_and (dt_cmp (op_neP (hu200 hr)) od_ne (de_ix (de_v 0) de_int) de_str (nomark _)) (dw_and1 (dt_cmp (op_neP (hu200 hr)) od_ne (de_ix (de_v 0) de_int) de_str (nomark _))))) (dss_one (ds_ret (de_tupN 2 (da_cons (de_tupN 3 (da_cons (de_tupN 1 (da_cons de_str da_nil) (len_cons len_nil)) (da_cons (de_tupN 0 da_nil len_nil) (da_cons (de_ix (de_v 0) de_int) da_nil))) (len_cons (len_cons (len_cons len_nil)))) (da_cons (de_tupN 3 (da_cons (de_tupN 1 (da_cons de_str da_nil) (len_cons len_nil)) (da_cons (de_tupN 0 da_nil len_nil) (da_cons (de_ix (de_v 0) de_int) da_nil))) (len_cons (len_cons (len_cons len_nil)))) da_nil)) (len_cons (len_cons len_nil))))) dss_nil)
  (dss_cons (ds_set sc_p_row_terms.nd (de_callD (df_p_entry_terms gm) hr (dr_d (de_tupN 1 (da_cons de_str da_nil) (len_cons len_nil)) (dr_d (de_tupN 0 da_nil len_nil) (dr_d (de_ix (de_v 0) de_int) dr_nil))) (al_d (al_d (al_d al_nil)))))
  (dss_cons (ds_if (dt_cmp (op_eqP (hu200 hr)) od_eq (de_ix (de_v 0) de_int) de_str (nomark _)) (dss_one (ds_ret (de_add (de_v 1) (de_callD (df_p_entry_terms gm) hr (dr_d (de_tupN 1 (da_cons de_str da_nil) (len_cons len_nil)) (dr_d (de_ix (de_v 0) de_int) (dr_d (de_ty call_tuple_of fd_tuple gm.f_tuple (by decide +kernel) (da_cons (de_fz (do_lcX sc_p_row_terms.nd (di_seq (de_ix (de_v 0) de_int)) (blkOk_by (N := ["row", "found", "name", "kind", "args", "results", "i", "term"]) (sc := defScope s_p_row_terms) (own := [("name", 2), ("kind", 3)]) (by decide +kernel)) ⟨fun s H C cl fp => ⟨_, (dg_tup rfl (dgs_cons (dg_name (pg_name (i := 2) sc_p_row_terms.nd rfl (by first | exact .inl rfl | exact .inr rfl))) (dgs_cons (dg_name (pg_name (i := 3) sc_p_row_terms.nd rfl (by first | exact .inl rfl | exact .inr rfl))) dgs_nil)))⟩, fun s H C cl fp => ⟨_, dts_nil⟩, fun s H C cl fp => ⟨_, (de_v 3)⟩⟩)) da_nil)) dr_nil))) (al_d (al_d (al_d al_nil))))))) dss_nil)
  (dss_cons (ds_set sc_p_row_terms.nd (de_add (de_v 1) (de_callD (df_p_entry_terms gm) hr (dr_d (de_tupN 1 (da_cons de_str da_nil) (len_cons len_nil)) (dr_d (de_ix (de_v 0) de_int) (dr_d (de_ix (de_v 0) de_int) dr_nil))) (al_d (al_d (al_d al_nil))))))
  (dss_cons (ds_for (di_seq (de_ix (de_v 0) de_int)) (dg_tup rfl (dgs_cons (dg_name (pg_name (i := 2) sc_p_row_terms.nd rfl (by first | exact .inl rfl | exact .inr rfl))) (dgs_cons (dg_name (pg_name (i := 4) sc_p_row_terms.nd rfl (by first | exact .inl rfl | exact .inr rfl))) (dgs_cons (dg_name (pg_name (i := 5) sc_p_row_terms.nd rfl (by first | exact .inl rfl | exact .inr rfl))) dgs_nil)))) (dss_cons (ds_set sc_p_row_terms.nd (de_add (de_v 1) (de_callD (df_p_entry_terms gm) hr (dr_d (de_tupN 2 (da_cons de_str (da_cons (de_v 2) da_nil)) (len_cons (len_cons len_nil))) (dr_d (de_ix (de_v 0) de_int) (dr_d (de_v 4) dr_nil))) (al_d (al_d (al_d al_nil))))))
    (dss_one (ds_set sc_p_row_terms.nd (de_add (de_v 1) (de_ty call_tuple_of fd_tuple gm.f_tuple (by decide +kernel) (da_cons (de_fz (do_lcX sc_p_row_terms.nd (di_enumE gm.f_enumerate (de_v 5)) (blkOk_by (N := ["row", "found", "name", "kind", "args", "results", "i", "term"]) (sc := defScope s_p_row_terms) (own := [("i", 6), ("term", 7)]) (by decide +kernel)) ⟨fun s H C cl fp => ⟨_, (dg_tup rfl (dgs_cons (dg_name (pg_name (i := 6) sc_p_row_terms.nd rfl (by first | exact .inl rfl | exact .inr rfl))) (dgs_cons (dg_name (pg_name (i := 7) sc_p_row_terms.nd rfl (by first | exact .inl rfl | exact .inr rfl))) dgs_nil)))⟩, fun s H C cl fp => ⟨_, dts_nil⟩, fun s H C cl fp => ⟨_, (de_tupN 3 (da_cons (de_tupN 3 (da_cons de_str (da_cons (de_v 2) (da_cons (de_v 6) da_nil))) (len_cons (len_cons (len_cons len_nil)))) (da_cons (de_add (de_ix (de_v 0) de_int) (de_v 4)) (da_cons (de_v 7) da_nil))) (len_cons (len_cons (len_cons len_nil))))⟩⟩)) da_nil)))))) PassesOwn.never)
  (dss_one (ds_ret (de_v 1)))))))))⟩) hg (fun fd F => F.bindsN fun _ _ _ _ _ _ us hl => match us, hl with | [_], _ => rfl)
/-! parts_of -/
abbrev s_p_parts_of : Stmt := top 1
theorem sc_p_parts_of : FnScope ["node", "tag"] ["node"] (defScope s_p_parts_of) := ⟨rfl, rfl, rfl, by decide +kernel, rfl, by decide +kernel, by decide +kernel⟩
def b_p_parts_of : SM :=
  (mThen (mAsg (mOp ixD (mVar 0) (mC (.int 0))) (mSet 1))
  (mThen (mIf (mOr (mTest boolD (mOp eqD (mVar 1) (mC (.str "app")))) (mOr (mTest boolD (mOp eqD (mVar 1) (mC (.str "pi")))) (mOr (mTest boolD (mOp eqD (mVar 1) (mC (.str "fun")))) (mTest boolD (mOp eqD (mVar 1) (mC (.str "let"))))))) (mRet (mCut (mVar 0) (mPart (mC (.int 1))) mNone)) mSkip)
  (mThen (mIf (mTest boolD (mOp eqD (mVar 1) (mC (.str "hole")))) (mRet (mOp ixD (mVar 0) (mC (.int 2)))) mSkip)
  (mRet (mTup mNil)))))
def M_p_parts_of : FM := mBody 2 1 [] b_p_parts_of
theorem df_p_parts_of (gm : TX K mg) : Def Pr w K mg base 1 "parts_of" ["node"] (spF K mg 1 M_p_parts_of) := by
  obtain ⟨f, Fx, hg⟩ := gm.d_p_parts_of
  exact mk_defG Fx (fun fd F => fnd_ok F sc_p_parts_of rfl (by decide) (by decide) fun cdv Ar outer s H E hr =>
    ⟨_, (dss_cons (ds_set sc_p_parts_of.nd (de_ix (de_v 0) de_int))
  (dss_cons (ds_if (dt_w (dw_or (dt_cmp (op_eqP (hu200 hr)) od_eq (de_v 1) de_str (nomark _)) (dw_or (dt_cmp (op_eqP (hu200 hr)) od_eq (de_v 1) de_str (nomark _)) (dw_or (dt_cmp (op_eqP (hu200 hr)) od_eq (de_v 1) de_str (nomark _)) (dw_or1 (dt_cmp (op_eqP (hu200 hr)) od_eq (de_v 1) de_str (nomark _))))))) (dss_one (ds_ret (de_cut (de_v 0) (dp_some de_int) dp_none))) dss_nil)
  (dss_cons (ds_if (dt_cmp (op_eqP (hu200 hr)) od_eq (de_v 1) de_str (nomark _)) (dss_one (ds_ret (de_ix (de_v 0) de_int))) dss_nil)
  (dss_one (ds_ret (de_tupN 0 da_nil len_nil))))))⟩) hg (fun fd F => F.bindsN fun _ _ _ _ _ _ us hl => match us, hl with | [_], _ => rfl)
/-! constants_in -/
abbrev s_p_constants_in : Stmt := top 3
theorem sc_p_constants_in : FnScope ["term", "found", "waiting", "node"] ["term"] (defScope s_p_constants_in) := ⟨rfl, rfl, rfl, by decide +kernel, rfl, by decide +kernel, by decide +kernel⟩
def b_p_constants_in (wf : Nat) : SM :=
  (mThen (mNewK 1)
  (mThen (mOwn 2 (mCons (mVar 0) mNil))
  (mThen (whileL (mBor (fun _ => true) 2 (mTest truthD (mVar 2))) (mThen (mAsg (mPop 2) (mSet 3))
    (mThen (mIf (mTest boolD (mOp eqD (mOp ixD (mVar 3) (mC (.int 0))) (mC (.str "const")))) (mPutK 1 (mC (.bool true)) (mOp ixD (mVar 3) (mC (.int 1)))) mSkip)
    (mExtA 2 (mUn revA (mCall (noX M_p_parts_of) [] (aD (mVar 3) aNil)))))) wf)
  (mRet (mTupK 1)))))
def M_p_constants_in (wf : Nat) : FM := mBody 4 1 [] (b_p_constants_in wf)
theorem df_p_constants_in (gm : TX K mg) (wf : Nat) : Def Pr w K mg base 2 "constants_in" ["term"] (spF K mg 1 (M_p_constants_in wf)) := by
  obtain ⟨f, Fx, hg⟩ := gm.d_p_constants_in
  exact mk_defG Fx (fun fd F => fnd_ok F sc_p_constants_in rfl (by decide) (by decide) fun cdv Ar outer s H E hr =>
    ⟨_, (dss_cons (ds_newK sc_p_constants_in.nd)
  (dss_cons (ds_own sc_p_constants_in.nd (do_lstN 1 (da_cons (de_v 0) da_nil) (len_cons len_nil)))
  (dss_cons (ds_while wf PassesOwn.never (dt_bor 2 (dt_bool (de_v 2))) (dss_cons (ds_set sc_p_constants_in.nd (de_pop (pe_var (i := 2) rfl (by first | exact Or.inl rfl | exact Or.inr (Or.inl rfl) | exact Or.inr (Or.inr rfl)))))
    (dss_cons (ds_if (dt_cmp (op_eqP (hu200 hr)) od_eq (de_ix (de_v 3) de_int) de_str (nomark _)) (dss_one (ds_putK (hu200 hr) (pe_var (i := 1) rfl (by first | exact Or.inl rfl | exact Or.inr (Or.inl rfl) | exact Or.inr (Or.inr rfl))) (de_ix (de_v 3) de_int) de_bl)) dss_nil)
    (dss_one (ds_extA (pe_var (i := 2) rfl (by first | exact Or.inl rfl | exact Or.inr (Or.inl rfl) | exact Or.inr (Or.inr rfl))) (de_revA (de_callD (df_p_parts_of gm) hr (dr_d (de_v 3) dr_nil) (al_d al_nil))))))))
  (dss_one (ds_ret (de_tupK (pe_var (i := 1) rfl (by first | exact Or.inl rfl | exact Or.inr (Or.inl rfl) | exact Or.inr (Or.inr rfl))) gm.f_tuple))))))⟩) hg (fun fd F => F.bindsN fun _ _ _ _ _ _ us hl => match us, hl with | [_], _ => rfl)
/-! mentions -/
abbrev s_p_mentions : Stmt := top 10
theorem sc_p_mentions : FnScope ["row", "own", "found", "where", "context", "term", "name"] ["row"] (defScope s_p_mentions) := ⟨rfl, rfl, rfl, by decide +kernel, rfl, by decide +kernel, by decide +kernel⟩
def b_p_mentions : SM :=
  (mThen (mAsg (mCall (noX M_p_given_names) [] (aD (mVar 0) aNil)) (mSet 1))
  (mThen (mNewK 2)
  (mThen (mFor (mItems (mCall (noX M_p_row_terms) [] (aD (mVar 0) aNil))) (gtTup (gtCons (mSet 3) (gtCons (mSet 4) (gtCons (mSet 5) gtNil)))) (mFor (mItems (mCall (noX (M_p_constants_in 20)) [] (aD (mVar 5) aNil))) (mSet 6) (mIf (mTest boolD (mOp (inD true) (mVar 6) (mVar 1))) (mPutK 2 (mC (.bool true)) (mVar 6)) mSkip)))
  (mRet (mTupK 2)))))
def M_p_mentions : FM := mBody 7 1 [] b_p_mentions
theorem df_p_mentions (gm : TX K mg) : Def Pr w K mg base 3 "mentions" ["row"] (spF K mg 1 M_p_mentions) := by
  obtain ⟨f, Fx, hg⟩ := gm.d_p_mentions
  exact mk_defG Fx (fun fd F => fnd_ok F sc_p_mentions rfl (by decide) (by decide) fun cdv Ar outer s H E hr =>
    ⟨_, (dss_cons (ds_set sc_p_mentions.nd (de_callD (df_p_given_names gm) hr (dr_d (de_v 0) dr_nil) (al_d al_nil)))
  (dss_cons (ds_newK sc_p_mentions.nd)
  (dss_cons (ds_for (di_seq (de_callD (df_p_row_terms gm) hr (dr_d (de_v 0) dr_nil) (al_d al_nil))) (dg_tup rfl (dgs_cons (dg_name (pg_name (i := 3) sc_p_mentions.nd rfl (by first | exact .inl rfl | exact .inr rfl))) (dgs_cons (dg_name (pg_name (i := 4) sc_p_mentions.nd rfl (by first | exact .inl rfl | exact .inr rfl))) (dgs_cons (dg_name (pg_name (i := 5) sc_p_mentions.nd rfl (by first | exact .inl rfl | exact .inr rfl))) dgs_nil)))) (dss_one (ds_for (di_seq (de_callD (df_p_constants_in gm 20) hr (dr_d (de_v 5) dr_nil) (al_d al_nil))) (dg_name (pg_name (i := 6) sc_p_mentions.nd rfl (by first | exact .inl rfl | exact .inr rfl))) (dss_one (ds_if (dt_cmp (op_notInA (hu200 hr)) od_in (de_v 6) (de_v 1) rfl) (dss_one (ds_putK (hu200 hr) (pe_var (i := 2) rfl (by first | exact Or.inl rfl | exact Or.inr (Or.inl rfl) | exact Or.inr (Or.inr rfl))) (de_v 6) de_bl)) dss_nil)) PassesOwn.never)) PassesOwn.never)
  (dss_one (ds_ret (de_tupK (pe_var (i := 2) rfl (by first | exact Or.inl rfl | exact Or.inr (Or.inl rfl) | exact Or.inr (Or.inr rfl))) gm.f_tuple))))))⟩) hg (fun fd F => F.bindsN fun _ _ _ _ _ _ us hl => match us, hl with | [_], _ => rfl)
/-! _law_terms -/
abbrev s_l_terms : Stmt := top 18
theorem sc_l_terms : FnScope ["_law_row", "_law_one_here", "_law_out", "_law_name_here", "_law_args", "_law_ends"] ["_law_row"] (defScope s_l_terms) := ⟨rfl, rfl, rfl, by decide +kernel, rfl, by decide +kernel, by decide +kernel⟩
def b_l_terms : SM :=
  (mThen (mIf (mTest boolD (mOp eqD (mOp ixD (mVar 0) (mC (.int 0))) (mC (.str "record")))) (mRet (mOp addD (mFz (mFnO itemsD (mCons (mOp ixD (mVar 0) (mC (.int 3))) mNil))) (mFz (mLc [1] (mItems (mOp ixD (mVar 0) (mC (.int 5)))) (mSet 1) mYes (mOp ixD (mVar 1) (mC (.int 1))))))) mSkip)
  (mThen (mIf (mTest boolD (mOp neD (mOp ixD (mVar 0) (mC (.int 0))) (mC (.str "family")))) (mRet (mFz (mFnO itemsD (mCons (mCut (mVar 0) (mPart (mC (.int 3))) mNone) mNil)))) mSkip)
  (mThen (mAsg (mOp addD (mFz (mFnO itemsD (mCons (mOp ixD (mVar 0) (mC (.int 3))) mNil))) (mFz (mFnO itemsD (mCons (mOp ixD (mVar 0) (mC (.int 4))) mNil)))) (mSet 2))
  (mThen (mFor (mItems (mOp ixD (mVar 0) (mC (.int 6)))) (gtTup (gtCons (mSet 3) (gtCons (mSet 4) (gtCons (mSet 5) gtNil)))) (mAsg (mOp addD (mOp addD (mVar 2) (mFz (mFnO itemsD (mCons (mVar 4) mNil)))) (mFz (mFnO itemsD (mCons (mVar 5) mNil)))) (mSet 2)))
  (mRet (mVar 2))))))
def M_l_terms : FM := mBody 6 1 [] b_l_terms
theorem df_l_terms (gm : TX K mg) : Def Pr w K mg base 1 "_law_terms" ["_law_row"] (spF K mg 1 M_l_terms) := by
  obtain ⟨f, Fx, hg⟩ := gm.d_l_terms
  exact mk_defG Fx (fun fd F => fnd_ok F sc_l_terms rfl (by decide) (by decide) fun cdv Ar outer s H E hr =>
    ⟨_, (dss_cons (ds_if (dt_cmp (op_eqP (hu200 hr)) od_eq (de_ix (de_v 0) de_int) de_str (nomark _)) (dss_one (ds_ret (de_add (de_fz (do_ty call_list_of fo_list gm.f_list (by decide +kernel) (da_cons (de_ix (de_v 0) de_int) da_nil))) (de_fz (do_lcX sc_l_terms.nd (di_seq (de_ix (de_v 0) de_int)) (blkOk_by (N := ["_law_row", "_law_one_here", "_law_out", "_law_name_here", "_law_args", "_law_ends"]) (sc := defScope s_l_terms) (own := [("_law_one_here", 1)]) (by decide +kernel)) ⟨fun s H C cl fp => ⟨_, (dg_name (pg_name (i := 1) sc_l_terms.nd rfl (by first | exact .inl rfl | exact .inr rfl)))⟩, fun s H C cl fp => ⟨_, dts_nil⟩, fun s H C cl fp => ⟨_, (de_ix (de_v 1) de_int)⟩⟩))))) dss_nil)
  (dss_cons (ds_if (dt_cmp (op_neP (hu200 hr)) od_ne (de_ix (de_v 0) de_int) de_str (nomark _)) (dss_one (ds_ret (de_fz (do_ty call_list_of fo_list gm.f_list (by decide +kernel) (da_cons (de_cut (de_v 0) (dp_some de_int) dp_none) da_nil))))) dss_nil)
  (dss_cons (ds_set sc_l_terms.nd (de_add (de_fz (do_ty call_list_of fo_list gm.f_list (by decide +kernel) (da_cons (de_ix (de_v 0) de_int) da_nil))) (de_fz (do_ty call_list_of fo_list gm.f_list (by decide +kernel) (da_cons (de_ix (de_v 0) de_int) da_nil)))))
  (dss_cons (ds_for (di_seq (de_ix (de_v 0) de_int)) (dg_tup rfl (dgs_cons (dg_name (pg_name (i := 3) sc_l_terms.nd rfl (by first | exact .inl rfl | exact .inr rfl))) (dgs_cons (dg_name (pg_name (i := 4) sc_l_terms.nd rfl (by first | exact .inl rfl | exact .inr rfl))) (dgs_cons (dg_name (pg_name (i := 5) sc_l_terms.nd rfl (by first | exact .inl rfl | exact .inr rfl))) dgs_nil)))) (dss_one (ds_set sc_l_terms.nd (de_add (de_add (de_v 2) (de_fz (do_ty call_list_of fo_list gm.f_list (by decide +kernel) (da_cons (de_v 4) da_nil)))) (de_fz (do_ty call_list_of fo_list gm.f_list (by decide +kernel) (da_cons (de_v 5) da_nil)))))) PassesOwn.never)
  (dss_one (ds_ret (de_v 2)))))))⟩) hg (fun fd F => F.bindsN fun _ _ _ _ _ _ us hl => match us, hl with | [_], _ => rfl)
/-! _law_given -/
abbrev s_l_given : Stmt := top 17
theorem sc_l_given : FnScope ["_law_row", "_law_one_here"] ["_law_row"] (defScope s_l_given) := ⟨rfl, rfl, rfl, by decide +kernel, rfl, by decide +kernel, by decide +kernel⟩
def b_l_given : SM :=
  (mThen (mIf (mTest boolD (mOp eqD (mOp ixD (mVar 0) (mC (.int 0))) (mC (.str "family")))) (mRet (mOp addD (mOp addD (mFz (mCons (mOp ixD (mVar 0) (mC (.int 1))) mNil)) (mFz (mLc [1] (mItems (mOp ixD (mVar 0) (mC (.int 6)))) (mSet 1) mYes (mOp ixD (mVar 1) (mC (.int 0)))))) (mFz (mCons (mOp addD (mOp ixD (mVar 0) (mC (.int 1))) (mC (.str ".rec"))) mNil)))) mSkip)
  (mThen (mIf (mTest boolD (mOp eqD (mOp ixD (mVar 0) (mC (.int 0))) (mC (.str "record")))) (mRet (mOp addD (mFz (mCons (mOp ixD (mVar 0) (mC (.int 1))) (mCons (mOp addD (mOp ixD (mVar 0) (mC (.int 1))) (mC (.str ".mk"))) mNil))) (mFz (mLc [1] (mItems (mOp ixD (mVar 0) (mC (.int 5)))) (mSet 1) mYes (mOp addD (mOp addD (mOp ixD (mVar 0) (mC (.int 1))) (mC (.str "."))) (mOp ixD (mVar 1) (mC (.int 0)))))))) mSkip)
  (mRet (mFz (mCons (mOp ixD (mVar 0) (mC (.int 1))) mNil)))))
def M_l_given : FM := mBody 2 1 [] b_l_given
theorem df_l_given (gm : TX K mg) : Def Pr w K mg base 1 "_law_given" ["_law_row"] (spF K mg 1 M_l_given) := by
  obtain ⟨f, Fx, hg⟩ := gm.d_l_given
  exact mk_defG Fx (fun fd F => fnd_ok F sc_l_given rfl (by decide) (by decide) fun cdv Ar outer s H E hr =>
    ⟨_, (dss_cons (ds_if (dt_cmp (op_eqP (hu200 hr)) od_eq (de_ix (de_v 0) de_int) de_str (nomark _)) (dss_one (ds_ret (de_add (de_add (de_fz (do_lstN 1 (da_cons (de_ix (de_v 0) de_int) da_nil) (len_cons len_nil))) (de_fz (do_lcX sc_l_given.nd (di_seq (de_ix (de_v 0) de_int)) (blkOk_by (N := ["_law_row", "_law_one_here"]) (sc := defScope s_l_given) (own := [("_law_one_here", 1)]) (by decide +kernel)) ⟨fun s H C cl fp => ⟨_, (dg_name (pg_name (i := 1) sc_l_given.nd rfl (by first | exact .inl rfl | exact .inr rfl)))⟩, fun s H C cl fp => ⟨_, dts_nil⟩, fun s H C cl fp => ⟨_, (de_ix (de_v 1) de_int)⟩⟩))) (de_fz (do_lstN 1 (da_cons (de_add (de_ix (de_v 0) de_int) de_str) da_nil) (len_cons len_nil)))))) dss_nil)
  (dss_cons (ds_if (dt_cmp (op_eqP (hu200 hr)) od_eq (de_ix (de_v 0) de_int) de_str (nomark _)) (dss_one (ds_ret (de_add (de_fz (do_lstN 2 (da_cons (de_ix (de_v 0) de_int) (da_cons (de_add (de_ix (de_v 0) de_int) de_str) da_nil)) (len_cons (len_cons len_nil)))) (de_fz (do_lcX sc_l_given.nd (di_seq (de_ix (de_v 0) de_int)) (blkOk_by (N := ["_law_row", "_law_one_here"]) (sc := defScope s_l_given) (own := [("_law_one_here", 1)]) (by decide +kernel)) ⟨fun s H C cl fp => ⟨_, (dg_name (pg_name (i := 1) sc_l_given.nd rfl (by first | exact .inl rfl | exact .inr rfl)))⟩, fun s H C cl fp => ⟨_, dts_nil⟩, fun s H C cl fp => ⟨_, (de_add (de_add (de_ix (de_v 0) de_int) de_str) (de_ix (de_v 1) de_int))⟩⟩))))) dss_nil)
  (dss_one (ds_ret (de_fz (do_lstN 1 (da_cons (de_ix (de_v 0) de_int) da_nil) (len_cons len_nil)))))))⟩) hg (fun fd F => F.bindsN fun _ _ _ _ _ _ us hl => match us, hl with | [_], _ => rfl)
/-! _law_parts -/
abbrev s_l_parts : Stmt := top 16
theorem sc_l_parts : FnScope ["_law_term"] ["_law_term"] (defScope s_l_parts) := ⟨rfl, rfl, rfl, by decide +kernel, rfl, by decide +kernel, by decide +kernel⟩
def b_l_parts : SM :=
  (mRet (mIf (mTest boolD (mOp (inD false) (mOp ixD (mVar 0) (mC (.int 0))) (mTup (mCons (mC (.str "var")) (mCons (mC (.str "univ")) (mCons (mC (.str "const")) mNil)))))) (mTup mNil) (mCut (mVar 0) (mPart (mC (.int 1))) mNone)))
def M_l_parts : FM := mBody 1 1 [] b_l_parts
theorem df_l_parts (gm : TX K mg) : Def Pr w K mg base 1 "_law_parts" ["_law_term"] (spF K mg 1 M_l_parts) := by
  obtain ⟨f, Fx, hg⟩ := gm.d_l_parts
  exact mk_defG Fx (fun fd F => fnd_ok F sc_l_parts rfl (by decide) (by decide) fun cdv Ar outer s H E hr =>
    ⟨_, (dss_one (ds_ret (de_if (dt_cmp (op_inA (hu200 hr)) od_in (de_ix (de_v 0) de_int) (de_tupN 3 (da_cons de_str (da_cons de_str (da_cons de_str da_nil))) (len_cons (len_cons (len_cons len_nil)))) rfl) (de_tupN 0 da_nil len_nil) (de_cut (de_v 0) (dp_some de_int) dp_none))))⟩) hg (fun fd F => F.bindsN fun _ _ _ _ _ _ us hl => match us, hl with | [_], _ => rfl)
/-! _law_said -/
abbrev s_l_said : Stmt := top 19
theorem sc_l_said : FnScope ["_law_term", "_law_out", "_law_part"] ["_law_term"] (defScope s_l_said) := ⟨rfl, rfl, rfl, by decide +kernel, rfl, by decide +kernel, by decide +kernel⟩
def b_l_said (rf : FM) : SM :=
  (mThen (mIf (mTest boolD (mOp eqD (mOp ixD (mVar 0) (mC (.int 0))) (mC (.str "const")))) (mRet (mFz (mCons (mOp ixD (mVar 0) (mC (.int 1))) mNil))) mSkip)
  (mThen (mAsg (mFz mNil) (mSet 1))
  (mThen (mFor (mItems (mCall (noX M_l_parts) [] (aD (mVar 0) aNil))) (mSet 2) (mAsg (mOp addD (mVar 1) (mCall (noX rf) [] (aD (mVar 2) aNil))) (mSet 1)))
  (mRet (mVar 1)))))
def M_l_said : Nat → FM
  | 0 => mStuck
  | n + 1 => mBody 3 1 [] (b_l_said (M_l_said n))
theorem df_l_said (gm : TX K mg) : ∀ n : Nat, Def Pr w K mg base (1 + n) "_law_said" ["_law_term"] (spF K mg 1 (M_l_said n))
  | 0 => by
    obtain ⟨f, Fx, hg⟩ := gm.d_l_said
    exact mk_defG Fx (fun fd F => fn_vac vac_stuck) hg (fun fd F => F.bindsN fun _ _ _ _ _ _ us hl => match us, hl with | [_], _ => rfl)
  | n + 1 => by
    have ih := df_l_said gm n
    obtain ⟨f, Fx, hg⟩ := gm.d_l_said
    exact mk_defG (k := 1 + n + 1) Fx (fun fd F => fnd_ok F sc_l_said rfl (by decide) (by decide) fun cdv Ar outer s H E hr =>
      ⟨_, (dss_cons (ds_if (dt_cmp (op_eqP (hu200 hr)) od_eq (de_ix (de_v 0) de_int) de_str (nomark _)) (dss_one (ds_ret (de_fz (do_lstN 1 (da_cons (de_ix (de_v 0) de_int) da_nil) (len_cons len_nil))))) dss_nil)
  (dss_cons (ds_set sc_l_said.nd (de_fz (do_lstN 0 da_nil len_nil)))
  (dss_cons (ds_for (di_seq (de_callD (df_l_parts gm) hr (dr_d (de_v 0) dr_nil) (al_d al_nil))) (dg_name (pg_name (i := 2) sc_l_said.nd rfl (by first | exact .inl rfl | exact .inr rfl))) (dss_one (ds_set sc_l_said.nd (de_add (de_v 1) (de_callD ih hr (dr_d (de_v 2) dr_nil) (al_d al_nil))))) PassesOwn.never)
  (dss_one (ds_ret (de_v 1))))))⟩) hg (fun fd F => F.bindsN fun _ _ _ _ _ _ us hl => match us, hl with | [_], _ => rfl)
/-! _law_mentioned -/
abbrev s_l_mentioned : Stmt := top 20
theorem sc_l_mentioned : FnScope ["_law_row", "_law_own", "_law_out", "_law_term", "_law_name_here"] ["_law_row"] (defScope s_l_mentioned) := ⟨rfl, rfl, rfl, by decide +kernel, rfl, by decide +kernel, by decide +kernel⟩
def b_l_mentioned : SM :=
  (mThen (mParO 1 2 (mCall (noX M_l_given) [] (aD (mVar 0) aNil)) mNil)
  (mThen (mFor (mItems (mCall (noX M_l_terms) [] (aD (mVar 0) aNil))) (mSet 3) (mFor (mItems (mCall (noX (M_l_said 12)) [] (aD (mVar 3) aNil))) (mSet 4) (mIf (mBor (fun _ => true) 2 (mAnd (mTest boolD (mOp (inD true) (mVar 4) (mVar 1))) (mTest boolD (mOp (inD true) (mVar 4) (mVar 2))))) (mApp 2 (mVar 4)) mSkip)))
  (mRetO 2)))
def M_l_mentioned : FM := mBody 5 1 [] b_l_mentioned
theorem df_l_mentioned (gm : TX K mg) : Def Pr w K mg base 14 "_law_mentioned" ["_law_row"] (spF K mg 1 M_l_mentioned) := by
  obtain ⟨f, Fx, hg⟩ := gm.d_l_mentioned
  exact mk_defG Fx (fun fd F => fnd_ok F sc_l_mentioned rfl (by decide) (by decide) fun cdv Ar outer s H E hr =>
    ⟨_, (dss_cons (ds_parO sc_l_mentioned.nd (de_callD (df_l_given gm) hr (dr_d (de_v 0) dr_nil) (al_d al_nil)) (do_lstN 0 da_nil len_nil))
  (dss_cons (ds_for (di_seq (de_callD (df_l_terms gm) hr (dr_d (de_v 0) dr_nil) (al_d al_nil))) (dg_name (pg_name (i := 3) sc_l_mentioned.nd rfl (by first | exact .inl rfl | exact .inr rfl))) (dss_one (ds_for (di_seq (de_callD (df_l_said gm 12) hr (dr_d (de_v 3) dr_nil) (al_d al_nil))) (dg_name (pg_name (i := 4) sc_l_mentioned.nd rfl (by first | exact .inl rfl | exact .inr rfl))) (dss_one (ds_if (dt_bor 2 (dt_w (dw_and (dt_cmp (op_notInA (hu200 hr)) od_in (de_v 4) (de_v 1) rfl) (dw_and1 (dt_cmp (op_notInA (hu200 hr)) od_in (de_v 4) (de_v 2) rfl))))) (dss_one (ds_app (pe_var (i := 2) rfl (by first | exact Or.inl rfl | exact Or.inr (Or.inl rfl) | exact Or.inr (Or.inr rfl))) (de_v 4))) dss_nil)) PassesOwn.never)) PassesOwn.never)
  (dss_one (ds_retO (pe_var (i := 2) rfl (by first | exact Or.inl rfl | exact Or.inr (Or.inl rfl) | exact Or.inr (Or.inr rfl)))))))⟩) hg (fun fd F => F.bindsN fun _ _ _ _ _ _ us hl => match us, hl with | [_], _ => rfl)
/-! law -/
abbrev s_the_law : Stmt := top 25
theorem sc_the_law : FnScope ["_law_script", "_law_draw_here", "_law_rows", "_law_k", "_law_told", "_law_row", "_law_one_here"] ["_law_script"] (defScope s_the_law) := ⟨rfl, rfl, rfl, by decide +kernel, rfl, by decide +kernel, by decide +kernel⟩
def b_the_law : SM :=
  (mThen (mOwn 1 (mCallO (noXO M_l_draw) [] (aO 0 aNil)))
  (mThen (mAsg (mFz (mLc [3] (mRng (mCons (mOp addD (mC (.int 1)) (mCall (noX M_l_pick) [] (aO 1 (aD (mC (.int 3)) aNil)))) mNil)) (mSet 3) mYes (mCall (noX M_l_any_row) [] (aO 1 aNil)))) (mSet 2))
  (mThen (mAsg (mFz (mLc [5] (mItems (mVar 2)) (mSet 5) mYes (mCall (noX M_p_mentions) [] (aD (mVar 5) aNil)))) (mSet 4))
  (mThen (mFor (mZip (mVar 2) (mVar 4)) (gtTup (gtCons (mSet 5) (gtCons (mSet 6) gtNil))) (mIf (mOr (mNot (mTest truthD (mIsa "tuple" (mVar 6)))) (mTest boolD (mOp neD (mFz (mFnO itemsD (mCons (mVar 6) mNil))) (mCall (noX M_l_mentioned) [] (aD (mVar 5) aNil))))) (mRet (mC (.bool false))) mSkip))
  (mRet (mOp eqD (mFz (mLc [5] (mItems (mUn revA (mVar 2))) (mSet 5) mYes (mCall (noX M_p_mentions) [] (aD (mVar 5) aNil)))) (mUn revA (mVar 4))))))))
def M_the_law : FM := mBody 7 1 [] b_the_law
theorem ok_the_law (gm : TX K mg) {f : Addr} {fd : FuncData} (F : FunD K "law" "law" (defArgs (top 25)) (defBody (top 25)) (defScope (top 25)) [] [] f fd) : FnOk Pr w K mg base CX0 17 f fd ["_law_script"] (spF K mg 1 M_the_law) :=
  fnd_ok F sc_the_law rfl (by decide) (by decide) fun cdv Ar outer s H E hr =>
    ⟨_, (dss_cons (ds_own sc_the_law.nd (do_callD (df_l_draw gm) hr (dr_o (pe_var (i := 0) rfl (by first | exact Or.inl rfl | exact Or.inr (Or.inl rfl) | exact Or.inr (Or.inr rfl))) dr_nil) (al_o al_nil)))
  (dss_cons (ds_lcX sc_the_law.nd (sw_true rfl rfl rfl (by decide +kernel)) (di_range1 gm.f_range (de_add de_int (de_callD (df_l_pick gm) hr (dr_o (pe_var (i := 1) rfl (by first | exact Or.inl rfl | exact Or.inr (Or.inl rfl) | exact Or.inr (Or.inr rfl))) (dr_d de_int dr_nil)) (al_o (al_d al_nil))))) (blkOk_by (N := ["_law_script", "_law_draw_here", "_law_rows", "_law_k", "_law_told", "_law_row", "_law_one_here"]) (sc := defScope s_the_law) (own := [("_law_k", 3)]) (by decide +kernel)) ⟨fun s H C cl fp => ⟨_, (dg_name (pg_name (i := 3) sc_the_law.nd rfl (by first | exact .inl rfl | exact .inr rfl)))⟩, fun s H C cl fp => ⟨_, dts_nil⟩, fun s H C cl fp => ⟨_, (de_callD (df_l_any_row gm) hr (dr_o (pe_var (i := 1) rfl (by first | exact Or.inl rfl | exact Or.inr (Or.inl rfl) | exact Or.inr (Or.inr rfl))) dr_nil) (al_o al_nil))⟩⟩)
  (dss_cons (ds_lcX sc_the_law.nd (sw_true rfl rfl rfl (by decide +kernel)) (di_seq (de_v 2)) (blkOk_by (N := ["_law_script", "_law_draw_here", "_law_rows", "_law_k", "_law_told", "_law_row", "_law_one_here"]) (sc := defScope s_the_law) (own := [("_law_row", 5)]) (by decide +kernel)) ⟨fun s H C cl fp => ⟨_, (dg_name (pg_name (i := 5) sc_the_law.nd rfl (by first | exact .inl rfl | exact .inr rfl)))⟩, fun s H C cl fp => ⟨_, dts_nil⟩, fun s H C cl fp => ⟨_, (de_callD (df_p_mentions gm) hr (dr_d (de_v 5) dr_nil) (al_d al_nil))⟩⟩)
  (dss_cons (ds_for (di_zip gm.f_zip (de_v 2) (de_v 4)) (dg_tup rfl (dgs_cons (dg_name (pg_name (i := 5) sc_the_law.nd rfl (by first | exact .inl rfl | exact .inr rfl))) (dgs_cons (dg_name (pg_name (i := 6) sc_the_law.nd rfl (by first | exact .inl rfl | exact .inr rfl))) dgs_nil))) (dss_one (ds_if (dt_w (dw_or (dt_not (dt_bool (de_isa tyok_tuple gm.f_isinstance gm.f_tuple (by decide +kernel) (de_v 6)))) (dw_or1 (dt_cmp (op_neP (hu200 hr)) od_ne (de_fz (do_ty call_list_of fo_list gm.f_list (by decide +kernel) (da_cons (de_v 6) da_nil))) (de_callD (df_l_mentioned gm) hr (dr_d (de_v 5) dr_nil) (al_d al_nil)) (nomark _))))) (dss_one (ds_ret de_bl)) dss_nil)) PassesOwn.never)
  (dss_one (ds_ret (de_eq (hu200 hr) (de_fz (do_lcX sc_the_law.nd (di_seq (de_revA (de_v 2))) (blkOk_by (N := ["_law_script", "_law_draw_here", "_law_rows", "_law_k", "_law_told", "_law_row", "_law_one_here"]) (sc := defScope s_the_law) (own := [("_law_row", 5)]) (by decide +kernel)) ⟨fun s H C cl fp => ⟨_, (dg_name (pg_name (i := 5) sc_the_law.nd rfl (by first | exact .inl rfl | exact .inr rfl)))⟩, fun s H C cl fp => ⟨_, dts_nil⟩, fun s H C cl fp => ⟨_, (de_callD (df_p_mentions gm) hr (dr_d (de_v 5) dr_nil) (al_d al_nil))⟩⟩)) (de_revA (de_v 4)))))))))⟩
end
end DL

namespace DL
open PySem PySem.Spec PyProof.Rows L2
/-! the head -/
def fn : List He.DefD := [⟨("_law_draw", none), "_law_draw", "_law_draw", defArgs (top 12), defBody (top 12), defScope (top 12), [], []⟩,
  ⟨("_law_pick", none), "_law_pick", "_law_pick", defArgs (top 13), defBody (top 13), defScope (top 13), [], []⟩,
  ⟨("_law_one", none), "_law_one", "_law_one", defArgs (top 14), defBody (top 14), defScope (top 14), [], []⟩,
  ⟨("_law_some", none), "_law_some", "_law_some", defArgs (top 21), defBody (top 21), defScope (top 21), [], []⟩,
  ⟨("_law_somes", none), "_law_somes", "_law_somes", defArgs (top 22), defBody (top 22), defScope (top 22), [], []⟩,
  ⟨("_law_name", none), "_law_name", "_law_name", defArgs (top 15), defBody (top 15), defScope (top 15), [], []⟩,
  ⟨("_law_rooms", none), "_law_rooms", "_law_rooms", defArgs (top 23), defBody (top 23), defScope (top 23), [], []⟩,
  ⟨("_law_any_row", none), "_law_any_row", "_law_any_row", defArgs (top 24), defBody (top 24), defScope (top 24), [], []⟩,
  ⟨("given_names", none), "given_names", "given_names", defArgs (top 8), defBody (top 8), defScope (top 8), [], []⟩,
  ⟨("entry_terms", none), "entry_terms", "entry_terms", defArgs (top 5), defBody (top 5), defScope (top 5), [], []⟩,
  ⟨("row_terms", none), "row_terms", "row_terms", defArgs (top 6), defBody (top 6), defScope (top 6), [], []⟩,
  ⟨("parts_of", none), "parts_of", "parts_of", defArgs (top 1), defBody (top 1), defScope (top 1), [], []⟩,
  ⟨("constants_in", none), "constants_in", "constants_in", defArgs (top 3), defBody (top 3), defScope (top 3), [], []⟩,
  ⟨("mentions", none), "mentions", "mentions", defArgs (top 10), defBody (top 10), defScope (top 10), [], []⟩,
  ⟨("_law_terms", none), "_law_terms", "_law_terms", defArgs (top 18), defBody (top 18), defScope (top 18), [], []⟩,
  ⟨("_law_given", none), "_law_given", "_law_given", defArgs (top 17), defBody (top 17), defScope (top 17), [], []⟩,
  ⟨("_law_parts", none), "_law_parts", "_law_parts", defArgs (top 16), defBody (top 16), defScope (top 16), [], []⟩,
  ⟨("_law_said", none), "_law_said", "_law_said", defArgs (top 19), defBody (top 19), defScope (top 19), [], []⟩,
  ⟨("_law_mentioned", none), "_law_mentioned", "_law_mentioned", defArgs (top 20), defBody (top 20), defScope (top 20), [], []⟩,
  ⟨("law", none), "law", "law", defArgs (top 25), defBody (top 25), defScope (top 25), [], []⟩]
def fa : List He.Fa := [.free "abs", .free "enumerate", .free "int", .free "isinstance", .free "len", .free "list", .free "range", .free "str", .free "sum", .free "tuple", .free "zip", .glo "_law_draw", .glo "_law_pick", .glo "_law_one", .glo "_law_some", .glo "_law_somes", .glo "_law_name", .glo "_law_rooms", .glo "_law_any_row", .glo "given_names", .glo "entry_terms", .glo "row_terms", .glo "parts_of", .glo "constants_in", .glo "mentions", .glo "_law_terms", .glo "_law_given", .glo "_law_parts", .glo "_law_said", .glo "_law_mentioned", .glo "law"]
theorem tx_of {K : PySem.W.Frag} {h : Heap} {mg : Str → Option Value} (X : K.In h) (G : h.Ns mainGlobals mg) (c : He.SaysD fa fn K) : TX K mg where
  f_abs := He.free_ok X G (c.fact 0 (f := .free "abs") rfl)
  f_enumerate := He.free_ok X G (c.fact 1 (f := .free "enumerate") rfl)
  f_int := He.free_ok X G (c.fact 2 (f := .free "int") rfl)
  f_isinstance := He.free_ok X G (c.fact 3 (f := .free "isinstance") rfl)
  f_len := He.free_ok X G (c.fact 4 (f := .free "len") rfl)
  f_list := He.free_ok X G (c.fact 5 (f := .free "list") rfl)
  f_range := He.free_ok X G (c.fact 6 (f := .free "range") rfl)
  f_str := He.free_ok X G (c.fact 7 (f := .free "str") rfl)
  f_sum := He.free_ok X G (c.fact 8 (f := .free "sum") rfl)
  f_tuple := He.free_ok X G (c.fact 9 (f := .free "tuple") rfl)
  f_zip := He.free_ok X G (c.fact 10 (f := .free "zip") rfl)
  d_l_draw := ⟨_, c.def_ 0 (d := ⟨("_law_draw", none), "_law_draw", "_law_draw", defArgs (top 12), defBody (top 12), defScope (top 12), [], []⟩) rfl, He.glo_ok X G (c.fact 11 (f := .glo "_law_draw") rfl)⟩
  d_l_pick := ⟨_, c.def_ 1 (d := ⟨("_law_pick", none), "_law_pick", "_law_pick", defArgs (top 13), defBody (top 13), defScope (top 13), [], []⟩) rfl, He.glo_ok X G (c.fact 12 (f := .glo "_law_pick") rfl)⟩
  d_l_one := ⟨_, c.def_ 2 (d := ⟨("_law_one", none), "_law_one", "_law_one", defArgs (top 14), defBody (top 14), defScope (top 14), [], []⟩) rfl, He.glo_ok X G (c.fact 13 (f := .glo "_law_one") rfl)⟩
  d_l_some := ⟨_, c.def_ 3 (d := ⟨("_law_some", none), "_law_some", "_law_some", defArgs (top 21), defBody (top 21), defScope (top 21), [], []⟩) rfl, He.glo_ok X G (c.fact 14 (f := .glo "_law_some") rfl)⟩
  d_l_somes := ⟨_, c.def_ 4 (d := ⟨("_law_somes", none), "_law_somes", "_law_somes", defArgs (top 22), defBody (top 22), defScope (top 22), [], []⟩) rfl, He.glo_ok X G (c.fact 15 (f := .glo "_law_somes") rfl)⟩
  d_l_name := ⟨_, c.def_ 5 (d := ⟨("_law_name", none), "_law_name", "_law_name", defArgs (top 15), defBody (top 15), defScope (top 15), [], []⟩) rfl, He.glo_ok X G (c.fact 16 (f := .glo "_law_name") rfl)⟩
  d_l_rooms := ⟨_, c.def_ 6 (d := ⟨("_law_rooms", none), "_law_rooms", "_law_rooms", defArgs (top 23), defBody (top 23), defScope (top 23), [], []⟩) rfl, He.glo_ok X G (c.fact 17 (f := .glo "_law_rooms") rfl)⟩
  d_l_any_row := ⟨_, c.def_ 7 (d := ⟨("_law_any_row", none), "_law_any_row", "_law_any_row", defArgs (top 24), defBody (top 24), defScope (top 24), [], []⟩) rfl, He.glo_ok X G (c.fact 18 (f := .glo "_law_any_row") rfl)⟩
  d_p_given_names := ⟨_, c.def_ 8 (d := ⟨("given_names", none), "given_names", "given_names", defArgs (top 8), defBody (top 8), defScope (top 8), [], []⟩) rfl, He.glo_ok X G (c.fact 19 (f := .glo "given_names") rfl)⟩
  d_p_entry_terms := ⟨_, c.def_ 9 (d := ⟨("entry_terms", none), "entry_terms", "entry_terms", defArgs (top 5), defBody (top 5), defScope (top 5), [], []⟩) rfl, He.glo_ok X G (c.fact 20 (f := .glo "entry_terms") rfl)⟩
  d_p_row_terms := ⟨_, c.def_ 10 (d := ⟨("row_terms", none), "row_terms", "row_terms", defArgs (top 6), defBody (top 6), defScope (top 6), [], []⟩) rfl, He.glo_ok X G (c.fact 21 (f := .glo "row_terms") rfl)⟩
  d_p_parts_of := ⟨_, c.def_ 11 (d := ⟨("parts_of", none), "parts_of", "parts_of", defArgs (top 1), defBody (top 1), defScope (top 1), [], []⟩) rfl, He.glo_ok X G (c.fact 22 (f := .glo "parts_of") rfl)⟩
  d_p_constants_in := ⟨_, c.def_ 12 (d := ⟨("constants_in", none), "constants_in", "constants_in", defArgs (top 3), defBody (top 3), defScope (top 3), [], []⟩) rfl, He.glo_ok X G (c.fact 23 (f := .glo "constants_in") rfl)⟩
  d_p_mentions := ⟨_, c.def_ 13 (d := ⟨("mentions", none), "mentions", "mentions", defArgs (top 10), defBody (top 10), defScope (top 10), [], []⟩) rfl, He.glo_ok X G (c.fact 24 (f := .glo "mentions") rfl)⟩
  d_l_terms := ⟨_, c.def_ 14 (d := ⟨("_law_terms", none), "_law_terms", "_law_terms", defArgs (top 18), defBody (top 18), defScope (top 18), [], []⟩) rfl, He.glo_ok X G (c.fact 25 (f := .glo "_law_terms") rfl)⟩
  d_l_given := ⟨_, c.def_ 15 (d := ⟨("_law_given", none), "_law_given", "_law_given", defArgs (top 17), defBody (top 17), defScope (top 17), [], []⟩) rfl, He.glo_ok X G (c.fact 26 (f := .glo "_law_given") rfl)⟩
  d_l_parts := ⟨_, c.def_ 16 (d := ⟨("_law_parts", none), "_law_parts", "_law_parts", defArgs (top 16), defBody (top 16), defScope (top 16), [], []⟩) rfl, He.glo_ok X G (c.fact 27 (f := .glo "_law_parts") rfl)⟩
  d_l_said := ⟨_, c.def_ 17 (d := ⟨("_law_said", none), "_law_said", "_law_said", defArgs (top 19), defBody (top 19), defScope (top 19), [], []⟩) rfl, He.glo_ok X G (c.fact 28 (f := .glo "_law_said") rfl)⟩
  d_l_mentioned := ⟨_, c.def_ 18 (d := ⟨("_law_mentioned", none), "_law_mentioned", "_law_mentioned", defArgs (top 20), defBody (top 20), defScope (top 20), [], []⟩) rfl, He.glo_ok X G (c.fact 29 (f := .glo "_law_mentioned") rfl)⟩
  d_the_law := ⟨_, c.def_ 19 (d := ⟨("law", none), "law", "law", defArgs (top 25), defBody (top 25), defScope (top 25), [], []⟩) rfl, He.glo_ok X G (c.fact 30 (f := .glo "law") rfl)⟩
def loose0 : List Str := ["parts_of", "constants_in", "entry_terms", "row_terms", "given_names", "mentions", "_law_draw", "_law_pick", "_law_one", "_law_name", "_law_parts", "_law_given", "_law_terms", "_law_said", "_law_mentioned", "_law_some", "_law_somes", "_law_rooms", "_law_any_row"]
abbrev loose : List Str := loose0
abbrev RO : PySem.W.OpenRow := PySem.W.OpenLaw.row PySem.Challenge.rw_termwarrant_k50_mentions
abbrev hk : PySem.W.Hook := He.hookD 4 fa fn
def ob (s : PySem.W.SharedT) : He.AlD := He.obsDG 4 fa fn (HandSHeadRun.getT s)
theorem ob_eq (s : PySem.W.SharedT) : ob s = hk.obs s.abs := He.obsDG_eq (HandSHeadRun.getT_eq s)
theorem run (w : World) : HandSHeadRun.RunEq RO (PySem.W.view RO.prog [25]) hk ob 4000 loose w := by
  intro os
  kernel_rfl
abbrev kLaw : Nat := 17
theorem facts {P : Program} {w : World} {K : PySem.W.Frag} {h : Heap} {mg : Str → Option Value} {f : Addr} (X : K.In h) (G : h.Ns mainGlobals mg) (hfa : mg ("law" : Str) = some (.ref f)) (c : He.SaysD fa fn K) :
    ∃ fd : FuncData, (∀ (s : Shared) (v : Value), BindsTo s fd ⟨[v], []⟩ [("_law_script", v)]) ∧ ∀ base : Heap, K.In base → base.Ns mainGlobals mg → FnOk P w K mg base CX0 kLaw f fd ["_law_script"] (spF K mg 1 M_the_law) := by
  obtain ⟨fd, F⟩ := c.def_ 19 (d := ⟨("law", none), "law", "law", defArgs (top 25), defBody (top 25), defScope (top 25), [], []⟩) rfl
  have e := hfa.symm.trans (He.glo_ok X G (c.fact 30 (f := .glo "law") rfl))
  cases e
  have b := FunD.bindsA (ps := ["_law_script"]) F fun _ _ _ _ _ _ us hl => match us, hl with | [_], _ => rfl
  exact ⟨fd, fun s v => b s [v] rfl, fun base _ _ => ok_the_law (tx_of X G c) F⟩
end DL
open PySem PySem.W PySem.Calls PyProof.Rows
theorem DL.holds_of (hm : ∀ ns : List Int, ns.length ≤ 63 → ∃ ρ' : DL.R, DL.M_the_law [.s ns] = .ok (.bool true, ρ')) : PySem.Challenge.rw_termwarrant_k50_mentions.Holds := by
  w_on; o_law
  refine HandSHeadRun.head_any (r := OpenLaw.row PySem.Challenge.rw_termwarrant_k50_mentions) (q := view (OpenLaw.row PySem.Challenge.rw_termwarrant_k50_mentions).prog [25]) (H := DL.hk) (ob := DL.ob) (M := 4000) (loose := DL.loose) (d := HandSHeadRun.topDef (OpenLaw.row PySem.Challenge.rw_termwarrant_k50_mentions).prog 25) (kwd := []) DL.ob_eq
    (by kernel_rfl) (fun s => by kernel_rfl) DL.run (by kernel_rfl) (by kernel_rfl) (by kernel_rfl) (by rfl) (by first | assumption | decide +kernel) (by decide +kernel) ⟨rfl, rfl, rfl, rfl, rfl, by decide +kernel⟩ ?hw ?hc
  case hw => w_witness2
  case hc =>
    refine L2.walk_ofE (l := PySem.Challenge.rw_termwarrant_k50_mentions) (n := 63) (k := DL.kLaw) (x := "_law_script") (CX := L2.CX0) rfl (by decide) (by kernel_rfl) ⟨rfl, by decide, by decide⟩ ?F (fun _ _ _ _ z => z)
    intro w mg fa h Y G hmg0
    obtain ⟨K, KX, c⟩ := Y
    have hmg : mg ("law" : PySem.Str) = some (.ref fa) := by
      have e : (HandSHeadRun.topDef (OpenLaw.row PySem.Challenge.rw_termwarrant_k50_mentions).prog 25).name = ("law" : PySem.Str) := by kernel_rfl
      rw [← e]
      exact hmg0
    obtain ⟨fd, hb, hF⟩ := DL.facts (P := (PySem.Challenge.rw_termwarrant_k50_mentions).prog) (w := w) KX G hmg c
    refine ⟨K, fd, DL.spF K mg 1 DL.M_the_law, KX, hb, fun H a ns hl hO hS => ?_, hF⟩
    obtain ⟨ρ', e⟩ := hm ns hl
    exact DL.law_sp hO hS e

namespace DL
open PySem PySem.Spec PyProof.Rows L2
/-- a draw's list -/
def DrOk (ds : List D) : Prop := ∃ (cs : List Int) (p a b c d e : Int), ds = [.list (cs.map .int), .int p, .int a, .int b, .int c, .int d, .int e] ∧ 0 ≤ p
theorem atI_ints {cs : List Int} {p : Int} (h : 0 ≤ p) (h2 : p < cs.length) : ∃ n, atI (cs.map PyData.int) p = some (.int n) := by
  refine ⟨cs[p.toNat]'(by omega), ?_⟩
  unfold atI ixN
  rw [if_pos h, List.length_map, if_pos h2]
  simp
theorem modb (x : Int) : -18446744073709551616 < x % 2147483647 ∧ x % 2147483647 < 18446744073709551616 := by omega
theorem and_pb {q : Prop} (k : q) : 0 < pbig ∧ q := ⟨pbig_pos, k⟩
theorem pick_ok {ds : List D} {m : Int} {Q : D → R → Prop} (h : DrOk ds) (hm : m < 2 ^ 64) (k : ∀ (r : Int) ds', DrOk ds' → 0 ≤ r → (r < m ∨ r = 0) → Q (.int r) [.l ds', .un]) : Wp (M_l_pick [.l ds, .d (.int m)]) Q := by
  obtain ⟨cs, p, a, b, c, d, e, rfl, hp⟩ := h
  unfold M_l_pick b_l_pick
  simp only [↓W0, ↓w_comp_cons, ↓w_for_cons, ↓w_then, W1, List.reduceReplicate, String.reduceEq, List.drop_succ_cons, List.drop_zero, List.drop_nil, q_ls, q_lt_s, wipeR, backR, hideR, hideS, putB, noL, noLs, Sl.own, enumFrom, intsOf, Option.map_some, intsOf_map, List.set_cons_succ, List.set_cons_zero, List.getElem?_cons_succ, List.getElem?_cons_zero, List.getD_cons_succ, List.getD_cons_zero, List.map_cons, List.map_nil, List.tail_cons, List.headD_cons, List.length_cons, List.length_nil, List.length_map, List.length_range, List.nodup_cons, List.nodup_nil, List.not_mem_nil, List.mem_cons, not_false_eq_true, or_false, false_or, or_true, true_or, and_true, true_and, and_self, if_true, if_false, reduceIte, decide_true, decide_false, Bool.not_true, Bool.not_false, Bool.and_true, Bool.true_and, List.cons_append, List.nil_append, List.append_nil, eq_self, reduceCtorEq, List.all_cons, List.all_nil, List.isEmpty_cons, List.isEmpty_nil, Nat.reduceSub, Nat.reduceAdd, Nat.reduceMul, Nat.reduceLT, Nat.reduceLeDiff, Nat.reduceEqDiff, Nat.reduceBEq, Int.reduceAdd, Int.reduceSub, Int.reduceNeg, Int.reduceMul, Int.reduceLT, Int.reduceLE, Int.reduceEq, Int.reducePow, Int.reduceToNat, Int.reduceDiv, Int.reduceMod, Nat.zero_add, Int.ofNat_eq_natCast, Int.cast_ofNat_Int]
  refine br_dec (fun h2 => ?_) (fun h2 => ?_)
  · simp only [↓W0, ↓w_comp_cons, ↓w_for_cons, ↓w_then, W1, List.reduceReplicate, String.reduceEq, List.drop_succ_cons, List.drop_zero, List.drop_nil, q_ls, q_lt_s, wipeR, backR, hideR, hideS, putB, noL, noLs, Sl.own, enumFrom, intsOf, Option.map_some, intsOf_map, List.set_cons_succ, List.set_cons_zero, List.getElem?_cons_succ, List.getElem?_cons_zero, List.getD_cons_succ, List.getD_cons_zero, List.map_cons, List.map_nil, List.tail_cons, List.headD_cons, List.length_cons, List.length_nil, List.length_map, List.length_range, List.nodup_cons, List.nodup_nil, List.not_mem_nil, List.mem_cons, not_false_eq_true, or_false, false_or, or_true, true_or, and_true, true_and, and_self, if_true, if_false, reduceIte, decide_true, decide_false, Bool.not_true, Bool.not_false, Bool.and_true, Bool.true_and, List.cons_append, List.nil_append, List.append_nil, eq_self, reduceCtorEq, List.all_cons, List.all_nil, List.isEmpty_cons, List.isEmpty_nil, Nat.reduceSub, Nat.reduceAdd, Nat.reduceMul, Nat.reduceLT, Nat.reduceLeDiff, Nat.reduceEqDiff, Nat.reduceBEq, Int.reduceAdd, Int.reduceSub, Int.reduceNeg, Int.reduceMul, Int.reduceLT, Int.reduceLE, Int.reduceEq, Int.reducePow, Int.reduceToNat, Int.reduceDiv, Int.reduceMod, Nat.zero_add, Int.ofNat_eq_natCast, Int.cast_ofNat_Int]
    exact k 0 _ ⟨cs, p, a, b, c, d, e, rfl, hp⟩ (by omega) (.inr rfl)
  have m0 : 0 < m := by omega
  repeat' (first | (refine br_dec ?_ ?_ <;> intro _) | simp only [↓W0, ↓w_comp_cons, ↓w_for_cons, ↓w_then, W1, List.reduceReplicate, String.reduceEq, List.drop_succ_cons, List.drop_zero, List.drop_nil, q_ls, q_lt_s, wipeR, backR, hideR, hideS, putB, noL, noLs, Sl.own, enumFrom, intsOf, Option.map_some, intsOf_map, List.set_cons_succ, List.set_cons_zero, List.getElem?_cons_succ, List.getElem?_cons_zero, List.getD_cons_succ, List.getD_cons_zero, List.map_cons, List.map_nil, List.tail_cons, List.headD_cons, List.length_cons, List.length_nil, List.length_map, List.length_range, List.nodup_cons, List.nodup_nil, List.not_mem_nil, List.mem_cons, not_false_eq_true, or_false, false_or, or_true, true_or, and_true, true_and, and_self, if_true, if_false, reduceIte, decide_true, decide_false, Bool.not_true, Bool.not_false, Bool.and_true, Bool.true_and, List.cons_append, List.nil_append, List.append_nil, eq_self, reduceCtorEq, List.all_cons, List.all_nil, List.isEmpty_cons, List.isEmpty_nil, Nat.reduceSub, Nat.reduceAdd, Nat.reduceMul, Nat.reduceLT, Nat.reduceLeDiff, Nat.reduceEqDiff, Nat.reduceBEq, Int.reduceAdd, Int.reduceSub, Int.reduceNeg, Int.reduceMul, Int.reduceLT, Int.reduceLE, Int.reduceEq, Int.reducePow, Int.reduceToNat, Int.reduceDiv, Int.reduceMod, Nat.zero_add, Int.ofNat_eq_natCast, Int.cast_ofNat_Int])
  rotate_left
  all_goals first
    | exact ⟨m0, ⟨m0, hm⟩, k _ _ ⟨cs, _, _, _, _, _, _, rfl, by omega⟩ (Int.emod_nonneg _ (by omega)) (.inl (Int.emod_lt_of_pos _ m0))⟩
    | exact ⟨.inl (modb _), m0, k _ _ ⟨cs, _, _, _, _, _, _, rfl, by omega⟩ (Int.emod_nonneg _ (by omega)) (.inl (Int.emod_lt_of_pos _ m0))⟩
    | skip
  rename_i hlt
  obtain ⟨n, hn⟩ := atI_ints hp hlt
  refine o_of hn ?_
  repeat' (first | (refine br_dec ?_ ?_ <;> intro _) | simp only [↓W0, ↓w_comp_cons, ↓w_for_cons, ↓w_then, W1, List.reduceReplicate, String.reduceEq, List.drop_succ_cons, List.drop_zero, List.drop_nil, q_ls, q_lt_s, wipeR, backR, hideR, hideS, putB, noL, noLs, Sl.own, enumFrom, intsOf, Option.map_some, intsOf_map, List.set_cons_succ, List.set_cons_zero, List.getElem?_cons_succ, List.getElem?_cons_zero, List.getD_cons_succ, List.getD_cons_zero, List.map_cons, List.map_nil, List.tail_cons, List.headD_cons, List.length_cons, List.length_nil, List.length_map, List.length_range, List.nodup_cons, List.nodup_nil, List.not_mem_nil, List.mem_cons, not_false_eq_true, or_false, false_or, or_true, true_or, and_true, true_and, and_self, if_true, if_false, reduceIte, decide_true, decide_false, Bool.not_true, Bool.not_false, Bool.and_true, Bool.true_and, List.cons_append, List.nil_append, List.append_nil, eq_self, reduceCtorEq, List.all_cons, List.all_nil, List.isEmpty_cons, List.isEmpty_nil, Nat.reduceSub, Nat.reduceAdd, Nat.reduceMul, Nat.reduceLT, Nat.reduceLeDiff, Nat.reduceEqDiff, Nat.reduceBEq, Int.reduceAdd, Int.reduceSub, Int.reduceNeg, Int.reduceMul, Int.reduceLT, Int.reduceLE, Int.reduceEq, Int.reducePow, Int.reduceToNat, Int.reduceDiv, Int.reduceMod, Nat.zero_add, Int.ofNat_eq_natCast, Int.cast_ofNat_Int] | refine and_pb ?_)
  all_goals first
    | exact ⟨m0, ⟨m0, hm⟩, k _ _ ⟨cs, _, _, _, _, _, _, rfl, by omega⟩ (Int.emod_nonneg _ (by omega)) (.inl (Int.emod_lt_of_pos _ m0))⟩
    | exact ⟨.inl (modb _), m0, k _ _ ⟨cs, _, _, _, _, _, _, rfl, by omega⟩ (Int.emod_nonneg _ (by omega)) (.inl (Int.emod_lt_of_pos _ m0))⟩
    | skip
/-- a draw whose bound is positive -/
theorem pick_lt {ds : List D} {m : Int} {Q : D → R → Prop} (h : DrOk ds) (h0 : 0 < m) (hm : m < 2 ^ 64) (k : ∀ (r : Int) ds', DrOk ds' → 0 ≤ r → r < m → Q (.int r) [.l ds', .un]) : Wp (M_l_pick [.l ds, .d (.int m)]) Q :=
  pick_ok h hm fun r ds' h' a b => k r ds' h' a (by omega)
theorem one_ok {dr : List D} {xs : List D} {Q : D → R → Prop} (h : DrOk dr) (h0 : 0 < xs.length) (h1 : xs.length ≤ 900) (k : ∀ x dr', DrOk dr' → x ∈ xs → Q x [.l dr', .un]) : Wp (M_l_one [.l dr, .d (.list xs)]) Q := by
  unfold M_l_one b_l_one
  simp only [↓W0, ↓w_comp_cons, ↓w_for_cons, ↓w_then, W1, List.reduceReplicate, String.reduceEq, List.drop_succ_cons, List.drop_zero, List.drop_nil, q_ls, q_lt_s, wipeR, backR, hideR, hideS, putB, noL, noLs, Sl.own, enumFrom, intsOf, Option.map_some, intsOf_map, List.set_cons_succ, List.set_cons_zero, List.getElem?_cons_succ, List.getElem?_cons_zero, List.getD_cons_succ, List.getD_cons_zero, List.map_cons, List.map_nil, List.tail_cons, List.headD_cons, List.length_cons, List.length_nil, List.length_map, List.length_range, List.nodup_cons, List.nodup_nil, List.not_mem_nil, List.mem_cons, not_false_eq_true, or_false, false_or, or_true, true_or, and_true, true_and, and_self, if_true, if_false, reduceIte, decide_true, decide_false, Bool.not_true, Bool.not_false, Bool.and_true, Bool.true_and, List.cons_append, List.nil_append, List.append_nil, eq_self, reduceCtorEq, List.all_cons, List.all_nil, List.isEmpty_cons, List.isEmpty_nil, Nat.reduceSub, Nat.reduceAdd, Nat.reduceMul, Nat.reduceLT, Nat.reduceLeDiff, Nat.reduceEqDiff, Nat.reduceBEq, Int.reduceAdd, Int.reduceSub, Int.reduceNeg, Int.reduceMul, Int.reduceLT, Int.reduceLE, Int.reduceEq, Int.reducePow, Int.reduceToNat, Int.reduceDiv, Int.reduceMod, Nat.zero_add, Int.ofNat_eq_natCast, Int.cast_ofNat_Int]
  refine pick_ok h (by omega) fun r dr' h' r0 r1 => ?_
  simp only [↓W0, ↓w_comp_cons, ↓w_for_cons, ↓w_then, W1, List.reduceReplicate, String.reduceEq, List.drop_succ_cons, List.drop_zero, List.drop_nil, q_ls, q_lt_s, wipeR, backR, hideR, hideS, putB, noL, noLs, Sl.own, enumFrom, intsOf, Option.map_some, intsOf_map, List.set_cons_succ, List.set_cons_zero, List.getElem?_cons_succ, List.getElem?_cons_zero, List.getD_cons_succ, List.getD_cons_zero, List.map_cons, List.map_nil, List.tail_cons, List.headD_cons, List.length_cons, List.length_nil, List.length_map, List.length_range, List.nodup_cons, List.nodup_nil, List.not_mem_nil, List.mem_cons, not_false_eq_true, or_false, false_or, or_true, true_or, and_true, true_and, and_self, if_true, if_false, reduceIte, decide_true, decide_false, Bool.not_true, Bool.not_false, Bool.and_true, Bool.true_and, List.cons_append, List.nil_append, List.append_nil, eq_self, reduceCtorEq, List.all_cons, List.all_nil, List.isEmpty_cons, List.isEmpty_nil, Nat.reduceSub, Nat.reduceAdd, Nat.reduceMul, Nat.reduceLT, Nat.reduceLeDiff, Nat.reduceEqDiff, Nat.reduceBEq, Int.reduceAdd, Int.reduceSub, Int.reduceNeg, Int.reduceMul, Int.reduceLT, Int.reduceLE, Int.reduceEq, Int.reducePow, Int.reduceToNat, Int.reduceDiv, Int.reduceMod, Nat.zero_add, Int.ofNat_eq_natCast, Int.cast_ofNat_Int]
  have hr : r.toNat < xs.length := by omega
  have e : r = (r.toNat : Nat) := by omega
  rw [e]
  refine (ix_l (List.getElem?_eq_getElem hr)).mpr ?_
  simp only [↓W0, ↓w_comp_cons, ↓w_for_cons, ↓w_then, W1, List.reduceReplicate, String.reduceEq, List.drop_succ_cons, List.drop_zero, List.drop_nil, q_ls, q_lt_s, wipeR, backR, hideR, hideS, putB, noL, noLs, Sl.own, enumFrom, intsOf, Option.map_some, intsOf_map, List.set_cons_succ, List.set_cons_zero, List.getElem?_cons_succ, List.getElem?_cons_zero, List.getD_cons_succ, List.getD_cons_zero, List.map_cons, List.map_nil, List.tail_cons, List.headD_cons, List.length_cons, List.length_nil, List.length_map, List.length_range, List.nodup_cons, List.nodup_nil, List.not_mem_nil, List.mem_cons, not_false_eq_true, or_false, false_or, or_true, true_or, and_true, true_and, and_self, if_true, if_false, reduceIte, decide_true, decide_false, Bool.not_true, Bool.not_false, Bool.and_true, Bool.true_and, List.cons_append, List.nil_append, List.append_nil, eq_self, reduceCtorEq, List.all_cons, List.all_nil, List.isEmpty_cons, List.isEmpty_nil, Nat.reduceSub, Nat.reduceAdd, Nat.reduceMul, Nat.reduceLT, Nat.reduceLeDiff, Nat.reduceEqDiff, Nat.reduceBEq, Int.reduceAdd, Int.reduceSub, Int.reduceNeg, Int.reduceMul, Int.reduceLT, Int.reduceLE, Int.reduceEq, Int.reducePow, Int.reduceToNat, Int.reduceDiv, Int.reduceMod, Nat.zero_add, Int.ofNat_eq_natCast, Int.cast_ofNat_Int]
  exact k _ _ h' (List.getElem_mem hr)
/-- out of encoded things -/
theorem one_of {α : Type} {e : α → D} {dr : List D} {xs : List α} {Q : D → R → Prop} (h : DrOk dr) (h0 : 0 < xs.length) (h1 : xs.length ≤ 900) (k : ∀ x dr', DrOk dr' → x ∈ xs → Q (e x) [.l dr', .un]) : Wp (M_l_one [.l dr, .d (.list (xs.map e))]) Q :=
  one_ok h (by simpa using h0) (by simpa using h1) fun x dr' h' hx => by
    obtain ⟨y, hy, rfl⟩ := List.mem_map.mp hx
    exact k y dr' h' hy
/-- a sign of a text -/
theorem one_okS {dr : List D} {z : Str} {Q : D → R → Prop} (h : DrOk dr) (h0 : 0 < z.length) (h1 : z.length ≤ 900) (k : ∀ c dr', DrOk dr' → c ∈ z.cps.toList → Q (.str ⟨#[c]⟩) [.l dr', .un]) : Wp (M_l_one [.l dr, .d (.str z)]) Q := by
  have h2 : z.length ≤ 1000 := by omega
  unfold M_l_one b_l_one
  simp only [↓W0, ↓w_comp_cons, ↓w_for_cons, ↓w_then, W1, List.reduceReplicate, String.reduceEq, List.drop_succ_cons, List.drop_zero, List.drop_nil, q_ls, q_lt_s, wipeR, backR, hideR, hideS, putB, noL, noLs, Sl.own, enumFrom, intsOf, Option.map_some, intsOf_map, List.set_cons_succ, List.set_cons_zero, List.getElem?_cons_succ, List.getElem?_cons_zero, List.getD_cons_succ, List.getD_cons_zero, List.map_cons, List.map_nil, List.tail_cons, List.headD_cons, List.length_cons, List.length_nil, List.length_map, List.length_range, List.nodup_cons, List.nodup_nil, List.not_mem_nil, List.mem_cons, not_false_eq_true, or_false, false_or, or_true, true_or, and_true, true_and, and_self, if_true, if_false, reduceIte, decide_true, decide_false, Bool.not_true, Bool.not_false, Bool.and_true, Bool.true_and, List.cons_append, List.nil_append, List.append_nil, eq_self, reduceCtorEq, List.all_cons, List.all_nil, List.isEmpty_cons, List.isEmpty_nil, Nat.reduceSub, Nat.reduceAdd, Nat.reduceMul, Nat.reduceLT, Nat.reduceLeDiff, Nat.reduceEqDiff, Nat.reduceBEq, Int.reduceAdd, Int.reduceSub, Int.reduceNeg, Int.reduceMul, Int.reduceLT, Int.reduceLE, Int.reduceEq, Int.reducePow, Int.reduceToNat, Int.reduceDiv, Int.reduceMod, Nat.zero_add, Int.ofNat_eq_natCast, Int.cast_ofNat_Int, h2]
  refine pick_ok h (by omega) fun r dr' h' r0 r1 => ?_
  simp only [↓W0, ↓w_comp_cons, ↓w_for_cons, ↓w_then, W1, List.reduceReplicate, String.reduceEq, List.drop_succ_cons, List.drop_zero, List.drop_nil, q_ls, q_lt_s, wipeR, backR, hideR, hideS, putB, noL, noLs, Sl.own, enumFrom, intsOf, Option.map_some, intsOf_map, List.set_cons_succ, List.set_cons_zero, List.getElem?_cons_succ, List.getElem?_cons_zero, List.getD_cons_succ, List.getD_cons_zero, List.map_cons, List.map_nil, List.tail_cons, List.headD_cons, List.length_cons, List.length_nil, List.length_map, List.length_range, List.nodup_cons, List.nodup_nil, List.not_mem_nil, List.mem_cons, not_false_eq_true, or_false, false_or, or_true, true_or, and_true, true_and, and_self, if_true, if_false, reduceIte, decide_true, decide_false, Bool.not_true, Bool.not_false, Bool.and_true, Bool.true_and, List.cons_append, List.nil_append, List.append_nil, eq_self, reduceCtorEq, List.all_cons, List.all_nil, List.isEmpty_cons, List.isEmpty_nil, Nat.reduceSub, Nat.reduceAdd, Nat.reduceMul, Nat.reduceLT, Nat.reduceLeDiff, Nat.reduceEqDiff, Nat.reduceBEq, Int.reduceAdd, Int.reduceSub, Int.reduceNeg, Int.reduceMul, Int.reduceLT, Int.reduceLE, Int.reduceEq, Int.reducePow, Int.reduceToNat, Int.reduceDiv, Int.reduceMod, Nat.zero_add, Int.ofNat_eq_natCast, Int.cast_ofNat_Int]
  have hr : r.toNat < z.cps.toList.length := by
    have : z.cps.toList.length = z.length := Array.length_toList
    omega
  have e : r = (r.toNat : Nat) := by omega
  rw [e]
  refine o_of (a := .str ⟨#[z.cps.toList[r.toNat]]⟩) ?_ ?_
  · show (if z.length ≤ sizeLine then (atI z.cps.toList (r.toNat : Int)).map fun c => PyData.str ⟨#[c]⟩ else none) = _
    rw [if_pos (Nat.le_trans h2 (by decide)), atI_nat (List.getElem?_eq_getElem hr)]
    rfl
  · simp only [↓W0, ↓w_comp_cons, ↓w_for_cons, ↓w_then, W1, List.reduceReplicate, String.reduceEq, List.drop_succ_cons, List.drop_zero, List.drop_nil, q_ls, q_lt_s, wipeR, backR, hideR, hideS, putB, noL, noLs, Sl.own, enumFrom, intsOf, Option.map_some, intsOf_map, List.set_cons_succ, List.set_cons_zero, List.getElem?_cons_succ, List.getElem?_cons_zero, List.getD_cons_succ, List.getD_cons_zero, List.map_cons, List.map_nil, List.tail_cons, List.headD_cons, List.length_cons, List.length_nil, List.length_map, List.length_range, List.nodup_cons, List.nodup_nil, List.not_mem_nil, List.mem_cons, not_false_eq_true, or_false, false_or, or_true, true_or, and_true, true_and, and_self, if_true, if_false, reduceIte, decide_true, decide_false, Bool.not_true, Bool.not_false, Bool.and_true, Bool.true_and, List.cons_append, List.nil_append, List.append_nil, eq_self, reduceCtorEq, List.all_cons, List.all_nil, List.isEmpty_cons, List.isEmpty_nil, Nat.reduceSub, Nat.reduceAdd, Nat.reduceMul, Nat.reduceLT, Nat.reduceLeDiff, Nat.reduceEqDiff, Nat.reduceBEq, Int.reduceAdd, Int.reduceSub, Int.reduceNeg, Int.reduceMul, Int.reduceLT, Int.reduceLE, Int.reduceEq, Int.reducePow, Int.reduceToNat, Int.reduceDiv, Int.reduceMod, Nat.zero_add, Int.ofNat_eq_natCast, Int.cast_ofNat_Int]
    exact k _ _ h' (List.getElem_mem hr)
theorem draw_ok {ns : List Int} (h : ns.length ≤ 63) {QL : List D → R → Prop} (k : ∀ dr, DrOk dr → QL dr [.s ns]) : Wp (M_l_draw [.s ns]) QL := by
  have hl : ns.length ≤ 1000 := by omega
  unfold M_l_draw
  simp only [↓W0, ↓w_comp_cons, ↓w_for_cons, ↓w_then, W1, List.reduceReplicate, String.reduceEq, List.drop_succ_cons, List.drop_zero, List.drop_nil, q_ls, q_lt_s, wipeR, backR, hideR, hideS, putB, noL, noLs, Sl.own, enumFrom, intsOf, Option.map_some, intsOf_map, List.set_cons_succ, List.set_cons_zero, List.getElem?_cons_succ, List.getElem?_cons_zero, List.getD_cons_succ, List.getD_cons_zero, List.map_cons, List.map_nil, List.tail_cons, List.headD_cons, List.length_cons, List.length_nil, List.length_map, List.length_range, List.nodup_cons, List.nodup_nil, List.not_mem_nil, List.mem_cons, not_false_eq_true, or_false, false_or, or_true, true_or, and_true, true_and, and_self, if_true, if_false, reduceIte, decide_true, decide_false, Bool.not_true, Bool.not_false, Bool.and_true, Bool.true_and, List.cons_append, List.nil_append, List.append_nil, eq_self, reduceCtorEq, List.all_cons, List.all_nil, List.isEmpty_cons, List.isEmpty_nil, Nat.reduceSub, Nat.reduceAdd, Nat.reduceMul, Nat.reduceLT, Nat.reduceLeDiff, Nat.reduceEqDiff, Nat.reduceBEq, Int.reduceAdd, Int.reduceSub, Int.reduceNeg, Int.reduceMul, Int.reduceLT, Int.reduceLE, Int.reduceEq, Int.reducePow, Int.reduceToNat, Int.reduceDiv, Int.reduceMod, Nat.zero_add, Int.ofNat_eq_natCast, Int.cast_ofNat_Int, hl]
  exact k _ ⟨ns, 0, 0, 0, 0, 0, _, rfl, Int.le_refl 0⟩

end DL

namespace DL
open PySem PySem.Spec PyProof.Rows L2
/-! terms -/
inductive T3 where | app | pi | fn
def T3.s : T3 → Str
  | .app => "app"
  | .pi => "pi"
  | .fn => "fun"
structure Lv where
  l : Int
  r : List (Int × Int)
def pD (p : Int × Int) : D := .tuple [.int p.1, .int p.2]
def Lv.e (v : Lv) : D := .tuple [.int v.l, .tuple (v.r.map pD)]
inductive Tr where
  | var (k : Int)
  | univ (l : Lv)
  | cst (n : Str) (ls : List Lv)
  | two (t : T3) (a b : Tr)
  | lt (a b c : Tr)
def Tr.e : Tr → D
  | .var k => .tuple [.str "var", .int k]
  | .univ l => .tuple [.str "univ", l.e]
  | .cst n ls => .tuple [.str "const", .str n, .tuple (ls.map Lv.e)]
  | .two t a b => .tuple [.str t.s, a.e, b.e]
  | .lt a b c => .tuple [.str "let", a.e, b.e, c.e]
theorem noLs_app : ∀ xs ys : List D, noLs (xs ++ ys) = (noLs xs && noLs ys)
  | [], _ => rfl
  | x :: xs, ys => by
    show (noL x && noLs (xs ++ ys)) = ((noL x && noLs xs) && noLs ys)
    rw [noLs_app xs ys, Bool.and_assoc]
theorem noLs_map {α : Type} {f : α → D} (h : ∀ x, noL (f x) = true) : ∀ xs : List α, noLs (xs.map f) = true
  | [] => rfl
  | x :: xs => by
    show (noL (f x) && noLs (xs.map f)) = true
    rw [h, noLs_map h xs]; rfl
theorem Lv.nl (v : Lv) : noL v.e = true := by
  show (noL (.int v.l) && (noL (.tuple (v.r.map pD)) && true)) = true
  have : noL (.tuple (v.r.map pD)) = true := by
    show noLs (v.r.map pD) = true
    exact noLs_map (fun _ => rfl) _
  rw [this]; rfl
theorem Tr.nl : ∀ t : Tr, noL t.e = true
  | .var k => rfl
  | .univ l => by
    show (true && (noL l.e && true)) = true
    rw [l.nl]; rfl
  | .cst n ls => by
    show (true && (true && (noLs (ls.map Lv.e) && true))) = true
    rw [noLs_map Lv.nl]; rfl
  | .two t a b => by
    show (true && (noL a.e && (noL b.e && true))) = true
    rw [nl a, nl b]; rfl
  | .lt a b c => by
    show (true && (noL a.e && (noL b.e && (noL c.e && true)))) = true
    rw [nl a, nl b, nl c]; rfl
def Tr.ps : Tr → List Tr
  | .two _ a b => [a, b]
  | .lt a b c => [a, b, c]
  | _ => []
def Tr.sz : Tr → Nat
  | .two _ a b => 1 + a.sz + b.sz
  | .lt a b c => 1 + a.sz + b.sz + c.sz
  | _ => 1
def Tr.said : Tr → List Str
  | .cst n _ => [n]
  | .two _ a b => a.said ++ b.said
  | .lt a b c => a.said ++ (b.said ++ c.said)
  | _ => []
def Tr.own : Tr → List Str
  | .cst n _ => [n]
  | _ => []
theorem Tr.sz_pos : ∀ t : Tr, 1 ≤ t.sz := by
  intro t; cases t <;> simp only [Tr.sz] <;> omega
def szs (ts : List Tr) : Nat := (ts.map Tr.sz).sum
theorem szs_cons (t : Tr) (ts : List Tr) : szs (t :: ts) = t.sz + szs ts := by simp [szs]
theorem szs_app (ts us : List Tr) : szs (ts ++ us) = szs ts + szs us := by simp [szs]
theorem Tr.sz_ps (t : Tr) : t.sz = 1 + szs t.ps := by
  cases t <;> simp [Tr.sz, Tr.ps, szs] <;> omega
theorem Tr.said_ps (t : Tr) : t.said = t.own ++ t.ps.flatMap Tr.said := by
  cases t <;> simp [Tr.said, Tr.ps, Tr.own]
theorem Tr.said_len : ∀ t : Tr, t.said.length ≤ t.sz
  | .var _ => by simp [Tr.said, Tr.sz]
  | .univ _ => by simp [Tr.said, Tr.sz]
  | .cst _ _ => by simp [Tr.said, Tr.sz]
  | .two _ a b => by
    have := said_len a; have := said_len b
    simp only [Tr.said, Tr.sz, List.length_append]; omega
  | .lt a b c => by
    have := said_len a; have := said_len b; have := said_len c
    simp only [Tr.said, Tr.sz, List.length_append]; omega
theorem szs_le {t : Tr} : ∀ {ts : List Tr}, t ∈ ts → t.sz ≤ szs ts
  | u :: ts, h => by
    rw [szs_cons]
    rcases List.mem_cons.mp h with z | z
    · subst z; omega
    · have := szs_le z; omega
theorem parts_of_ok (t : Tr) : M_p_parts_of [.d t.e] = .ok (.tuple (t.ps.map Tr.e), [.un]) := by
  refine wp_eq ?_
  unfold M_p_parts_of b_p_parts_of
  rcases t with k | l | ⟨n, ls⟩ | ⟨t, a, b⟩ | ⟨a, b, c⟩
  · simp only [↓W0, ↓w_comp_cons, ↓w_for_cons, ↓w_then, W1, List.reduceReplicate, String.reduceEq, List.drop_succ_cons, List.drop_zero, List.drop_nil, q_ls, q_lt_s, wipeR, backR, hideR, hideS, putB, noL, noLs, Sl.own, enumFrom, intsOf, Option.map_some, intsOf_map, List.set_cons_succ, List.set_cons_zero, List.getElem?_cons_succ, List.getElem?_cons_zero, List.getD_cons_succ, List.getD_cons_zero, List.map_cons, List.map_nil, List.tail_cons, List.headD_cons, List.length_cons, List.length_nil, List.length_map, List.length_range, List.nodup_cons, List.nodup_nil, List.not_mem_nil, List.mem_cons, not_false_eq_true, or_false, false_or, or_true, true_or, and_true, true_and, and_self, if_true, if_false, reduceIte, decide_true, decide_false, Bool.not_true, Bool.not_false, Bool.and_true, Bool.true_and, List.cons_append, List.nil_append, List.append_nil, eq_self, reduceCtorEq, List.all_cons, List.all_nil, List.isEmpty_cons, List.isEmpty_nil, Nat.reduceSub, Nat.reduceAdd, Nat.reduceMul, Nat.reduceLT, Nat.reduceLeDiff, Nat.reduceEqDiff, Nat.reduceBEq, Int.reduceAdd, Int.reduceSub, Int.reduceNeg, Int.reduceMul, Int.reduceLT, Int.reduceLE, Int.reduceEq, Int.reducePow, Int.reduceToNat, Int.reduceDiv, Int.reduceMod, Nat.zero_add, Int.ofNat_eq_natCast, Int.cast_ofNat_Int, Tr.e, Tr.ps]
  · simp only [↓W0, ↓w_comp_cons, ↓w_for_cons, ↓w_then, W1, List.reduceReplicate, String.reduceEq, List.drop_succ_cons, List.drop_zero, List.drop_nil, q_ls, q_lt_s, wipeR, backR, hideR, hideS, putB, noL, noLs, Sl.own, enumFrom, intsOf, Option.map_some, intsOf_map, List.set_cons_succ, List.set_cons_zero, List.getElem?_cons_succ, List.getElem?_cons_zero, List.getD_cons_succ, List.getD_cons_zero, List.map_cons, List.map_nil, List.tail_cons, List.headD_cons, List.length_cons, List.length_nil, List.length_map, List.length_range, List.nodup_cons, List.nodup_nil, List.not_mem_nil, List.mem_cons, not_false_eq_true, or_false, false_or, or_true, true_or, and_true, true_and, and_self, if_true, if_false, reduceIte, decide_true, decide_false, Bool.not_true, Bool.not_false, Bool.and_true, Bool.true_and, List.cons_append, List.nil_append, List.append_nil, eq_self, reduceCtorEq, List.all_cons, List.all_nil, List.isEmpty_cons, List.isEmpty_nil, Nat.reduceSub, Nat.reduceAdd, Nat.reduceMul, Nat.reduceLT, Nat.reduceLeDiff, Nat.reduceEqDiff, Nat.reduceBEq, Int.reduceAdd, Int.reduceSub, Int.reduceNeg, Int.reduceMul, Int.reduceLT, Int.reduceLE, Int.reduceEq, Int.reducePow, Int.reduceToNat, Int.reduceDiv, Int.reduceMod, Nat.zero_add, Int.ofNat_eq_natCast, Int.cast_ofNat_Int, Tr.e, Tr.ps]
  · simp only [↓W0, ↓w_comp_cons, ↓w_for_cons, ↓w_then, W1, List.reduceReplicate, String.reduceEq, List.drop_succ_cons, List.drop_zero, List.drop_nil, q_ls, q_lt_s, wipeR, backR, hideR, hideS, putB, noL, noLs, Sl.own, enumFrom, intsOf, Option.map_some, intsOf_map, List.set_cons_succ, List.set_cons_zero, List.getElem?_cons_succ, List.getElem?_cons_zero, List.getD_cons_succ, List.getD_cons_zero, List.map_cons, List.map_nil, List.tail_cons, List.headD_cons, List.length_cons, List.length_nil, List.length_map, List.length_range, List.nodup_cons, List.nodup_nil, List.not_mem_nil, List.mem_cons, not_false_eq_true, or_false, false_or, or_true, true_or, and_true, true_and, and_self, if_true, if_false, reduceIte, decide_true, decide_false, Bool.not_true, Bool.not_false, Bool.and_true, Bool.true_and, List.cons_append, List.nil_append, List.append_nil, eq_self, reduceCtorEq, List.all_cons, List.all_nil, List.isEmpty_cons, List.isEmpty_nil, Nat.reduceSub, Nat.reduceAdd, Nat.reduceMul, Nat.reduceLT, Nat.reduceLeDiff, Nat.reduceEqDiff, Nat.reduceBEq, Int.reduceAdd, Int.reduceSub, Int.reduceNeg, Int.reduceMul, Int.reduceLT, Int.reduceLE, Int.reduceEq, Int.reducePow, Int.reduceToNat, Int.reduceDiv, Int.reduceMod, Nat.zero_add, Int.ofNat_eq_natCast, Int.cast_ofNat_Int, Tr.e, Tr.ps]
  · cases t <;> simp only [↓W0, ↓w_comp_cons, ↓w_for_cons, ↓w_then, W1, List.reduceReplicate, String.reduceEq, List.drop_succ_cons, List.drop_zero, List.drop_nil, q_ls, q_lt_s, wipeR, backR, hideR, hideS, putB, noL, noLs, Sl.own, enumFrom, intsOf, Option.map_some, intsOf_map, List.set_cons_succ, List.set_cons_zero, List.getElem?_cons_succ, List.getElem?_cons_zero, List.getD_cons_succ, List.getD_cons_zero, List.map_cons, List.map_nil, List.tail_cons, List.headD_cons, List.length_cons, List.length_nil, List.length_map, List.length_range, List.nodup_cons, List.nodup_nil, List.not_mem_nil, List.mem_cons, not_false_eq_true, or_false, false_or, or_true, true_or, and_true, true_and, and_self, if_true, if_false, reduceIte, decide_true, decide_false, Bool.not_true, Bool.not_false, Bool.and_true, Bool.true_and, List.cons_append, List.nil_append, List.append_nil, eq_self, reduceCtorEq, List.all_cons, List.all_nil, List.isEmpty_cons, List.isEmpty_nil, Nat.reduceSub, Nat.reduceAdd, Nat.reduceMul, Nat.reduceLT, Nat.reduceLeDiff, Nat.reduceEqDiff, Nat.reduceBEq, Int.reduceAdd, Int.reduceSub, Int.reduceNeg, Int.reduceMul, Int.reduceLT, Int.reduceLE, Int.reduceEq, Int.reducePow, Int.reduceToNat, Int.reduceDiv, Int.reduceMod, Nat.zero_add, Int.ofNat_eq_natCast, Int.cast_ofNat_Int, Tr.e, Tr.ps, T3.s]
  · simp only [↓W0, ↓w_comp_cons, ↓w_for_cons, ↓w_then, W1, List.reduceReplicate, String.reduceEq, List.drop_succ_cons, List.drop_zero, List.drop_nil, q_ls, q_lt_s, wipeR, backR, hideR, hideS, putB, noL, noLs, Sl.own, enumFrom, intsOf, Option.map_some, intsOf_map, List.set_cons_succ, List.set_cons_zero, List.getElem?_cons_succ, List.getElem?_cons_zero, List.getD_cons_succ, List.getD_cons_zero, List.map_cons, List.map_nil, List.tail_cons, List.headD_cons, List.length_cons, List.length_nil, List.length_map, List.length_range, List.nodup_cons, List.nodup_nil, List.not_mem_nil, List.mem_cons, not_false_eq_true, or_false, false_or, or_true, true_or, and_true, true_and, and_self, if_true, if_false, reduceIte, decide_true, decide_false, Bool.not_true, Bool.not_false, Bool.and_true, Bool.true_and, List.cons_append, List.nil_append, List.append_nil, eq_self, reduceCtorEq, List.all_cons, List.all_nil, List.isEmpty_cons, List.isEmpty_nil, Nat.reduceSub, Nat.reduceAdd, Nat.reduceMul, Nat.reduceLT, Nat.reduceLeDiff, Nat.reduceEqDiff, Nat.reduceBEq, Int.reduceAdd, Int.reduceSub, Int.reduceNeg, Int.reduceMul, Int.reduceLT, Int.reduceLE, Int.reduceEq, Int.reducePow, Int.reduceToNat, Int.reduceDiv, Int.reduceMod, Nat.zero_add, Int.ofNat_eq_natCast, Int.cast_ofNat_Int, Tr.e, Tr.ps]
theorem l_parts_ok (t : Tr) : M_l_parts [.d t.e] = .ok (.tuple (t.ps.map Tr.e), [.un]) := by
  refine wp_eq ?_
  unfold M_l_parts b_l_parts
  rcases t with k | l | ⟨n, ls⟩ | ⟨t, a, b⟩ | ⟨a, b, c⟩
  · simp only [↓W0, ↓w_comp_cons, ↓w_for_cons, ↓w_then, W1, List.reduceReplicate, String.reduceEq, List.drop_succ_cons, List.drop_zero, List.drop_nil, q_ls, q_lt_s, wipeR, backR, hideR, hideS, putB, noL, noLs, Sl.own, enumFrom, intsOf, Option.map_some, intsOf_map, List.set_cons_succ, List.set_cons_zero, List.getElem?_cons_succ, List.getElem?_cons_zero, List.getD_cons_succ, List.getD_cons_zero, List.map_cons, List.map_nil, List.tail_cons, List.headD_cons, List.length_cons, List.length_nil, List.length_map, List.length_range, List.nodup_cons, List.nodup_nil, List.not_mem_nil, List.mem_cons, not_false_eq_true, or_false, false_or, or_true, true_or, and_true, true_and, and_self, if_true, if_false, reduceIte, decide_true, decide_false, Bool.not_true, Bool.not_false, Bool.and_true, Bool.true_and, List.cons_append, List.nil_append, List.append_nil, eq_self, reduceCtorEq, List.all_cons, List.all_nil, List.isEmpty_cons, List.isEmpty_nil, Nat.reduceSub, Nat.reduceAdd, Nat.reduceMul, Nat.reduceLT, Nat.reduceLeDiff, Nat.reduceEqDiff, Nat.reduceBEq, Int.reduceAdd, Int.reduceSub, Int.reduceNeg, Int.reduceMul, Int.reduceLT, Int.reduceLE, Int.reduceEq, Int.reducePow, Int.reduceToNat, Int.reduceDiv, Int.reduceMod, Nat.zero_add, Int.ofNat_eq_natCast, Int.cast_ofNat_Int, Tr.e, Tr.ps]
  · simp only [↓W0, ↓w_comp_cons, ↓w_for_cons, ↓w_then, W1, List.reduceReplicate, String.reduceEq, List.drop_succ_cons, List.drop_zero, List.drop_nil, q_ls, q_lt_s, wipeR, backR, hideR, hideS, putB, noL, noLs, Sl.own, enumFrom, intsOf, Option.map_some, intsOf_map, List.set_cons_succ, List.set_cons_zero, List.getElem?_cons_succ, List.getElem?_cons_zero, List.getD_cons_succ, List.getD_cons_zero, List.map_cons, List.map_nil, List.tail_cons, List.headD_cons, List.length_cons, List.length_nil, List.length_map, List.length_range, List.nodup_cons, List.nodup_nil, List.not_mem_nil, List.mem_cons, not_false_eq_true, or_false, false_or, or_true, true_or, and_true, true_and, and_self, if_true, if_false, reduceIte, decide_true, decide_false, Bool.not_true, Bool.not_false, Bool.and_true, Bool.true_and, List.cons_append, List.nil_append, List.append_nil, eq_self, reduceCtorEq, List.all_cons, List.all_nil, List.isEmpty_cons, List.isEmpty_nil, Nat.reduceSub, Nat.reduceAdd, Nat.reduceMul, Nat.reduceLT, Nat.reduceLeDiff, Nat.reduceEqDiff, Nat.reduceBEq, Int.reduceAdd, Int.reduceSub, Int.reduceNeg, Int.reduceMul, Int.reduceLT, Int.reduceLE, Int.reduceEq, Int.reducePow, Int.reduceToNat, Int.reduceDiv, Int.reduceMod, Nat.zero_add, Int.ofNat_eq_natCast, Int.cast_ofNat_Int, Tr.e, Tr.ps]
  · simp only [↓W0, ↓w_comp_cons, ↓w_for_cons, ↓w_then, W1, List.reduceReplicate, String.reduceEq, List.drop_succ_cons, List.drop_zero, List.drop_nil, q_ls, q_lt_s, wipeR, backR, hideR, hideS, putB, noL, noLs, Sl.own, enumFrom, intsOf, Option.map_some, intsOf_map, List.set_cons_succ, List.set_cons_zero, List.getElem?_cons_succ, List.getElem?_cons_zero, List.getD_cons_succ, List.getD_cons_zero, List.map_cons, List.map_nil, List.tail_cons, List.headD_cons, List.length_cons, List.length_nil, List.length_map, List.length_range, List.nodup_cons, List.nodup_nil, List.not_mem_nil, List.mem_cons, not_false_eq_true, or_false, false_or, or_true, true_or, and_true, true_and, and_self, if_true, if_false, reduceIte, decide_true, decide_false, Bool.not_true, Bool.not_false, Bool.and_true, Bool.true_and, List.cons_append, List.nil_append, List.append_nil, eq_self, reduceCtorEq, List.all_cons, List.all_nil, List.isEmpty_cons, List.isEmpty_nil, Nat.reduceSub, Nat.reduceAdd, Nat.reduceMul, Nat.reduceLT, Nat.reduceLeDiff, Nat.reduceEqDiff, Nat.reduceBEq, Int.reduceAdd, Int.reduceSub, Int.reduceNeg, Int.reduceMul, Int.reduceLT, Int.reduceLE, Int.reduceEq, Int.reducePow, Int.reduceToNat, Int.reduceDiv, Int.reduceMod, Nat.zero_add, Int.ofNat_eq_natCast, Int.cast_ofNat_Int, Tr.e, Tr.ps]
  · cases t <;> simp only [↓W0, ↓w_comp_cons, ↓w_for_cons, ↓w_then, W1, List.reduceReplicate, String.reduceEq, List.drop_succ_cons, List.drop_zero, List.drop_nil, q_ls, q_lt_s, wipeR, backR, hideR, hideS, putB, noL, noLs, Sl.own, enumFrom, intsOf, Option.map_some, intsOf_map, List.set_cons_succ, List.set_cons_zero, List.getElem?_cons_succ, List.getElem?_cons_zero, List.getD_cons_succ, List.getD_cons_zero, List.map_cons, List.map_nil, List.tail_cons, List.headD_cons, List.length_cons, List.length_nil, List.length_map, List.length_range, List.nodup_cons, List.nodup_nil, List.not_mem_nil, List.mem_cons, not_false_eq_true, or_false, false_or, or_true, true_or, and_true, true_and, and_self, if_true, if_false, reduceIte, decide_true, decide_false, Bool.not_true, Bool.not_false, Bool.and_true, Bool.true_and, List.cons_append, List.nil_append, List.append_nil, eq_self, reduceCtorEq, List.all_cons, List.all_nil, List.isEmpty_cons, List.isEmpty_nil, Nat.reduceSub, Nat.reduceAdd, Nat.reduceMul, Nat.reduceLT, Nat.reduceLeDiff, Nat.reduceEqDiff, Nat.reduceBEq, Int.reduceAdd, Int.reduceSub, Int.reduceNeg, Int.reduceMul, Int.reduceLT, Int.reduceLE, Int.reduceEq, Int.reducePow, Int.reduceToNat, Int.reduceDiv, Int.reduceMod, Nat.zero_add, Int.ofNat_eq_natCast, Int.cast_ofNat_Int, Tr.e, Tr.ps, T3.s]
  · simp only [↓W0, ↓w_comp_cons, ↓w_for_cons, ↓w_then, W1, List.reduceReplicate, String.reduceEq, List.drop_succ_cons, List.drop_zero, List.drop_nil, q_ls, q_lt_s, wipeR, backR, hideR, hideS, putB, noL, noLs, Sl.own, enumFrom, intsOf, Option.map_some, intsOf_map, List.set_cons_succ, List.set_cons_zero, List.getElem?_cons_succ, List.getElem?_cons_zero, List.getD_cons_succ, List.getD_cons_zero, List.map_cons, List.map_nil, List.tail_cons, List.headD_cons, List.length_cons, List.length_nil, List.length_map, List.length_range, List.nodup_cons, List.nodup_nil, List.not_mem_nil, List.mem_cons, not_false_eq_true, or_false, false_or, or_true, true_or, and_true, true_and, and_self, if_true, if_false, reduceIte, decide_true, decide_false, Bool.not_true, Bool.not_false, Bool.and_true, Bool.true_and, List.cons_append, List.nil_append, List.append_nil, eq_self, reduceCtorEq, List.all_cons, List.all_nil, List.isEmpty_cons, List.isEmpty_nil, Nat.reduceSub, Nat.reduceAdd, Nat.reduceMul, Nat.reduceLT, Nat.reduceLeDiff, Nat.reduceEqDiff, Nat.reduceBEq, Int.reduceAdd, Int.reduceSub, Int.reduceNeg, Int.reduceMul, Int.reduceLT, Int.reduceLE, Int.reduceEq, Int.reducePow, Int.reduceToNat, Int.reduceDiv, Int.reduceMod, Nat.zero_add, Int.ofNat_eq_natCast, Int.cast_ofNat_Int, Tr.e, Tr.ps]
theorem Tr.e_tup (t : Tr) : ∃ tg l, t.e = .tuple (.str tg :: l) ∧ (t.own = [] → ¬ tg = "const") := by
  rcases t with k | l | ⟨n, ls⟩ | ⟨t, a, b⟩ | ⟨a, b, c⟩
  · exact ⟨_, _, rfl, fun _ => by decide +kernel⟩
  · exact ⟨_, _, rfl, fun _ => by decide +kernel⟩
  · exact ⟨_, _, rfl, fun h => by cases h⟩
  · refine ⟨_, _, rfl, fun _ => ?_⟩
    cases t <;> decide +kernel
  · exact ⟨_, _, rfl, fun _ => by decide +kernel⟩
theorem said_ok : ∀ (n : Nat) (t : Tr), t.sz ≤ n → t.sz ≤ 500 → M_l_said n [.d t.e] = .ok (.list (t.said.map .str), [.un])
  | 0, t, h, _ => by have := t.sz_pos; omega
  | n + 1, t, h, h5 => by
    refine wp_eq ?_
    show Wp (mBody 3 1 [] (b_l_said (M_l_said n)) _) _
    unfold b_l_said
    by_cases hc : ∃ nm ls, t = .cst nm ls
    · obtain ⟨nm, ls, rfl⟩ := hc
      simp only [↓W0, ↓w_comp_cons, ↓w_for_cons, ↓w_then, W1, List.reduceReplicate, String.reduceEq, List.drop_succ_cons, List.drop_zero, List.drop_nil, q_ls, q_lt_s, wipeR, backR, hideR, hideS, putB, noL, noLs, Sl.own, enumFrom, intsOf, Option.map_some, intsOf_map, List.set_cons_succ, List.set_cons_zero, List.getElem?_cons_succ, List.getElem?_cons_zero, List.getD_cons_succ, List.getD_cons_zero, List.map_cons, List.map_nil, List.tail_cons, List.headD_cons, List.length_cons, List.length_nil, List.length_map, List.length_range, List.nodup_cons, List.nodup_nil, List.not_mem_nil, List.mem_cons, not_false_eq_true, or_false, false_or, or_true, true_or, and_true, true_and, and_self, if_true, if_false, reduceIte, decide_true, decide_false, Bool.not_true, Bool.not_false, Bool.and_true, Bool.true_and, List.cons_append, List.nil_append, List.append_nil, eq_self, reduceCtorEq, List.all_cons, List.all_nil, List.isEmpty_cons, List.isEmpty_nil, Nat.reduceSub, Nat.reduceAdd, Nat.reduceMul, Nat.reduceLT, Nat.reduceLeDiff, Nat.reduceEqDiff, Nat.reduceBEq, Int.reduceAdd, Int.reduceSub, Int.reduceNeg, Int.reduceMul, Int.reduceLT, Int.reduceLE, Int.reduceEq, Int.reducePow, Int.reduceToNat, Int.reduceDiv, Int.reduceMod, Nat.zero_add, Int.ofNat_eq_natCast, Int.cast_ofNat_Int, Tr.e, Tr.said]
    · have ho : t.own = [] := by
        cases t <;> first | rfl | exact absurd ⟨_, _, rfl⟩ hc
      obtain ⟨tg, l, e, hn⟩ := t.e_tup
      have hn := hn ho
      rw [e]
      simp only [↓W0, ↓w_comp_cons, ↓w_for_cons, ↓w_then, W1, List.reduceReplicate, String.reduceEq, List.drop_succ_cons, List.drop_zero, List.drop_nil, q_ls, q_lt_s, wipeR, backR, hideR, hideS, putB, noL, noLs, Sl.own, enumFrom, intsOf, Option.map_some, intsOf_map, List.set_cons_succ, List.set_cons_zero, List.getElem?_cons_succ, List.getElem?_cons_zero, List.getD_cons_succ, List.getD_cons_zero, List.map_cons, List.map_nil, List.tail_cons, List.headD_cons, List.length_cons, List.length_nil, List.length_map, List.length_range, List.nodup_cons, List.nodup_nil, List.not_mem_nil, List.mem_cons, not_false_eq_true, or_false, false_or, or_true, true_or, and_true, true_and, and_self, if_true, if_false, reduceIte, decide_true, decide_false, Bool.not_true, Bool.not_false, Bool.and_true, Bool.true_and, List.cons_append, List.nil_append, List.append_nil, eq_self, reduceCtorEq, List.all_cons, List.all_nil, List.isEmpty_cons, List.isEmpty_nil, Nat.reduceSub, Nat.reduceAdd, Nat.reduceMul, Nat.reduceLT, Nat.reduceLeDiff, Nat.reduceEqDiff, Nat.reduceBEq, Int.reduceAdd, Int.reduceSub, Int.reduceNeg, Int.reduceMul, Int.reduceLT, Int.reduceLE, Int.reduceEq, Int.reducePow, Int.reduceToNat, Int.reduceDiv, Int.reduceMod, Nat.zero_add, Int.ofNat_eq_natCast, Int.cast_ofNat_Int, hn]
      rw [← e]
      refine wp_of (l_parts_ok t) ?_
      simp only [↓W0, ↓w_comp_cons, ↓w_for_cons, ↓w_then, W1, List.reduceReplicate, String.reduceEq, List.drop_succ_cons, List.drop_zero, List.drop_nil, q_ls, q_lt_s, wipeR, backR, hideR, hideS, putB, noL, noLs, Sl.own, enumFrom, intsOf, Option.map_some, intsOf_map, List.set_cons_succ, List.set_cons_zero, List.getElem?_cons_succ, List.getElem?_cons_zero, List.getD_cons_succ, List.getD_cons_zero, List.map_cons, List.map_nil, List.tail_cons, List.headD_cons, List.length_cons, List.length_nil, List.length_map, List.length_range, List.nodup_cons, List.nodup_nil, List.not_mem_nil, List.mem_cons, not_false_eq_true, or_false, false_or, or_true, true_or, and_true, true_and, and_self, if_true, if_false, reduceIte, decide_true, decide_false, Bool.not_true, Bool.not_false, Bool.and_true, Bool.true_and, List.cons_append, List.nil_append, List.append_nil, eq_self, reduceCtorEq, List.all_cons, List.all_nil, List.isEmpty_cons, List.isEmpty_nil, Nat.reduceSub, Nat.reduceAdd, Nat.reduceMul, Nat.reduceLT, Nat.reduceLeDiff, Nat.reduceEqDiff, Nat.reduceBEq, Int.reduceAdd, Int.reduceSub, Int.reduceNeg, Int.reduceMul, Int.reduceLT, Int.reduceLE, Int.reduceEq, Int.reducePow, Int.reduceToNat, Int.reduceDiv, Int.reduceMod, Nat.zero_add, Int.ofNat_eq_natCast, Int.cast_ofNat_Int]
      refine for_st (α := Tr) (σ := List Str × Sl) (fun L s => s.1 ++ L.flatMap Tr.said = t.said ∧ ∀ x ∈ L, x.sz ≤ n ∧ x.sz ≤ 500) (fun s => [.d t.e, .d (.list (s.1.map .str)), s.2]) ?_ ?_ (L := t.ps) (s := ([], .un)) ⟨?_, ?_⟩
      · rintro x L ⟨acc, s2⟩ ⟨i1, i2⟩
        simp only [↓W0, ↓w_comp_cons, ↓w_for_cons, ↓w_then, W1, List.reduceReplicate, String.reduceEq, List.drop_succ_cons, List.drop_zero, List.drop_nil, q_ls, q_lt_s, wipeR, backR, hideR, hideS, putB, noL, noLs, Sl.own, enumFrom, intsOf, Option.map_some, intsOf_map, List.set_cons_succ, List.set_cons_zero, List.getElem?_cons_succ, List.getElem?_cons_zero, List.getD_cons_succ, List.getD_cons_zero, List.map_cons, List.map_nil, List.tail_cons, List.headD_cons, List.length_cons, List.length_nil, List.length_map, List.length_range, List.nodup_cons, List.nodup_nil, List.not_mem_nil, List.mem_cons, not_false_eq_true, or_false, false_or, or_true, true_or, and_true, true_and, and_self, if_true, if_false, reduceIte, decide_true, decide_false, Bool.not_true, Bool.not_false, Bool.and_true, Bool.true_and, List.cons_append, List.nil_append, List.append_nil, eq_self, reduceCtorEq, List.all_cons, List.all_nil, List.isEmpty_cons, List.isEmpty_nil, Nat.reduceSub, Nat.reduceAdd, Nat.reduceMul, Nat.reduceLT, Nat.reduceLeDiff, Nat.reduceEqDiff, Nat.reduceBEq, Int.reduceAdd, Int.reduceSub, Int.reduceNeg, Int.reduceMul, Int.reduceLT, Int.reduceLE, Int.reduceEq, Int.reducePow, Int.reduceToNat, Int.reduceDiv, Int.reduceMod, Nat.zero_add, Int.ofNat_eq_natCast, Int.cast_ofNat_Int]
        refine wp_of (said_ok n x (i2 x List.mem_cons_self).1 (i2 x List.mem_cons_self).2) ?_
        have hl : (acc.map PyData.str).length + (x.said.map PyData.str).length ≤ 1000 := by
          have := congrArg List.length i1
          have := t.said_len
          simp only [List.flatMap_cons, List.length_append, List.length_map] at *
          omega
        rw [List.length_map, List.length_map] at hl
        simp only [↓W0, ↓w_comp_cons, ↓w_for_cons, ↓w_then, W1, List.reduceReplicate, String.reduceEq, List.drop_succ_cons, List.drop_zero, List.drop_nil, q_ls, q_lt_s, wipeR, backR, hideR, hideS, putB, noL, noLs, Sl.own, enumFrom, intsOf, Option.map_some, intsOf_map, List.set_cons_succ, List.set_cons_zero, List.getElem?_cons_succ, List.getElem?_cons_zero, List.getD_cons_succ, List.getD_cons_zero, List.map_cons, List.map_nil, List.tail_cons, List.headD_cons, List.length_cons, List.length_nil, List.length_map, List.length_range, List.nodup_cons, List.nodup_nil, List.not_mem_nil, List.mem_cons, not_false_eq_true, or_false, false_or, or_true, true_or, and_true, true_and, and_self, if_true, if_false, reduceIte, decide_true, decide_false, Bool.not_true, Bool.not_false, Bool.and_true, Bool.true_and, List.cons_append, List.nil_append, List.append_nil, eq_self, reduceCtorEq, List.all_cons, List.all_nil, List.isEmpty_cons, List.isEmpty_nil, Nat.reduceSub, Nat.reduceAdd, Nat.reduceMul, Nat.reduceLT, Nat.reduceLeDiff, Nat.reduceEqDiff, Nat.reduceBEq, Int.reduceAdd, Int.reduceSub, Int.reduceNeg, Int.reduceMul, Int.reduceLT, Int.reduceLE, Int.reduceEq, Int.reducePow, Int.reduceToNat, Int.reduceDiv, Int.reduceMod, Nat.zero_add, Int.ofNat_eq_natCast, Int.cast_ofNat_Int, hl]
        exact ⟨(acc ++ x.said, _), ⟨by rw [List.flatMap_cons, ← List.append_assoc] at i1; exact i1, fun y hy => i2 y (List.mem_cons_of_mem _ hy)⟩, by rw [List.map_append]⟩
      · rintro ⟨acc, s2⟩ ⟨i1, _⟩
        rw [List.flatMap_nil, List.append_nil] at i1
        have i1 : acc = t.said := i1
        simp only [↓W0, ↓w_comp_cons, ↓w_for_cons, ↓w_then, W1, List.reduceReplicate, String.reduceEq, List.drop_succ_cons, List.drop_zero, List.drop_nil, q_ls, q_lt_s, wipeR, backR, hideR, hideS, putB, noL, noLs, Sl.own, enumFrom, intsOf, Option.map_some, intsOf_map, List.set_cons_succ, List.set_cons_zero, List.getElem?_cons_succ, List.getElem?_cons_zero, List.getD_cons_succ, List.getD_cons_zero, List.map_cons, List.map_nil, List.tail_cons, List.headD_cons, List.length_cons, List.length_nil, List.length_map, List.length_range, List.nodup_cons, List.nodup_nil, List.not_mem_nil, List.mem_cons, not_false_eq_true, or_false, false_or, or_true, true_or, and_true, true_and, and_self, if_true, if_false, reduceIte, decide_true, decide_false, Bool.not_true, Bool.not_false, Bool.and_true, Bool.true_and, List.cons_append, List.nil_append, List.append_nil, eq_self, reduceCtorEq, List.all_cons, List.all_nil, List.isEmpty_cons, List.isEmpty_nil, Nat.reduceSub, Nat.reduceAdd, Nat.reduceMul, Nat.reduceLT, Nat.reduceLeDiff, Nat.reduceEqDiff, Nat.reduceBEq, Int.reduceAdd, Int.reduceSub, Int.reduceNeg, Int.reduceMul, Int.reduceLT, Int.reduceLE, Int.reduceEq, Int.reducePow, Int.reduceToNat, Int.reduceDiv, Int.reduceMod, Nat.zero_add, Int.ofNat_eq_natCast, Int.cast_ofNat_Int]
        rw [i1]
      · show [] ++ _ = _
        rw [t.said_ps, ho]
      · intro x hx
        have := szs_le hx
        have := t.sz_ps
        omega
/-! the constants of a term, each once -/
def ins (acc : List Str) (x : Str) : List Str := if x ∈ acc then acc else acc ++ [x]
def dk (acc : List Str) : List (Key × D) := acc.map fun s => (.inr s, .bool true)
theorem any_dk (x : Str) : ∀ acc : List Str, ((dk acc).any fun kv => decide (kv.1 = .inr x)) = decide (x ∈ acc)
  | [] => by simp [dk]
  | a :: acc => by
    show (decide ((Sum.inr a : Key) = .inr x) || (dk acc).any fun kv => decide (kv.1 = .inr x)) = _
    rw [any_dk x acc]
    by_cases h : a = x
    · subst h; simp
    · have h2 : ¬ x = a := fun e => h e.symm
      have h3 : ¬ ((Sum.inr a : Key) = .inr x) := fun e => h (Sum.inr.inj e)
      simp [h2, h3]
theorem put_dk (acc : List Str) (x : Str) : putD (dk acc) (.inr x) (.bool true) = dk (ins acc x) := by
  unfold putD ins
  rw [any_dk]
  by_cases h : x ∈ acc
  · rw [if_pos (by simpa using h), if_pos h]
    unfold dk
    rw [List.map_map]
    refine List.map_congr_left fun s _ => ?_
    simp only [Function.comp]
    split <;> rfl
  · rw [if_neg (by simpa using h), if_neg h]
    simp [dk]
theorem ins_len (acc : List Str) (x : Str) : (ins acc x).length ≤ acc.length + 1 := by
  unfold ins; split <;> simp
theorem dk_len (acc : List Str) : (dk acc).length = acc.length := List.length_map _
theorem ky_dk (acc : List Str) : ((dk acc).map fun kv => kyD kv.1) = acc.map .str := by
  unfold dk
  rw [List.map_map]
  rfl
theorem pop_rev {α : Type} (x : α) (xs : List α) : (x :: xs).reverse[(x :: xs).reverse.length - 1]? = some x := by
  rw [List.reverse_cons, List.length_append]
  simp
theorem last_rev {α : Type} (x : α) (xs : List α) : (x :: xs).reverse.dropLast = xs.reverse := by
  rw [List.reverse_cons, List.dropLast_concat]
theorem cin_loop {t0 : D} {QF : Fl → R → Prop} : ∀ (n : Nat) (ts : List Tr) (acc : List Str) (s3 : Sl), szs ts < n → acc.length + szs ts ≤ 500 → (∀ s3, QF .nx [.d t0, .k (dk ((ts.flatMap Tr.said).foldl ins acc)), .l [], s3]) →
    Wp (whileL (mBor (fun _ => true) 2 (mTest truthD (mVar 2))) (mThen (mAsg (mPop 2) (mSet 3))
    (mThen (mIf (mTest boolD (mOp eqD (mOp ixD (mVar 3) (mC (.int 0))) (mC (.str "const")))) (mPutK 1 (mC (.bool true)) (mOp ixD (mVar 3) (mC (.int 1)))) mSkip)
    (mExtA 2 (mUn revA (mCall (noX M_p_parts_of) [] (aD (mVar 3) aNil)))))) n [.d t0, .k (dk acc), .l (ts.map Tr.e).reverse, s3]) QF
  | 0, ts, acc, s3, h, _, _ => by omega
  | n + 1, [], acc, s3, h, _, k => by
    rw [w_while_succ]
    simp only [↓W0, ↓w_comp_cons, ↓w_for_cons, ↓w_then, W1, List.reduceReplicate, String.reduceEq, List.drop_succ_cons, List.drop_zero, List.drop_nil, q_ls, q_lt_s, wipeR, backR, hideR, hideS, putB, noL, noLs, Sl.own, enumFrom, intsOf, Option.map_some, intsOf_map, List.set_cons_succ, List.set_cons_zero, List.getElem?_cons_succ, List.getElem?_cons_zero, List.getD_cons_succ, List.getD_cons_zero, List.map_cons, List.map_nil, List.tail_cons, List.headD_cons, List.length_cons, List.length_nil, List.length_map, List.length_range, List.nodup_cons, List.nodup_nil, List.not_mem_nil, List.mem_cons, not_false_eq_true, or_false, false_or, or_true, true_or, and_true, true_and, and_self, if_true, if_false, reduceIte, decide_true, decide_false, Bool.not_true, Bool.not_false, Bool.and_true, Bool.true_and, List.cons_append, List.nil_append, List.append_nil, eq_self, reduceCtorEq, List.all_cons, List.all_nil, List.isEmpty_cons, List.isEmpty_nil, Nat.reduceSub, Nat.reduceAdd, Nat.reduceMul, Nat.reduceLT, Nat.reduceLeDiff, Nat.reduceEqDiff, Nat.reduceBEq, Int.reduceAdd, Int.reduceSub, Int.reduceNeg, Int.reduceMul, Int.reduceLT, Int.reduceLE, Int.reduceEq, Int.reducePow, Int.reduceToNat, Int.reduceDiv, Int.reduceMod, Nat.zero_add, Int.ofNat_eq_natCast, Int.cast_ofNat_Int, List.reverse_nil]
    exact k s3
  | n + 1, t :: ts, acc, s3, h, hb, k => by
    rw [szs_cons] at h hb
    have hp := t.sz_ps
    have hts : ts.length ≤ szs ts := by
      clear h hb k hp
      induction ts with
      | nil => simp [szs]
      | cons u us ih => rw [szs_cons, List.length_cons]; have := u.sz_pos; omega
    have hps : t.ps.length ≤ 3 := by cases t <;> simp [Tr.ps]
    rw [w_while_succ, List.map_cons]
    have hne : (t.e :: ts.map Tr.e).reverse.isEmpty = false := by simp
    simp only [↓W0, ↓w_comp_cons, ↓w_for_cons, ↓w_then, W1, List.reduceReplicate, String.reduceEq, List.drop_succ_cons, List.drop_zero, List.drop_nil, q_ls, q_lt_s, wipeR, backR, hideR, hideS, putB, noL, noLs, Sl.own, enumFrom, intsOf, Option.map_some, intsOf_map, List.set_cons_succ, List.set_cons_zero, List.getElem?_cons_succ, List.getElem?_cons_zero, List.getD_cons_succ, List.getD_cons_zero, List.map_cons, List.map_nil, List.tail_cons, List.headD_cons, List.length_cons, List.length_nil, List.length_map, List.length_range, List.nodup_cons, List.nodup_nil, List.not_mem_nil, List.mem_cons, not_false_eq_true, or_false, false_or, or_true, true_or, and_true, true_and, and_self, if_true, if_false, reduceIte, decide_true, decide_false, Bool.not_true, Bool.not_false, Bool.and_true, Bool.true_and, List.cons_append, List.nil_append, List.append_nil, eq_self, reduceCtorEq, List.all_cons, List.all_nil, List.isEmpty_cons, List.isEmpty_nil, Nat.reduceSub, Nat.reduceAdd, Nat.reduceMul, Nat.reduceLT, Nat.reduceLeDiff, Nat.reduceEqDiff, Nat.reduceBEq, Int.reduceAdd, Int.reduceSub, Int.reduceNeg, Int.reduceMul, Int.reduceLT, Int.reduceLE, Int.reduceEq, Int.reducePow, Int.reduceToNat, Int.reduceDiv, Int.reduceMod, Nat.zero_add, Int.ofNat_eq_natCast, Int.cast_ofNat_Int, hne]
    refine o_of (pop_rev _ _) ?_
    simp only [↓W0, ↓w_comp_cons, ↓w_for_cons, ↓w_then, W1, List.reduceReplicate, String.reduceEq, List.drop_succ_cons, List.drop_zero, List.drop_nil, q_ls, q_lt_s, wipeR, backR, hideR, hideS, putB, noL, noLs, Sl.own, enumFrom, intsOf, Option.map_some, intsOf_map, List.set_cons_succ, List.set_cons_zero, List.getElem?_cons_succ, List.getElem?_cons_zero, List.getD_cons_succ, List.getD_cons_zero, List.map_cons, List.map_nil, List.tail_cons, List.headD_cons, List.length_cons, List.length_nil, List.length_map, List.length_range, List.nodup_cons, List.nodup_nil, List.not_mem_nil, List.mem_cons, not_false_eq_true, or_false, false_or, or_true, true_or, and_true, true_and, and_self, if_true, if_false, reduceIte, decide_true, decide_false, Bool.not_true, Bool.not_false, Bool.and_true, Bool.true_and, List.cons_append, List.nil_append, List.append_nil, eq_self, reduceCtorEq, List.all_cons, List.all_nil, List.isEmpty_cons, List.isEmpty_nil, Nat.reduceSub, Nat.reduceAdd, Nat.reduceMul, Nat.reduceLT, Nat.reduceLeDiff, Nat.reduceEqDiff, Nat.reduceBEq, Int.reduceAdd, Int.reduceSub, Int.reduceNeg, Int.reduceMul, Int.reduceLT, Int.reduceLE, Int.reduceEq, Int.reducePow, Int.reduceToNat, Int.reduceDiv, Int.reduceMod, Nat.zero_add, Int.ofNat_eq_natCast, Int.cast_ofNat_Int, last_rev]
    have fin : ∀ acc' : List Str, acc' = t.own.foldl ins acc → Wp (whileL (mBor (fun _ => true) 2 (mTest truthD (mVar 2))) (mThen (mAsg (mPop 2) (mSet 3))
      (mThen (mIf (mTest boolD (mOp eqD (mOp ixD (mVar 3) (mC (.int 0))) (mC (.str "const")))) (mPutK 1 (mC (.bool true)) (mOp ixD (mVar 3) (mC (.int 1)))) mSkip)
      (mExtA 2 (mUn revA (mCall (noX M_p_parts_of) [] (aD (mVar 3) aNil)))))) n [.d t0, .k (dk acc'), .l ((ts.map Tr.e).reverse ++ (t.ps.map Tr.e).reverse), .d t.e]) QF := fun acc' ha => by
      rw [← List.reverse_append, ← List.map_append]
      refine cin_loop n (t.ps ++ ts) acc' _ (by rw [szs_app]; omega) ?_ fun s3 => ?_
      · rw [szs_app, ha]
        have : (t.own.foldl ins acc).length ≤ acc.length + 1 := by
          cases t <;> simp only [Tr.own, List.foldl_nil, List.foldl_cons] <;> first | omega | exact ins_len _ _
        omega
      · have := k s3
        rw [List.flatMap_cons, t.said_ps, List.append_assoc, List.foldl_append, ← ha] at this
        rw [List.flatMap_append]
        exact this
    have hl : (ts.map Tr.e).reverse.length + (t.ps.map Tr.e).reverse.length ≤ 1000 := by
      simp only [List.length_reverse, List.length_map]
      omega
    have hk : acc.length < 1000 := by omega
    by_cases hc : ∃ nm ls, t = .cst nm ls
    · obtain ⟨nm, ls, rfl⟩ := hc
      have pk := parts_of_ok (.cst nm ls)
      have f := fin _ rfl
      simp only [Tr.e, Tr.ps, List.map_nil, List.reverse_nil, List.append_nil, Tr.own, List.foldl_cons, List.foldl_nil] at pk f hl
      simp only [↓W0, ↓w_comp_cons, ↓w_for_cons, ↓w_then, W1, List.reduceReplicate, String.reduceEq, List.drop_succ_cons, List.drop_zero, List.drop_nil, q_ls, q_lt_s, wipeR, backR, hideR, hideS, putB, noL, noLs, Sl.own, enumFrom, intsOf, Option.map_some, intsOf_map, List.set_cons_succ, List.set_cons_zero, List.getElem?_cons_succ, List.getElem?_cons_zero, List.getD_cons_succ, List.getD_cons_zero, List.map_cons, List.map_nil, List.tail_cons, List.headD_cons, List.length_cons, List.length_nil, List.length_map, List.length_range, List.nodup_cons, List.nodup_nil, List.not_mem_nil, List.mem_cons, not_false_eq_true, or_false, false_or, or_true, true_or, and_true, true_and, and_self, if_true, if_false, reduceIte, decide_true, decide_false, Bool.not_true, Bool.not_false, Bool.and_true, Bool.true_and, List.cons_append, List.nil_append, List.append_nil, eq_self, reduceCtorEq, List.all_cons, List.all_nil, List.isEmpty_cons, List.isEmpty_nil, Nat.reduceSub, Nat.reduceAdd, Nat.reduceMul, Nat.reduceLT, Nat.reduceLeDiff, Nat.reduceEqDiff, Nat.reduceBEq, Int.reduceAdd, Int.reduceSub, Int.reduceNeg, Int.reduceMul, Int.reduceLT, Int.reduceLE, Int.reduceEq, Int.reducePow, Int.reduceToNat, Int.reduceDiv, Int.reduceMod, Nat.zero_add, Int.ofNat_eq_natCast, Int.cast_ofNat_Int, Tr.e, dk_len, hk]
      refine wp_of pk ?_
      simp only [↓W0, ↓w_comp_cons, ↓w_for_cons, ↓w_then, W1, List.reduceReplicate, String.reduceEq, List.drop_succ_cons, List.drop_zero, List.drop_nil, q_ls, q_lt_s, wipeR, backR, hideR, hideS, putB, noL, noLs, Sl.own, enumFrom, intsOf, Option.map_some, intsOf_map, List.set_cons_succ, List.set_cons_zero, List.getElem?_cons_succ, List.getElem?_cons_zero, List.getD_cons_succ, List.getD_cons_zero, List.map_cons, List.map_nil, List.tail_cons, List.headD_cons, List.length_cons, List.length_nil, List.length_map, List.length_range, List.nodup_cons, List.nodup_nil, List.not_mem_nil, List.mem_cons, not_false_eq_true, or_false, false_or, or_true, true_or, and_true, true_and, and_self, if_true, if_false, reduceIte, decide_true, decide_false, Bool.not_true, Bool.not_false, Bool.and_true, Bool.true_and, List.cons_append, List.nil_append, List.append_nil, eq_self, reduceCtorEq, List.all_cons, List.all_nil, List.isEmpty_cons, List.isEmpty_nil, Nat.reduceSub, Nat.reduceAdd, Nat.reduceMul, Nat.reduceLT, Nat.reduceLeDiff, Nat.reduceEqDiff, Nat.reduceBEq, Int.reduceAdd, Int.reduceSub, Int.reduceNeg, Int.reduceMul, Int.reduceLT, Int.reduceLE, Int.reduceEq, Int.reducePow, Int.reduceToNat, Int.reduceDiv, Int.reduceMod, Nat.zero_add, Int.ofNat_eq_natCast, Int.cast_ofNat_Int, put_dk, List.reverse_nil, List.length_reverse]
      refine ⟨Nat.le_trans (m := 1000) (by (try simp only [List.length_map, List.length_append, List.length_reverse, List.length_cons, List.length_nil, List.length_zipIdx, List.length_take, List.length_drop, List.length_range, List.length_replicate]) <;> omega) (by decide), ?_⟩
      try simp only [↓W0, ↓w_comp_cons, ↓w_for_cons, ↓w_then, W1, List.reduceReplicate, String.reduceEq, List.drop_succ_cons, List.drop_zero, List.drop_nil, q_ls, q_lt_s, wipeR, backR, hideR, hideS, putB, noL, noLs, Sl.own, enumFrom, intsOf, Option.map_some, intsOf_map, List.set_cons_succ, List.set_cons_zero, List.getElem?_cons_succ, List.getElem?_cons_zero, List.getD_cons_succ, List.getD_cons_zero, List.map_cons, List.map_nil, List.tail_cons, List.headD_cons, List.length_cons, List.length_nil, List.length_map, List.length_range, List.nodup_cons, List.nodup_nil, List.not_mem_nil, List.mem_cons, not_false_eq_true, or_false, false_or, or_true, true_or, and_true, true_and, and_self, if_true, if_false, reduceIte, decide_true, decide_false, Bool.not_true, Bool.not_false, Bool.and_true, Bool.true_and, List.cons_append, List.nil_append, List.append_nil, eq_self, reduceCtorEq, List.all_cons, List.all_nil, List.isEmpty_cons, List.isEmpty_nil, Nat.reduceSub, Nat.reduceAdd, Nat.reduceMul, Nat.reduceLT, Nat.reduceLeDiff, Nat.reduceEqDiff, Nat.reduceBEq, Int.reduceAdd, Int.reduceSub, Int.reduceNeg, Int.reduceMul, Int.reduceLT, Int.reduceLE, Int.reduceEq, Int.reducePow, Int.reduceToNat, Int.reduceDiv, Int.reduceMod, Nat.zero_add, Int.ofNat_eq_natCast, Int.cast_ofNat_Int]
      exact f
    · have ho : t.own = [] := by
        cases t <;> first | rfl | exact absurd ⟨_, _, rfl⟩ hc
      obtain ⟨tg, l, e, hn⟩ := t.e_tup
      have hn := hn ho
      have f := fin acc (by rw [ho]; rfl)
      rw [e] at f ⊢
      simp only [↓W0, ↓w_comp_cons, ↓w_for_cons, ↓w_then, W1, List.reduceReplicate, String.reduceEq, List.drop_succ_cons, List.drop_zero, List.drop_nil, q_ls, q_lt_s, wipeR, backR, hideR, hideS, putB, noL, noLs, Sl.own, enumFrom, intsOf, Option.map_some, intsOf_map, List.set_cons_succ, List.set_cons_zero, List.getElem?_cons_succ, List.getElem?_cons_zero, List.getD_cons_succ, List.getD_cons_zero, List.map_cons, List.map_nil, List.tail_cons, List.headD_cons, List.length_cons, List.length_nil, List.length_map, List.length_range, List.nodup_cons, List.nodup_nil, List.not_mem_nil, List.mem_cons, not_false_eq_true, or_false, false_or, or_true, true_or, and_true, true_and, and_self, if_true, if_false, reduceIte, decide_true, decide_false, Bool.not_true, Bool.not_false, Bool.and_true, Bool.true_and, List.cons_append, List.nil_append, List.append_nil, eq_self, reduceCtorEq, List.all_cons, List.all_nil, List.isEmpty_cons, List.isEmpty_nil, Nat.reduceSub, Nat.reduceAdd, Nat.reduceMul, Nat.reduceLT, Nat.reduceLeDiff, Nat.reduceEqDiff, Nat.reduceBEq, Int.reduceAdd, Int.reduceSub, Int.reduceNeg, Int.reduceMul, Int.reduceLT, Int.reduceLE, Int.reduceEq, Int.reducePow, Int.reduceToNat, Int.reduceDiv, Int.reduceMod, Nat.zero_add, Int.ofNat_eq_natCast, Int.cast_ofNat_Int, hn]
      rw [← e] at f ⊢
      refine wp_of (parts_of_ok t) ?_
      simp only [List.length_reverse, List.length_map] at hl
      simp only [↓W0, ↓w_comp_cons, ↓w_for_cons, ↓w_then, W1, List.reduceReplicate, String.reduceEq, List.drop_succ_cons, List.drop_zero, List.drop_nil, q_ls, q_lt_s, wipeR, backR, hideR, hideS, putB, noL, noLs, Sl.own, enumFrom, intsOf, Option.map_some, intsOf_map, List.set_cons_succ, List.set_cons_zero, List.getElem?_cons_succ, List.getElem?_cons_zero, List.getD_cons_succ, List.getD_cons_zero, List.map_cons, List.map_nil, List.tail_cons, List.headD_cons, List.length_cons, List.length_nil, List.length_map, List.length_range, List.nodup_cons, List.nodup_nil, List.not_mem_nil, List.mem_cons, not_false_eq_true, or_false, false_or, or_true, true_or, and_true, true_and, and_self, if_true, if_false, reduceIte, decide_true, decide_false, Bool.not_true, Bool.not_false, Bool.and_true, Bool.true_and, List.cons_append, List.nil_append, List.append_nil, eq_self, reduceCtorEq, List.all_cons, List.all_nil, List.isEmpty_cons, List.isEmpty_nil, Nat.reduceSub, Nat.reduceAdd, Nat.reduceMul, Nat.reduceLT, Nat.reduceLeDiff, Nat.reduceEqDiff, Nat.reduceBEq, Int.reduceAdd, Int.reduceSub, Int.reduceNeg, Int.reduceMul, Int.reduceLT, Int.reduceLE, Int.reduceEq, Int.reducePow, Int.reduceToNat, Int.reduceDiv, Int.reduceMod, Nat.zero_add, Int.ofNat_eq_natCast, Int.cast_ofNat_Int, hl, List.length_reverse]
      exact f
theorem cin_ok {t : Tr} (h : t.sz ≤ 19) : M_p_constants_in 20 [.d t.e] = .ok (.tuple ((t.said.foldl ins []).map .str), [.un]) := by
  refine wp_eq ?_
  unfold M_p_constants_in b_p_constants_in
  simp only [↓W0, ↓w_comp_cons, ↓w_for_cons, ↓w_then, W1, List.reduceReplicate, String.reduceEq, List.drop_succ_cons, List.drop_zero, List.drop_nil, q_ls, q_lt_s, wipeR, backR, hideR, hideS, putB, noL, noLs, Sl.own, enumFrom, intsOf, Option.map_some, intsOf_map, List.set_cons_succ, List.set_cons_zero, List.getElem?_cons_succ, List.getElem?_cons_zero, List.getD_cons_succ, List.getD_cons_zero, List.map_cons, List.map_nil, List.tail_cons, List.headD_cons, List.length_cons, List.length_nil, List.length_map, List.length_range, List.nodup_cons, List.nodup_nil, List.not_mem_nil, List.mem_cons, not_false_eq_true, or_false, false_or, or_true, true_or, and_true, true_and, and_self, if_true, if_false, reduceIte, decide_true, decide_false, Bool.not_true, Bool.not_false, Bool.and_true, Bool.true_and, List.cons_append, List.nil_append, List.append_nil, eq_self, reduceCtorEq, List.all_cons, List.all_nil, List.isEmpty_cons, List.isEmpty_nil, Nat.reduceSub, Nat.reduceAdd, Nat.reduceMul, Nat.reduceLT, Nat.reduceLeDiff, Nat.reduceEqDiff, Nat.reduceBEq, Int.reduceAdd, Int.reduceSub, Int.reduceNeg, Int.reduceMul, Int.reduceLT, Int.reduceLE, Int.reduceEq, Int.reducePow, Int.reduceToNat, Int.reduceDiv, Int.reduceMod, Nat.zero_add, Int.ofNat_eq_natCast, Int.cast_ofNat_Int]
  have e1 : ([] : List (Key × D)) = dk [] := rfl
  have e2 : [t.e] = ([t].map Tr.e).reverse := rfl
  rw [e1, e2]
  refine cin_loop 20 [t] [] .un (by rw [szs_cons]; simp [szs]; omega) (by rw [szs_cons]; simp [szs]; omega) fun s3 => ?_
  have hl : ((List.flatMap Tr.said [t]).foldl ins []).length ≤ 1000 := by
    have : ∀ (xs : List Str) (acc : List Str), (xs.foldl ins acc).length ≤ acc.length + xs.length := by
      intro xs
      induction xs with
      | nil => intro acc; simp
      | cons x xs ih => intro acc; have := ih (ins acc x); have := ins_len acc x; rw [List.foldl_cons, List.length_cons]; omega
    have := this ([t].flatMap Tr.said) []
    have := t.said_len
    simp only [List.flatMap_cons, List.flatMap_nil, List.append_nil, List.length_nil] at *
    omega
  rw [List.flatMap_cons, List.flatMap_nil, List.append_nil] at hl ⊢
  simp only [↓W0, ↓w_comp_cons, ↓w_for_cons, ↓w_then, W1, List.reduceReplicate, String.reduceEq, List.drop_succ_cons, List.drop_zero, List.drop_nil, q_ls, q_lt_s, wipeR, backR, hideR, hideS, putB, noL, noLs, Sl.own, enumFrom, intsOf, Option.map_some, intsOf_map, List.set_cons_succ, List.set_cons_zero, List.getElem?_cons_succ, List.getElem?_cons_zero, List.getD_cons_succ, List.getD_cons_zero, List.map_cons, List.map_nil, List.tail_cons, List.headD_cons, List.length_cons, List.length_nil, List.length_map, List.length_range, List.nodup_cons, List.nodup_nil, List.not_mem_nil, List.mem_cons, not_false_eq_true, or_false, false_or, or_true, true_or, and_true, true_and, and_self, if_true, if_false, reduceIte, decide_true, decide_false, Bool.not_true, Bool.not_false, Bool.and_true, Bool.true_and, List.cons_append, List.nil_append, List.append_nil, eq_self, reduceCtorEq, List.all_cons, List.all_nil, List.isEmpty_cons, List.isEmpty_nil, Nat.reduceSub, Nat.reduceAdd, Nat.reduceMul, Nat.reduceLT, Nat.reduceLeDiff, Nat.reduceEqDiff, Nat.reduceBEq, Int.reduceAdd, Int.reduceSub, Int.reduceNeg, Int.reduceMul, Int.reduceLT, Int.reduceLE, Int.reduceEq, Int.reducePow, Int.reduceToNat, Int.reduceDiv, Int.reduceMod, Nat.zero_add, Int.ofNat_eq_natCast, Int.cast_ofNat_Int, dk_len, hl, ky_dk]

end DL

namespace DL
open PySem PySem.Spec PyProof.Rows L2
/-! rows -/
theorem len_rec : Str.length (Str.ofString ".rec") = 4 := by decide +kernel
theorem len_mk : Str.length (Str.ofString ".mk") = 3 := by decide +kernel
theorem len_dot : Str.length (Str.ofString ".") = 1 := by decide +kernel
theorem len_app (a b : Str) : (a ++ b).length = a.length + b.length := by
  show (a.cps ++ b.cps).size = _
  rw [Array.size_append]; rfl
inductive Row where
  | ax (n : Str) (l : D) (t : Tr)
  | df (b : Bool) (n : Str) (l : D) (t u : Tr)
  | rc (n : Str) (l v : D) (ps : List Tr) (fs : List (Str × Tr))
  | fm (n : Str) (l v : D) (ps is : List Tr) (ms : List (Str × List Tr × List Tr))
def tsD (ts : List Tr) : D := .tuple (ts.map Tr.e)
def fD (f : Str × Tr) : D := .tuple [.str f.1, f.2.e]
def mD (m : Str × List Tr × List Tr) : D := .tuple [.str m.1, tsD m.2.1, tsD m.2.2]
def Row.e : Row → D
  | .ax n l t => .tuple [.str "axiom", .str n, l, t.e]
  | .df b n l t u => .tuple [.str (if b then "define" else "result"), .str n, l, t.e, u.e]
  | .rc n l v ps fs => .tuple [.str "record", .str n, l, tsD ps, v, .tuple (fs.map fD)]
  | .fm n l v ps is ms => .tuple [.str "family", .str n, l, tsD ps, tsD is, v, .tuple (ms.map mD)]
def Row.given : Row → List Str
  | .ax n _ _ => [n]
  | .df _ n _ _ _ => [n]
  | .rc n _ _ _ fs => [n, n ++ (".mk" : Str)] ++ fs.map fun f => n ++ ("." : Str) ++ f.1
  | .fm n _ _ _ _ ms => [n] ++ ms.map (fun m => m.1) ++ [n ++ (".rec" : Str)]
def mts (m : Str × List Tr × List Tr) : List Tr := m.2.1 ++ m.2.2
def Row.terms : Row → List Tr
  | .ax _ _ t => [t]
  | .df _ _ _ t u => [t, u]
  | .rc _ _ _ ps fs => ps ++ fs.map fun f => f.2
  | .fm _ _ _ ps is ms => (ps ++ is) ++ ms.flatMap mts
/-- short -/
def shN (n : Str) : Prop := n.length ≤ 200
def shT (ts : List Tr) : Prop := ts.length ≤ 12
def Row.Ok : Row → Prop
  | .ax n _ _ => shN n
  | .df _ n _ _ _ => shN n
  | .rc n _ _ ps fs => shN n ∧ shT ps ∧ fs.length ≤ 12 ∧ ∀ f ∈ fs, shN f.1
  | .fm n _ _ ps is ms => shN n ∧ shT ps ∧ shT is ∧ ms.length ≤ 12 ∧ ∀ m ∈ ms, shT m.2.1 ∧ shT m.2.2
theorem ls1 {n : Nat} (h : n ≤ 500) : n ≤ 1000 := by omega
theorem given_ok {r : Row} (h : r.Ok) : M_p_given_names [.d r.e] = .ok (.tuple (r.given.map .str), [.un]) := by
  refine wp_eq ?_
  unfold M_p_given_names b_p_given_names
  rcases r with ⟨n, l, t⟩ | ⟨b, n, l, t, u⟩ | ⟨n, l, v, ps, fs⟩ | ⟨n, l, v, ps, is, ms⟩
  · simp only [↓W0, ↓w_comp_cons, ↓w_for_cons, ↓w_then, W1, List.reduceReplicate, String.reduceEq, List.drop_succ_cons, List.drop_zero, List.drop_nil, q_ls, q_lt_s, wipeR, backR, hideR, hideS, putB, noL, noLs, Sl.own, enumFrom, intsOf, Option.map_some, intsOf_map, List.set_cons_succ, List.set_cons_zero, List.getElem?_cons_succ, List.getElem?_cons_zero, List.getD_cons_succ, List.getD_cons_zero, List.map_cons, List.map_nil, List.tail_cons, List.headD_cons, List.length_cons, List.length_nil, List.length_map, List.length_range, List.nodup_cons, List.nodup_nil, List.not_mem_nil, List.mem_cons, not_false_eq_true, or_false, false_or, or_true, true_or, and_true, true_and, and_self, if_true, if_false, reduceIte, decide_true, decide_false, Bool.not_true, Bool.not_false, Bool.and_true, Bool.true_and, List.cons_append, List.nil_append, List.append_nil, eq_self, reduceCtorEq, List.all_cons, List.all_nil, List.isEmpty_cons, List.isEmpty_nil, Nat.reduceSub, Nat.reduceAdd, Nat.reduceMul, Nat.reduceLT, Nat.reduceLeDiff, Nat.reduceEqDiff, Nat.reduceBEq, Int.reduceAdd, Int.reduceSub, Int.reduceNeg, Int.reduceMul, Int.reduceLT, Int.reduceLE, Int.reduceEq, Int.reducePow, Int.reduceToNat, Int.reduceDiv, Int.reduceMod, Nat.zero_add, Int.ofNat_eq_natCast, Int.cast_ofNat_Int, Row.e, Row.given]
  · cases b <;> simp only [↓W0, ↓w_comp_cons, ↓w_for_cons, ↓w_then, W1, List.reduceReplicate, String.reduceEq, List.drop_succ_cons, List.drop_zero, List.drop_nil, q_ls, q_lt_s, wipeR, backR, hideR, hideS, putB, noL, noLs, Sl.own, enumFrom, intsOf, Option.map_some, intsOf_map, List.set_cons_succ, List.set_cons_zero, List.getElem?_cons_succ, List.getElem?_cons_zero, List.getD_cons_succ, List.getD_cons_zero, List.map_cons, List.map_nil, List.tail_cons, List.headD_cons, List.length_cons, List.length_nil, List.length_map, List.length_range, List.nodup_cons, List.nodup_nil, List.not_mem_nil, List.mem_cons, not_false_eq_true, or_false, false_or, or_true, true_or, and_true, true_and, and_self, if_true, if_false, reduceIte, decide_true, decide_false, Bool.not_true, Bool.not_false, Bool.and_true, Bool.true_and, List.cons_append, List.nil_append, List.append_nil, eq_self, reduceCtorEq, List.all_cons, List.all_nil, List.isEmpty_cons, List.isEmpty_nil, Nat.reduceSub, Nat.reduceAdd, Nat.reduceMul, Nat.reduceLT, Nat.reduceLeDiff, Nat.reduceEqDiff, Nat.reduceBEq, Int.reduceAdd, Int.reduceSub, Int.reduceNeg, Int.reduceMul, Int.reduceLT, Int.reduceLE, Int.reduceEq, Int.reducePow, Int.reduceToNat, Int.reduceDiv, Int.reduceMod, Nat.zero_add, Int.ofNat_eq_natCast, Int.cast_ofNat_Int, Row.e, Row.given, Bool.false_eq_true]
  · obtain ⟨h1, h2, h3, h4⟩ := h
    unfold shN at h1
    have a1 : n.length + 3 ≤ 1000 := by omega
    have a2 : n.length + 1 ≤ 1000 := by omega
    have a3 : fs.length ≤ 1000 := by omega
    have a4 : 0 + 1 + 1 + fs.length ≤ 1000 := by omega
    simp only [↓W0, ↓w_comp_cons, ↓w_for_cons, ↓w_then, W1, List.reduceReplicate, String.reduceEq, List.drop_succ_cons, List.drop_zero, List.drop_nil, q_ls, q_lt_s, wipeR, backR, hideR, hideS, putB, noL, noLs, Sl.own, enumFrom, intsOf, Option.map_some, intsOf_map, List.set_cons_succ, List.set_cons_zero, List.getElem?_cons_succ, List.getElem?_cons_zero, List.getD_cons_succ, List.getD_cons_zero, List.map_cons, List.map_nil, List.tail_cons, List.headD_cons, List.length_cons, List.length_nil, List.length_map, List.length_range, List.nodup_cons, List.nodup_nil, List.not_mem_nil, List.mem_cons, not_false_eq_true, or_false, false_or, or_true, true_or, and_true, true_and, and_self, if_true, if_false, reduceIte, decide_true, decide_false, Bool.not_true, Bool.not_false, Bool.and_true, Bool.true_and, List.cons_append, List.nil_append, List.append_nil, eq_self, reduceCtorEq, List.all_cons, List.all_nil, List.isEmpty_cons, List.isEmpty_nil, Nat.reduceSub, Nat.reduceAdd, Nat.reduceMul, Nat.reduceLT, Nat.reduceLeDiff, Nat.reduceEqDiff, Nat.reduceBEq, Int.reduceAdd, Int.reduceSub, Int.reduceNeg, Int.reduceMul, Int.reduceLT, Int.reduceLE, Int.reduceEq, Int.reducePow, Int.reduceToNat, Int.reduceDiv, Int.reduceMod, Nat.zero_add, Int.ofNat_eq_natCast, Int.cast_ofNat_Int, Row.e, len_mk, a1, a3]
    refine wp_of (comp_all (f := fun f => .str (n ++ ("." : Str) ++ f.1)) fun f hf => ?_) ?_
    · have h5 : f.1.length ≤ 200 := h4 f hf
      have a5 : n.length + 1 + f.1.length ≤ 1000 := by omega
      simp only [↓W0, ↓w_comp_cons, ↓w_for_cons, ↓w_then, W1, List.reduceReplicate, String.reduceEq, List.drop_succ_cons, List.drop_zero, List.drop_nil, q_ls, q_lt_s, wipeR, backR, hideR, hideS, putB, noL, noLs, Sl.own, enumFrom, intsOf, Option.map_some, intsOf_map, List.set_cons_succ, List.set_cons_zero, List.getElem?_cons_succ, List.getElem?_cons_zero, List.getD_cons_succ, List.getD_cons_zero, List.map_cons, List.map_nil, List.tail_cons, List.headD_cons, List.length_cons, List.length_nil, List.length_map, List.length_range, List.nodup_cons, List.nodup_nil, List.not_mem_nil, List.mem_cons, not_false_eq_true, or_false, false_or, or_true, true_or, and_true, true_and, and_self, if_true, if_false, reduceIte, decide_true, decide_false, Bool.not_true, Bool.not_false, Bool.and_true, Bool.true_and, List.cons_append, List.nil_append, List.append_nil, eq_self, reduceCtorEq, List.all_cons, List.all_nil, List.isEmpty_cons, List.isEmpty_nil, Nat.reduceSub, Nat.reduceAdd, Nat.reduceMul, Nat.reduceLT, Nat.reduceLeDiff, Nat.reduceEqDiff, Nat.reduceBEq, Int.reduceAdd, Int.reduceSub, Int.reduceNeg, Int.reduceMul, Int.reduceLT, Int.reduceLE, Int.reduceEq, Int.reducePow, Int.reduceToNat, Int.reduceDiv, Int.reduceMod, Nat.zero_add, Int.ofNat_eq_natCast, Int.cast_ofNat_Int, fD, len_dot, a2, len_app, a5]
    · simp only [↓W0, ↓w_comp_cons, ↓w_for_cons, ↓w_then, W1, List.reduceReplicate, String.reduceEq, List.drop_succ_cons, List.drop_zero, List.drop_nil, q_ls, q_lt_s, wipeR, backR, hideR, hideS, putB, noL, noLs, Sl.own, enumFrom, intsOf, Option.map_some, intsOf_map, List.set_cons_succ, List.set_cons_zero, List.getElem?_cons_succ, List.getElem?_cons_zero, List.getD_cons_succ, List.getD_cons_zero, List.map_cons, List.map_nil, List.tail_cons, List.headD_cons, List.length_cons, List.length_nil, List.length_map, List.length_range, List.nodup_cons, List.nodup_nil, List.not_mem_nil, List.mem_cons, not_false_eq_true, or_false, false_or, or_true, true_or, and_true, true_and, and_self, if_true, if_false, reduceIte, decide_true, decide_false, Bool.not_true, Bool.not_false, Bool.and_true, Bool.true_and, List.cons_append, List.nil_append, List.append_nil, eq_self, reduceCtorEq, List.all_cons, List.all_nil, List.isEmpty_cons, List.isEmpty_nil, Nat.reduceSub, Nat.reduceAdd, Nat.reduceMul, Nat.reduceLT, Nat.reduceLeDiff, Nat.reduceEqDiff, Nat.reduceBEq, Int.reduceAdd, Int.reduceSub, Int.reduceNeg, Int.reduceMul, Int.reduceLT, Int.reduceLE, Int.reduceEq, Int.reducePow, Int.reduceToNat, Int.reduceDiv, Int.reduceMod, Nat.zero_add, Int.ofNat_eq_natCast, Int.cast_ofNat_Int, a4, Row.given, List.map_map, List.map_append]
      rfl
  · obtain ⟨h1, h2, h3, h4, h5⟩ := h
    unfold shN at h1
    have a1 : n.length + 4 ≤ 1000 := by omega
    have a3 : ms.length ≤ 1000 := by omega
    have a4 : 0 + 1 + ms.length ≤ 1000 := by omega
    have a5 : 0 + 1 + ms.length + (0 + 1) ≤ 1000 := by omega
    have a6 : ms.length + 1 ≤ 1000 := by omega
    have a7 : ms.length + 1 + 1 ≤ 1000 := by omega
    have a8 : 0 + ms.length + 1 ≤ 1000 := by omega
    simp only [↓W0, ↓w_comp_cons, ↓w_for_cons, ↓w_then, W1, List.reduceReplicate, String.reduceEq, List.drop_succ_cons, List.drop_zero, List.drop_nil, q_ls, q_lt_s, wipeR, backR, hideR, hideS, putB, noL, noLs, Sl.own, enumFrom, intsOf, Option.map_some, intsOf_map, List.set_cons_succ, List.set_cons_zero, List.getElem?_cons_succ, List.getElem?_cons_zero, List.getD_cons_succ, List.getD_cons_zero, List.map_cons, List.map_nil, List.tail_cons, List.headD_cons, List.length_cons, List.length_nil, List.length_map, List.length_range, List.nodup_cons, List.nodup_nil, List.not_mem_nil, List.mem_cons, not_false_eq_true, or_false, false_or, or_true, true_or, and_true, true_and, and_self, if_true, if_false, reduceIte, decide_true, decide_false, Bool.not_true, Bool.not_false, Bool.and_true, Bool.true_and, List.cons_append, List.nil_append, List.append_nil, eq_self, reduceCtorEq, List.all_cons, List.all_nil, List.isEmpty_cons, List.isEmpty_nil, Nat.reduceSub, Nat.reduceAdd, Nat.reduceMul, Nat.reduceLT, Nat.reduceLeDiff, Nat.reduceEqDiff, Nat.reduceBEq, Int.reduceAdd, Int.reduceSub, Int.reduceNeg, Int.reduceMul, Int.reduceLT, Int.reduceLE, Int.reduceEq, Int.reducePow, Int.reduceToNat, Int.reduceDiv, Int.reduceMod, Nat.zero_add, Int.ofNat_eq_natCast, Int.cast_ofNat_Int, Row.e, len_rec, a1, a3]
    refine wp_of (comp_all (f := fun m => .str m.1) fun m hm => ?_) ?_
    · simp only [↓W0, ↓w_comp_cons, ↓w_for_cons, ↓w_then, W1, List.reduceReplicate, String.reduceEq, List.drop_succ_cons, List.drop_zero, List.drop_nil, q_ls, q_lt_s, wipeR, backR, hideR, hideS, putB, noL, noLs, Sl.own, enumFrom, intsOf, Option.map_some, intsOf_map, List.set_cons_succ, List.set_cons_zero, List.getElem?_cons_succ, List.getElem?_cons_zero, List.getD_cons_succ, List.getD_cons_zero, List.map_cons, List.map_nil, List.tail_cons, List.headD_cons, List.length_cons, List.length_nil, List.length_map, List.length_range, List.nodup_cons, List.nodup_nil, List.not_mem_nil, List.mem_cons, not_false_eq_true, or_false, false_or, or_true, true_or, and_true, true_and, and_self, if_true, if_false, reduceIte, decide_true, decide_false, Bool.not_true, Bool.not_false, Bool.and_true, Bool.true_and, List.cons_append, List.nil_append, List.append_nil, eq_self, reduceCtorEq, List.all_cons, List.all_nil, List.isEmpty_cons, List.isEmpty_nil, Nat.reduceSub, Nat.reduceAdd, Nat.reduceMul, Nat.reduceLT, Nat.reduceLeDiff, Nat.reduceEqDiff, Nat.reduceBEq, Int.reduceAdd, Int.reduceSub, Int.reduceNeg, Int.reduceMul, Int.reduceLT, Int.reduceLE, Int.reduceEq, Int.reducePow, Int.reduceToNat, Int.reduceDiv, Int.reduceMod, Nat.zero_add, Int.ofNat_eq_natCast, Int.cast_ofNat_Int, mD]
    · simp only [↓W0, ↓w_comp_cons, ↓w_for_cons, ↓w_then, W1, List.reduceReplicate, String.reduceEq, List.drop_succ_cons, List.drop_zero, List.drop_nil, q_ls, q_lt_s, wipeR, backR, hideR, hideS, putB, noL, noLs, Sl.own, enumFrom, intsOf, Option.map_some, intsOf_map, List.set_cons_succ, List.set_cons_zero, List.getElem?_cons_succ, List.getElem?_cons_zero, List.getD_cons_succ, List.getD_cons_zero, List.map_cons, List.map_nil, List.tail_cons, List.headD_cons, List.length_cons, List.length_nil, List.length_map, List.length_range, List.nodup_cons, List.nodup_nil, List.not_mem_nil, List.mem_cons, not_false_eq_true, or_false, false_or, or_true, true_or, and_true, true_and, and_self, if_true, if_false, reduceIte, decide_true, decide_false, Bool.not_true, Bool.not_false, Bool.and_true, Bool.true_and, List.cons_append, List.nil_append, List.append_nil, eq_self, reduceCtorEq, List.all_cons, List.all_nil, List.isEmpty_cons, List.isEmpty_nil, Nat.reduceSub, Nat.reduceAdd, Nat.reduceMul, Nat.reduceLT, Nat.reduceLeDiff, Nat.reduceEqDiff, Nat.reduceBEq, Int.reduceAdd, Int.reduceSub, Int.reduceNeg, Int.reduceMul, Int.reduceLT, Int.reduceLE, Int.reduceEq, Int.reducePow, Int.reduceToNat, Int.reduceDiv, Int.reduceMod, Nat.zero_add, Int.ofNat_eq_natCast, Int.cast_ofNat_Int, a3, a4, a5, a6, a7, a8, len_rec, a1, List.length_append, Row.given, List.map_map, List.map_append]
      rfl
theorem l_given_ok {r : Row} (h : r.Ok) : M_l_given [.d r.e] = .ok (.list (r.given.map .str), [.un]) := by
  refine wp_eq ?_
  unfold M_l_given b_l_given
  rcases r with ⟨n, l, t⟩ | ⟨b, n, l, t, u⟩ | ⟨n, l, v, ps, fs⟩ | ⟨n, l, v, ps, is, ms⟩
  · simp only [↓W0, ↓w_comp_cons, ↓w_for_cons, ↓w_then, W1, List.reduceReplicate, String.reduceEq, List.drop_succ_cons, List.drop_zero, List.drop_nil, q_ls, q_lt_s, wipeR, backR, hideR, hideS, putB, noL, noLs, Sl.own, enumFrom, intsOf, Option.map_some, intsOf_map, List.set_cons_succ, List.set_cons_zero, List.getElem?_cons_succ, List.getElem?_cons_zero, List.getD_cons_succ, List.getD_cons_zero, List.map_cons, List.map_nil, List.tail_cons, List.headD_cons, List.length_cons, List.length_nil, List.length_map, List.length_range, List.nodup_cons, List.nodup_nil, List.not_mem_nil, List.mem_cons, not_false_eq_true, or_false, false_or, or_true, true_or, and_true, true_and, and_self, if_true, if_false, reduceIte, decide_true, decide_false, Bool.not_true, Bool.not_false, Bool.and_true, Bool.true_and, List.cons_append, List.nil_append, List.append_nil, eq_self, reduceCtorEq, List.all_cons, List.all_nil, List.isEmpty_cons, List.isEmpty_nil, Nat.reduceSub, Nat.reduceAdd, Nat.reduceMul, Nat.reduceLT, Nat.reduceLeDiff, Nat.reduceEqDiff, Nat.reduceBEq, Int.reduceAdd, Int.reduceSub, Int.reduceNeg, Int.reduceMul, Int.reduceLT, Int.reduceLE, Int.reduceEq, Int.reducePow, Int.reduceToNat, Int.reduceDiv, Int.reduceMod, Nat.zero_add, Int.ofNat_eq_natCast, Int.cast_ofNat_Int, Row.e, Row.given]
  · cases b <;> simp only [↓W0, ↓w_comp_cons, ↓w_for_cons, ↓w_then, W1, List.reduceReplicate, String.reduceEq, List.drop_succ_cons, List.drop_zero, List.drop_nil, q_ls, q_lt_s, wipeR, backR, hideR, hideS, putB, noL, noLs, Sl.own, enumFrom, intsOf, Option.map_some, intsOf_map, List.set_cons_succ, List.set_cons_zero, List.getElem?_cons_succ, List.getElem?_cons_zero, List.getD_cons_succ, List.getD_cons_zero, List.map_cons, List.map_nil, List.tail_cons, List.headD_cons, List.length_cons, List.length_nil, List.length_map, List.length_range, List.nodup_cons, List.nodup_nil, List.not_mem_nil, List.mem_cons, not_false_eq_true, or_false, false_or, or_true, true_or, and_true, true_and, and_self, if_true, if_false, reduceIte, decide_true, decide_false, Bool.not_true, Bool.not_false, Bool.and_true, Bool.true_and, List.cons_append, List.nil_append, List.append_nil, eq_self, reduceCtorEq, List.all_cons, List.all_nil, List.isEmpty_cons, List.isEmpty_nil, Nat.reduceSub, Nat.reduceAdd, Nat.reduceMul, Nat.reduceLT, Nat.reduceLeDiff, Nat.reduceEqDiff, Nat.reduceBEq, Int.reduceAdd, Int.reduceSub, Int.reduceNeg, Int.reduceMul, Int.reduceLT, Int.reduceLE, Int.reduceEq, Int.reducePow, Int.reduceToNat, Int.reduceDiv, Int.reduceMod, Nat.zero_add, Int.ofNat_eq_natCast, Int.cast_ofNat_Int, Row.e, Row.given, Bool.false_eq_true]
  · obtain ⟨h1, h2, h3, h4⟩ := h
    unfold shN at h1
    have a1 : n.length + 3 ≤ 1000 := by omega
    have a2 : n.length + 1 ≤ 1000 := by omega
    have a3 : fs.length ≤ 1000 := by omega
    have a4 : 0 + 1 + 1 + fs.length ≤ 1000 := by omega
    simp only [↓W0, ↓w_comp_cons, ↓w_for_cons, ↓w_then, W1, List.reduceReplicate, String.reduceEq, List.drop_succ_cons, List.drop_zero, List.drop_nil, q_ls, q_lt_s, wipeR, backR, hideR, hideS, putB, noL, noLs, Sl.own, enumFrom, intsOf, Option.map_some, intsOf_map, List.set_cons_succ, List.set_cons_zero, List.getElem?_cons_succ, List.getElem?_cons_zero, List.getD_cons_succ, List.getD_cons_zero, List.map_cons, List.map_nil, List.tail_cons, List.headD_cons, List.length_cons, List.length_nil, List.length_map, List.length_range, List.nodup_cons, List.nodup_nil, List.not_mem_nil, List.mem_cons, not_false_eq_true, or_false, false_or, or_true, true_or, and_true, true_and, and_self, if_true, if_false, reduceIte, decide_true, decide_false, Bool.not_true, Bool.not_false, Bool.and_true, Bool.true_and, List.cons_append, List.nil_append, List.append_nil, eq_self, reduceCtorEq, List.all_cons, List.all_nil, List.isEmpty_cons, List.isEmpty_nil, Nat.reduceSub, Nat.reduceAdd, Nat.reduceMul, Nat.reduceLT, Nat.reduceLeDiff, Nat.reduceEqDiff, Nat.reduceBEq, Int.reduceAdd, Int.reduceSub, Int.reduceNeg, Int.reduceMul, Int.reduceLT, Int.reduceLE, Int.reduceEq, Int.reducePow, Int.reduceToNat, Int.reduceDiv, Int.reduceMod, Nat.zero_add, Int.ofNat_eq_natCast, Int.cast_ofNat_Int, Row.e, len_mk, a1, a3]
    refine wp_of (comp_all (f := fun f => .str (n ++ ("." : Str) ++ f.1)) fun f hf => ?_) ?_
    · have h5 : f.1.length ≤ 200 := h4 f hf
      have a5 : n.length + 1 + f.1.length ≤ 1000 := by omega
      simp only [↓W0, ↓w_comp_cons, ↓w_for_cons, ↓w_then, W1, List.reduceReplicate, String.reduceEq, List.drop_succ_cons, List.drop_zero, List.drop_nil, q_ls, q_lt_s, wipeR, backR, hideR, hideS, putB, noL, noLs, Sl.own, enumFrom, intsOf, Option.map_some, intsOf_map, List.set_cons_succ, List.set_cons_zero, List.getElem?_cons_succ, List.getElem?_cons_zero, List.getD_cons_succ, List.getD_cons_zero, List.map_cons, List.map_nil, List.tail_cons, List.headD_cons, List.length_cons, List.length_nil, List.length_map, List.length_range, List.nodup_cons, List.nodup_nil, List.not_mem_nil, List.mem_cons, not_false_eq_true, or_false, false_or, or_true, true_or, and_true, true_and, and_self, if_true, if_false, reduceIte, decide_true, decide_false, Bool.not_true, Bool.not_false, Bool.and_true, Bool.true_and, List.cons_append, List.nil_append, List.append_nil, eq_self, reduceCtorEq, List.all_cons, List.all_nil, List.isEmpty_cons, List.isEmpty_nil, Nat.reduceSub, Nat.reduceAdd, Nat.reduceMul, Nat.reduceLT, Nat.reduceLeDiff, Nat.reduceEqDiff, Nat.reduceBEq, Int.reduceAdd, Int.reduceSub, Int.reduceNeg, Int.reduceMul, Int.reduceLT, Int.reduceLE, Int.reduceEq, Int.reducePow, Int.reduceToNat, Int.reduceDiv, Int.reduceMod, Nat.zero_add, Int.ofNat_eq_natCast, Int.cast_ofNat_Int, fD, len_dot, a2, len_app, a5]
    · simp only [↓W0, ↓w_comp_cons, ↓w_for_cons, ↓w_then, W1, List.reduceReplicate, String.reduceEq, List.drop_succ_cons, List.drop_zero, List.drop_nil, q_ls, q_lt_s, wipeR, backR, hideR, hideS, putB, noL, noLs, Sl.own, enumFrom, intsOf, Option.map_some, intsOf_map, List.set_cons_succ, List.set_cons_zero, List.getElem?_cons_succ, List.getElem?_cons_zero, List.getD_cons_succ, List.getD_cons_zero, List.map_cons, List.map_nil, List.tail_cons, List.headD_cons, List.length_cons, List.length_nil, List.length_map, List.length_range, List.nodup_cons, List.nodup_nil, List.not_mem_nil, List.mem_cons, not_false_eq_true, or_false, false_or, or_true, true_or, and_true, true_and, and_self, if_true, if_false, reduceIte, decide_true, decide_false, Bool.not_true, Bool.not_false, Bool.and_true, Bool.true_and, List.cons_append, List.nil_append, List.append_nil, eq_self, reduceCtorEq, List.all_cons, List.all_nil, List.isEmpty_cons, List.isEmpty_nil, Nat.reduceSub, Nat.reduceAdd, Nat.reduceMul, Nat.reduceLT, Nat.reduceLeDiff, Nat.reduceEqDiff, Nat.reduceBEq, Int.reduceAdd, Int.reduceSub, Int.reduceNeg, Int.reduceMul, Int.reduceLT, Int.reduceLE, Int.reduceEq, Int.reducePow, Int.reduceToNat, Int.reduceDiv, Int.reduceMod, Nat.zero_add, Int.ofNat_eq_natCast, Int.cast_ofNat_Int, a4, Row.given, List.map_map, List.map_append]
      rfl
  · obtain ⟨h1, h2, h3, h4, h5⟩ := h
    unfold shN at h1
    have a1 : n.length + 4 ≤ 1000 := by omega
    have a3 : ms.length ≤ 1000 := by omega
    have a4 : 0 + 1 + ms.length ≤ 1000 := by omega
    have a5 : 0 + 1 + ms.length + (0 + 1) ≤ 1000 := by omega
    have a6 : ms.length + 1 ≤ 1000 := by omega
    have a7 : ms.length + 1 + 1 ≤ 1000 := by omega
    have a8 : 0 + ms.length + 1 ≤ 1000 := by omega
    simp only [↓W0, ↓w_comp_cons, ↓w_for_cons, ↓w_then, W1, List.reduceReplicate, String.reduceEq, List.drop_succ_cons, List.drop_zero, List.drop_nil, q_ls, q_lt_s, wipeR, backR, hideR, hideS, putB, noL, noLs, Sl.own, enumFrom, intsOf, Option.map_some, intsOf_map, List.set_cons_succ, List.set_cons_zero, List.getElem?_cons_succ, List.getElem?_cons_zero, List.getD_cons_succ, List.getD_cons_zero, List.map_cons, List.map_nil, List.tail_cons, List.headD_cons, List.length_cons, List.length_nil, List.length_map, List.length_range, List.nodup_cons, List.nodup_nil, List.not_mem_nil, List.mem_cons, not_false_eq_true, or_false, false_or, or_true, true_or, and_true, true_and, and_self, if_true, if_false, reduceIte, decide_true, decide_false, Bool.not_true, Bool.not_false, Bool.and_true, Bool.true_and, List.cons_append, List.nil_append, List.append_nil, eq_self, reduceCtorEq, List.all_cons, List.all_nil, List.isEmpty_cons, List.isEmpty_nil, Nat.reduceSub, Nat.reduceAdd, Nat.reduceMul, Nat.reduceLT, Nat.reduceLeDiff, Nat.reduceEqDiff, Nat.reduceBEq, Int.reduceAdd, Int.reduceSub, Int.reduceNeg, Int.reduceMul, Int.reduceLT, Int.reduceLE, Int.reduceEq, Int.reducePow, Int.reduceToNat, Int.reduceDiv, Int.reduceMod, Nat.zero_add, Int.ofNat_eq_natCast, Int.cast_ofNat_Int, Row.e, a3]
    refine wp_of (comp_all (f := fun m => .str m.1) fun m hm => ?_) ?_
    · simp only [↓W0, ↓w_comp_cons, ↓w_for_cons, ↓w_then, W1, List.reduceReplicate, String.reduceEq, List.drop_succ_cons, List.drop_zero, List.drop_nil, q_ls, q_lt_s, wipeR, backR, hideR, hideS, putB, noL, noLs, Sl.own, enumFrom, intsOf, Option.map_some, intsOf_map, List.set_cons_succ, List.set_cons_zero, List.getElem?_cons_succ, List.getElem?_cons_zero, List.getD_cons_succ, List.getD_cons_zero, List.map_cons, List.map_nil, List.tail_cons, List.headD_cons, List.length_cons, List.length_nil, List.length_map, List.length_range, List.nodup_cons, List.nodup_nil, List.not_mem_nil, List.mem_cons, not_false_eq_true, or_false, false_or, or_true, true_or, and_true, true_and, and_self, if_true, if_false, reduceIte, decide_true, decide_false, Bool.not_true, Bool.not_false, Bool.and_true, Bool.true_and, List.cons_append, List.nil_append, List.append_nil, eq_self, reduceCtorEq, List.all_cons, List.all_nil, List.isEmpty_cons, List.isEmpty_nil, Nat.reduceSub, Nat.reduceAdd, Nat.reduceMul, Nat.reduceLT, Nat.reduceLeDiff, Nat.reduceEqDiff, Nat.reduceBEq, Int.reduceAdd, Int.reduceSub, Int.reduceNeg, Int.reduceMul, Int.reduceLT, Int.reduceLE, Int.reduceEq, Int.reducePow, Int.reduceToNat, Int.reduceDiv, Int.reduceMod, Nat.zero_add, Int.ofNat_eq_natCast, Int.cast_ofNat_Int, mD]
    · simp only [↓W0, ↓w_comp_cons, ↓w_for_cons, ↓w_then, W1, List.reduceReplicate, String.reduceEq, List.drop_succ_cons, List.drop_zero, List.drop_nil, q_ls, q_lt_s, wipeR, backR, hideR, hideS, putB, noL, noLs, Sl.own, enumFrom, intsOf, Option.map_some, intsOf_map, List.set_cons_succ, List.set_cons_zero, List.getElem?_cons_succ, List.getElem?_cons_zero, List.getD_cons_succ, List.getD_cons_zero, List.map_cons, List.map_nil, List.tail_cons, List.headD_cons, List.length_cons, List.length_nil, List.length_map, List.length_range, List.nodup_cons, List.nodup_nil, List.not_mem_nil, List.mem_cons, not_false_eq_true, or_false, false_or, or_true, true_or, and_true, true_and, and_self, if_true, if_false, reduceIte, decide_true, decide_false, Bool.not_true, Bool.not_false, Bool.and_true, Bool.true_and, List.cons_append, List.nil_append, List.append_nil, eq_self, reduceCtorEq, List.all_cons, List.all_nil, List.isEmpty_cons, List.isEmpty_nil, Nat.reduceSub, Nat.reduceAdd, Nat.reduceMul, Nat.reduceLT, Nat.reduceLeDiff, Nat.reduceEqDiff, Nat.reduceBEq, Int.reduceAdd, Int.reduceSub, Int.reduceNeg, Int.reduceMul, Int.reduceLT, Int.reduceLE, Int.reduceEq, Int.reducePow, Int.reduceToNat, Int.reduceDiv, Int.reduceMod, Nat.zero_add, Int.ofNat_eq_natCast, Int.cast_ofNat_Int, a3, a4, a5, a6, a7, a8, len_rec, a1, List.length_append, Row.given, List.map_map, List.map_append]
      rfl
/-- an entry: where, context, term -/
def E3 (y : D × D × Tr) : D := .tuple [y.1, y.2.1, y.2.2.e]
theorem entry_ok {fr cx : List D} {ts : List Tr} (h1 : fr.length ≤ 100) (h2 : cx.length ≤ 100) (h3 : ts.length ≤ 100) :
    ∃ ys : List (D × D × Tr), ys.map (fun y => y.2.2) = ts ∧ M_p_entry_terms [.d (.tuple fr), .d (.tuple cx), .d (.tuple (ts.map Tr.e))] = .ok (.tuple (ys.map E3), [.un, .un, .un]) := by
  refine ⟨(ts.zipIdx 0).map fun p => (.tuple (fr ++ [.int (p.2 : Nat)]), .tuple (cx ++ (ts.take p.2).map Tr.e), p.1), ?_, wp_eq ?_⟩
  · rw [List.map_map]
    exact List.zipIdx_map_fst 0 ts
  unfold M_p_entry_terms b_p_entry_terms
  have a1 : (List.zipIdx ts).length ≤ 1000 := by rw [List.length_zipIdx]; omega
  simp only [↓W0, ↓w_comp_cons, ↓w_for_cons, ↓w_then, W1, List.reduceReplicate, String.reduceEq, List.drop_succ_cons, List.drop_zero, List.drop_nil, q_ls, q_lt_s, wipeR, backR, hideR, hideS, putB, noL, noLs, Sl.own, enumFrom, intsOf, Option.map_some, intsOf_map, List.set_cons_succ, List.set_cons_zero, List.getElem?_cons_succ, List.getElem?_cons_zero, List.getD_cons_succ, List.getD_cons_zero, List.map_cons, List.map_nil, List.tail_cons, List.headD_cons, List.length_cons, List.length_nil, List.length_map, List.length_range, List.nodup_cons, List.nodup_nil, List.not_mem_nil, List.mem_cons, not_false_eq_true, or_false, false_or, or_true, true_or, and_true, true_and, and_self, if_true, if_false, reduceIte, decide_true, decide_false, Bool.not_true, Bool.not_false, Bool.and_true, Bool.true_and, List.cons_append, List.nil_append, List.append_nil, eq_self, reduceCtorEq, List.all_cons, List.all_nil, List.isEmpty_cons, List.isEmpty_nil, Nat.reduceSub, Nat.reduceAdd, Nat.reduceMul, Nat.reduceLT, Nat.reduceLeDiff, Nat.reduceEqDiff, Nat.reduceBEq, Int.reduceAdd, Int.reduceSub, Int.reduceNeg, Int.reduceMul, Int.reduceLT, Int.reduceLE, Int.reduceEq, Int.reducePow, Int.reduceToNat, Int.reduceDiv, Int.reduceMod, Nat.zero_add, Int.ofNat_eq_natCast, Int.cast_ofNat_Int, enumFrom_map, a1]
  refine wp_of (comp_all (f := fun p : Tr × Nat => E3 (.tuple (fr ++ [.int (p.2 : Nat)]), .tuple (cx ++ (ts.take p.2).map Tr.e), p.1)) fun p hp => ?_) ?_
  · have a2 : fr.length + 1 ≤ 1000 := by omega
    have a3 : cx.length + ((ts.map Tr.e).take p.2).length ≤ 1000 := by
      rw [List.length_take, List.length_map]; omega
    simp only [↓W0, ↓w_comp_cons, ↓w_for_cons, ↓w_then, W1, List.reduceReplicate, String.reduceEq, List.drop_succ_cons, List.drop_zero, List.drop_nil, q_ls, q_lt_s, wipeR, backR, hideR, hideS, putB, noL, noLs, Sl.own, enumFrom, intsOf, Option.map_some, intsOf_map, List.set_cons_succ, List.set_cons_zero, List.getElem?_cons_succ, List.getElem?_cons_zero, List.getD_cons_succ, List.getD_cons_zero, List.map_cons, List.map_nil, List.tail_cons, List.headD_cons, List.length_cons, List.length_nil, List.length_map, List.length_range, List.nodup_cons, List.nodup_nil, List.not_mem_nil, List.mem_cons, not_false_eq_true, or_false, false_or, or_true, true_or, and_true, true_and, and_self, if_true, if_false, reduceIte, decide_true, decide_false, Bool.not_true, Bool.not_false, Bool.and_true, Bool.true_and, List.cons_append, List.nil_append, List.append_nil, eq_self, reduceCtorEq, List.all_cons, List.all_nil, List.isEmpty_cons, List.isEmpty_nil, Nat.reduceSub, Nat.reduceAdd, Nat.reduceMul, Nat.reduceLT, Nat.reduceLeDiff, Nat.reduceEqDiff, Nat.reduceBEq, Int.reduceAdd, Int.reduceSub, Int.reduceNeg, Int.reduceMul, Int.reduceLT, Int.reduceLE, Int.reduceEq, Int.reducePow, Int.reduceToNat, Int.reduceDiv, Int.reduceMod, Nat.zero_add, Int.ofNat_eq_natCast, Int.cast_ofNat_Int, a2, a3, cut_take, Nat.zero_add]
    unfold E3
    rw [List.map_take]
  · simp only [↓W0, ↓w_comp_cons, ↓w_for_cons, ↓w_then, W1, List.reduceReplicate, String.reduceEq, List.drop_succ_cons, List.drop_zero, List.drop_nil, q_ls, q_lt_s, wipeR, backR, hideR, hideS, putB, noL, noLs, Sl.own, enumFrom, intsOf, Option.map_some, intsOf_map, List.set_cons_succ, List.set_cons_zero, List.getElem?_cons_succ, List.getElem?_cons_zero, List.getD_cons_succ, List.getD_cons_zero, List.map_cons, List.map_nil, List.tail_cons, List.headD_cons, List.length_cons, List.length_nil, List.length_map, List.length_range, List.nodup_cons, List.nodup_nil, List.not_mem_nil, List.mem_cons, not_false_eq_true, or_false, false_or, or_true, true_or, and_true, true_and, and_self, if_true, if_false, reduceIte, decide_true, decide_false, Bool.not_true, Bool.not_false, Bool.and_true, Bool.true_and, List.cons_append, List.nil_append, List.append_nil, eq_self, reduceCtorEq, List.all_cons, List.all_nil, List.isEmpty_cons, List.isEmpty_nil, Nat.reduceSub, Nat.reduceAdd, Nat.reduceMul, Nat.reduceLT, Nat.reduceLeDiff, Nat.reduceEqDiff, Nat.reduceBEq, Int.reduceAdd, Int.reduceSub, Int.reduceNeg, Int.reduceMul, Int.reduceLT, Int.reduceLE, Int.reduceEq, Int.reducePow, Int.reduceToNat, Int.reduceDiv, Int.reduceMod, Nat.zero_add, Int.ofNat_eq_natCast, Int.cast_ofNat_Int, List.map_map]
    rfl

end DL

namespace DL
open PySem PySem.Spec PyProof.Rows L2
def ys2 (ys : List (D × D × Tr)) : List Tr := ys.map fun y => y.2.2
theorem rowterms_ok {r : Row} (h : r.Ok) : ∃ ys : List (D × D × Tr), ys2 ys = r.terms ∧ M_p_row_terms [.d r.e] = .ok (.tuple (ys.map E3), [.un]) := by
  unfold ys2
  rcases r with ⟨n, l, t⟩ | ⟨b, n, l, t, u⟩ | ⟨n, l, v, ps, fs⟩ | ⟨n, l, v, ps, is, ms⟩
  · refine ⟨[(.tuple [.str "kind"], .tuple [], t)], rfl, wp_eq ?_⟩
    unfold M_p_row_terms b_p_row_terms
    simp only [↓W0, ↓w_comp_cons, ↓w_for_cons, ↓w_then, W1, List.reduceReplicate, String.reduceEq, List.drop_succ_cons, List.drop_zero, List.drop_nil, q_ls, q_lt_s, wipeR, backR, hideR, hideS, putB, noL, noLs, Sl.own, enumFrom, intsOf, Option.map_some, intsOf_map, List.set_cons_succ, List.set_cons_zero, List.getElem?_cons_succ, List.getElem?_cons_zero, List.getD_cons_succ, List.getD_cons_zero, List.map_cons, List.map_nil, List.tail_cons, List.headD_cons, List.length_cons, List.length_nil, List.length_map, List.length_range, List.nodup_cons, List.nodup_nil, List.not_mem_nil, List.mem_cons, not_false_eq_true, or_false, false_or, or_true, true_or, and_true, true_and, and_self, if_true, if_false, reduceIte, decide_true, decide_false, Bool.not_true, Bool.not_false, Bool.and_true, Bool.true_and, List.cons_append, List.nil_append, List.append_nil, eq_self, reduceCtorEq, List.all_cons, List.all_nil, List.isEmpty_cons, List.isEmpty_nil, Nat.reduceSub, Nat.reduceAdd, Nat.reduceMul, Nat.reduceLT, Nat.reduceLeDiff, Nat.reduceEqDiff, Nat.reduceBEq, Int.reduceAdd, Int.reduceSub, Int.reduceNeg, Int.reduceMul, Int.reduceLT, Int.reduceLE, Int.reduceEq, Int.reducePow, Int.reduceToNat, Int.reduceDiv, Int.reduceMod, Nat.zero_add, Int.ofNat_eq_natCast, Int.cast_ofNat_Int, Row.e, E3]
  · refine ⟨[(.tuple [.str "kind"], .tuple [], t), (.tuple [.str "body"], .tuple [], u)], rfl, wp_eq ?_⟩
    unfold M_p_row_terms b_p_row_terms
    cases b <;> simp only [↓W0, ↓w_comp_cons, ↓w_for_cons, ↓w_then, W1, List.reduceReplicate, String.reduceEq, List.drop_succ_cons, List.drop_zero, List.drop_nil, q_ls, q_lt_s, wipeR, backR, hideR, hideS, putB, noL, noLs, Sl.own, enumFrom, intsOf, Option.map_some, intsOf_map, List.set_cons_succ, List.set_cons_zero, List.getElem?_cons_succ, List.getElem?_cons_zero, List.getD_cons_succ, List.getD_cons_zero, List.map_cons, List.map_nil, List.tail_cons, List.headD_cons, List.length_cons, List.length_nil, List.length_map, List.length_range, List.nodup_cons, List.nodup_nil, List.not_mem_nil, List.mem_cons, not_false_eq_true, or_false, false_or, or_true, true_or, and_true, true_and, and_self, if_true, if_false, reduceIte, decide_true, decide_false, Bool.not_true, Bool.not_false, Bool.and_true, Bool.true_and, List.cons_append, List.nil_append, List.append_nil, eq_self, reduceCtorEq, List.all_cons, List.all_nil, List.isEmpty_cons, List.isEmpty_nil, Nat.reduceSub, Nat.reduceAdd, Nat.reduceMul, Nat.reduceLT, Nat.reduceLeDiff, Nat.reduceEqDiff, Nat.reduceBEq, Int.reduceAdd, Int.reduceSub, Int.reduceNeg, Int.reduceMul, Int.reduceLT, Int.reduceLE, Int.reduceEq, Int.reducePow, Int.reduceToNat, Int.reduceDiv, Int.reduceMod, Nat.zero_add, Int.ofNat_eq_natCast, Int.cast_ofNat_Int, Row.e, E3, Bool.false_eq_true]
  · obtain ⟨h1, h2, h3, h4⟩ := h
    unfold shT at h2
    obtain ⟨y1, e1, f1⟩ := entry_ok (fr := [.str "param"]) (cx := []) (ts := ps) (by simp) (by simp) (by omega)
    obtain ⟨y2, e2, f2⟩ := entry_ok (fr := [.str "field"]) (cx := ps.map Tr.e) (ts := fs.map fun f => f.2) (by simp) (by rw [List.length_map]; omega) (by rw [List.length_map]; omega)
    refine ⟨y1 ++ y2, by rw [List.map_append, e1, e2]; rfl, wp_eq ?_⟩
    have a1 : fs.length ≤ 1000 := by omega
    have l1 : y1.length = ps.length := by rw [← e1, List.length_map]
    have l2 : y2.length = fs.length := by have := congrArg List.length e2; simpa using this
    have a2 : y1.length + y2.length ≤ 1000 := by omega
    unfold M_p_row_terms b_p_row_terms
    simp only [↓W0, ↓w_comp_cons, ↓w_for_cons, ↓w_then, W1, List.reduceReplicate, String.reduceEq, List.drop_succ_cons, List.drop_zero, List.drop_nil, q_ls, q_lt_s, wipeR, backR, hideR, hideS, putB, noL, noLs, Sl.own, enumFrom, intsOf, Option.map_some, intsOf_map, List.set_cons_succ, List.set_cons_zero, List.getElem?_cons_succ, List.getElem?_cons_zero, List.getD_cons_succ, List.getD_cons_zero, List.map_cons, List.map_nil, List.tail_cons, List.headD_cons, List.length_cons, List.length_nil, List.length_map, List.length_range, List.nodup_cons, List.nodup_nil, List.not_mem_nil, List.mem_cons, not_false_eq_true, or_false, false_or, or_true, true_or, and_true, true_and, and_self, if_true, if_false, reduceIte, decide_true, decide_false, Bool.not_true, Bool.not_false, Bool.and_true, Bool.true_and, List.cons_append, List.nil_append, List.append_nil, eq_self, reduceCtorEq, List.all_cons, List.all_nil, List.isEmpty_cons, List.isEmpty_nil, Nat.reduceSub, Nat.reduceAdd, Nat.reduceMul, Nat.reduceLT, Nat.reduceLeDiff, Nat.reduceEqDiff, Nat.reduceBEq, Int.reduceAdd, Int.reduceSub, Int.reduceNeg, Int.reduceMul, Int.reduceLT, Int.reduceLE, Int.reduceEq, Int.reducePow, Int.reduceToNat, Int.reduceDiv, Int.reduceMod, Nat.zero_add, Int.ofNat_eq_natCast, Int.cast_ofNat_Int, Row.e, tsD]
    refine wp_of f1 ?_
    simp only [↓W0, ↓w_comp_cons, ↓w_for_cons, ↓w_then, W1, List.reduceReplicate, String.reduceEq, List.drop_succ_cons, List.drop_zero, List.drop_nil, q_ls, q_lt_s, wipeR, backR, hideR, hideS, putB, noL, noLs, Sl.own, enumFrom, intsOf, Option.map_some, intsOf_map, List.set_cons_succ, List.set_cons_zero, List.getElem?_cons_succ, List.getElem?_cons_zero, List.getD_cons_succ, List.getD_cons_zero, List.map_cons, List.map_nil, List.tail_cons, List.headD_cons, List.length_cons, List.length_nil, List.length_map, List.length_range, List.nodup_cons, List.nodup_nil, List.not_mem_nil, List.mem_cons, not_false_eq_true, or_false, false_or, or_true, true_or, and_true, true_and, and_self, if_true, if_false, reduceIte, decide_true, decide_false, Bool.not_true, Bool.not_false, Bool.and_true, Bool.true_and, List.cons_append, List.nil_append, List.append_nil, eq_self, reduceCtorEq, List.all_cons, List.all_nil, List.isEmpty_cons, List.isEmpty_nil, Nat.reduceSub, Nat.reduceAdd, Nat.reduceMul, Nat.reduceLT, Nat.reduceLeDiff, Nat.reduceEqDiff, Nat.reduceBEq, Int.reduceAdd, Int.reduceSub, Int.reduceNeg, Int.reduceMul, Int.reduceLT, Int.reduceLE, Int.reduceEq, Int.reducePow, Int.reduceToNat, Int.reduceDiv, Int.reduceMod, Nat.zero_add, Int.ofNat_eq_natCast, Int.cast_ofNat_Int, a1]
    refine wp_of (comp_all (f := fun f => f.2.e) fun f hf => ?_) ?_
    · simp only [↓W0, ↓w_comp_cons, ↓w_for_cons, ↓w_then, W1, List.reduceReplicate, String.reduceEq, List.drop_succ_cons, List.drop_zero, List.drop_nil, q_ls, q_lt_s, wipeR, backR, hideR, hideS, putB, noL, noLs, Sl.own, enumFrom, intsOf, Option.map_some, intsOf_map, List.set_cons_succ, List.set_cons_zero, List.getElem?_cons_succ, List.getElem?_cons_zero, List.getD_cons_succ, List.getD_cons_zero, List.map_cons, List.map_nil, List.tail_cons, List.headD_cons, List.length_cons, List.length_nil, List.length_map, List.length_range, List.nodup_cons, List.nodup_nil, List.not_mem_nil, List.mem_cons, not_false_eq_true, or_false, false_or, or_true, true_or, and_true, true_and, and_self, if_true, if_false, reduceIte, decide_true, decide_false, Bool.not_true, Bool.not_false, Bool.and_true, Bool.true_and, List.cons_append, List.nil_append, List.append_nil, eq_self, reduceCtorEq, List.all_cons, List.all_nil, List.isEmpty_cons, List.isEmpty_nil, Nat.reduceSub, Nat.reduceAdd, Nat.reduceMul, Nat.reduceLT, Nat.reduceLeDiff, Nat.reduceEqDiff, Nat.reduceBEq, Int.reduceAdd, Int.reduceSub, Int.reduceNeg, Int.reduceMul, Int.reduceLT, Int.reduceLE, Int.reduceEq, Int.reducePow, Int.reduceToNat, Int.reduceDiv, Int.reduceMod, Nat.zero_add, Int.ofNat_eq_natCast, Int.cast_ofNat_Int, fD]
    · rw [List.map_map] at f2
      simp only [↓W0, ↓w_comp_cons, ↓w_for_cons, ↓w_then, W1, List.reduceReplicate, String.reduceEq, List.drop_succ_cons, List.drop_zero, List.drop_nil, q_ls, q_lt_s, wipeR, backR, hideR, hideS, putB, noL, noLs, Sl.own, enumFrom, intsOf, Option.map_some, intsOf_map, List.set_cons_succ, List.set_cons_zero, List.getElem?_cons_succ, List.getElem?_cons_zero, List.getD_cons_succ, List.getD_cons_zero, List.map_cons, List.map_nil, List.tail_cons, List.headD_cons, List.length_cons, List.length_nil, List.length_map, List.length_range, List.nodup_cons, List.nodup_nil, List.not_mem_nil, List.mem_cons, not_false_eq_true, or_false, false_or, or_true, true_or, and_true, true_and, and_self, if_true, if_false, reduceIte, decide_true, decide_false, Bool.not_true, Bool.not_false, Bool.and_true, Bool.true_and, List.cons_append, List.nil_append, List.append_nil, eq_self, reduceCtorEq, List.all_cons, List.all_nil, List.isEmpty_cons, List.isEmpty_nil, Nat.reduceSub, Nat.reduceAdd, Nat.reduceMul, Nat.reduceLT, Nat.reduceLeDiff, Nat.reduceEqDiff, Nat.reduceBEq, Int.reduceAdd, Int.reduceSub, Int.reduceNeg, Int.reduceMul, Int.reduceLT, Int.reduceLE, Int.reduceEq, Int.reducePow, Int.reduceToNat, Int.reduceDiv, Int.reduceMod, Nat.zero_add, Int.ofNat_eq_natCast, Int.cast_ofNat_Int]
      refine wp_of f2 ?_
      simp only [↓W0, ↓w_comp_cons, ↓w_for_cons, ↓w_then, W1, List.reduceReplicate, String.reduceEq, List.drop_succ_cons, List.drop_zero, List.drop_nil, q_ls, q_lt_s, wipeR, backR, hideR, hideS, putB, noL, noLs, Sl.own, enumFrom, intsOf, Option.map_some, intsOf_map, List.set_cons_succ, List.set_cons_zero, List.getElem?_cons_succ, List.getElem?_cons_zero, List.getD_cons_succ, List.getD_cons_zero, List.map_cons, List.map_nil, List.tail_cons, List.headD_cons, List.length_cons, List.length_nil, List.length_map, List.length_range, List.nodup_cons, List.nodup_nil, List.not_mem_nil, List.mem_cons, not_false_eq_true, or_false, false_or, or_true, true_or, and_true, true_and, and_self, if_true, if_false, reduceIte, decide_true, decide_false, Bool.not_true, Bool.not_false, Bool.and_true, Bool.true_and, List.cons_append, List.nil_append, List.append_nil, eq_self, reduceCtorEq, List.all_cons, List.all_nil, List.isEmpty_cons, List.isEmpty_nil, Nat.reduceSub, Nat.reduceAdd, Nat.reduceMul, Nat.reduceLT, Nat.reduceLeDiff, Nat.reduceEqDiff, Nat.reduceBEq, Int.reduceAdd, Int.reduceSub, Int.reduceNeg, Int.reduceMul, Int.reduceLT, Int.reduceLE, Int.reduceEq, Int.reducePow, Int.reduceToNat, Int.reduceDiv, Int.reduceMod, Nat.zero_add, Int.ofNat_eq_natCast, Int.cast_ofNat_Int, a2, List.map_append]
  · obtain ⟨h1, h2, h3, h4, h5⟩ := h
    unfold shT at h2 h3
    obtain ⟨y1, e1, f1⟩ := entry_ok (fr := [.str "param"]) (cx := []) (ts := ps) (by simp) (by simp) (by omega)
    obtain ⟨y2, e2, f2⟩ := entry_ok (fr := [.str "index"]) (cx := ps.map Tr.e) (ts := is) (by simp) (by rw [List.length_map]; omega) (by omega)
    have l1 : y1.length = ps.length := by rw [← e1, List.length_map]
    have l2 : y2.length = is.length := by rw [← e2, List.length_map]
    have a2 : y1.length + y2.length ≤ 1000 := by omega
    suffices hh : Wp (M_p_row_terms [.d (Row.fm n l v ps is ms).e]) fun d ρ => ρ = [.un] ∧ ∃ ys : List (D × D × Tr), d = .tuple (ys.map E3) ∧ ys.map (fun y => y.2.2) = (Row.fm n l v ps is ms).terms by
      unfold Wp P0.Wp at hh
      split at hh
      · rename_i p e
        obtain ⟨q1, ys, q2, q3⟩ := hh
        exact ⟨ys, q3, by rw [e, ← q1, ← q2]⟩
      · exact hh.elim
    unfold M_p_row_terms b_p_row_terms
    simp only [↓W0, ↓w_comp_cons, ↓w_for_cons, ↓w_then, W1, List.reduceReplicate, String.reduceEq, List.drop_succ_cons, List.drop_zero, List.drop_nil, q_ls, q_lt_s, wipeR, backR, hideR, hideS, putB, noL, noLs, Sl.own, enumFrom, intsOf, Option.map_some, intsOf_map, List.set_cons_succ, List.set_cons_zero, List.getElem?_cons_succ, List.getElem?_cons_zero, List.getD_cons_succ, List.getD_cons_zero, List.map_cons, List.map_nil, List.tail_cons, List.headD_cons, List.length_cons, List.length_nil, List.length_map, List.length_range, List.nodup_cons, List.nodup_nil, List.not_mem_nil, List.mem_cons, not_false_eq_true, or_false, false_or, or_true, true_or, and_true, true_and, and_self, if_true, if_false, reduceIte, decide_true, decide_false, Bool.not_true, Bool.not_false, Bool.and_true, Bool.true_and, List.cons_append, List.nil_append, List.append_nil, eq_self, reduceCtorEq, List.all_cons, List.all_nil, List.isEmpty_cons, List.isEmpty_nil, Nat.reduceSub, Nat.reduceAdd, Nat.reduceMul, Nat.reduceLT, Nat.reduceLeDiff, Nat.reduceEqDiff, Nat.reduceBEq, Int.reduceAdd, Int.reduceSub, Int.reduceNeg, Int.reduceMul, Int.reduceLT, Int.reduceLE, Int.reduceEq, Int.reducePow, Int.reduceToNat, Int.reduceDiv, Int.reduceMod, Nat.zero_add, Int.ofNat_eq_natCast, Int.cast_ofNat_Int, Row.e, tsD]
    refine wp_of f1 ?_
    simp only [↓W0, ↓w_comp_cons, ↓w_for_cons, ↓w_then, W1, List.reduceReplicate, String.reduceEq, List.drop_succ_cons, List.drop_zero, List.drop_nil, q_ls, q_lt_s, wipeR, backR, hideR, hideS, putB, noL, noLs, Sl.own, enumFrom, intsOf, Option.map_some, intsOf_map, List.set_cons_succ, List.set_cons_zero, List.getElem?_cons_succ, List.getElem?_cons_zero, List.getD_cons_succ, List.getD_cons_zero, List.map_cons, List.map_nil, List.tail_cons, List.headD_cons, List.length_cons, List.length_nil, List.length_map, List.length_range, List.nodup_cons, List.nodup_nil, List.not_mem_nil, List.mem_cons, not_false_eq_true, or_false, false_or, or_true, true_or, and_true, true_and, and_self, if_true, if_false, reduceIte, decide_true, decide_false, Bool.not_true, Bool.not_false, Bool.and_true, Bool.true_and, List.cons_append, List.nil_append, List.append_nil, eq_self, reduceCtorEq, List.all_cons, List.all_nil, List.isEmpty_cons, List.isEmpty_nil, Nat.reduceSub, Nat.reduceAdd, Nat.reduceMul, Nat.reduceLT, Nat.reduceLeDiff, Nat.reduceEqDiff, Nat.reduceBEq, Int.reduceAdd, Int.reduceSub, Int.reduceNeg, Int.reduceMul, Int.reduceLT, Int.reduceLE, Int.reduceEq, Int.reducePow, Int.reduceToNat, Int.reduceDiv, Int.reduceMod, Nat.zero_add, Int.ofNat_eq_natCast, Int.cast_ofNat_Int]
    refine wp_of f2 ?_
    simp only [↓W0, ↓w_comp_cons, ↓w_for_cons, ↓w_then, W1, List.reduceReplicate, String.reduceEq, List.drop_succ_cons, List.drop_zero, List.drop_nil, q_ls, q_lt_s, wipeR, backR, hideR, hideS, putB, noL, noLs, Sl.own, enumFrom, intsOf, Option.map_some, intsOf_map, List.set_cons_succ, List.set_cons_zero, List.getElem?_cons_succ, List.getElem?_cons_zero, List.getD_cons_succ, List.getD_cons_zero, List.map_cons, List.map_nil, List.tail_cons, List.headD_cons, List.length_cons, List.length_nil, List.length_map, List.length_range, List.nodup_cons, List.nodup_nil, List.not_mem_nil, List.mem_cons, not_false_eq_true, or_false, false_or, or_true, true_or, and_true, true_and, and_self, if_true, if_false, reduceIte, decide_true, decide_false, Bool.not_true, Bool.not_false, Bool.and_true, Bool.true_and, List.cons_append, List.nil_append, List.append_nil, eq_self, reduceCtorEq, List.all_cons, List.all_nil, List.isEmpty_cons, List.isEmpty_nil, Nat.reduceSub, Nat.reduceAdd, Nat.reduceMul, Nat.reduceLT, Nat.reduceLeDiff, Nat.reduceEqDiff, Nat.reduceBEq, Int.reduceAdd, Int.reduceSub, Int.reduceNeg, Int.reduceMul, Int.reduceLT, Int.reduceLE, Int.reduceEq, Int.reducePow, Int.reduceToNat, Int.reduceDiv, Int.reduceMod, Nat.zero_add, Int.ofNat_eq_natCast, Int.cast_ofNat_Int, a2]
    rw [← List.map_append]
    refine for_st (α := Str × List Tr × List Tr) (σ := List (D × D × Tr) × Sl × Sl × Sl) (fun L s => s.1.length + 24 * L.length ≤ 400 ∧ s.1.map (fun y => y.2.2) ++ L.flatMap mts = (ps ++ is) ++ ms.flatMap mts ∧ ∀ m ∈ L, m ∈ ms) (fun s => [.d (.tuple [.str "family", .str n, l, .tuple (ps.map Tr.e), .tuple (is.map Tr.e), v, .tuple (ms.map mD)]), .d (.tuple (s.1.map E3)), s.2.1, .un, s.2.2.1, s.2.2.2, .un, .un]) ?_ ?_ (L := ms) (s := (y1 ++ y2, .un, .un, .un)) ⟨by simp only [List.length_append]; omega, by rw [List.map_append, e1, e2], fun m hm => hm⟩ 
    · rintro ⟨mn, as, es⟩ L ⟨ac, s2, s4, s5⟩ ⟨i1, i2, i3⟩
      have hm := h5 _ (i3 _ List.mem_cons_self)
      unfold shT at hm
      obtain ⟨m1, m2⟩ := hm
      have m1 : as.length ≤ 12 := m1
      have m2 : es.length ≤ 12 := m2
      rw [List.length_cons] at i1
      simp only at i1
      obtain ⟨y3, e3, f3⟩ := entry_ok (fr := [.str "arg", .str mn]) (cx := ps.map Tr.e) (ts := as) (by simp) (by rw [List.length_map]; omega) (by omega)
      have l3 : y3.length = as.length := by rw [← e3, List.length_map]
      have a3 : ac.length + y3.length ≤ 1000 := by omega
      have a4 : (List.zipIdx es).length ≤ 1000 := by rw [List.length_zipIdx]; omega
      have a5 : ps.length + as.length ≤ 1000 := by omega
      simp only [↓W0, ↓w_comp_cons, ↓w_for_cons, ↓w_then, W1, List.reduceReplicate, String.reduceEq, List.drop_succ_cons, List.drop_zero, List.drop_nil, q_ls, q_lt_s, wipeR, backR, hideR, hideS, putB, noL, noLs, Sl.own, enumFrom, intsOf, Option.map_some, intsOf_map, List.set_cons_succ, List.set_cons_zero, List.getElem?_cons_succ, List.getElem?_cons_zero, List.getD_cons_succ, List.getD_cons_zero, List.map_cons, List.map_nil, List.tail_cons, List.headD_cons, List.length_cons, List.length_nil, List.length_map, List.length_range, List.nodup_cons, List.nodup_nil, List.not_mem_nil, List.mem_cons, not_false_eq_true, or_false, false_or, or_true, true_or, and_true, true_and, and_self, if_true, if_false, reduceIte, decide_true, decide_false, Bool.not_true, Bool.not_false, Bool.and_true, Bool.true_and, List.cons_append, List.nil_append, List.append_nil, eq_self, reduceCtorEq, List.all_cons, List.all_nil, List.isEmpty_cons, List.isEmpty_nil, Nat.reduceSub, Nat.reduceAdd, Nat.reduceMul, Nat.reduceLT, Nat.reduceLeDiff, Nat.reduceEqDiff, Nat.reduceBEq, Int.reduceAdd, Int.reduceSub, Int.reduceNeg, Int.reduceMul, Int.reduceLT, Int.reduceLE, Int.reduceEq, Int.reducePow, Int.reduceToNat, Int.reduceDiv, Int.reduceMod, Nat.zero_add, Int.ofNat_eq_natCast, Int.cast_ofNat_Int, mD, tsD]
      refine wp_of f3 ?_
      simp only [↓W0, ↓w_comp_cons, ↓w_for_cons, ↓w_then, W1, List.reduceReplicate, String.reduceEq, List.drop_succ_cons, List.drop_zero, List.drop_nil, q_ls, q_lt_s, wipeR, backR, hideR, hideS, putB, noL, noLs, Sl.own, enumFrom, intsOf, Option.map_some, intsOf_map, List.set_cons_succ, List.set_cons_zero, List.getElem?_cons_succ, List.getElem?_cons_zero, List.getD_cons_succ, List.getD_cons_zero, List.map_cons, List.map_nil, List.tail_cons, List.headD_cons, List.length_cons, List.length_nil, List.length_map, List.length_range, List.nodup_cons, List.nodup_nil, List.not_mem_nil, List.mem_cons, not_false_eq_true, or_false, false_or, or_true, true_or, and_true, true_and, and_self, if_true, if_false, reduceIte, decide_true, decide_false, Bool.not_true, Bool.not_false, Bool.and_true, Bool.true_and, List.cons_append, List.nil_append, List.append_nil, eq_self, reduceCtorEq, List.all_cons, List.all_nil, List.isEmpty_cons, List.isEmpty_nil, Nat.reduceSub, Nat.reduceAdd, Nat.reduceMul, Nat.reduceLT, Nat.reduceLeDiff, Nat.reduceEqDiff, Nat.reduceBEq, Int.reduceAdd, Int.reduceSub, Int.reduceNeg, Int.reduceMul, Int.reduceLT, Int.reduceLE, Int.reduceEq, Int.reducePow, Int.reduceToNat, Int.reduceDiv, Int.reduceMod, Nat.zero_add, Int.ofNat_eq_natCast, Int.cast_ofNat_Int, a3, enumFrom_map, a4]
      refine wp_of (comp_all (f := fun p : Tr × Nat => E3 (.tuple [.str "result", .str mn, .int (p.2 : Nat)], .tuple (ps.map Tr.e ++ as.map Tr.e), p.1)) fun p hp => ?_) ?_
      · simp only [↓W0, ↓w_comp_cons, ↓w_for_cons, ↓w_then, W1, List.reduceReplicate, String.reduceEq, List.drop_succ_cons, List.drop_zero, List.drop_nil, q_ls, q_lt_s, wipeR, backR, hideR, hideS, putB, noL, noLs, Sl.own, enumFrom, intsOf, Option.map_some, intsOf_map, List.set_cons_succ, List.set_cons_zero, List.getElem?_cons_succ, List.getElem?_cons_zero, List.getD_cons_succ, List.getD_cons_zero, List.map_cons, List.map_nil, List.tail_cons, List.headD_cons, List.length_cons, List.length_nil, List.length_map, List.length_range, List.nodup_cons, List.nodup_nil, List.not_mem_nil, List.mem_cons, not_false_eq_true, or_false, false_or, or_true, true_or, and_true, true_and, and_self, if_true, if_false, reduceIte, decide_true, decide_false, Bool.not_true, Bool.not_false, Bool.and_true, Bool.true_and, List.cons_append, List.nil_append, List.append_nil, eq_self, reduceCtorEq, List.all_cons, List.all_nil, List.isEmpty_cons, List.isEmpty_nil, Nat.reduceSub, Nat.reduceAdd, Nat.reduceMul, Nat.reduceLT, Nat.reduceLeDiff, Nat.reduceEqDiff, Nat.reduceBEq, Int.reduceAdd, Int.reduceSub, Int.reduceNeg, Int.reduceMul, Int.reduceLT, Int.reduceLE, Int.reduceEq, Int.reducePow, Int.reduceToNat, Int.reduceDiv, Int.reduceMod, Nat.zero_add, Int.ofNat_eq_natCast, Int.cast_ofNat_Int, a5, E3]
      · have a6 : ac.length + y3.length + (List.zipIdx es).length ≤ 1000 := by rw [List.length_zipIdx]; omega
        simp only [↓W0, ↓w_comp_cons, ↓w_for_cons, ↓w_then, W1, List.reduceReplicate, String.reduceEq, List.drop_succ_cons, List.drop_zero, List.drop_nil, q_ls, q_lt_s, wipeR, backR, hideR, hideS, putB, noL, noLs, Sl.own, enumFrom, intsOf, Option.map_some, intsOf_map, List.set_cons_succ, List.set_cons_zero, List.getElem?_cons_succ, List.getElem?_cons_zero, List.getD_cons_succ, List.getD_cons_zero, List.map_cons, List.map_nil, List.tail_cons, List.headD_cons, List.length_cons, List.length_nil, List.length_map, List.length_range, List.nodup_cons, List.nodup_nil, List.not_mem_nil, List.mem_cons, not_false_eq_true, or_false, false_or, or_true, true_or, and_true, true_and, and_self, if_true, if_false, reduceIte, decide_true, decide_false, Bool.not_true, Bool.not_false, Bool.and_true, Bool.true_and, List.cons_append, List.nil_append, List.append_nil, eq_self, reduceCtorEq, List.all_cons, List.all_nil, List.isEmpty_cons, List.isEmpty_nil, Nat.reduceSub, Nat.reduceAdd, Nat.reduceMul, Nat.reduceLT, Nat.reduceLeDiff, Nat.reduceEqDiff, Nat.reduceBEq, Int.reduceAdd, Int.reduceSub, Int.reduceNeg, Int.reduceMul, Int.reduceLT, Int.reduceLE, Int.reduceEq, Int.reducePow, Int.reduceToNat, Int.reduceDiv, Int.reduceMod, Nat.zero_add, Int.ofNat_eq_natCast, Int.cast_ofNat_Int, a6, List.length_append]
        have e7 : List.map E3 ac ++ List.map E3 y3 ++ List.map (fun p : Tr × Nat => E3 (.tuple [.str "result", .str mn, .int (p.2 : Nat)], .tuple (ps.map Tr.e ++ as.map Tr.e), p.1)) (List.zipIdx es) = List.map E3 (ac ++ y3 ++ (List.zipIdx es).map (fun p => (.tuple [.str "result", .str mn, .int (p.2 : Nat)], .tuple (ps.map Tr.e ++ as.map Tr.e), p.1))) := by
          rw [List.map_append, List.map_append, List.map_map]; rfl
        rw [e7]
        refine ⟨(ac ++ y3 ++ (List.zipIdx es).map (fun p => (.tuple [.str "result", .str mn, .int (p.2 : Nat)], .tuple (ps.map Tr.e ++ as.map Tr.e), p.1)), _, _, _), ⟨?_, ?_, fun m hm => i3 m (List.mem_cons_of_mem _ hm)⟩, rfl⟩
        · simp only [List.length_append, List.length_map, List.length_zipIdx]
          omega
        · rw [← i2]
          simp only [List.map_append, e3, List.map_map, List.flatMap_cons, mts, List.append_assoc]
          congr 2
          congr 1
          exact List.zipIdx_map_fst 0 es
    · rintro ⟨ac, s2, s4, s5⟩ ⟨i1, i2, i3⟩
      rw [List.flatMap_nil, List.append_nil] at i2
      simp only [↓W0, ↓w_comp_cons, ↓w_for_cons, ↓w_then, W1, List.reduceReplicate, String.reduceEq, List.drop_succ_cons, List.drop_zero, List.drop_nil, q_ls, q_lt_s, wipeR, backR, hideR, hideS, putB, noL, noLs, Sl.own, enumFrom, intsOf, Option.map_some, intsOf_map, List.set_cons_succ, List.set_cons_zero, List.getElem?_cons_succ, List.getElem?_cons_zero, List.getD_cons_succ, List.getD_cons_zero, List.map_cons, List.map_nil, List.tail_cons, List.headD_cons, List.length_cons, List.length_nil, List.length_map, List.length_range, List.nodup_cons, List.nodup_nil, List.not_mem_nil, List.mem_cons, not_false_eq_true, or_false, false_or, or_true, true_or, and_true, true_and, and_self, if_true, if_false, reduceIte, decide_true, decide_false, Bool.not_true, Bool.not_false, Bool.and_true, Bool.true_and, List.cons_append, List.nil_append, List.append_nil, eq_self, reduceCtorEq, List.all_cons, List.all_nil, List.isEmpty_cons, List.isEmpty_nil, Nat.reduceSub, Nat.reduceAdd, Nat.reduceMul, Nat.reduceLT, Nat.reduceLeDiff, Nat.reduceEqDiff, Nat.reduceBEq, Int.reduceAdd, Int.reduceSub, Int.reduceNeg, Int.reduceMul, Int.reduceLT, Int.reduceLE, Int.reduceEq, Int.reducePow, Int.reduceToNat, Int.reduceDiv, Int.reduceMod, Nat.zero_add, Int.ofNat_eq_natCast, Int.cast_ofNat_Int]
      exact ⟨ac, rfl, i2⟩
theorem l_terms_ok {r : Row} (h : r.Ok) : M_l_terms [.d r.e] = .ok (.list (r.terms.map Tr.e), [.un]) := by
  refine wp_eq ?_
  unfold M_l_terms b_l_terms
  rcases r with ⟨n, l, t⟩ | ⟨b, n, l, t, u⟩ | ⟨n, l, v, ps, fs⟩ | ⟨n, l, v, ps, is, ms⟩
  · simp only [↓W0, ↓w_comp_cons, ↓w_for_cons, ↓w_then, W1, List.reduceReplicate, String.reduceEq, List.drop_succ_cons, List.drop_zero, List.drop_nil, q_ls, q_lt_s, wipeR, backR, hideR, hideS, putB, noL, noLs, Sl.own, enumFrom, intsOf, Option.map_some, intsOf_map, List.set_cons_succ, List.set_cons_zero, List.getElem?_cons_succ, List.getElem?_cons_zero, List.getD_cons_succ, List.getD_cons_zero, List.map_cons, List.map_nil, List.tail_cons, List.headD_cons, List.length_cons, List.length_nil, List.length_map, List.length_range, List.nodup_cons, List.nodup_nil, List.not_mem_nil, List.mem_cons, not_false_eq_true, or_false, false_or, or_true, true_or, and_true, true_and, and_self, if_true, if_false, reduceIte, decide_true, decide_false, Bool.not_true, Bool.not_false, Bool.and_true, Bool.true_and, List.cons_append, List.nil_append, List.append_nil, eq_self, reduceCtorEq, List.all_cons, List.all_nil, List.isEmpty_cons, List.isEmpty_nil, Nat.reduceSub, Nat.reduceAdd, Nat.reduceMul, Nat.reduceLT, Nat.reduceLeDiff, Nat.reduceEqDiff, Nat.reduceBEq, Int.reduceAdd, Int.reduceSub, Int.reduceNeg, Int.reduceMul, Int.reduceLT, Int.reduceLE, Int.reduceEq, Int.reducePow, Int.reduceToNat, Int.reduceDiv, Int.reduceMod, Nat.zero_add, Int.ofNat_eq_natCast, Int.cast_ofNat_Int, Row.e, Row.terms]
  · cases b <;> simp only [↓W0, ↓w_comp_cons, ↓w_for_cons, ↓w_then, W1, List.reduceReplicate, String.reduceEq, List.drop_succ_cons, List.drop_zero, List.drop_nil, q_ls, q_lt_s, wipeR, backR, hideR, hideS, putB, noL, noLs, Sl.own, enumFrom, intsOf, Option.map_some, intsOf_map, List.set_cons_succ, List.set_cons_zero, List.getElem?_cons_succ, List.getElem?_cons_zero, List.getD_cons_succ, List.getD_cons_zero, List.map_cons, List.map_nil, List.tail_cons, List.headD_cons, List.length_cons, List.length_nil, List.length_map, List.length_range, List.nodup_cons, List.nodup_nil, List.not_mem_nil, List.mem_cons, not_false_eq_true, or_false, false_or, or_true, true_or, and_true, true_and, and_self, if_true, if_false, reduceIte, decide_true, decide_false, Bool.not_true, Bool.not_false, Bool.and_true, Bool.true_and, List.cons_append, List.nil_append, List.append_nil, eq_self, reduceCtorEq, List.all_cons, List.all_nil, List.isEmpty_cons, List.isEmpty_nil, Nat.reduceSub, Nat.reduceAdd, Nat.reduceMul, Nat.reduceLT, Nat.reduceLeDiff, Nat.reduceEqDiff, Nat.reduceBEq, Int.reduceAdd, Int.reduceSub, Int.reduceNeg, Int.reduceMul, Int.reduceLT, Int.reduceLE, Int.reduceEq, Int.reducePow, Int.reduceToNat, Int.reduceDiv, Int.reduceMod, Nat.zero_add, Int.ofNat_eq_natCast, Int.cast_ofNat_Int, Row.e, Row.terms, Bool.false_eq_true]
  · obtain ⟨h1, h2, h3, h4⟩ := h
    unfold shT at h2
    have a1 : fs.length ≤ 1000 := by omega
    have a2 : ps.length + fs.length ≤ 1000 := by omega
    simp only [↓W0, ↓w_comp_cons, ↓w_for_cons, ↓w_then, W1, List.reduceReplicate, String.reduceEq, List.drop_succ_cons, List.drop_zero, List.drop_nil, q_ls, q_lt_s, wipeR, backR, hideR, hideS, putB, noL, noLs, Sl.own, enumFrom, intsOf, Option.map_some, intsOf_map, List.set_cons_succ, List.set_cons_zero, List.getElem?_cons_succ, List.getElem?_cons_zero, List.getD_cons_succ, List.getD_cons_zero, List.map_cons, List.map_nil, List.tail_cons, List.headD_cons, List.length_cons, List.length_nil, List.length_map, List.length_range, List.nodup_cons, List.nodup_nil, List.not_mem_nil, List.mem_cons, not_false_eq_true, or_false, false_or, or_true, true_or, and_true, true_and, and_self, if_true, if_false, reduceIte, decide_true, decide_false, Bool.not_true, Bool.not_false, Bool.and_true, Bool.true_and, List.cons_append, List.nil_append, List.append_nil, eq_self, reduceCtorEq, List.all_cons, List.all_nil, List.isEmpty_cons, List.isEmpty_nil, Nat.reduceSub, Nat.reduceAdd, Nat.reduceMul, Nat.reduceLT, Nat.reduceLeDiff, Nat.reduceEqDiff, Nat.reduceBEq, Int.reduceAdd, Int.reduceSub, Int.reduceNeg, Int.reduceMul, Int.reduceLT, Int.reduceLE, Int.reduceEq, Int.reducePow, Int.reduceToNat, Int.reduceDiv, Int.reduceMod, Nat.zero_add, Int.ofNat_eq_natCast, Int.cast_ofNat_Int, Row.e, tsD, a1]
    refine wp_of (comp_all (f := fun f => f.2.e) fun f hf => ?_) ?_
    · simp only [↓W0, ↓w_comp_cons, ↓w_for_cons, ↓w_then, W1, List.reduceReplicate, String.reduceEq, List.drop_succ_cons, List.drop_zero, List.drop_nil, q_ls, q_lt_s, wipeR, backR, hideR, hideS, putB, noL, noLs, Sl.own, enumFrom, intsOf, Option.map_some, intsOf_map, List.set_cons_succ, List.set_cons_zero, List.getElem?_cons_succ, List.getElem?_cons_zero, List.getD_cons_succ, List.getD_cons_zero, List.map_cons, List.map_nil, List.tail_cons, List.headD_cons, List.length_cons, List.length_nil, List.length_map, List.length_range, List.nodup_cons, List.nodup_nil, List.not_mem_nil, List.mem_cons, not_false_eq_true, or_false, false_or, or_true, true_or, and_true, true_and, and_self, if_true, if_false, reduceIte, decide_true, decide_false, Bool.not_true, Bool.not_false, Bool.and_true, Bool.true_and, List.cons_append, List.nil_append, List.append_nil, eq_self, reduceCtorEq, List.all_cons, List.all_nil, List.isEmpty_cons, List.isEmpty_nil, Nat.reduceSub, Nat.reduceAdd, Nat.reduceMul, Nat.reduceLT, Nat.reduceLeDiff, Nat.reduceEqDiff, Nat.reduceBEq, Int.reduceAdd, Int.reduceSub, Int.reduceNeg, Int.reduceMul, Int.reduceLT, Int.reduceLE, Int.reduceEq, Int.reducePow, Int.reduceToNat, Int.reduceDiv, Int.reduceMod, Nat.zero_add, Int.ofNat_eq_natCast, Int.cast_ofNat_Int, fD]
    · simp only [↓W0, ↓w_comp_cons, ↓w_for_cons, ↓w_then, W1, List.reduceReplicate, String.reduceEq, List.drop_succ_cons, List.drop_zero, List.drop_nil, q_ls, q_lt_s, wipeR, backR, hideR, hideS, putB, noL, noLs, Sl.own, enumFrom, intsOf, Option.map_some, intsOf_map, List.set_cons_succ, List.set_cons_zero, List.getElem?_cons_succ, List.getElem?_cons_zero, List.getD_cons_succ, List.getD_cons_zero, List.map_cons, List.map_nil, List.tail_cons, List.headD_cons, List.length_cons, List.length_nil, List.length_map, List.length_range, List.nodup_cons, List.nodup_nil, List.not_mem_nil, List.mem_cons, not_false_eq_true, or_false, false_or, or_true, true_or, and_true, true_and, and_self, if_true, if_false, reduceIte, decide_true, decide_false, Bool.not_true, Bool.not_false, Bool.and_true, Bool.true_and, List.cons_append, List.nil_append, List.append_nil, eq_self, reduceCtorEq, List.all_cons, List.all_nil, List.isEmpty_cons, List.isEmpty_nil, Nat.reduceSub, Nat.reduceAdd, Nat.reduceMul, Nat.reduceLT, Nat.reduceLeDiff, Nat.reduceEqDiff, Nat.reduceBEq, Int.reduceAdd, Int.reduceSub, Int.reduceNeg, Int.reduceMul, Int.reduceLT, Int.reduceLE, Int.reduceEq, Int.reducePow, Int.reduceToNat, Int.reduceDiv, Int.reduceMod, Nat.zero_add, Int.ofNat_eq_natCast, Int.cast_ofNat_Int, a2, Row.terms, List.map_append, List.map_map]
      rfl
  · obtain ⟨h1, h2, h3, h4, h5⟩ := h
    unfold shT at h2 h3
    have a2 : ps.length + is.length ≤ 1000 := by omega
    simp only [↓W0, ↓w_comp_cons, ↓w_for_cons, ↓w_then, W1, List.reduceReplicate, String.reduceEq, List.drop_succ_cons, List.drop_zero, List.drop_nil, q_ls, q_lt_s, wipeR, backR, hideR, hideS, putB, noL, noLs, Sl.own, enumFrom, intsOf, Option.map_some, intsOf_map, List.set_cons_succ, List.set_cons_zero, List.getElem?_cons_succ, List.getElem?_cons_zero, List.getD_cons_succ, List.getD_cons_zero, List.map_cons, List.map_nil, List.tail_cons, List.headD_cons, List.length_cons, List.length_nil, List.length_map, List.length_range, List.nodup_cons, List.nodup_nil, List.not_mem_nil, List.mem_cons, not_false_eq_true, or_false, false_or, or_true, true_or, and_true, true_and, and_self, if_true, if_false, reduceIte, decide_true, decide_false, Bool.not_true, Bool.not_false, Bool.and_true, Bool.true_and, List.cons_append, List.nil_append, List.append_nil, eq_self, reduceCtorEq, List.all_cons, List.all_nil, List.isEmpty_cons, List.isEmpty_nil, Nat.reduceSub, Nat.reduceAdd, Nat.reduceMul, Nat.reduceLT, Nat.reduceLeDiff, Nat.reduceEqDiff, Nat.reduceBEq, Int.reduceAdd, Int.reduceSub, Int.reduceNeg, Int.reduceMul, Int.reduceLT, Int.reduceLE, Int.reduceEq, Int.reducePow, Int.reduceToNat, Int.reduceDiv, Int.reduceMod, Nat.zero_add, Int.ofNat_eq_natCast, Int.cast_ofNat_Int, Row.e, tsD, a2]
    rw [← List.map_append]
    refine for_st (α := Str × List Tr × List Tr) (σ := List Tr × Sl × Sl × Sl) (fun L s => s.1.length + 24 * L.length ≤ 400 ∧ s.1 ++ L.flatMap mts = (ps ++ is) ++ ms.flatMap mts ∧ ∀ m ∈ L, m ∈ ms) (fun s => [.d (.tuple [.str "family", .str n, l, .tuple (ps.map Tr.e), .tuple (is.map Tr.e), v, .tuple (ms.map mD)]), .un, .d (.list (s.1.map Tr.e)), s.2.1, s.2.2.1, s.2.2.2]) ?_ ?_ (L := ms) (s := (ps ++ is, .un, .un, .un)) ⟨by simp only [List.length_append]; omega, rfl, fun m hm => hm⟩
    · rintro ⟨mn, as, es⟩ L ⟨ac, s2, s4, s5⟩ ⟨i1, i2, i3⟩
      have hm := h5 _ (i3 _ List.mem_cons_self)
      unfold shT at hm
      obtain ⟨m1, m2⟩ := hm
      have m1 : as.length ≤ 12 := m1
      have m2 : es.length ≤ 12 := m2
      rw [List.length_cons] at i1
      simp only at i1
      have a3 : ac.length + as.length ≤ 1000 := by omega
      have a4 : ac.length + as.length + es.length ≤ 1000 := by omega
      simp only [↓W0, ↓w_comp_cons, ↓w_for_cons, ↓w_then, W1, List.reduceReplicate, String.reduceEq, List.drop_succ_cons, List.drop_zero, List.drop_nil, q_ls, q_lt_s, wipeR, backR, hideR, hideS, putB, noL, noLs, Sl.own, enumFrom, intsOf, Option.map_some, intsOf_map, List.set_cons_succ, List.set_cons_zero, List.getElem?_cons_succ, List.getElem?_cons_zero, List.getD_cons_succ, List.getD_cons_zero, List.map_cons, List.map_nil, List.tail_cons, List.headD_cons, List.length_cons, List.length_nil, List.length_map, List.length_range, List.nodup_cons, List.nodup_nil, List.not_mem_nil, List.mem_cons, not_false_eq_true, or_false, false_or, or_true, true_or, and_true, true_and, and_self, if_true, if_false, reduceIte, decide_true, decide_false, Bool.not_true, Bool.not_false, Bool.and_true, Bool.true_and, List.cons_append, List.nil_append, List.append_nil, eq_self, reduceCtorEq, List.all_cons, List.all_nil, List.isEmpty_cons, List.isEmpty_nil, Nat.reduceSub, Nat.reduceAdd, Nat.reduceMul, Nat.reduceLT, Nat.reduceLeDiff, Nat.reduceEqDiff, Nat.reduceBEq, Int.reduceAdd, Int.reduceSub, Int.reduceNeg, Int.reduceMul, Int.reduceLT, Int.reduceLE, Int.reduceEq, Int.reducePow, Int.reduceToNat, Int.reduceDiv, Int.reduceMod, Nat.zero_add, Int.ofNat_eq_natCast, Int.cast_ofNat_Int, mD, tsD, a3, a4, List.length_append]
      rw [← List.map_append, ← List.map_append]
      refine ⟨(ac ++ as ++ es, _, _, _), ⟨?_, ?_, fun m hm => i3 m (List.mem_cons_of_mem _ hm)⟩, rfl⟩
      · simp only [List.length_append]
        omega
      · rw [← i2]
        simp only [List.flatMap_cons, mts, List.append_assoc]
    · rintro ⟨ac, s2, s4, s5⟩ ⟨i1, i2, i3⟩
      rw [List.flatMap_nil, List.append_nil] at i2
      have i2 : ac = _ := i2
      simp only [↓W0, ↓w_comp_cons, ↓w_for_cons, ↓w_then, W1, List.reduceReplicate, String.reduceEq, List.drop_succ_cons, List.drop_zero, List.drop_nil, q_ls, q_lt_s, wipeR, backR, hideR, hideS, putB, noL, noLs, Sl.own, enumFrom, intsOf, Option.map_some, intsOf_map, List.set_cons_succ, List.set_cons_zero, List.getElem?_cons_succ, List.getElem?_cons_zero, List.getD_cons_succ, List.getD_cons_zero, List.map_cons, List.map_nil, List.tail_cons, List.headD_cons, List.length_cons, List.length_nil, List.length_map, List.length_range, List.nodup_cons, List.nodup_nil, List.not_mem_nil, List.mem_cons, not_false_eq_true, or_false, false_or, or_true, true_or, and_true, true_and, and_self, if_true, if_false, reduceIte, decide_true, decide_false, Bool.not_true, Bool.not_false, Bool.and_true, Bool.true_and, List.cons_append, List.nil_append, List.append_nil, eq_self, reduceCtorEq, List.all_cons, List.all_nil, List.isEmpty_cons, List.isEmpty_nil, Nat.reduceSub, Nat.reduceAdd, Nat.reduceMul, Nat.reduceLT, Nat.reduceLeDiff, Nat.reduceEqDiff, Nat.reduceBEq, Int.reduceAdd, Int.reduceSub, Int.reduceNeg, Int.reduceMul, Int.reduceLT, Int.reduceLE, Int.reduceEq, Int.reducePow, Int.reduceToNat, Int.reduceDiv, Int.reduceMod, Nat.zero_add, Int.ofNat_eq_natCast, Int.cast_ofNat_Int]
      rw [i2]
      rfl
/-! what both tell -/
def insO (own acc : List Str) (x : Str) : List Str := if x ∈ own then acc else ins acc x
def tell (own : List Str) (ts : List Tr) : List Str := (ts.flatMap Tr.said).foldl (insO own) []
theorem insO_mem {own acc : List Str} {x y : Str} (h : y ∈ acc) : y ∈ insO own acc x := by
  unfold insO ins
  split
  · exact h
  · split
    · exact h
    · exact List.mem_append_left _ h
theorem foldO_mem {own : List Str} {y : Str} : ∀ (xs acc : List Str), y ∈ acc → y ∈ xs.foldl (insO own) acc
  | [], _, h => h
  | x :: xs, acc, h => foldO_mem xs _ (insO_mem h)
theorem insO_id {own acc : List Str} {x : Str} (h : x ∈ own ∨ x ∈ acc) : insO own acc x = acc := by
  unfold insO ins
  split
  · rfl
  · rename_i h1
    rw [if_pos (h.resolve_left h1)]
theorem insO_in {own acc : List Str} {x : Str} : x ∈ own ∨ x ∈ insO own acc x := by
  unfold insO ins
  split
  · exact .inl ‹_›
  · split
    · exact .inr ‹_›
    · exact .inr (by simp)
theorem foldO_in {own : List Str} {x : Str} : ∀ (xs acc : List Str), x ∈ xs → x ∈ own ∨ x ∈ xs.foldl (insO own) acc
  | y :: xs, acc, h => by
    rw [List.foldl_cons]
    rcases List.mem_cons.mp h with e | e
    · subst e
      rcases insO_in (own := own) (acc := acc) (x := x) with z | z
      · exact .inl z
      · exact .inr (foldO_mem xs _ z)
    · exact foldO_in xs _ e
/-- each once first changes nothing -/
theorem foldO_ins (own : List Str) : ∀ (xs pre acc : List Str), (xs.foldl ins pre).foldl (insO own) acc = xs.foldl (insO own) (pre.foldl (insO own) acc)
  | [], _, _ => rfl
  | x :: xs, pre, acc => by
    rw [List.foldl_cons, foldO_ins own xs, List.foldl_cons]
    congr 1
    unfold ins
    split
    · rename_i h
      rw [insO_id (foldO_in pre acc h)]
    · rw [List.foldl_append]; rfl
theorem foldO_len {own : List Str} : ∀ (xs acc : List Str), (xs.foldl (insO own) acc).length ≤ acc.length + xs.length
  | [], _ => by simp
  | x :: xs, acc => by
    have := foldO_len (own := own) xs (insO own acc x)
    have : (insO own acc x).length ≤ acc.length + 1 := by
      unfold insO; split
      · omega
      · exact ins_len acc x
    rw [List.foldl_cons, List.length_cons]; omega
theorem saids_len : ∀ ts : List Tr, (ts.flatMap Tr.said).length ≤ szs ts
  | [] => by simp [szs]
  | t :: ts => by
    have := saids_len ts
    have := t.said_len
    rw [List.flatMap_cons, List.length_append, szs_cons]; omega
def Row.Sm (r : Row) : Prop := r.Ok ∧ (∀ t ∈ r.terms, t.sz ≤ 12) ∧ szs r.terms ≤ 900
theorem nodup_strs {n : Nat} (h : n ≤ 900) : n < 1000 := by omega
theorem mentions_ok {r : Row} (h : r.Sm) : M_p_mentions [.d r.e] = .ok (.tuple ((tell r.given r.terms).map .str), [.un]) := by
  obtain ⟨ho, hz, hs⟩ := h
  obtain ⟨ys, e1, f1⟩ := rowterms_ok ho
  refine wp_eq ?_
  unfold M_p_mentions b_p_mentions
  simp only [↓W0, ↓w_comp_cons, ↓w_for_cons, ↓w_then, W1, List.reduceReplicate, String.reduceEq, List.drop_succ_cons, List.drop_zero, List.drop_nil, q_ls, q_lt_s, wipeR, backR, hideR, hideS, putB, noL, noLs, Sl.own, enumFrom, intsOf, Option.map_some, intsOf_map, List.set_cons_succ, List.set_cons_zero, List.getElem?_cons_succ, List.getElem?_cons_zero, List.getD_cons_succ, List.getD_cons_zero, List.map_cons, List.map_nil, List.tail_cons, List.headD_cons, List.length_cons, List.length_nil, List.length_map, List.length_range, List.nodup_cons, List.nodup_nil, List.not_mem_nil, List.mem_cons, not_false_eq_true, or_false, false_or, or_true, true_or, and_true, true_and, and_self, if_true, if_false, reduceIte, decide_true, decide_false, Bool.not_true, Bool.not_false, Bool.and_true, Bool.true_and, List.cons_append, List.nil_append, List.append_nil, eq_self, reduceCtorEq, List.all_cons, List.all_nil, List.isEmpty_cons, List.isEmpty_nil, Nat.reduceSub, Nat.reduceAdd, Nat.reduceMul, Nat.reduceLT, Nat.reduceLeDiff, Nat.reduceEqDiff, Nat.reduceBEq, Int.reduceAdd, Int.reduceSub, Int.reduceNeg, Int.reduceMul, Int.reduceLT, Int.reduceLE, Int.reduceEq, Int.reducePow, Int.reduceToNat, Int.reduceDiv, Int.reduceMod, Nat.zero_add, Int.ofNat_eq_natCast, Int.cast_ofNat_Int]
  refine wp_of (given_ok ho) ?_
  simp only [↓W0, ↓w_comp_cons, ↓w_for_cons, ↓w_then, W1, List.reduceReplicate, String.reduceEq, List.drop_succ_cons, List.drop_zero, List.drop_nil, q_ls, q_lt_s, wipeR, backR, hideR, hideS, putB, noL, noLs, Sl.own, enumFrom, intsOf, Option.map_some, intsOf_map, List.set_cons_succ, List.set_cons_zero, List.getElem?_cons_succ, List.getElem?_cons_zero, List.getD_cons_succ, List.getD_cons_zero, List.map_cons, List.map_nil, List.tail_cons, List.headD_cons, List.length_cons, List.length_nil, List.length_map, List.length_range, List.nodup_cons, List.nodup_nil, List.not_mem_nil, List.mem_cons, not_false_eq_true, or_false, false_or, or_true, true_or, and_true, true_and, and_self, if_true, if_false, reduceIte, decide_true, decide_false, Bool.not_true, Bool.not_false, Bool.and_true, Bool.true_and, List.cons_append, List.nil_append, List.append_nil, eq_self, reduceCtorEq, List.all_cons, List.all_nil, List.isEmpty_cons, List.isEmpty_nil, Nat.reduceSub, Nat.reduceAdd, Nat.reduceMul, Nat.reduceLT, Nat.reduceLeDiff, Nat.reduceEqDiff, Nat.reduceBEq, Int.reduceAdd, Int.reduceSub, Int.reduceNeg, Int.reduceMul, Int.reduceLT, Int.reduceLE, Int.reduceEq, Int.reducePow, Int.reduceToNat, Int.reduceDiv, Int.reduceMod, Nat.zero_add, Int.ofNat_eq_natCast, Int.cast_ofNat_Int]
  refine wp_of f1 ?_
  simp only [↓W0, ↓w_comp_cons, ↓w_for_cons, ↓w_then, W1, List.reduceReplicate, String.reduceEq, List.drop_succ_cons, List.drop_zero, List.drop_nil, q_ls, q_lt_s, wipeR, backR, hideR, hideS, putB, noL, noLs, Sl.own, enumFrom, intsOf, Option.map_some, intsOf_map, List.set_cons_succ, List.set_cons_zero, List.getElem?_cons_succ, List.getElem?_cons_zero, List.getD_cons_succ, List.getD_cons_zero, List.map_cons, List.map_nil, List.tail_cons, List.headD_cons, List.length_cons, List.length_nil, List.length_map, List.length_range, List.nodup_cons, List.nodup_nil, List.not_mem_nil, List.mem_cons, not_false_eq_true, or_false, false_or, or_true, true_or, and_true, true_and, and_self, if_true, if_false, reduceIte, decide_true, decide_false, Bool.not_true, Bool.not_false, Bool.and_true, Bool.true_and, List.cons_append, List.nil_append, List.append_nil, eq_self, reduceCtorEq, List.all_cons, List.all_nil, List.isEmpty_cons, List.isEmpty_nil, Nat.reduceSub, Nat.reduceAdd, Nat.reduceMul, Nat.reduceLT, Nat.reduceLeDiff, Nat.reduceEqDiff, Nat.reduceBEq, Int.reduceAdd, Int.reduceSub, Int.reduceNeg, Int.reduceMul, Int.reduceLT, Int.reduceLE, Int.reduceEq, Int.reducePow, Int.reduceToNat, Int.reduceDiv, Int.reduceMod, Nat.zero_add, Int.ofNat_eq_natCast, Int.cast_ofNat_Int]
  refine for_st (α := D × D × Tr) (σ := List Str × Sl × Sl × Sl × Sl) (fun L s => s.1.length + szs (ys2 L) ≤ 900 ∧ ((ys2 L).flatMap Tr.said).foldl (insO r.given) s.1 = tell r.given r.terms ∧ ∀ y ∈ L, y.2.2.sz ≤ 12)
    (fun s => [.d r.e, .d (.tuple (r.given.map .str)), .k (dk s.1), s.2.1, s.2.2.1, s.2.2.2.1, s.2.2.2.2]) ?_ ?_ (L := ys) (s := ([], .un, .un, .un, .un)) ⟨?_, ?_, ?_⟩
  · rintro ⟨w, c, t⟩ L ⟨acc, s3, s4, s5, s6⟩ ⟨i1, i2, i3⟩
    have tz : t.sz ≤ 12 := i3 _ List.mem_cons_self
    have hy : ys2 ((w, c, t) :: L) = t :: ys2 L := rfl
    rw [hy, szs_cons] at i1
    rw [hy, List.flatMap_cons, List.foldl_append] at i2
    simp only at i1 i2
    simp only [↓W0, ↓w_comp_cons, ↓w_for_cons, ↓w_then, W1, List.reduceReplicate, String.reduceEq, List.drop_succ_cons, List.drop_zero, List.drop_nil, q_ls, q_lt_s, wipeR, backR, hideR, hideS, putB, noL, noLs, Sl.own, enumFrom, intsOf, Option.map_some, intsOf_map, List.set_cons_succ, List.set_cons_zero, List.getElem?_cons_succ, List.getElem?_cons_zero, List.getD_cons_succ, List.getD_cons_zero, List.map_cons, List.map_nil, List.tail_cons, List.headD_cons, List.length_cons, List.length_nil, List.length_map, List.length_range, List.nodup_cons, List.nodup_nil, List.not_mem_nil, List.mem_cons, not_false_eq_true, or_false, false_or, or_true, true_or, and_true, true_and, and_self, if_true, if_false, reduceIte, decide_true, decide_false, Bool.not_true, Bool.not_false, Bool.and_true, Bool.true_and, List.cons_append, List.nil_append, List.append_nil, eq_self, reduceCtorEq, List.all_cons, List.all_nil, List.isEmpty_cons, List.isEmpty_nil, Nat.reduceSub, Nat.reduceAdd, Nat.reduceMul, Nat.reduceLT, Nat.reduceLeDiff, Nat.reduceEqDiff, Nat.reduceBEq, Int.reduceAdd, Int.reduceSub, Int.reduceNeg, Int.reduceMul, Int.reduceLT, Int.reduceLE, Int.reduceEq, Int.reducePow, Int.reduceToNat, Int.reduceDiv, Int.reduceMod, Nat.zero_add, Int.ofNat_eq_natCast, Int.cast_ofNat_Int, E3]
    refine wp_of (cin_ok (t := t) (by omega)) ?_
    simp only [↓W0, ↓w_comp_cons, ↓w_for_cons, ↓w_then, W1, List.reduceReplicate, String.reduceEq, List.drop_succ_cons, List.drop_zero, List.drop_nil, q_ls, q_lt_s, wipeR, backR, hideR, hideS, putB, noL, noLs, Sl.own, enumFrom, intsOf, Option.map_some, intsOf_map, List.set_cons_succ, List.set_cons_zero, List.getElem?_cons_succ, List.getElem?_cons_zero, List.getD_cons_succ, List.getD_cons_zero, List.map_cons, List.map_nil, List.tail_cons, List.headD_cons, List.length_cons, List.length_nil, List.length_map, List.length_range, List.nodup_cons, List.nodup_nil, List.not_mem_nil, List.mem_cons, not_false_eq_true, or_false, false_or, or_true, true_or, and_true, true_and, and_self, if_true, if_false, reduceIte, decide_true, decide_false, Bool.not_true, Bool.not_false, Bool.and_true, Bool.true_and, List.cons_append, List.nil_append, List.append_nil, eq_self, reduceCtorEq, List.all_cons, List.all_nil, List.isEmpty_cons, List.isEmpty_nil, Nat.reduceSub, Nat.reduceAdd, Nat.reduceMul, Nat.reduceLT, Nat.reduceLeDiff, Nat.reduceEqDiff, Nat.reduceBEq, Int.reduceAdd, Int.reduceSub, Int.reduceNeg, Int.reduceMul, Int.reduceLT, Int.reduceLE, Int.reduceEq, Int.reducePow, Int.reduceToNat, Int.reduceDiv, Int.reduceMod, Nat.zero_add, Int.ofNat_eq_natCast, Int.cast_ofNat_Int]
    have fl := foldO_ins r.given t.said [] acc
    have tl : (t.said.foldl ins []).length ≤ t.sz := by
      have : ∀ (xs : List Str) (acc : List Str), (xs.foldl ins acc).length ≤ acc.length + xs.length := by
        intro xs
        induction xs with
        | nil => intro acc; simp
        | cons x xs ih => intro acc; have := ih (ins acc x); have := ins_len acc x; rw [List.foldl_cons, List.length_cons]; omega
      have := this t.said []
      have := t.said_len
      rw [List.length_nil] at *
      omega
    refine for_st (α := Str) (σ := List Str × Sl) (fun L s => s.1.length + L.length ≤ acc.length + t.sz ∧ L.foldl (insO r.given) s.1 = t.said.foldl (insO r.given) acc)
      (fun s => [.d r.e, .d (.tuple (r.given.map .str)), .k (dk s.1), .d w, .d c, .d t.e, s.2]) ?_ ?_ (L := t.said.foldl ins []) (s := (acc, s6)) ⟨by simp only; omega, fl⟩
    · rintro x M ⟨ac, s6⟩ ⟨j1, j2⟩
      rw [List.length_cons] at j1
      rw [List.foldl_cons] at j2
      simp only at j1 j2
      have hl : ac.length < 1000 := by omega
      simp only [↓W0, ↓w_comp_cons, ↓w_for_cons, ↓w_then, W1, List.reduceReplicate, String.reduceEq, List.drop_succ_cons, List.drop_zero, List.drop_nil, q_ls, q_lt_s, wipeR, backR, hideR, hideS, putB, noL, noLs, Sl.own, enumFrom, intsOf, Option.map_some, intsOf_map, List.set_cons_succ, List.set_cons_zero, List.getElem?_cons_succ, List.getElem?_cons_zero, List.getD_cons_succ, List.getD_cons_zero, List.map_cons, List.map_nil, List.tail_cons, List.headD_cons, List.length_cons, List.length_nil, List.length_map, List.length_range, List.nodup_cons, List.nodup_nil, List.not_mem_nil, List.mem_cons, not_false_eq_true, or_false, false_or, or_true, true_or, and_true, true_and, and_self, if_true, if_false, reduceIte, decide_true, decide_false, Bool.not_true, Bool.not_false, Bool.and_true, Bool.true_and, List.cons_append, List.nil_append, List.append_nil, eq_self, reduceCtorEq, List.all_cons, List.all_nil, List.isEmpty_cons, List.isEmpty_nil, Nat.reduceSub, Nat.reduceAdd, Nat.reduceMul, Nat.reduceLT, Nat.reduceLeDiff, Nat.reduceEqDiff, Nat.reduceBEq, Int.reduceAdd, Int.reduceSub, Int.reduceNeg, Int.reduceMul, Int.reduceLT, Int.reduceLE, Int.reduceEq, Int.reducePow, Int.reduceToNat, Int.reduceDiv, Int.reduceMod, Nat.zero_add, Int.ofNat_eq_natCast, Int.cast_ofNat_Int]
      by_cases hx : x ∈ r.given
      · simp only [↓W0, ↓w_comp_cons, ↓w_for_cons, ↓w_then, W1, List.reduceReplicate, String.reduceEq, List.drop_succ_cons, List.drop_zero, List.drop_nil, q_ls, q_lt_s, wipeR, backR, hideR, hideS, putB, noL, noLs, Sl.own, enumFrom, intsOf, Option.map_some, intsOf_map, List.set_cons_succ, List.set_cons_zero, List.getElem?_cons_succ, List.getElem?_cons_zero, List.getD_cons_succ, List.getD_cons_zero, List.map_cons, List.map_nil, List.tail_cons, List.headD_cons, List.length_cons, List.length_nil, List.length_map, List.length_range, List.nodup_cons, List.nodup_nil, List.not_mem_nil, List.mem_cons, not_false_eq_true, or_false, false_or, or_true, true_or, and_true, true_and, and_self, if_true, if_false, reduceIte, decide_true, decide_false, Bool.not_true, Bool.not_false, Bool.and_true, Bool.true_and, List.cons_append, List.nil_append, List.append_nil, eq_self, reduceCtorEq, List.all_cons, List.all_nil, List.isEmpty_cons, List.isEmpty_nil, Nat.reduceSub, Nat.reduceAdd, Nat.reduceMul, Nat.reduceLT, Nat.reduceLeDiff, Nat.reduceEqDiff, Nat.reduceBEq, Int.reduceAdd, Int.reduceSub, Int.reduceNeg, Int.reduceMul, Int.reduceLT, Int.reduceLE, Int.reduceEq, Int.reducePow, Int.reduceToNat, Int.reduceDiv, Int.reduceMod, Nat.zero_add, Int.ofNat_eq_natCast, Int.cast_ofNat_Int, hx]
        exact ⟨(ac, _), ⟨by simp only; omega, by rw [← j2, insO_id (.inl hx)]⟩, rfl⟩
      · simp only [↓W0, ↓w_comp_cons, ↓w_for_cons, ↓w_then, W1, List.reduceReplicate, String.reduceEq, List.drop_succ_cons, List.drop_zero, List.drop_nil, q_ls, q_lt_s, wipeR, backR, hideR, hideS, putB, noL, noLs, Sl.own, enumFrom, intsOf, Option.map_some, intsOf_map, List.set_cons_succ, List.set_cons_zero, List.getElem?_cons_succ, List.getElem?_cons_zero, List.getD_cons_succ, List.getD_cons_zero, List.map_cons, List.map_nil, List.tail_cons, List.headD_cons, List.length_cons, List.length_nil, List.length_map, List.length_range, List.nodup_cons, List.nodup_nil, List.not_mem_nil, List.mem_cons, not_false_eq_true, or_false, false_or, or_true, true_or, and_true, true_and, and_self, if_true, if_false, reduceIte, decide_true, decide_false, Bool.not_true, Bool.not_false, Bool.and_true, Bool.true_and, List.cons_append, List.nil_append, List.append_nil, eq_self, reduceCtorEq, List.all_cons, List.all_nil, List.isEmpty_cons, List.isEmpty_nil, Nat.reduceSub, Nat.reduceAdd, Nat.reduceMul, Nat.reduceLT, Nat.reduceLeDiff, Nat.reduceEqDiff, Nat.reduceBEq, Int.reduceAdd, Int.reduceSub, Int.reduceNeg, Int.reduceMul, Int.reduceLT, Int.reduceLE, Int.reduceEq, Int.reducePow, Int.reduceToNat, Int.reduceDiv, Int.reduceMod, Nat.zero_add, Int.ofNat_eq_natCast, Int.cast_ofNat_Int, hx, dk_len, hl, put_dk]
        refine ⟨(ins ac x, _), ⟨by have := ins_len ac x; simp only; omega, ?_⟩, rfl⟩
        have : insO r.given ac x = ins ac x := by unfold insO; rw [if_neg hx]
        rw [← this]; exact j2
    · rintro ⟨ac, s6⟩ ⟨j1, j2⟩
      rw [List.foldl_nil] at j2
      have j2 : ac = _ := j2
      simp only [List.length_nil] at j1
      simp only [↓W0, ↓w_comp_cons, ↓w_for_cons, ↓w_then, W1, List.reduceReplicate, String.reduceEq, List.drop_succ_cons, List.drop_zero, List.drop_nil, q_ls, q_lt_s, wipeR, backR, hideR, hideS, putB, noL, noLs, Sl.own, enumFrom, intsOf, Option.map_some, intsOf_map, List.set_cons_succ, List.set_cons_zero, List.getElem?_cons_succ, List.getElem?_cons_zero, List.getD_cons_succ, List.getD_cons_zero, List.map_cons, List.map_nil, List.tail_cons, List.headD_cons, List.length_cons, List.length_nil, List.length_map, List.length_range, List.nodup_cons, List.nodup_nil, List.not_mem_nil, List.mem_cons, not_false_eq_true, or_false, false_or, or_true, true_or, and_true, true_and, and_self, if_true, if_false, reduceIte, decide_true, decide_false, Bool.not_true, Bool.not_false, Bool.and_true, Bool.true_and, List.cons_append, List.nil_append, List.append_nil, eq_self, reduceCtorEq, List.all_cons, List.all_nil, List.isEmpty_cons, List.isEmpty_nil, Nat.reduceSub, Nat.reduceAdd, Nat.reduceMul, Nat.reduceLT, Nat.reduceLeDiff, Nat.reduceEqDiff, Nat.reduceBEq, Int.reduceAdd, Int.reduceSub, Int.reduceNeg, Int.reduceMul, Int.reduceLT, Int.reduceLE, Int.reduceEq, Int.reducePow, Int.reduceToNat, Int.reduceDiv, Int.reduceMod, Nat.zero_add, Int.ofNat_eq_natCast, Int.cast_ofNat_Int]
      refine ⟨(ac, _, _, _, _), ⟨by simp only; omega, by rw [j2]; exact i2, fun y hy => i3 y (List.mem_cons_of_mem _ hy)⟩, rfl⟩
  · rintro ⟨acc, s3, s4, s5, s6⟩ ⟨i1, i2, _⟩
    have i2 : acc = _ := i2
    have hl : acc.length ≤ 1000 := by simp only at i1; omega
    rw [i2] at hl
    simp only [↓W0, ↓w_comp_cons, ↓w_for_cons, ↓w_then, W1, List.reduceReplicate, String.reduceEq, List.drop_succ_cons, List.drop_zero, List.drop_nil, q_ls, q_lt_s, wipeR, backR, hideR, hideS, putB, noL, noLs, Sl.own, enumFrom, intsOf, Option.map_some, intsOf_map, List.set_cons_succ, List.set_cons_zero, List.getElem?_cons_succ, List.getElem?_cons_zero, List.getD_cons_succ, List.getD_cons_zero, List.map_cons, List.map_nil, List.tail_cons, List.headD_cons, List.length_cons, List.length_nil, List.length_map, List.length_range, List.nodup_cons, List.nodup_nil, List.not_mem_nil, List.mem_cons, not_false_eq_true, or_false, false_or, or_true, true_or, and_true, true_and, and_self, if_true, if_false, reduceIte, decide_true, decide_false, Bool.not_true, Bool.not_false, Bool.and_true, Bool.true_and, List.cons_append, List.nil_append, List.append_nil, eq_self, reduceCtorEq, List.all_cons, List.all_nil, List.isEmpty_cons, List.isEmpty_nil, Nat.reduceSub, Nat.reduceAdd, Nat.reduceMul, Nat.reduceLT, Nat.reduceLeDiff, Nat.reduceEqDiff, Nat.reduceBEq, Int.reduceAdd, Int.reduceSub, Int.reduceNeg, Int.reduceMul, Int.reduceLT, Int.reduceLE, Int.reduceEq, Int.reducePow, Int.reduceToNat, Int.reduceDiv, Int.reduceMod, Nat.zero_add, Int.ofNat_eq_natCast, Int.cast_ofNat_Int, dk_len, i2, hl, ky_dk]
  · rw [e1]; simpa using hs
  · rw [e1]; rfl
  · intro y hy
    refine hz _ ?_
    rw [← e1]
    exact List.mem_map_of_mem hy
theorem l_mentioned_ok {r : Row} (h : r.Sm) : M_l_mentioned [.d r.e] = .ok (.list ((tell r.given r.terms).map .str), [.un]) := by
  obtain ⟨ho, hz, hs⟩ := h
  refine wp_eq ?_
  unfold M_l_mentioned b_l_mentioned
  simp only [↓W0, ↓w_comp_cons, ↓w_for_cons, ↓w_then, W1, List.reduceReplicate, String.reduceEq, List.drop_succ_cons, List.drop_zero, List.drop_nil, q_ls, q_lt_s, wipeR, backR, hideR, hideS, putB, noL, noLs, Sl.own, enumFrom, intsOf, Option.map_some, intsOf_map, List.set_cons_succ, List.set_cons_zero, List.getElem?_cons_succ, List.getElem?_cons_zero, List.getD_cons_succ, List.getD_cons_zero, List.map_cons, List.map_nil, List.tail_cons, List.headD_cons, List.length_cons, List.length_nil, List.length_map, List.length_range, List.nodup_cons, List.nodup_nil, List.not_mem_nil, List.mem_cons, not_false_eq_true, or_false, false_or, or_true, true_or, and_true, true_and, and_self, if_true, if_false, reduceIte, decide_true, decide_false, Bool.not_true, Bool.not_false, Bool.and_true, Bool.true_and, List.cons_append, List.nil_append, List.append_nil, eq_self, reduceCtorEq, List.all_cons, List.all_nil, List.isEmpty_cons, List.isEmpty_nil, Nat.reduceSub, Nat.reduceAdd, Nat.reduceMul, Nat.reduceLT, Nat.reduceLeDiff, Nat.reduceEqDiff, Nat.reduceBEq, Int.reduceAdd, Int.reduceSub, Int.reduceNeg, Int.reduceMul, Int.reduceLT, Int.reduceLE, Int.reduceEq, Int.reducePow, Int.reduceToNat, Int.reduceDiv, Int.reduceMod, Nat.zero_add, Int.ofNat_eq_natCast, Int.cast_ofNat_Int]
  refine wp_of (l_given_ok ho) ?_
  simp only [↓W0, ↓w_comp_cons, ↓w_for_cons, ↓w_then, W1, List.reduceReplicate, String.reduceEq, List.drop_succ_cons, List.drop_zero, List.drop_nil, q_ls, q_lt_s, wipeR, backR, hideR, hideS, putB, noL, noLs, Sl.own, enumFrom, intsOf, Option.map_some, intsOf_map, List.set_cons_succ, List.set_cons_zero, List.getElem?_cons_succ, List.getElem?_cons_zero, List.getD_cons_succ, List.getD_cons_zero, List.map_cons, List.map_nil, List.tail_cons, List.headD_cons, List.length_cons, List.length_nil, List.length_map, List.length_range, List.nodup_cons, List.nodup_nil, List.not_mem_nil, List.mem_cons, not_false_eq_true, or_false, false_or, or_true, true_or, and_true, true_and, and_self, if_true, if_false, reduceIte, decide_true, decide_false, Bool.not_true, Bool.not_false, Bool.and_true, Bool.true_and, List.cons_append, List.nil_append, List.append_nil, eq_self, reduceCtorEq, List.all_cons, List.all_nil, List.isEmpty_cons, List.isEmpty_nil, Nat.reduceSub, Nat.reduceAdd, Nat.reduceMul, Nat.reduceLT, Nat.reduceLeDiff, Nat.reduceEqDiff, Nat.reduceBEq, Int.reduceAdd, Int.reduceSub, Int.reduceNeg, Int.reduceMul, Int.reduceLT, Int.reduceLE, Int.reduceEq, Int.reducePow, Int.reduceToNat, Int.reduceDiv, Int.reduceMod, Nat.zero_add, Int.ofNat_eq_natCast, Int.cast_ofNat_Int]
  refine wp_of (l_terms_ok ho) ?_
  simp only [↓W0, ↓w_comp_cons, ↓w_for_cons, ↓w_then, W1, List.reduceReplicate, String.reduceEq, List.drop_succ_cons, List.drop_zero, List.drop_nil, q_ls, q_lt_s, wipeR, backR, hideR, hideS, putB, noL, noLs, Sl.own, enumFrom, intsOf, Option.map_some, intsOf_map, List.set_cons_succ, List.set_cons_zero, List.getElem?_cons_succ, List.getElem?_cons_zero, List.getD_cons_succ, List.getD_cons_zero, List.map_cons, List.map_nil, List.tail_cons, List.headD_cons, List.length_cons, List.length_nil, List.length_map, List.length_range, List.nodup_cons, List.nodup_nil, List.not_mem_nil, List.mem_cons, not_false_eq_true, or_false, false_or, or_true, true_or, and_true, true_and, and_self, if_true, if_false, reduceIte, decide_true, decide_false, Bool.not_true, Bool.not_false, Bool.and_true, Bool.true_and, List.cons_append, List.nil_append, List.append_nil, eq_self, reduceCtorEq, List.all_cons, List.all_nil, List.isEmpty_cons, List.isEmpty_nil, Nat.reduceSub, Nat.reduceAdd, Nat.reduceMul, Nat.reduceLT, Nat.reduceLeDiff, Nat.reduceEqDiff, Nat.reduceBEq, Int.reduceAdd, Int.reduceSub, Int.reduceNeg, Int.reduceMul, Int.reduceLT, Int.reduceLE, Int.reduceEq, Int.reducePow, Int.reduceToNat, Int.reduceDiv, Int.reduceMod, Nat.zero_add, Int.ofNat_eq_natCast, Int.cast_ofNat_Int]
  refine for_st (α := Tr) (σ := List Str × Sl × Sl) (fun L s => s.1.length + szs L ≤ 900 ∧ (L.flatMap Tr.said).foldl (insO r.given) s.1 = tell r.given r.terms ∧ ∀ y ∈ L, y.sz ≤ 12)
    (fun s => [.d r.e, .d (.list (r.given.map .str)), .l (s.1.map .str), s.2.1, s.2.2]) ?_ ?_ (L := r.terms) (s := ([], .un, .un)) ⟨by simpa using hs, rfl, hz⟩
  · rintro t L ⟨acc, s3, s4⟩ ⟨i1, i2, i3⟩
    have tz : t.sz ≤ 12 := i3 _ List.mem_cons_self
    rw [szs_cons] at i1
    rw [List.flatMap_cons, List.foldl_append] at i2
    simp only at i1 i2
    have := t.said_len
    simp only [↓W0, ↓w_comp_cons, ↓w_for_cons, ↓w_then, W1, List.reduceReplicate, String.reduceEq, List.drop_succ_cons, List.drop_zero, List.drop_nil, q_ls, q_lt_s, wipeR, backR, hideR, hideS, putB, noL, noLs, Sl.own, enumFrom, intsOf, Option.map_some, intsOf_map, List.set_cons_succ, List.set_cons_zero, List.getElem?_cons_succ, List.getElem?_cons_zero, List.getD_cons_succ, List.getD_cons_zero, List.map_cons, List.map_nil, List.tail_cons, List.headD_cons, List.length_cons, List.length_nil, List.length_map, List.length_range, List.nodup_cons, List.nodup_nil, List.not_mem_nil, List.mem_cons, not_false_eq_true, or_false, false_or, or_true, true_or, and_true, true_and, and_self, if_true, if_false, reduceIte, decide_true, decide_false, Bool.not_true, Bool.not_false, Bool.and_true, Bool.true_and, List.cons_append, List.nil_append, List.append_nil, eq_self, reduceCtorEq, List.all_cons, List.all_nil, List.isEmpty_cons, List.isEmpty_nil, Nat.reduceSub, Nat.reduceAdd, Nat.reduceMul, Nat.reduceLT, Nat.reduceLeDiff, Nat.reduceEqDiff, Nat.reduceBEq, Int.reduceAdd, Int.reduceSub, Int.reduceNeg, Int.reduceMul, Int.reduceLT, Int.reduceLE, Int.reduceEq, Int.reducePow, Int.reduceToNat, Int.reduceDiv, Int.reduceMod, Nat.zero_add, Int.ofNat_eq_natCast, Int.cast_ofNat_Int]
    refine wp_of (said_ok 12 t tz (by omega)) ?_
    simp only [↓W0, ↓w_comp_cons, ↓w_for_cons, ↓w_then, W1, List.reduceReplicate, String.reduceEq, List.drop_succ_cons, List.drop_zero, List.drop_nil, q_ls, q_lt_s, wipeR, backR, hideR, hideS, putB, noL, noLs, Sl.own, enumFrom, intsOf, Option.map_some, intsOf_map, List.set_cons_succ, List.set_cons_zero, List.getElem?_cons_succ, List.getElem?_cons_zero, List.getD_cons_succ, List.getD_cons_zero, List.map_cons, List.map_nil, List.tail_cons, List.headD_cons, List.length_cons, List.length_nil, List.length_map, List.length_range, List.nodup_cons, List.nodup_nil, List.not_mem_nil, List.mem_cons, not_false_eq_true, or_false, false_or, or_true, true_or, and_true, true_and, and_self, if_true, if_false, reduceIte, decide_true, decide_false, Bool.not_true, Bool.not_false, Bool.and_true, Bool.true_and, List.cons_append, List.nil_append, List.append_nil, eq_self, reduceCtorEq, List.all_cons, List.all_nil, List.isEmpty_cons, List.isEmpty_nil, Nat.reduceSub, Nat.reduceAdd, Nat.reduceMul, Nat.reduceLT, Nat.reduceLeDiff, Nat.reduceEqDiff, Nat.reduceBEq, Int.reduceAdd, Int.reduceSub, Int.reduceNeg, Int.reduceMul, Int.reduceLT, Int.reduceLE, Int.reduceEq, Int.reducePow, Int.reduceToNat, Int.reduceDiv, Int.reduceMod, Nat.zero_add, Int.ofNat_eq_natCast, Int.cast_ofNat_Int]
    refine for_st (α := Str) (σ := List Str × Sl) (fun L s => s.1.length + L.length ≤ acc.length + t.sz ∧ L.foldl (insO r.given) s.1 = t.said.foldl (insO r.given) acc)
      (fun s => [.d r.e, .d (.list (r.given.map .str)), .l (s.1.map .str), .d t.e, s.2]) ?_ ?_ (L := t.said) (s := (acc, s4)) ⟨by simp only; omega, rfl⟩
    · rintro x M ⟨ac, s6⟩ ⟨j1, j2⟩
      rw [List.length_cons] at j1
      rw [List.foldl_cons] at j2
      simp only at j1 j2
      have hl : ac.length < 1000 := by omega
      simp only [↓W0, ↓w_comp_cons, ↓w_for_cons, ↓w_then, W1, List.reduceReplicate, String.reduceEq, List.drop_succ_cons, List.drop_zero, List.drop_nil, q_ls, q_lt_s, wipeR, backR, hideR, hideS, putB, noL, noLs, Sl.own, enumFrom, intsOf, Option.map_some, intsOf_map, List.set_cons_succ, List.set_cons_zero, List.getElem?_cons_succ, List.getElem?_cons_zero, List.getD_cons_succ, List.getD_cons_zero, List.map_cons, List.map_nil, List.tail_cons, List.headD_cons, List.length_cons, List.length_nil, List.length_map, List.length_range, List.nodup_cons, List.nodup_nil, List.not_mem_nil, List.mem_cons, not_false_eq_true, or_false, false_or, or_true, true_or, and_true, true_and, and_self, if_true, if_false, reduceIte, decide_true, decide_false, Bool.not_true, Bool.not_false, Bool.and_true, Bool.true_and, List.cons_append, List.nil_append, List.append_nil, eq_self, reduceCtorEq, List.all_cons, List.all_nil, List.isEmpty_cons, List.isEmpty_nil, Nat.reduceSub, Nat.reduceAdd, Nat.reduceMul, Nat.reduceLT, Nat.reduceLeDiff, Nat.reduceEqDiff, Nat.reduceBEq, Int.reduceAdd, Int.reduceSub, Int.reduceNeg, Int.reduceMul, Int.reduceLT, Int.reduceLE, Int.reduceEq, Int.reducePow, Int.reduceToNat, Int.reduceDiv, Int.reduceMod, Nat.zero_add, Int.ofNat_eq_natCast, Int.cast_ofNat_Int]
      by_cases hx : x ∈ r.given
      · simp only [↓W0, ↓w_comp_cons, ↓w_for_cons, ↓w_then, W1, List.reduceReplicate, String.reduceEq, List.drop_succ_cons, List.drop_zero, List.drop_nil, q_ls, q_lt_s, wipeR, backR, hideR, hideS, putB, noL, noLs, Sl.own, enumFrom, intsOf, Option.map_some, intsOf_map, List.set_cons_succ, List.set_cons_zero, List.getElem?_cons_succ, List.getElem?_cons_zero, List.getD_cons_succ, List.getD_cons_zero, List.map_cons, List.map_nil, List.tail_cons, List.headD_cons, List.length_cons, List.length_nil, List.length_map, List.length_range, List.nodup_cons, List.nodup_nil, List.not_mem_nil, List.mem_cons, not_false_eq_true, or_false, false_or, or_true, true_or, and_true, true_and, and_self, if_true, if_false, reduceIte, decide_true, decide_false, Bool.not_true, Bool.not_false, Bool.and_true, Bool.true_and, List.cons_append, List.nil_append, List.append_nil, eq_self, reduceCtorEq, List.all_cons, List.all_nil, List.isEmpty_cons, List.isEmpty_nil, Nat.reduceSub, Nat.reduceAdd, Nat.reduceMul, Nat.reduceLT, Nat.reduceLeDiff, Nat.reduceEqDiff, Nat.reduceBEq, Int.reduceAdd, Int.reduceSub, Int.reduceNeg, Int.reduceMul, Int.reduceLT, Int.reduceLE, Int.reduceEq, Int.reducePow, Int.reduceToNat, Int.reduceDiv, Int.reduceMod, Nat.zero_add, Int.ofNat_eq_natCast, Int.cast_ofNat_Int, hx]
        exact ⟨(ac, _), ⟨by simp only; omega, by rw [← j2, insO_id (.inl hx)]⟩, rfl⟩
      · simp only [↓W0, ↓w_comp_cons, ↓w_for_cons, ↓w_then, W1, List.reduceReplicate, String.reduceEq, List.drop_succ_cons, List.drop_zero, List.drop_nil, q_ls, q_lt_s, wipeR, backR, hideR, hideS, putB, noL, noLs, Sl.own, enumFrom, intsOf, Option.map_some, intsOf_map, List.set_cons_succ, List.set_cons_zero, List.getElem?_cons_succ, List.getElem?_cons_zero, List.getD_cons_succ, List.getD_cons_zero, List.map_cons, List.map_nil, List.tail_cons, List.headD_cons, List.length_cons, List.length_nil, List.length_map, List.length_range, List.nodup_cons, List.nodup_nil, List.not_mem_nil, List.mem_cons, not_false_eq_true, or_false, false_or, or_true, true_or, and_true, true_and, and_self, if_true, if_false, reduceIte, decide_true, decide_false, Bool.not_true, Bool.not_false, Bool.and_true, Bool.true_and, List.cons_append, List.nil_append, List.append_nil, eq_self, reduceCtorEq, List.all_cons, List.all_nil, List.isEmpty_cons, List.isEmpty_nil, Nat.reduceSub, Nat.reduceAdd, Nat.reduceMul, Nat.reduceLT, Nat.reduceLeDiff, Nat.reduceEqDiff, Nat.reduceBEq, Int.reduceAdd, Int.reduceSub, Int.reduceNeg, Int.reduceMul, Int.reduceLT, Int.reduceLE, Int.reduceEq, Int.reducePow, Int.reduceToNat, Int.reduceDiv, Int.reduceMod, Nat.zero_add, Int.ofNat_eq_natCast, Int.cast_ofNat_Int, hx]
        by_cases hy : x ∈ ac
        · simp only [↓W0, ↓w_comp_cons, ↓w_for_cons, ↓w_then, W1, List.reduceReplicate, String.reduceEq, List.drop_succ_cons, List.drop_zero, List.drop_nil, q_ls, q_lt_s, wipeR, backR, hideR, hideS, putB, noL, noLs, Sl.own, enumFrom, intsOf, Option.map_some, intsOf_map, List.set_cons_succ, List.set_cons_zero, List.getElem?_cons_succ, List.getElem?_cons_zero, List.getD_cons_succ, List.getD_cons_zero, List.map_cons, List.map_nil, List.tail_cons, List.headD_cons, List.length_cons, List.length_nil, List.length_map, List.length_range, List.nodup_cons, List.nodup_nil, List.not_mem_nil, List.mem_cons, not_false_eq_true, or_false, false_or, or_true, true_or, and_true, true_and, and_self, if_true, if_false, reduceIte, decide_true, decide_false, Bool.not_true, Bool.not_false, Bool.and_true, Bool.true_and, List.cons_append, List.nil_append, List.append_nil, eq_self, reduceCtorEq, List.all_cons, List.all_nil, List.isEmpty_cons, List.isEmpty_nil, Nat.reduceSub, Nat.reduceAdd, Nat.reduceMul, Nat.reduceLT, Nat.reduceLeDiff, Nat.reduceEqDiff, Nat.reduceBEq, Int.reduceAdd, Int.reduceSub, Int.reduceNeg, Int.reduceMul, Int.reduceLT, Int.reduceLE, Int.reduceEq, Int.reducePow, Int.reduceToNat, Int.reduceDiv, Int.reduceMod, Nat.zero_add, Int.ofNat_eq_natCast, Int.cast_ofNat_Int, hy]
          exact ⟨(ac, _), ⟨by simp only; omega, by rw [← j2, insO_id (.inr hy)]⟩, rfl⟩
        · simp only [↓W0, ↓w_comp_cons, ↓w_for_cons, ↓w_then, W1, List.reduceReplicate, String.reduceEq, List.drop_succ_cons, List.drop_zero, List.drop_nil, q_ls, q_lt_s, wipeR, backR, hideR, hideS, putB, noL, noLs, Sl.own, enumFrom, intsOf, Option.map_some, intsOf_map, List.set_cons_succ, List.set_cons_zero, List.getElem?_cons_succ, List.getElem?_cons_zero, List.getD_cons_succ, List.getD_cons_zero, List.map_cons, List.map_nil, List.tail_cons, List.headD_cons, List.length_cons, List.length_nil, List.length_map, List.length_range, List.nodup_cons, List.nodup_nil, List.not_mem_nil, List.mem_cons, not_false_eq_true, or_false, false_or, or_true, true_or, and_true, true_and, and_self, if_true, if_false, reduceIte, decide_true, decide_false, Bool.not_true, Bool.not_false, Bool.and_true, Bool.true_and, List.cons_append, List.nil_append, List.append_nil, eq_self, reduceCtorEq, List.all_cons, List.all_nil, List.isEmpty_cons, List.isEmpty_nil, Nat.reduceSub, Nat.reduceAdd, Nat.reduceMul, Nat.reduceLT, Nat.reduceLeDiff, Nat.reduceEqDiff, Nat.reduceBEq, Int.reduceAdd, Int.reduceSub, Int.reduceNeg, Int.reduceMul, Int.reduceLT, Int.reduceLE, Int.reduceEq, Int.reducePow, Int.reduceToNat, Int.reduceDiv, Int.reduceMod, Nat.zero_add, Int.ofNat_eq_natCast, Int.cast_ofNat_Int, hy, hl]
          refine ⟨(ac ++ [x], _), ⟨by simp only [List.length_append, List.length_cons, List.length_nil]; omega, ?_⟩, by rw [List.map_append]; rfl⟩
          have : insO r.given ac x = ac ++ [x] := by unfold insO ins; rw [if_neg hx, if_neg hy]
          rw [← this]; exact j2
    · rintro ⟨ac, s6⟩ ⟨j1, j2⟩
      rw [List.foldl_nil] at j2
      have j2 : ac = _ := j2
      simp only [List.length_nil] at j1
      simp only [↓W0, ↓w_comp_cons, ↓w_for_cons, ↓w_then, W1, List.reduceReplicate, String.reduceEq, List.drop_succ_cons, List.drop_zero, List.drop_nil, q_ls, q_lt_s, wipeR, backR, hideR, hideS, putB, noL, noLs, Sl.own, enumFrom, intsOf, Option.map_some, intsOf_map, List.set_cons_succ, List.set_cons_zero, List.getElem?_cons_succ, List.getElem?_cons_zero, List.getD_cons_succ, List.getD_cons_zero, List.map_cons, List.map_nil, List.tail_cons, List.headD_cons, List.length_cons, List.length_nil, List.length_map, List.length_range, List.nodup_cons, List.nodup_nil, List.not_mem_nil, List.mem_cons, not_false_eq_true, or_false, false_or, or_true, true_or, and_true, true_and, and_self, if_true, if_false, reduceIte, decide_true, decide_false, Bool.not_true, Bool.not_false, Bool.and_true, Bool.true_and, List.cons_append, List.nil_append, List.append_nil, eq_self, reduceCtorEq, List.all_cons, List.all_nil, List.isEmpty_cons, List.isEmpty_nil, Nat.reduceSub, Nat.reduceAdd, Nat.reduceMul, Nat.reduceLT, Nat.reduceLeDiff, Nat.reduceEqDiff, Nat.reduceBEq, Int.reduceAdd, Int.reduceSub, Int.reduceNeg, Int.reduceMul, Int.reduceLT, Int.reduceLE, Int.reduceEq, Int.reducePow, Int.reduceToNat, Int.reduceDiv, Int.reduceMod, Nat.zero_add, Int.ofNat_eq_natCast, Int.cast_ofNat_Int]
      refine ⟨(ac, _, _), ⟨by simp only; omega, by rw [j2]; exact i2, fun y hy => i3 y (List.mem_cons_of_mem _ hy)⟩, rfl⟩
  · rintro ⟨acc, s3, s4⟩ ⟨i1, i2, _⟩
    have i2 : acc = _ := i2
    simp only [↓W0, ↓w_comp_cons, ↓w_for_cons, ↓w_then, W1, List.reduceReplicate, String.reduceEq, List.drop_succ_cons, List.drop_zero, List.drop_nil, q_ls, q_lt_s, wipeR, backR, hideR, hideS, putB, noL, noLs, Sl.own, enumFrom, intsOf, Option.map_some, intsOf_map, List.set_cons_succ, List.set_cons_zero, List.getElem?_cons_succ, List.getElem?_cons_zero, List.getD_cons_succ, List.getD_cons_zero, List.map_cons, List.map_nil, List.tail_cons, List.headD_cons, List.length_cons, List.length_nil, List.length_map, List.length_range, List.nodup_cons, List.nodup_nil, List.not_mem_nil, List.mem_cons, not_false_eq_true, or_false, false_or, or_true, true_or, and_true, true_and, and_self, if_true, if_false, reduceIte, decide_true, decide_false, Bool.not_true, Bool.not_false, Bool.and_true, Bool.true_and, List.cons_append, List.nil_append, List.append_nil, eq_self, reduceCtorEq, List.all_cons, List.all_nil, List.isEmpty_cons, List.isEmpty_nil, Nat.reduceSub, Nat.reduceAdd, Nat.reduceMul, Nat.reduceLT, Nat.reduceLeDiff, Nat.reduceEqDiff, Nat.reduceBEq, Int.reduceAdd, Int.reduceSub, Int.reduceNeg, Int.reduceMul, Int.reduceLT, Int.reduceLE, Int.reduceEq, Int.reducePow, Int.reduceToNat, Int.reduceDiv, Int.reduceMod, Nat.zero_add, Int.ofNat_eq_natCast, Int.cast_ofNat_Int, i2]

end DL

namespace DL
open PySem PySem.Spec PyProof.Rows L2
/-! draws -/
theorem txt_len {i : Int} (h0 : 0 ≤ i) (h1 : i < 20) : (Str.ofString (toString i)).length ≤ 2 ∧ i.natAbs.log2 < 1920 := by
  have : ∀ n : Fin 20, (Str.ofString (toString (n.val : Int))).length ≤ 2 ∧ ((n.val : Int)).natAbs.log2 < 1920 := by decide +kernel
  have := this ⟨i.toNat, by omega⟩
  have e : ((i.toNat : Nat) : Int) = i := by omega
  simp only [e] at this
  exact this
theorem len_q : Str.length (Str.ofString "q") = 1 := by decide +kernel
theorem len_z : Str.length (Str.ofString "z") = 1 := by decide +kernel
theorem len_one {c : Nat} : Str.length ⟨#[c]⟩ = 1 := rfl
theorem len_a1 : Str.length (Str.ofString "bcdeghjkmnopqrtvwyz") = 19 := by decide +kernel
theorem len_a2 : Str.length (Str.ofString "abcdefghijklmnopqrstuvwxyz0123456789") = 36 := by decide +kernel
theorem name_ok {dr : List D} {tk : List Str} {Q : D → R → Prop} (h : DrOk dr) (hl : tk.length ≤ 12) (k : ∀ (s : Str) dr', DrOk dr' → s.length ≤ 100 → Q (.str s) [.l dr', .l ((tk ++ [s]).map .str)]) : Wp (M_l_name [.l dr, .l (tk.map .str)]) Q := by
  unfold M_l_name b_l_name
  simp only [↓W0, ↓w_then, W1, List.reduceReplicate, String.reduceEq, List.drop_succ_cons, List.drop_zero, List.drop_nil, q_ls, q_lt_s, wipeR, backR, hideR, hideS, putB, noL, noLs, Sl.own, enumFrom, intsOf, Option.map_some, intsOf_map, List.set_cons_succ, List.set_cons_zero, List.getElem?_cons_succ, List.getElem?_cons_zero, List.getD_cons_succ, List.getD_cons_zero, List.map_cons, List.map_nil, List.tail_cons, List.headD_cons, List.length_cons, List.length_nil, List.length_map, List.length_range, List.nodup_cons, List.nodup_nil, List.not_mem_nil, List.mem_cons, not_false_eq_true, or_false, false_or, or_true, true_or, and_true, true_and, and_self, if_true, if_false, reduceIte, decide_true, decide_false, Bool.not_true, Bool.not_false, Bool.and_true, Bool.true_and, List.cons_append, List.nil_append, List.append_nil, eq_self, reduceCtorEq, List.all_cons, List.all_nil, List.isEmpty_cons, List.isEmpty_nil, Nat.reduceSub, Nat.reduceAdd, Nat.reduceMul, Nat.reduceLT, Nat.reduceLeDiff, Nat.reduceEqDiff, Nat.reduceBEq, Int.reduceAdd, Int.reduceSub, Int.reduceNeg, Int.reduceMul, Int.reduceLT, Int.reduceLE, Int.reduceEq, Int.reducePow, Int.reduceToNat, Int.reduceDiv, Int.reduceMod, Nat.zero_add, Int.ofNat_eq_natCast, Int.cast_ofNat_Int]
  refine one_okS h (by rw [len_a1]; decide) (by rw [len_a1]; decide) fun c dr1 h1 _ => ?_
  simp only [↓W0, ↓w_then, W1, List.reduceReplicate, String.reduceEq, List.drop_succ_cons, List.drop_zero, List.drop_nil, q_ls, q_lt_s, wipeR, backR, hideR, hideS, putB, noL, noLs, Sl.own, enumFrom, intsOf, Option.map_some, intsOf_map, List.set_cons_succ, List.set_cons_zero, List.getElem?_cons_succ, List.getElem?_cons_zero, List.getD_cons_succ, List.getD_cons_zero, List.map_cons, List.map_nil, List.tail_cons, List.headD_cons, List.length_cons, List.length_nil, List.length_map, List.length_range, List.nodup_cons, List.nodup_nil, List.not_mem_nil, List.mem_cons, not_false_eq_true, or_false, false_or, or_true, true_or, and_true, true_and, and_self, if_true, if_false, reduceIte, decide_true, decide_false, Bool.not_true, Bool.not_false, Bool.and_true, Bool.true_and, List.cons_append, List.nil_append, List.append_nil, eq_self, reduceCtorEq, List.all_cons, List.all_nil, List.isEmpty_cons, List.isEmpty_nil, Nat.reduceSub, Nat.reduceAdd, Nat.reduceMul, Nat.reduceLT, Nat.reduceLeDiff, Nat.reduceEqDiff, Nat.reduceBEq, Int.reduceAdd, Int.reduceSub, Int.reduceNeg, Int.reduceMul, Int.reduceLT, Int.reduceLE, Int.reduceEq, Int.reducePow, Int.reduceToNat, Int.reduceDiv, Int.reduceMod, Nat.zero_add, Int.ofNat_eq_natCast, Int.cast_ofNat_Int]
  refine pick_lt h1 (by omega) (by omega) fun r dr2 h2 r0 r1 => ?_
  have : ∃ m : Int, 0 ≤ m ∧ m ≤ 5 ∧ atI [PyData.int 0, .int 1, .int 2, .int 3, .int 5] r = some (.int m) := by
    have : r = 0 ∨ r = 1 ∨ r = 2 ∨ r = 3 ∨ r = 4 := by omega
    rcases this with rfl | rfl | rfl | rfl | rfl
    · exact ⟨0, by omega, by omega, rfl⟩
    · exact ⟨1, by omega, by omega, rfl⟩
    · exact ⟨2, by omega, by omega, rfl⟩
    · exact ⟨3, by omega, by omega, rfl⟩
    · exact ⟨5, by omega, by omega, rfl⟩
  obtain ⟨m, m0, m1, em⟩ := this
  have er := range_ok m0 (by omega)
  simp only [↓W0, ↓w_then, W1, List.reduceReplicate, String.reduceEq, List.drop_succ_cons, List.drop_zero, List.drop_nil, q_ls, q_lt_s, wipeR, backR, hideR, hideS, putB, noL, noLs, Sl.own, enumFrom, intsOf, Option.map_some, intsOf_map, List.set_cons_succ, List.set_cons_zero, List.getElem?_cons_succ, List.getElem?_cons_zero, List.getD_cons_succ, List.getD_cons_zero, List.map_cons, List.map_nil, List.tail_cons, List.headD_cons, List.length_cons, List.length_nil, List.length_map, List.length_range, List.nodup_cons, List.nodup_nil, List.not_mem_nil, List.mem_cons, not_false_eq_true, or_false, false_or, or_true, true_or, and_true, true_and, and_self, if_true, if_false, reduceIte, decide_true, decide_false, Bool.not_true, Bool.not_false, Bool.and_true, Bool.true_and, List.cons_append, List.nil_append, List.append_nil, eq_self, reduceCtorEq, List.all_cons, List.all_nil, List.isEmpty_cons, List.isEmpty_nil, Nat.reduceSub, Nat.reduceAdd, Nat.reduceMul, Nat.reduceLT, Nat.reduceLeDiff, Nat.reduceEqDiff, Nat.reduceBEq, Int.reduceAdd, Int.reduceSub, Int.reduceNeg, Int.reduceMul, Int.reduceLT, Int.reduceLE, Int.reduceEq, Int.reducePow, Int.reduceToNat, Int.reduceDiv, Int.reduceMod, Nat.zero_add, Int.ofNat_eq_natCast, Int.cast_ofNat_Int]
  refine o_of em ?_
  simp only [↓W0, ↓w_then, W1, List.reduceReplicate, String.reduceEq, List.drop_succ_cons, List.drop_zero, List.drop_nil, q_ls, q_lt_s, wipeR, backR, hideR, hideS, putB, noL, noLs, Sl.own, enumFrom, intsOf, Option.map_some, intsOf_map, List.set_cons_succ, List.set_cons_zero, List.getElem?_cons_succ, List.getElem?_cons_zero, List.getD_cons_succ, List.getD_cons_zero, List.map_cons, List.map_nil, List.tail_cons, List.headD_cons, List.length_cons, List.length_nil, List.length_map, List.length_range, List.nodup_cons, List.nodup_nil, List.not_mem_nil, List.mem_cons, not_false_eq_true, or_false, false_or, or_true, true_or, and_true, true_and, and_self, if_true, if_false, reduceIte, decide_true, decide_false, Bool.not_true, Bool.not_false, Bool.and_true, Bool.true_and, List.cons_append, List.nil_append, List.append_nil, eq_self, reduceCtorEq, List.all_cons, List.all_nil, List.isEmpty_cons, List.isEmpty_nil, Nat.reduceSub, Nat.reduceAdd, Nat.reduceMul, Nat.reduceLT, Nat.reduceLeDiff, Nat.reduceEqDiff, Nat.reduceBEq, Int.reduceAdd, Int.reduceSub, Int.reduceNeg, Int.reduceMul, Int.reduceLT, Int.reduceLE, Int.reduceEq, Int.reducePow, Int.reduceToNat, Int.reduceDiv, Int.reduceMod, Nat.zero_add, Int.ofNat_eq_natCast, Int.cast_ofNat_Int, er]
  refine for_st (α := Nat) (σ := List D × Str × Sl) (fun L s => DrOk s.1 ∧ s.2.1.length + L.length ≤ 20) (fun s => [.l s.1, .l (tk.map .str), .d (.str s.2.1), s.2.2]) ?_ ?_ (L := List.range m.toNat) (s := (dr2, ⟨#[c]⟩, .un)) ⟨h2, by rw [List.length_range, len_one]; omega⟩
  · rintro x L ⟨dr, nm, s3⟩ ⟨hd, hn⟩
    rw [List.length_cons] at hn
    simp only at hd hn
    have a1 : nm.length + 1 ≤ 1000 := by omega
    simp only [↓W0, ↓w_then, W1, List.reduceReplicate, String.reduceEq, List.drop_succ_cons, List.drop_zero, List.drop_nil, q_ls, q_lt_s, wipeR, backR, hideR, hideS, putB, noL, noLs, Sl.own, enumFrom, intsOf, Option.map_some, intsOf_map, List.set_cons_succ, List.set_cons_zero, List.getElem?_cons_succ, List.getElem?_cons_zero, List.getD_cons_succ, List.getD_cons_zero, List.map_cons, List.map_nil, List.tail_cons, List.headD_cons, List.length_cons, List.length_nil, List.length_map, List.length_range, List.nodup_cons, List.nodup_nil, List.not_mem_nil, List.mem_cons, not_false_eq_true, or_false, false_or, or_true, true_or, and_true, true_and, and_self, if_true, if_false, reduceIte, decide_true, decide_false, Bool.not_true, Bool.not_false, Bool.and_true, Bool.true_and, List.cons_append, List.nil_append, List.append_nil, eq_self, reduceCtorEq, List.all_cons, List.all_nil, List.isEmpty_cons, List.isEmpty_nil, Nat.reduceSub, Nat.reduceAdd, Nat.reduceMul, Nat.reduceLT, Nat.reduceLeDiff, Nat.reduceEqDiff, Nat.reduceBEq, Int.reduceAdd, Int.reduceSub, Int.reduceNeg, Int.reduceMul, Int.reduceLT, Int.reduceLE, Int.reduceEq, Int.reducePow, Int.reduceToNat, Int.reduceDiv, Int.reduceMod, Nat.zero_add, Int.ofNat_eq_natCast, Int.cast_ofNat_Int]
    refine one_okS hd (by rw [len_a2]; decide) (by rw [len_a2]; decide) fun c dr1 h1 _ => ?_
    simp only [↓W0, ↓w_then, W1, List.reduceReplicate, String.reduceEq, List.drop_succ_cons, List.drop_zero, List.drop_nil, q_ls, q_lt_s, wipeR, backR, hideR, hideS, putB, noL, noLs, Sl.own, enumFrom, intsOf, Option.map_some, intsOf_map, List.set_cons_succ, List.set_cons_zero, List.getElem?_cons_succ, List.getElem?_cons_zero, List.getD_cons_succ, List.getD_cons_zero, List.map_cons, List.map_nil, List.tail_cons, List.headD_cons, List.length_cons, List.length_nil, List.length_map, List.length_range, List.nodup_cons, List.nodup_nil, List.not_mem_nil, List.mem_cons, not_false_eq_true, or_false, false_or, or_true, true_or, and_true, true_and, and_self, if_true, if_false, reduceIte, decide_true, decide_false, Bool.not_true, Bool.not_false, Bool.and_true, Bool.true_and, List.cons_append, List.nil_append, List.append_nil, eq_self, reduceCtorEq, List.all_cons, List.all_nil, List.isEmpty_cons, List.isEmpty_nil, Nat.reduceSub, Nat.reduceAdd, Nat.reduceMul, Nat.reduceLT, Nat.reduceLeDiff, Nat.reduceEqDiff, Nat.reduceBEq, Int.reduceAdd, Int.reduceSub, Int.reduceNeg, Int.reduceMul, Int.reduceLT, Int.reduceLE, Int.reduceEq, Int.reducePow, Int.reduceToNat, Int.reduceDiv, Int.reduceMod, Nat.zero_add, Int.ofNat_eq_natCast, Int.cast_ofNat_Int, len_one, a1]
    exact ⟨(dr1, nm ++ ⟨#[c]⟩, _), ⟨h1, by rw [len_app, len_one]; omega⟩, rfl⟩
  rintro ⟨dr3, nm, s3⟩ hh
  have hn : nm.length ≤ 20 := hh.2
  have h3 : DrOk dr3 := hh.1
  have er := range_ok (i := tk.length + 1) (by omega) (by omega)
  simp only [↓W0, ↓w_then, W1, List.reduceReplicate, String.reduceEq, List.drop_succ_cons, List.drop_zero, List.drop_nil, q_ls, q_lt_s, wipeR, backR, hideR, hideS, putB, noL, noLs, Sl.own, enumFrom, intsOf, Option.map_some, intsOf_map, List.set_cons_succ, List.set_cons_zero, List.getElem?_cons_succ, List.getElem?_cons_zero, List.getD_cons_succ, List.getD_cons_zero, List.map_cons, List.map_nil, List.tail_cons, List.headD_cons, List.length_cons, List.length_nil, List.length_map, List.length_range, List.nodup_cons, List.nodup_nil, List.not_mem_nil, List.mem_cons, not_false_eq_true, or_false, false_or, or_true, true_or, and_true, true_and, and_self, if_true, if_false, reduceIte, decide_true, decide_false, Bool.not_true, Bool.not_false, Bool.and_true, Bool.true_and, List.cons_append, List.nil_append, List.append_nil, eq_self, reduceCtorEq, List.all_cons, List.all_nil, List.isEmpty_cons, List.isEmpty_nil, Nat.reduceSub, Nat.reduceAdd, Nat.reduceMul, Nat.reduceLT, Nat.reduceLeDiff, Nat.reduceEqDiff, Nat.reduceBEq, Int.reduceAdd, Int.reduceSub, Int.reduceNeg, Int.reduceMul, Int.reduceLT, Int.reduceLE, Int.reduceEq, Int.reducePow, Int.reduceToNat, Int.reduceDiv, Int.reduceMod, Nat.zero_add, Int.ofNat_eq_natCast, Int.cast_ofNat_Int]
  simp only [↓W0, ↓w_then, W1, List.reduceReplicate, String.reduceEq, List.drop_succ_cons, List.drop_zero, List.drop_nil, q_ls, q_lt_s, wipeR, backR, hideR, hideS, putB, noL, noLs, Sl.own, enumFrom, intsOf, Option.map_some, intsOf_map, List.set_cons_succ, List.set_cons_zero, List.getElem?_cons_succ, List.getElem?_cons_zero, List.getD_cons_succ, List.getD_cons_zero, List.map_cons, List.map_nil, List.tail_cons, List.headD_cons, List.length_cons, List.length_nil, List.length_map, List.length_range, List.nodup_cons, List.nodup_nil, List.not_mem_nil, List.mem_cons, not_false_eq_true, or_false, false_or, or_true, true_or, and_true, true_and, and_self, if_true, if_false, reduceIte, decide_true, decide_false, Bool.not_true, Bool.not_false, Bool.and_true, Bool.true_and, List.cons_append, List.nil_append, List.append_nil, eq_self, reduceCtorEq, List.all_cons, List.all_nil, List.isEmpty_cons, List.isEmpty_nil, Nat.reduceSub, Nat.reduceAdd, Nat.reduceMul, Nat.reduceLT, Nat.reduceLeDiff, Nat.reduceEqDiff, Nat.reduceBEq, Int.reduceAdd, Int.reduceSub, Int.reduceNeg, Int.reduceMul, Int.reduceLT, Int.reduceLE, Int.reduceEq, Int.reducePow, Int.reduceToNat, Int.reduceDiv, Int.reduceMod, Nat.zero_add, Int.ofNat_eq_natCast, Int.cast_ofNat_Int, er]
  obtain ⟨b1, b2⟩ := txt_len (i := (tk.length : Nat)) (by omega) (by omega)
  refine for_st (α := Nat) (σ := Str × Sl) (fun L s => s.1.length ≤ 20 ∧ ∀ x ∈ L, x ≤ tk.length) (fun s => [.l dr3, .l (tk.map .str), .d (.str s.1), s.2]) ?_ ?_ (L := List.range ((tk.length : Int) + 1).toNat) (s := (nm, s3)) ⟨by simp only; omega, fun x hx => by rw [List.mem_range] at hx; omega⟩
  · rintro x L ⟨nm, s3⟩ ⟨hn, hx⟩
    have hx0 := hx x List.mem_cons_self
    simp only at hn
    obtain ⟨c1, c2⟩ := txt_len (i := (x : Nat)) (by omega) (by omega)
    simp only [↓W0, ↓w_then, W1, List.reduceReplicate, String.reduceEq, List.drop_succ_cons, List.drop_zero, List.drop_nil, q_ls, q_lt_s, wipeR, backR, hideR, hideS, putB, noL, noLs, Sl.own, enumFrom, intsOf, Option.map_some, intsOf_map, List.set_cons_succ, List.set_cons_zero, List.getElem?_cons_succ, List.getElem?_cons_zero, List.getD_cons_succ, List.getD_cons_zero, List.map_cons, List.map_nil, List.tail_cons, List.headD_cons, List.length_cons, List.length_nil, List.length_map, List.length_range, List.nodup_cons, List.nodup_nil, List.not_mem_nil, List.mem_cons, not_false_eq_true, or_false, false_or, or_true, true_or, and_true, true_and, and_self, if_true, if_false, reduceIte, decide_true, decide_false, Bool.not_true, Bool.not_false, Bool.and_true, Bool.true_and, List.cons_append, List.nil_append, List.append_nil, eq_self, reduceCtorEq, List.all_cons, List.all_nil, List.isEmpty_cons, List.isEmpty_nil, Nat.reduceSub, Nat.reduceAdd, Nat.reduceMul, Nat.reduceLT, Nat.reduceLeDiff, Nat.reduceEqDiff, Nat.reduceBEq, Int.reduceAdd, Int.reduceSub, Int.reduceNeg, Int.reduceMul, Int.reduceLT, Int.reduceLE, Int.reduceEq, Int.reducePow, Int.reduceToNat, Int.reduceDiv, Int.reduceMod, Nat.zero_add, Int.ofNat_eq_natCast, Int.cast_ofNat_Int]
    by_cases hm : nm ∈ tk
    · simp only [↓W0, ↓w_then, W1, List.reduceReplicate, String.reduceEq, List.drop_succ_cons, List.drop_zero, List.drop_nil, q_ls, q_lt_s, wipeR, backR, hideR, hideS, putB, noL, noLs, Sl.own, enumFrom, intsOf, Option.map_some, intsOf_map, List.set_cons_succ, List.set_cons_zero, List.getElem?_cons_succ, List.getElem?_cons_zero, List.getD_cons_succ, List.getD_cons_zero, List.map_cons, List.map_nil, List.tail_cons, List.headD_cons, List.length_cons, List.length_nil, List.length_map, List.length_range, List.nodup_cons, List.nodup_nil, List.not_mem_nil, List.mem_cons, not_false_eq_true, or_false, false_or, or_true, true_or, and_true, true_and, and_self, if_true, if_false, reduceIte, decide_true, decide_false, Bool.not_true, Bool.not_false, Bool.and_true, Bool.true_and, List.cons_append, List.nil_append, List.append_nil, eq_self, reduceCtorEq, List.all_cons, List.all_nil, List.isEmpty_cons, List.isEmpty_nil, Nat.reduceSub, Nat.reduceAdd, Nat.reduceMul, Nat.reduceLT, Nat.reduceLeDiff, Nat.reduceEqDiff, Nat.reduceBEq, Int.reduceAdd, Int.reduceSub, Int.reduceNeg, Int.reduceMul, Int.reduceLT, Int.reduceLE, Int.reduceEq, Int.reducePow, Int.reduceToNat, Int.reduceDiv, Int.reduceMod, Nat.zero_add, Int.ofNat_eq_natCast, Int.cast_ofNat_Int, hm]
      have a1 : 1 + (Str.ofString (toString (x : Int))).length ≤ 1000 := by omega
      have a2 : 1 + (Str.ofString (toString (x : Int))).length + 1 ≤ 1000 := by omega
      have a3 : 1 + (Str.ofString (toString (x : Int))).length + 1 + (Str.ofString (toString (tk.length : Int))).length ≤ 1000 := by omega
      simp only [↓W0, ↓w_then, W1, List.reduceReplicate, String.reduceEq, List.drop_succ_cons, List.drop_zero, List.drop_nil, q_ls, q_lt_s, wipeR, backR, hideR, hideS, putB, noL, noLs, Sl.own, enumFrom, intsOf, Option.map_some, intsOf_map, List.set_cons_succ, List.set_cons_zero, List.getElem?_cons_succ, List.getElem?_cons_zero, List.getD_cons_succ, List.getD_cons_zero, List.map_cons, List.map_nil, List.tail_cons, List.headD_cons, List.length_cons, List.length_nil, List.length_map, List.length_range, List.nodup_cons, List.nodup_nil, List.not_mem_nil, List.mem_cons, not_false_eq_true, or_false, false_or, or_true, true_or, and_true, true_and, and_self, if_true, if_false, reduceIte, decide_true, decide_false, Bool.not_true, Bool.not_false, Bool.and_true, Bool.true_and, List.cons_append, List.nil_append, List.append_nil, eq_self, reduceCtorEq, List.all_cons, List.all_nil, List.isEmpty_cons, List.isEmpty_nil, Nat.reduceSub, Nat.reduceAdd, Nat.reduceMul, Nat.reduceLT, Nat.reduceLeDiff, Nat.reduceEqDiff, Nat.reduceBEq, Int.reduceAdd, Int.reduceSub, Int.reduceNeg, Int.reduceMul, Int.reduceLT, Int.reduceLE, Int.reduceEq, Int.reducePow, Int.reduceToNat, Int.reduceDiv, Int.reduceMod, Nat.zero_add, Int.ofNat_eq_natCast, Int.cast_ofNat_Int, c2, b2, len_q, len_z, len_app, a1, a2, a3]
      exact ⟨(_, _), ⟨by simp only [len_app, len_q, len_z]; omega, fun y hy => hx y (List.mem_cons_of_mem _ hy)⟩, rfl⟩
    · simp only [↓W0, ↓w_then, W1, List.reduceReplicate, String.reduceEq, List.drop_succ_cons, List.drop_zero, List.drop_nil, q_ls, q_lt_s, wipeR, backR, hideR, hideS, putB, noL, noLs, Sl.own, enumFrom, intsOf, Option.map_some, intsOf_map, List.set_cons_succ, List.set_cons_zero, List.getElem?_cons_succ, List.getElem?_cons_zero, List.getD_cons_succ, List.getD_cons_zero, List.map_cons, List.map_nil, List.tail_cons, List.headD_cons, List.length_cons, List.length_nil, List.length_map, List.length_range, List.nodup_cons, List.nodup_nil, List.not_mem_nil, List.mem_cons, not_false_eq_true, or_false, false_or, or_true, true_or, and_true, true_and, and_self, if_true, if_false, reduceIte, decide_true, decide_false, Bool.not_true, Bool.not_false, Bool.and_true, Bool.true_and, List.cons_append, List.nil_append, List.append_nil, eq_self, reduceCtorEq, List.all_cons, List.all_nil, List.isEmpty_cons, List.isEmpty_nil, Nat.reduceSub, Nat.reduceAdd, Nat.reduceMul, Nat.reduceLT, Nat.reduceLeDiff, Nat.reduceEqDiff, Nat.reduceBEq, Int.reduceAdd, Int.reduceSub, Int.reduceNeg, Int.reduceMul, Int.reduceLT, Int.reduceLE, Int.reduceEq, Int.reducePow, Int.reduceToNat, Int.reduceDiv, Int.reduceMod, Nat.zero_add, Int.ofNat_eq_natCast, Int.cast_ofNat_Int, hm]
      exact ⟨(_, _), ⟨hn, fun y hy => hx y (List.mem_cons_of_mem _ hy)⟩, rfl⟩
  rintro ⟨nm, s3⟩ ⟨hn, _⟩
  simp only at hn
  have a4 : tk.length < 1000 := by omega
  simp only [↓W0, ↓w_then, W1, List.reduceReplicate, String.reduceEq, List.drop_succ_cons, List.drop_zero, List.drop_nil, q_ls, q_lt_s, wipeR, backR, hideR, hideS, putB, noL, noLs, Sl.own, enumFrom, intsOf, Option.map_some, intsOf_map, List.set_cons_succ, List.set_cons_zero, List.getElem?_cons_succ, List.getElem?_cons_zero, List.getD_cons_succ, List.getD_cons_zero, List.map_cons, List.map_nil, List.tail_cons, List.headD_cons, List.length_cons, List.length_nil, List.length_map, List.length_range, List.nodup_cons, List.nodup_nil, List.not_mem_nil, List.mem_cons, not_false_eq_true, or_false, false_or, or_true, true_or, and_true, true_and, and_self, if_true, if_false, reduceIte, decide_true, decide_false, Bool.not_true, Bool.not_false, Bool.and_true, Bool.true_and, List.cons_append, List.nil_append, List.append_nil, eq_self, reduceCtorEq, List.all_cons, List.all_nil, List.isEmpty_cons, List.isEmpty_nil, Nat.reduceSub, Nat.reduceAdd, Nat.reduceMul, Nat.reduceLT, Nat.reduceLeDiff, Nat.reduceEqDiff, Nat.reduceBEq, Int.reduceAdd, Int.reduceSub, Int.reduceNeg, Int.reduceMul, Int.reduceLT, Int.reduceLE, Int.reduceEq, Int.reducePow, Int.reduceToNat, Int.reduceDiv, Int.reduceMod, Nat.zero_add, Int.ofNat_eq_natCast, Int.cast_ofNat_Int, a4]
  have := k nm dr3 h3 (by omega)
  rw [List.map_append] at this
  exact this
/-- a leaf -/
theorem some_leaf {dr : List D} {pool : List Str} {room under lots way lv : Int} {QF : Fl → R → Prop} (h : DrOk dr) (p0 : 0 < pool.length) (p1 : pool.length ≤ 900) (u0 : 0 ≤ under) (u1 : under ≤ 1000000) (l0 : 0 ≤ lots) (l1 : lots ≤ 10)
    (k : ∀ (t : Tr) dr' ρ, DrOk dr' → Tr.sz t = 1 → ρ[0]? = some (.l dr') → QF (.rt t.e) ρ) :
    Wp ((mThen (mIf (mTest truthD (mVar 4)) (mAsg (mTup (mCons (mC (.int 0)) (mCons (mTup (mCons (mTup (mCons (mCall (noX M_l_pick) [] (aO 0 (aD (mVar 4) aNil))) (mCons (mOp ixD (mVar 6) (mC (.int 0))) mNil))) mNil)) mNil))) (mSet 6)) mSkip) (mThen (mIf (mTest boolD (mOp eqD (mCall (noX M_l_pick) [] (aO 0 (aD (mC (.int 4)) aNil))) (mC (.int 0)))) (mRet (mIf (mAnd (mTest truthD (mVar 3)) (mTest truthD (mOp modD (mFn int1D (mCons (mVar 5) mNil)) (mC (.int 2))))) (mTup (mCons (mC (.str "var")) (mCons (mCall (noX M_l_pick) [] (aO 0 (aD (mVar 3) aNil))) mNil))) (mTup (mCons (mC (.str "univ")) (mCons (mVar 6) mNil))))) mSkip) (mRet (mTup (mCons (mC (.str "const")) (mCons (mCall (noX M_l_one) [] (aO 0 (aD (mVar 2) aNil))) (mCons (mOp mulA (mTup (mCons (mVar 6) mNil)) (mCall (noX M_l_pick) [] (aO 0 (aD (mC (.int 4)) aNil)))) mNil))))))) [.l dr, .d (.int room), .d (.list (pool.map .str)), .d (.int under), .d (.int lots), .d (.int way), .d (.tuple [.int lv, .tuple []]), .un, .un, .un, .un, .un, .un]) QF := by
  have main : ∀ (lvd : Lv) (dr : List D), DrOk dr → Wp ((mThen (mIf (mTest boolD (mOp eqD (mCall (noX M_l_pick) [] (aO 0 (aD (mC (.int 4)) aNil))) (mC (.int 0)))) (mRet (mIf (mAnd (mTest truthD (mVar 3)) (mTest truthD (mOp modD (mFn int1D (mCons (mVar 5) mNil)) (mC (.int 2))))) (mTup (mCons (mC (.str "var")) (mCons (mCall (noX M_l_pick) [] (aO 0 (aD (mVar 3) aNil))) mNil))) (mTup (mCons (mC (.str "univ")) (mCons (mVar 6) mNil))))) mSkip) (mRet (mTup (mCons (mC (.str "const")) (mCons (mCall (noX M_l_one) [] (aO 0 (aD (mVar 2) aNil))) (mCons (mOp mulA (mTup (mCons (mVar 6) mNil)) (mCall (noX M_l_pick) [] (aO 0 (aD (mC (.int 4)) aNil)))) mNil)))))) [.l dr, .d (.int room), .d (.list (pool.map .str)), .d (.int under), .d (.int lots), .d (.int way), .d lvd.e, .un, .un, .un, .un, .un, .un]) QF := fun lvd dr h => by
    simp only [↓W0, ↓w_then, W1, List.reduceReplicate, String.reduceEq, List.drop_succ_cons, List.drop_zero, List.drop_nil, q_ls, q_lt_s, wipeR, backR, hideR, hideS, putB, noL, noLs, Sl.own, enumFrom, intsOf, Option.map_some, intsOf_map, List.set_cons_succ, List.set_cons_zero, List.getElem?_cons_succ, List.getElem?_cons_zero, List.getD_cons_succ, List.getD_cons_zero, List.map_cons, List.map_nil, List.tail_cons, List.headD_cons, List.length_cons, List.length_nil, List.length_map, List.length_range, List.nodup_cons, List.nodup_nil, List.not_mem_nil, List.mem_cons, not_false_eq_true, or_false, false_or, or_true, true_or, and_true, true_and, and_self, if_true, if_false, reduceIte, decide_true, decide_false, Bool.not_true, Bool.not_false, Bool.and_true, Bool.true_and, List.cons_append, List.nil_append, List.append_nil, eq_self, reduceCtorEq, List.all_cons, List.all_nil, List.isEmpty_cons, List.isEmpty_nil, Nat.reduceSub, Nat.reduceAdd, Nat.reduceMul, Nat.reduceLT, Nat.reduceLeDiff, Nat.reduceEqDiff, Nat.reduceBEq, Int.reduceAdd, Int.reduceSub, Int.reduceNeg, Int.reduceMul, Int.reduceLT, Int.reduceLE, Int.reduceEq, Int.reducePow, Int.reduceToNat, Int.reduceDiv, Int.reduceMod, Nat.zero_add, Int.ofNat_eq_natCast, Int.cast_ofNat_Int]
    refine pick_lt h (by omega) (by omega) fun r dr1 h1 r0 r1 => ?_
    simp only [↓W0, ↓w_then, W1, List.reduceReplicate, String.reduceEq, List.drop_succ_cons, List.drop_zero, List.drop_nil, q_ls, q_lt_s, wipeR, backR, hideR, hideS, putB, noL, noLs, Sl.own, enumFrom, intsOf, Option.map_some, intsOf_map, List.set_cons_succ, List.set_cons_zero, List.getElem?_cons_succ, List.getElem?_cons_zero, List.getD_cons_succ, List.getD_cons_zero, List.map_cons, List.map_nil, List.tail_cons, List.headD_cons, List.length_cons, List.length_nil, List.length_map, List.length_range, List.nodup_cons, List.nodup_nil, List.not_mem_nil, List.mem_cons, not_false_eq_true, or_false, false_or, or_true, true_or, and_true, true_and, and_self, if_true, if_false, reduceIte, decide_true, decide_false, Bool.not_true, Bool.not_false, Bool.and_true, Bool.true_and, List.cons_append, List.nil_append, List.append_nil, eq_self, reduceCtorEq, List.all_cons, List.all_nil, List.isEmpty_cons, List.isEmpty_nil, Nat.reduceSub, Nat.reduceAdd, Nat.reduceMul, Nat.reduceLT, Nat.reduceLeDiff, Nat.reduceEqDiff, Nat.reduceBEq, Int.reduceAdd, Int.reduceSub, Int.reduceNeg, Int.reduceMul, Int.reduceLT, Int.reduceLE, Int.reduceEq, Int.reducePow, Int.reduceToNat, Int.reduceDiv, Int.reduceMod, Nat.zero_add, Int.ofNat_eq_natCast, Int.cast_ofNat_Int]
    refine br_dec (fun _ => ?_) (fun _ => ?_)
    · simp only [↓W0, ↓w_then, W1, List.reduceReplicate, String.reduceEq, List.drop_succ_cons, List.drop_zero, List.drop_nil, q_ls, q_lt_s, wipeR, backR, hideR, hideS, putB, noL, noLs, Sl.own, enumFrom, intsOf, Option.map_some, intsOf_map, List.set_cons_succ, List.set_cons_zero, List.getElem?_cons_succ, List.getElem?_cons_zero, List.getD_cons_succ, List.getD_cons_zero, List.map_cons, List.map_nil, List.tail_cons, List.headD_cons, List.length_cons, List.length_nil, List.length_map, List.length_range, List.nodup_cons, List.nodup_nil, List.not_mem_nil, List.mem_cons, not_false_eq_true, or_false, false_or, or_true, true_or, and_true, true_and, and_self, if_true, if_false, reduceIte, decide_true, decide_false, Bool.not_true, Bool.not_false, Bool.and_true, Bool.true_and, List.cons_append, List.nil_append, List.append_nil, eq_self, reduceCtorEq, List.all_cons, List.all_nil, List.isEmpty_cons, List.isEmpty_nil, Nat.reduceSub, Nat.reduceAdd, Nat.reduceMul, Nat.reduceLT, Nat.reduceLeDiff, Nat.reduceEqDiff, Nat.reduceBEq, Int.reduceAdd, Int.reduceSub, Int.reduceNeg, Int.reduceMul, Int.reduceLT, Int.reduceLE, Int.reduceEq, Int.reducePow, Int.reduceToNat, Int.reduceDiv, Int.reduceMod, Nat.zero_add, Int.ofNat_eq_natCast, Int.cast_ofNat_Int]
      refine br_dec (fun e => ?_) (fun e => ?_)
      · simp only [↓W0, ↓w_then, W1, List.reduceReplicate, String.reduceEq, List.drop_succ_cons, List.drop_zero, List.drop_nil, q_ls, q_lt_s, wipeR, backR, hideR, hideS, putB, noL, noLs, Sl.own, enumFrom, intsOf, Option.map_some, intsOf_map, List.set_cons_succ, List.set_cons_zero, List.getElem?_cons_succ, List.getElem?_cons_zero, List.getD_cons_succ, List.getD_cons_zero, List.map_cons, List.map_nil, List.tail_cons, List.headD_cons, List.length_cons, List.length_nil, List.length_map, List.length_range, List.nodup_cons, List.nodup_nil, List.not_mem_nil, List.mem_cons, not_false_eq_true, or_false, false_or, or_true, true_or, and_true, true_and, and_self, if_true, if_false, reduceIte, decide_true, decide_false, Bool.not_true, Bool.not_false, Bool.and_true, Bool.true_and, List.cons_append, List.nil_append, List.append_nil, eq_self, reduceCtorEq, List.all_cons, List.all_nil, List.isEmpty_cons, List.isEmpty_nil, Nat.reduceSub, Nat.reduceAdd, Nat.reduceMul, Nat.reduceLT, Nat.reduceLeDiff, Nat.reduceEqDiff, Nat.reduceBEq, Int.reduceAdd, Int.reduceSub, Int.reduceNeg, Int.reduceMul, Int.reduceLT, Int.reduceLE, Int.reduceEq, Int.reducePow, Int.reduceToNat, Int.reduceDiv, Int.reduceMod, Nat.zero_add, Int.ofNat_eq_natCast, Int.cast_ofNat_Int]
        exact k (.univ lvd) dr1 _ h1 rfl rfl
      · simp only [↓W0, ↓w_then, W1, List.reduceReplicate, String.reduceEq, List.drop_succ_cons, List.drop_zero, List.drop_nil, q_ls, q_lt_s, wipeR, backR, hideR, hideS, putB, noL, noLs, Sl.own, enumFrom, intsOf, Option.map_some, intsOf_map, List.set_cons_succ, List.set_cons_zero, List.getElem?_cons_succ, List.getElem?_cons_zero, List.getD_cons_succ, List.getD_cons_zero, List.map_cons, List.map_nil, List.tail_cons, List.headD_cons, List.length_cons, List.length_nil, List.length_map, List.length_range, List.nodup_cons, List.nodup_nil, List.not_mem_nil, List.mem_cons, not_false_eq_true, or_false, false_or, or_true, true_or, and_true, true_and, and_self, if_true, if_false, reduceIte, decide_true, decide_false, Bool.not_true, Bool.not_false, Bool.and_true, Bool.true_and, List.cons_append, List.nil_append, List.append_nil, eq_self, reduceCtorEq, List.all_cons, List.all_nil, List.isEmpty_cons, List.isEmpty_nil, Nat.reduceSub, Nat.reduceAdd, Nat.reduceMul, Nat.reduceLT, Nat.reduceLeDiff, Nat.reduceEqDiff, Nat.reduceBEq, Int.reduceAdd, Int.reduceSub, Int.reduceNeg, Int.reduceMul, Int.reduceLT, Int.reduceLE, Int.reduceEq, Int.reducePow, Int.reduceToNat, Int.reduceDiv, Int.reduceMod, Nat.zero_add, Int.ofNat_eq_natCast, Int.cast_ofNat_Int]
        refine br_dec (fun e => ?_) (fun e => ?_)
        · simp only [↓W0, ↓w_then, W1, List.reduceReplicate, String.reduceEq, List.drop_succ_cons, List.drop_zero, List.drop_nil, q_ls, q_lt_s, wipeR, backR, hideR, hideS, putB, noL, noLs, Sl.own, enumFrom, intsOf, Option.map_some, intsOf_map, List.set_cons_succ, List.set_cons_zero, List.getElem?_cons_succ, List.getElem?_cons_zero, List.getD_cons_succ, List.getD_cons_zero, List.map_cons, List.map_nil, List.tail_cons, List.headD_cons, List.length_cons, List.length_nil, List.length_map, List.length_range, List.nodup_cons, List.nodup_nil, List.not_mem_nil, List.mem_cons, not_false_eq_true, or_false, false_or, or_true, true_or, and_true, true_and, and_self, if_true, if_false, reduceIte, decide_true, decide_false, Bool.not_true, Bool.not_false, Bool.and_true, Bool.true_and, List.cons_append, List.nil_append, List.append_nil, eq_self, reduceCtorEq, List.all_cons, List.all_nil, List.isEmpty_cons, List.isEmpty_nil, Nat.reduceSub, Nat.reduceAdd, Nat.reduceMul, Nat.reduceLT, Nat.reduceLeDiff, Nat.reduceEqDiff, Nat.reduceBEq, Int.reduceAdd, Int.reduceSub, Int.reduceNeg, Int.reduceMul, Int.reduceLT, Int.reduceLE, Int.reduceEq, Int.reducePow, Int.reduceToNat, Int.reduceDiv, Int.reduceMod, Nat.zero_add, Int.ofNat_eq_natCast, Int.cast_ofNat_Int]
          exact k (.univ lvd) dr1 _ h1 rfl rfl
        · simp only [↓W0, ↓w_then, W1, List.reduceReplicate, String.reduceEq, List.drop_succ_cons, List.drop_zero, List.drop_nil, q_ls, q_lt_s, wipeR, backR, hideR, hideS, putB, noL, noLs, Sl.own, enumFrom, intsOf, Option.map_some, intsOf_map, List.set_cons_succ, List.set_cons_zero, List.getElem?_cons_succ, List.getElem?_cons_zero, List.getD_cons_succ, List.getD_cons_zero, List.map_cons, List.map_nil, List.tail_cons, List.headD_cons, List.length_cons, List.length_nil, List.length_map, List.length_range, List.nodup_cons, List.nodup_nil, List.not_mem_nil, List.mem_cons, not_false_eq_true, or_false, false_or, or_true, true_or, and_true, true_and, and_self, if_true, if_false, reduceIte, decide_true, decide_false, Bool.not_true, Bool.not_false, Bool.and_true, Bool.true_and, List.cons_append, List.nil_append, List.append_nil, eq_self, reduceCtorEq, List.all_cons, List.all_nil, List.isEmpty_cons, List.isEmpty_nil, Nat.reduceSub, Nat.reduceAdd, Nat.reduceMul, Nat.reduceLT, Nat.reduceLeDiff, Nat.reduceEqDiff, Nat.reduceBEq, Int.reduceAdd, Int.reduceSub, Int.reduceNeg, Int.reduceMul, Int.reduceLT, Int.reduceLE, Int.reduceEq, Int.reducePow, Int.reduceToNat, Int.reduceDiv, Int.reduceMod, Nat.zero_add, Int.ofNat_eq_natCast, Int.cast_ofNat_Int]
          refine pick_lt h1 (by omega) (by omega) fun v dr2 h2 _ _ => ?_
          simp only [↓W0, ↓w_then, W1, List.reduceReplicate, String.reduceEq, List.drop_succ_cons, List.drop_zero, List.drop_nil, q_ls, q_lt_s, wipeR, backR, hideR, hideS, putB, noL, noLs, Sl.own, enumFrom, intsOf, Option.map_some, intsOf_map, List.set_cons_succ, List.set_cons_zero, List.getElem?_cons_succ, List.getElem?_cons_zero, List.getD_cons_succ, List.getD_cons_zero, List.map_cons, List.map_nil, List.tail_cons, List.headD_cons, List.length_cons, List.length_nil, List.length_map, List.length_range, List.nodup_cons, List.nodup_nil, List.not_mem_nil, List.mem_cons, not_false_eq_true, or_false, false_or, or_true, true_or, and_true, true_and, and_self, if_true, if_false, reduceIte, decide_true, decide_false, Bool.not_true, Bool.not_false, Bool.and_true, Bool.true_and, List.cons_append, List.nil_append, List.append_nil, eq_self, reduceCtorEq, List.all_cons, List.all_nil, List.isEmpty_cons, List.isEmpty_nil, Nat.reduceSub, Nat.reduceAdd, Nat.reduceMul, Nat.reduceLT, Nat.reduceLeDiff, Nat.reduceEqDiff, Nat.reduceBEq, Int.reduceAdd, Int.reduceSub, Int.reduceNeg, Int.reduceMul, Int.reduceLT, Int.reduceLE, Int.reduceEq, Int.reducePow, Int.reduceToNat, Int.reduceDiv, Int.reduceMod, Nat.zero_add, Int.ofNat_eq_natCast, Int.cast_ofNat_Int]
          exact k (.var v) dr2 _ h2 rfl rfl
    · simp only [↓W0, ↓w_then, W1, List.reduceReplicate, String.reduceEq, List.drop_succ_cons, List.drop_zero, List.drop_nil, q_ls, q_lt_s, wipeR, backR, hideR, hideS, putB, noL, noLs, Sl.own, enumFrom, intsOf, Option.map_some, intsOf_map, List.set_cons_succ, List.set_cons_zero, List.getElem?_cons_succ, List.getElem?_cons_zero, List.getD_cons_succ, List.getD_cons_zero, List.map_cons, List.map_nil, List.tail_cons, List.headD_cons, List.length_cons, List.length_nil, List.length_map, List.length_range, List.nodup_cons, List.nodup_nil, List.not_mem_nil, List.mem_cons, not_false_eq_true, or_false, false_or, or_true, true_or, and_true, true_and, and_self, if_true, if_false, reduceIte, decide_true, decide_false, Bool.not_true, Bool.not_false, Bool.and_true, Bool.true_and, List.cons_append, List.nil_append, List.append_nil, eq_self, reduceCtorEq, List.all_cons, List.all_nil, List.isEmpty_cons, List.isEmpty_nil, Nat.reduceSub, Nat.reduceAdd, Nat.reduceMul, Nat.reduceLT, Nat.reduceLeDiff, Nat.reduceEqDiff, Nat.reduceBEq, Int.reduceAdd, Int.reduceSub, Int.reduceNeg, Int.reduceMul, Int.reduceLT, Int.reduceLE, Int.reduceEq, Int.reducePow, Int.reduceToNat, Int.reduceDiv, Int.reduceMod, Nat.zero_add, Int.ofNat_eq_natCast, Int.cast_ofNat_Int]
      refine one_of h1 p0 p1 fun x dr2 h2 _ => ?_
      simp only [↓W0, ↓w_then, W1, List.reduceReplicate, String.reduceEq, List.drop_succ_cons, List.drop_zero, List.drop_nil, q_ls, q_lt_s, wipeR, backR, hideR, hideS, putB, noL, noLs, Sl.own, enumFrom, intsOf, Option.map_some, intsOf_map, List.set_cons_succ, List.set_cons_zero, List.getElem?_cons_succ, List.getElem?_cons_zero, List.getD_cons_succ, List.getD_cons_zero, List.map_cons, List.map_nil, List.tail_cons, List.headD_cons, List.length_cons, List.length_nil, List.length_map, List.length_range, List.nodup_cons, List.nodup_nil, List.not_mem_nil, List.mem_cons, not_false_eq_true, or_false, false_or, or_true, true_or, and_true, true_and, and_self, if_true, if_false, reduceIte, decide_true, decide_false, Bool.not_true, Bool.not_false, Bool.and_true, Bool.true_and, List.cons_append, List.nil_append, List.append_nil, eq_self, reduceCtorEq, List.all_cons, List.all_nil, List.isEmpty_cons, List.isEmpty_nil, Nat.reduceSub, Nat.reduceAdd, Nat.reduceMul, Nat.reduceLT, Nat.reduceLeDiff, Nat.reduceEqDiff, Nat.reduceBEq, Int.reduceAdd, Int.reduceSub, Int.reduceNeg, Int.reduceMul, Int.reduceLT, Int.reduceLE, Int.reduceEq, Int.reducePow, Int.reduceToNat, Int.reduceDiv, Int.reduceMod, Nat.zero_add, Int.ofNat_eq_natCast, Int.cast_ofNat_Int]
      refine pick_lt h2 (by omega) (by omega) fun v dr3 h3 v0 v1 => ?_
      have a1 : 0 ≤ v ∧ v ≤ 1000 ∧ True := ⟨v0, by omega, trivial⟩
      simp only [↓W0, ↓w_then, W1, List.reduceReplicate, String.reduceEq, List.drop_succ_cons, List.drop_zero, List.drop_nil, q_ls, q_lt_s, wipeR, backR, hideR, hideS, putB, noL, noLs, Sl.own, enumFrom, intsOf, Option.map_some, intsOf_map, List.set_cons_succ, List.set_cons_zero, List.getElem?_cons_succ, List.getElem?_cons_zero, List.getD_cons_succ, List.getD_cons_zero, List.map_cons, List.map_nil, List.tail_cons, List.headD_cons, List.length_cons, List.length_nil, List.length_map, List.length_range, List.nodup_cons, List.nodup_nil, List.not_mem_nil, List.mem_cons, not_false_eq_true, or_false, false_or, or_true, true_or, and_true, true_and, and_self, if_true, if_false, reduceIte, decide_true, decide_false, Bool.not_true, Bool.not_false, Bool.and_true, Bool.true_and, List.cons_append, List.nil_append, List.append_nil, eq_self, reduceCtorEq, List.all_cons, List.all_nil, List.isEmpty_cons, List.isEmpty_nil, Nat.reduceSub, Nat.reduceAdd, Nat.reduceMul, Nat.reduceLT, Nat.reduceLeDiff, Nat.reduceEqDiff, Nat.reduceBEq, Int.reduceAdd, Int.reduceSub, Int.reduceNeg, Int.reduceMul, Int.reduceLT, Int.reduceLE, Int.reduceEq, Int.reducePow, Int.reduceToNat, Int.reduceDiv, Int.reduceMod, Nat.zero_add, Int.ofNat_eq_natCast, Int.cast_ofNat_Int]
      refine ⟨⟨v0, by omega⟩, ?_⟩
      have e : (List.replicate v.toNat [lvd.e]).flatten = (List.replicate v.toNat lvd).map Lv.e := by
        rw [List.flatten_replicate_singleton, List.map_replicate]
      rw [e]
      exact k (.cst x _) dr3 _ h3 rfl rfl
  refine w_then.mpr ?_
  simp only [↓W0, W1, List.reduceReplicate, String.reduceEq, List.drop_succ_cons, List.drop_zero, List.drop_nil, q_ls, q_lt_s, wipeR, backR, hideR, hideS, putB, noL, noLs, Sl.own, enumFrom, intsOf, Option.map_some, intsOf_map, List.set_cons_succ, List.set_cons_zero, List.getElem?_cons_succ, List.getElem?_cons_zero, List.getD_cons_succ, List.getD_cons_zero, List.map_cons, List.map_nil, List.tail_cons, List.headD_cons, List.length_cons, List.length_nil, List.length_map, List.length_range, List.nodup_cons, List.nodup_nil, List.not_mem_nil, List.mem_cons, not_false_eq_true, or_false, false_or, or_true, true_or, and_true, true_and, and_self, if_true, if_false, reduceIte, decide_true, decide_false, Bool.not_true, Bool.not_false, Bool.and_true, Bool.true_and, List.cons_append, List.nil_append, List.append_nil, eq_self, reduceCtorEq, List.all_cons, List.all_nil, List.isEmpty_cons, List.isEmpty_nil, Nat.reduceSub, Nat.reduceAdd, Nat.reduceMul, Nat.reduceLT, Nat.reduceLeDiff, Nat.reduceEqDiff, Nat.reduceBEq, Int.reduceAdd, Int.reduceSub, Int.reduceNeg, Int.reduceMul, Int.reduceLT, Int.reduceLE, Int.reduceEq, Int.reducePow, Int.reduceToNat, Int.reduceDiv, Int.reduceMod, Nat.zero_add, Int.ofNat_eq_natCast, Int.cast_ofNat_Int]
  refine br_dec (fun e => ?_) (fun e => ?_)
  · simp only [↓W0, W1, List.reduceReplicate, String.reduceEq, List.drop_succ_cons, List.drop_zero, List.drop_nil, q_ls, q_lt_s, wipeR, backR, hideR, hideS, putB, noL, noLs, Sl.own, enumFrom, intsOf, Option.map_some, intsOf_map, List.set_cons_succ, List.set_cons_zero, List.getElem?_cons_succ, List.getElem?_cons_zero, List.getD_cons_succ, List.getD_cons_zero, List.map_cons, List.map_nil, List.tail_cons, List.headD_cons, List.length_cons, List.length_nil, List.length_map, List.length_range, List.nodup_cons, List.nodup_nil, List.not_mem_nil, List.mem_cons, not_false_eq_true, or_false, false_or, or_true, true_or, and_true, true_and, and_self, if_true, if_false, reduceIte, decide_true, decide_false, Bool.not_true, Bool.not_false, Bool.and_true, Bool.true_and, List.cons_append, List.nil_append, List.append_nil, eq_self, reduceCtorEq, List.all_cons, List.all_nil, List.isEmpty_cons, List.isEmpty_nil, Nat.reduceSub, Nat.reduceAdd, Nat.reduceMul, Nat.reduceLT, Nat.reduceLeDiff, Nat.reduceEqDiff, Nat.reduceBEq, Int.reduceAdd, Int.reduceSub, Int.reduceNeg, Int.reduceMul, Int.reduceLT, Int.reduceLE, Int.reduceEq, Int.reducePow, Int.reduceToNat, Int.reduceDiv, Int.reduceMod, Nat.zero_add, Int.ofNat_eq_natCast, Int.cast_ofNat_Int]
    exact main ⟨lv, []⟩ _ h
  · simp only [↓W0, W1, List.reduceReplicate, String.reduceEq, List.drop_succ_cons, List.drop_zero, List.drop_nil, q_ls, q_lt_s, wipeR, backR, hideR, hideS, putB, noL, noLs, Sl.own, enumFrom, intsOf, Option.map_some, intsOf_map, List.set_cons_succ, List.set_cons_zero, List.getElem?_cons_succ, List.getElem?_cons_zero, List.getD_cons_succ, List.getD_cons_zero, List.map_cons, List.map_nil, List.tail_cons, List.headD_cons, List.length_cons, List.length_nil, List.length_map, List.length_range, List.nodup_cons, List.nodup_nil, List.not_mem_nil, List.mem_cons, not_false_eq_true, or_false, false_or, or_true, true_or, and_true, true_and, and_self, if_true, if_false, reduceIte, decide_true, decide_false, Bool.not_true, Bool.not_false, Bool.and_true, Bool.true_and, List.cons_append, List.nil_append, List.append_nil, eq_self, reduceCtorEq, List.all_cons, List.all_nil, List.isEmpty_cons, List.isEmpty_nil, Nat.reduceSub, Nat.reduceAdd, Nat.reduceMul, Nat.reduceLT, Nat.reduceLeDiff, Nat.reduceEqDiff, Nat.reduceBEq, Int.reduceAdd, Int.reduceSub, Int.reduceNeg, Int.reduceMul, Int.reduceLT, Int.reduceLE, Int.reduceEq, Int.reducePow, Int.reduceToNat, Int.reduceDiv, Int.reduceMod, Nat.zero_add, Int.ofNat_eq_natCast, Int.cast_ofNat_Int]
    refine pick_lt h (by omega) (by omega) fun v dr2 h2 _ _ => ?_
    simp only [↓W0, W1, List.reduceReplicate, String.reduceEq, List.drop_succ_cons, List.drop_zero, List.drop_nil, q_ls, q_lt_s, wipeR, backR, hideR, hideS, putB, noL, noLs, Sl.own, enumFrom, intsOf, Option.map_some, intsOf_map, List.set_cons_succ, List.set_cons_zero, List.getElem?_cons_succ, List.getElem?_cons_zero, List.getD_cons_succ, List.getD_cons_zero, List.map_cons, List.map_nil, List.tail_cons, List.headD_cons, List.length_cons, List.length_nil, List.length_map, List.length_range, List.nodup_cons, List.nodup_nil, List.not_mem_nil, List.mem_cons, not_false_eq_true, or_false, false_or, or_true, true_or, and_true, true_and, and_self, if_true, if_false, reduceIte, decide_true, decide_false, Bool.not_true, Bool.not_false, Bool.and_true, Bool.true_and, List.cons_append, List.nil_append, List.append_nil, eq_self, reduceCtorEq, List.all_cons, List.all_nil, List.isEmpty_cons, List.isEmpty_nil, Nat.reduceSub, Nat.reduceAdd, Nat.reduceMul, Nat.reduceLT, Nat.reduceLeDiff, Nat.reduceEqDiff, Nat.reduceBEq, Int.reduceAdd, Int.reduceSub, Int.reduceNeg, Int.reduceMul, Int.reduceLT, Int.reduceLE, Int.reduceEq, Int.reducePow, Int.reduceToNat, Int.reduceDiv, Int.reduceMod, Nat.zero_add, Int.ofNat_eq_natCast, Int.cast_ofNat_Int]
    exact main ⟨0, [(v, lv)]⟩ _ h2
theorem some_ok : ∀ (n room : Nat) {dr : List D} {pool : List Str} {under lots : Int} {Q : D → R → Prop}, room < n → room ≤ 9 → DrOk dr → 0 < pool.length → pool.length ≤ 900 → 0 ≤ under → under + n ≤ 1000000 → 0 ≤ lots → lots ≤ 10 →
    (∀ (t : Tr) dr', DrOk dr' → t.sz ≤ max room 1 → Q t.e [.l dr', .un, .un, .un, .un]) →
    Wp (M_l_some n [.l dr, .d (.int room), .d (.list (pool.map .str)), .d (.int under), .d (.int lots)]) Q
  | 0, _, _, _, _, _, _, h, _, _, _, _, _, _, _, _, _ => by omega
  | n + 1, room, dr, pool, under, lots, Q, hr, hr9, h, p0, p1, u0, u1, l0, l1, k => by
    show Wp (mBody 13 5 [0] (b_l_some (M_l_some n)) _) _
    unfold b_l_some
    simp only [↓W0, W1, List.reduceReplicate, String.reduceEq, List.drop_succ_cons, List.drop_zero, List.drop_nil, q_ls, q_lt_s, wipeR, backR, hideR, hideS, putB, noL, noLs, Sl.own, enumFrom, intsOf, Option.map_some, intsOf_map, List.set_cons_succ, List.set_cons_zero, List.getElem?_cons_succ, List.getElem?_cons_zero, List.getD_cons_succ, List.getD_cons_zero, List.map_cons, List.map_nil, List.tail_cons, List.headD_cons, List.length_cons, List.length_nil, List.length_map, List.length_range, List.nodup_cons, List.nodup_nil, List.not_mem_nil, List.mem_cons, not_false_eq_true, or_false, false_or, or_true, true_or, and_true, true_and, and_self, if_true, if_false, reduceIte, decide_true, decide_false, Bool.not_true, Bool.not_false, Bool.and_true, Bool.true_and, List.cons_append, List.nil_append, List.append_nil, eq_self, reduceCtorEq, List.all_cons, List.all_nil, List.isEmpty_cons, List.isEmpty_nil, Nat.reduceSub, Nat.reduceAdd, Nat.reduceMul, Nat.reduceLT, Nat.reduceLeDiff, Nat.reduceEqDiff, Nat.reduceBEq, Int.reduceAdd, Int.reduceSub, Int.reduceNeg, Int.reduceMul, Int.reduceLT, Int.reduceLE, Int.reduceEq, Int.reducePow, Int.reduceToNat, Int.reduceDiv, Int.reduceMod, Nat.zero_add, Int.ofNat_eq_natCast, Int.cast_ofNat_Int]
    refine w_then.mpr ?_
    simp only [↓W0, W1, List.reduceReplicate, String.reduceEq, List.drop_succ_cons, List.drop_zero, List.drop_nil, q_ls, q_lt_s, wipeR, backR, hideR, hideS, putB, noL, noLs, Sl.own, enumFrom, intsOf, Option.map_some, intsOf_map, List.set_cons_succ, List.set_cons_zero, List.getElem?_cons_succ, List.getElem?_cons_zero, List.getD_cons_succ, List.getD_cons_zero, List.map_cons, List.map_nil, List.tail_cons, List.headD_cons, List.length_cons, List.length_nil, List.length_map, List.length_range, List.nodup_cons, List.nodup_nil, List.not_mem_nil, List.mem_cons, not_false_eq_true, or_false, false_or, or_true, true_or, and_true, true_and, and_self, if_true, if_false, reduceIte, decide_true, decide_false, Bool.not_true, Bool.not_false, Bool.and_true, Bool.true_and, List.cons_append, List.nil_append, List.append_nil, eq_self, reduceCtorEq, List.all_cons, List.all_nil, List.isEmpty_cons, List.isEmpty_nil, Nat.reduceSub, Nat.reduceAdd, Nat.reduceMul, Nat.reduceLT, Nat.reduceLeDiff, Nat.reduceEqDiff, Nat.reduceBEq, Int.reduceAdd, Int.reduceSub, Int.reduceNeg, Int.reduceMul, Int.reduceLT, Int.reduceLE, Int.reduceEq, Int.reducePow, Int.reduceToNat, Int.reduceDiv, Int.reduceMod, Nat.zero_add, Int.ofNat_eq_natCast, Int.cast_ofNat_Int]
    refine pick_lt h (by omega) (by omega) fun way dr1 h1 w0 w1 => ?_
    simp only [↓W0, W1, List.reduceReplicate, String.reduceEq, List.drop_succ_cons, List.drop_zero, List.drop_nil, q_ls, q_lt_s, wipeR, backR, hideR, hideS, putB, noL, noLs, Sl.own, enumFrom, intsOf, Option.map_some, intsOf_map, List.set_cons_succ, List.set_cons_zero, List.getElem?_cons_succ, List.getElem?_cons_zero, List.getD_cons_succ, List.getD_cons_zero, List.map_cons, List.map_nil, List.tail_cons, List.headD_cons, List.length_cons, List.length_nil, List.length_map, List.length_range, List.nodup_cons, List.nodup_nil, List.not_mem_nil, List.mem_cons, not_false_eq_true, or_false, false_or, or_true, true_or, and_true, true_and, and_self, if_true, if_false, reduceIte, decide_true, decide_false, Bool.not_true, Bool.not_false, Bool.and_true, Bool.true_and, List.cons_append, List.nil_append, List.append_nil, eq_self, reduceCtorEq, List.all_cons, List.all_nil, List.isEmpty_cons, List.isEmpty_nil, Nat.reduceSub, Nat.reduceAdd, Nat.reduceMul, Nat.reduceLT, Nat.reduceLeDiff, Nat.reduceEqDiff, Nat.reduceBEq, Int.reduceAdd, Int.reduceSub, Int.reduceNeg, Int.reduceMul, Int.reduceLT, Int.reduceLE, Int.reduceEq, Int.reducePow, Int.reduceToNat, Int.reduceDiv, Int.reduceMod, Nat.zero_add, Int.ofNat_eq_natCast, Int.cast_ofNat_Int]
    refine pick_lt h1 (by omega) (by omega) fun lv dr2 h2 _ _ => ?_
    simp only [↓W0, W1, List.reduceReplicate, String.reduceEq, List.drop_succ_cons, List.drop_zero, List.drop_nil, q_ls, q_lt_s, wipeR, backR, hideR, hideS, putB, noL, noLs, Sl.own, enumFrom, intsOf, Option.map_some, intsOf_map, List.set_cons_succ, List.set_cons_zero, List.getElem?_cons_succ, List.getElem?_cons_zero, List.getD_cons_succ, List.getD_cons_zero, List.map_cons, List.map_nil, List.tail_cons, List.headD_cons, List.length_cons, List.length_nil, List.length_map, List.length_range, List.nodup_cons, List.nodup_nil, List.not_mem_nil, List.mem_cons, not_false_eq_true, or_false, false_or, or_true, true_or, and_true, true_and, and_self, if_true, if_false, reduceIte, decide_true, decide_false, Bool.not_true, Bool.not_false, Bool.and_true, Bool.true_and, List.cons_append, List.nil_append, List.append_nil, eq_self, reduceCtorEq, List.all_cons, List.all_nil, List.isEmpty_cons, List.isEmpty_nil, Nat.reduceSub, Nat.reduceAdd, Nat.reduceMul, Nat.reduceLT, Nat.reduceLeDiff, Nat.reduceEqDiff, Nat.reduceBEq, Int.reduceAdd, Int.reduceSub, Int.reduceNeg, Int.reduceMul, Int.reduceLT, Int.reduceLE, Int.reduceEq, Int.reducePow, Int.reduceToNat, Int.reduceDiv, Int.reduceMod, Nat.zero_add, Int.ofNat_eq_natCast, Int.cast_ofNat_Int]
    refine w_then.mpr ?_
    simp only [↓W0, W1, List.reduceReplicate, String.reduceEq, List.drop_succ_cons, List.drop_zero, List.drop_nil, q_ls, q_lt_s, wipeR, backR, hideR, hideS, putB, noL, noLs, Sl.own, enumFrom, intsOf, Option.map_some, intsOf_map, List.set_cons_succ, List.set_cons_zero, List.getElem?_cons_succ, List.getElem?_cons_zero, List.getD_cons_succ, List.getD_cons_zero, List.map_cons, List.map_nil, List.tail_cons, List.headD_cons, List.length_cons, List.length_nil, List.length_map, List.length_range, List.nodup_cons, List.nodup_nil, List.not_mem_nil, List.mem_cons, not_false_eq_true, or_false, false_or, or_true, true_or, and_true, true_and, and_self, if_true, if_false, reduceIte, decide_true, decide_false, Bool.not_true, Bool.not_false, Bool.and_true, Bool.true_and, List.cons_append, List.nil_append, List.append_nil, eq_self, reduceCtorEq, List.all_cons, List.all_nil, List.isEmpty_cons, List.isEmpty_nil, Nat.reduceSub, Nat.reduceAdd, Nat.reduceMul, Nat.reduceLT, Nat.reduceLeDiff, Nat.reduceEqDiff, Nat.reduceBEq, Int.reduceAdd, Int.reduceSub, Int.reduceNeg, Int.reduceMul, Int.reduceLT, Int.reduceLE, Int.reduceEq, Int.reducePow, Int.reduceToNat, Int.reduceDiv, Int.reduceMod, Nat.zero_add, Int.ofNat_eq_natCast, Int.cast_ofNat_Int]
    refine br_dec (fun e => ?_) (fun e => ?_)
    · simp only [↓W0, W1, List.reduceReplicate, String.reduceEq, List.drop_succ_cons, List.drop_zero, List.drop_nil, q_ls, q_lt_s, wipeR, backR, hideR, hideS, putB, noL, noLs, Sl.own, enumFrom, intsOf, Option.map_some, intsOf_map, List.set_cons_succ, List.set_cons_zero, List.getElem?_cons_succ, List.getElem?_cons_zero, List.getD_cons_succ, List.getD_cons_zero, List.map_cons, List.map_nil, List.tail_cons, List.headD_cons, List.length_cons, List.length_nil, List.length_map, List.length_range, List.nodup_cons, List.nodup_nil, List.not_mem_nil, List.mem_cons, not_false_eq_true, or_false, false_or, or_true, true_or, and_true, true_and, and_self, if_true, if_false, reduceIte, decide_true, decide_false, Bool.not_true, Bool.not_false, Bool.and_true, Bool.true_and, List.cons_append, List.nil_append, List.append_nil, eq_self, reduceCtorEq, List.all_cons, List.all_nil, List.isEmpty_cons, List.isEmpty_nil, Nat.reduceSub, Nat.reduceAdd, Nat.reduceMul, Nat.reduceLT, Nat.reduceLeDiff, Nat.reduceEqDiff, Nat.reduceBEq, Int.reduceAdd, Int.reduceSub, Int.reduceNeg, Int.reduceMul, Int.reduceLT, Int.reduceLE, Int.reduceEq, Int.reducePow, Int.reduceToNat, Int.reduceDiv, Int.reduceMod, Nat.zero_add, Int.ofNat_eq_natCast, Int.cast_ofNat_Int]
      refine some_leaf h2 p0 p1 u0 (by omega) l0 l1 fun t dr' ρ h' ht hρ => ?_
      have e0 : List.getD ρ 0 Sl.un = .l dr' := by rw [List.getD_eq_getElem?_getD, hρ]; rfl
      refine nx_rt.mpr ?_
      simp only [↓W0, W1, List.reduceReplicate, String.reduceEq, List.drop_succ_cons, List.drop_zero, List.drop_nil, q_ls, q_lt_s, wipeR, backR, hideR, hideS, putB, noL, noLs, Sl.own, enumFrom, intsOf, Option.map_some, intsOf_map, List.set_cons_succ, List.set_cons_zero, List.getElem?_cons_succ, List.getElem?_cons_zero, List.getD_cons_succ, List.getD_cons_zero, List.map_cons, List.map_nil, List.tail_cons, List.headD_cons, List.length_cons, List.length_nil, List.length_map, List.length_range, List.nodup_cons, List.nodup_nil, List.not_mem_nil, List.mem_cons, not_false_eq_true, or_false, false_or, or_true, true_or, and_true, true_and, and_self, if_true, if_false, reduceIte, decide_true, decide_false, Bool.not_true, Bool.not_false, Bool.and_true, Bool.true_and, List.cons_append, List.nil_append, List.append_nil, eq_self, reduceCtorEq, List.all_cons, List.all_nil, List.isEmpty_cons, List.isEmpty_nil, Nat.reduceSub, Nat.reduceAdd, Nat.reduceMul, Nat.reduceLT, Nat.reduceLeDiff, Nat.reduceEqDiff, Nat.reduceBEq, Int.reduceAdd, Int.reduceSub, Int.reduceNeg, Int.reduceMul, Int.reduceLT, Int.reduceLE, Int.reduceEq, Int.reducePow, Int.reduceToNat, Int.reduceDiv, Int.reduceMod, Nat.zero_add, Int.ofNat_eq_natCast, Int.cast_ofNat_Int, e0]
      exact k t dr' h' (by omega)
    try simp only [↓W0, W1, List.reduceReplicate, String.reduceEq, List.drop_succ_cons, List.drop_zero, List.drop_nil, q_ls, q_lt_s, wipeR, backR, hideR, hideS, putB, noL, noLs, Sl.own, enumFrom, intsOf, Option.map_some, intsOf_map, List.set_cons_succ, List.set_cons_zero, List.getElem?_cons_succ, List.getElem?_cons_zero, List.getD_cons_succ, List.getD_cons_zero, List.map_cons, List.map_nil, List.tail_cons, List.headD_cons, List.length_cons, List.length_nil, List.length_map, List.length_range, List.nodup_cons, List.nodup_nil, List.not_mem_nil, List.mem_cons, not_false_eq_true, or_false, false_or, or_true, true_or, and_true, true_and, and_self, if_true, if_false, reduceIte, decide_true, decide_false, Bool.not_true, Bool.not_false, Bool.and_true, Bool.true_and, List.cons_append, List.nil_append, List.append_nil, eq_self, reduceCtorEq, List.all_cons, List.all_nil, List.isEmpty_cons, List.isEmpty_nil, Nat.reduceSub, Nat.reduceAdd, Nat.reduceMul, Nat.reduceLT, Nat.reduceLeDiff, Nat.reduceEqDiff, Nat.reduceBEq, Int.reduceAdd, Int.reduceSub, Int.reduceNeg, Int.reduceMul, Int.reduceLT, Int.reduceLE, Int.reduceEq, Int.reducePow, Int.reduceToNat, Int.reduceDiv, Int.reduceMod, Nat.zero_add, Int.ofNat_eq_natCast, Int.cast_ofNat_Int]
    refine br_dec (fun e2 => ?_) (fun e2 => ?_)
    · try simp only [↓W0, W1, List.reduceReplicate, String.reduceEq, List.drop_succ_cons, List.drop_zero, List.drop_nil, q_ls, q_lt_s, wipeR, backR, hideR, hideS, putB, noL, noLs, Sl.own, enumFrom, intsOf, Option.map_some, intsOf_map, List.set_cons_succ, List.set_cons_zero, List.getElem?_cons_succ, List.getElem?_cons_zero, List.getD_cons_succ, List.getD_cons_zero, List.map_cons, List.map_nil, List.tail_cons, List.headD_cons, List.length_cons, List.length_nil, List.length_map, List.length_range, List.nodup_cons, List.nodup_nil, List.not_mem_nil, List.mem_cons, not_false_eq_true, or_false, false_or, or_true, true_or, and_true, true_and, and_self, if_true, if_false, reduceIte, decide_true, decide_false, Bool.not_true, Bool.not_false, Bool.and_true, Bool.true_and, List.cons_append, List.nil_append, List.append_nil, eq_self, reduceCtorEq, List.all_cons, List.all_nil, List.isEmpty_cons, List.isEmpty_nil, Nat.reduceSub, Nat.reduceAdd, Nat.reduceMul, Nat.reduceLT, Nat.reduceLeDiff, Nat.reduceEqDiff, Nat.reduceBEq, Int.reduceAdd, Int.reduceSub, Int.reduceNeg, Int.reduceMul, Int.reduceLT, Int.reduceLE, Int.reduceEq, Int.reducePow, Int.reduceToNat, Int.reduceDiv, Int.reduceMod, Nat.zero_add, Int.ofNat_eq_natCast, Int.cast_ofNat_Int]
      refine some_leaf h2 p0 p1 u0 (by omega) l0 l1 fun t dr' ρ h' ht hρ => ?_
      have e0 : List.getD ρ 0 Sl.un = .l dr' := by rw [List.getD_eq_getElem?_getD, hρ]; rfl
      simp only [↓W0, W1, List.reduceReplicate, String.reduceEq, List.drop_succ_cons, List.drop_zero, List.drop_nil, q_ls, q_lt_s, wipeR, backR, hideR, hideS, putB, noL, noLs, Sl.own, enumFrom, intsOf, Option.map_some, intsOf_map, List.set_cons_succ, List.set_cons_zero, List.getElem?_cons_succ, List.getElem?_cons_zero, List.getD_cons_succ, List.getD_cons_zero, List.map_cons, List.map_nil, List.tail_cons, List.headD_cons, List.length_cons, List.length_nil, List.length_map, List.length_range, List.nodup_cons, List.nodup_nil, List.not_mem_nil, List.mem_cons, not_false_eq_true, or_false, false_or, or_true, true_or, and_true, true_and, and_self, if_true, if_false, reduceIte, decide_true, decide_false, Bool.not_true, Bool.not_false, Bool.and_true, Bool.true_and, List.cons_append, List.nil_append, List.append_nil, eq_self, reduceCtorEq, List.all_cons, List.all_nil, List.isEmpty_cons, List.isEmpty_nil, Nat.reduceSub, Nat.reduceAdd, Nat.reduceMul, Nat.reduceLT, Nat.reduceLeDiff, Nat.reduceEqDiff, Nat.reduceBEq, Int.reduceAdd, Int.reduceSub, Int.reduceNeg, Int.reduceMul, Int.reduceLT, Int.reduceLE, Int.reduceEq, Int.reducePow, Int.reduceToNat, Int.reduceDiv, Int.reduceMod, Nat.zero_add, Int.ofNat_eq_natCast, Int.cast_ofNat_Int, e0]
      exact k t dr' h' (by omega)
    simp only [↓W0, W1, List.reduceReplicate, String.reduceEq, List.drop_succ_cons, List.drop_zero, List.drop_nil, q_ls, q_lt_s, wipeR, backR, hideR, hideS, putB, noL, noLs, Sl.own, enumFrom, intsOf, Option.map_some, intsOf_map, List.set_cons_succ, List.set_cons_zero, List.getElem?_cons_succ, List.getElem?_cons_zero, List.getD_cons_succ, List.getD_cons_zero, List.map_cons, List.map_nil, List.tail_cons, List.headD_cons, List.length_cons, List.length_nil, List.length_map, List.length_range, List.nodup_cons, List.nodup_nil, List.not_mem_nil, List.mem_cons, not_false_eq_true, or_false, false_or, or_true, true_or, and_true, true_and, and_self, if_true, if_false, reduceIte, decide_true, decide_false, Bool.not_true, Bool.not_false, Bool.and_true, Bool.true_and, List.cons_append, List.nil_append, List.append_nil, eq_self, reduceCtorEq, List.all_cons, List.all_nil, List.isEmpty_cons, List.isEmpty_nil, Nat.reduceSub, Nat.reduceAdd, Nat.reduceMul, Nat.reduceLT, Nat.reduceLeDiff, Nat.reduceEqDiff, Nat.reduceBEq, Int.reduceAdd, Int.reduceSub, Int.reduceNeg, Int.reduceMul, Int.reduceLT, Int.reduceLE, Int.reduceEq, Int.reducePow, Int.reduceToNat, Int.reduceDiv, Int.reduceMod, Nat.zero_add, Int.ofNat_eq_natCast, Int.cast_ofNat_Int]
    have ex : ∀ {dr : List D} {room' : Nat} {under : Int} {Q : D → R → Prop}, room' < n → room' ≤ 9 → DrOk dr → 0 ≤ under → under + n ≤ 1000000 → (∀ (t : Tr) dr', DrOk dr' → t.sz ≤ max room' 1 → Q t.e [.l dr', .un, .un, .un, .un]) → Wp (M_l_some n [.l dr, .d (.int room'), .d (.list (pool.map .str)), .d (.int under), .d (.int lots)]) Q :=
      fun a a2 b c d e => some_ok n _ a a2 b p0 p1 c d l0 l1 e
    have last : Wp ((mThen (mPar 10 11 (mOp addD (mC (.int 1)) (mCall (noX M_l_pick) [] (aO 0 (aD (mOp subD (mVar 1) (mC (.int 2))) aNil)))) (mCall (noX M_l_one) [] (aO 0 (aD (mFz (mCons (mC (.str "app")) (mCons (mC (.str "app")) (mCons (mC (.str "pi")) (mCons (mC (.str "fun")) mNil))))) aNil)))) (mThen (mAsg (mIf (mTest boolD (mOp eqD (mVar 11) (mC (.str "app")))) (mVar 3) (mOp addD (mVar 3) (mC (.int 1)))) (mSet 12)) (mRet (mTup (mCons (mVar 11) (mCons (mCall (noX (M_l_some n)) [] (aO 0 (aD (mVar 10) (aD (mVar 2) (aD (mVar 3) (aD (mVar 4) aNil)))))) (mCons (mCall (noX (M_l_some n)) [] (aO 0 (aD (mOp subD (mOp subD (mVar 1) (mC (.int 1))) (mVar 10)) (aD (mVar 2) (aD (mVar 12) (aD (mVar 4) aNil)))))) mNil))))))) [.l dr2, .d (.int room), .d (.list (pool.map .str)), .d (.int under), .d (.int lots), .d (.int way), .d (.tuple [.int lv, .tuple []]), .un, .un, .un, .un, .un, .un]) fun fl ρ => At (outP [0] 5 ρ) fun ρ1 => Bd Q fl ρ1 := by
      refine w_then.mpr ?_
      simp only [↓W0, ↓w_then, W1, List.reduceReplicate, String.reduceEq, List.drop_succ_cons, List.drop_zero, List.drop_nil, q_ls, q_lt_s, wipeR, backR, hideR, hideS, putB, noL, noLs, Sl.own, enumFrom, intsOf, Option.map_some, intsOf_map, List.set_cons_succ, List.set_cons_zero, List.getElem?_cons_succ, List.getElem?_cons_zero, List.getD_cons_succ, List.getD_cons_zero, List.map_cons, List.map_nil, List.tail_cons, List.headD_cons, List.length_cons, List.length_nil, List.length_map, List.length_range, List.nodup_cons, List.nodup_nil, List.not_mem_nil, List.mem_cons, not_false_eq_true, or_false, false_or, or_true, true_or, and_true, true_and, and_self, if_true, if_false, reduceIte, decide_true, decide_false, Bool.not_true, Bool.not_false, Bool.and_true, Bool.true_and, List.cons_append, List.nil_append, List.append_nil, eq_self, reduceCtorEq, List.all_cons, List.all_nil, List.isEmpty_cons, List.isEmpty_nil, Nat.reduceSub, Nat.reduceAdd, Nat.reduceMul, Nat.reduceLT, Nat.reduceLeDiff, Nat.reduceEqDiff, Nat.reduceBEq, Int.reduceAdd, Int.reduceSub, Int.reduceNeg, Int.reduceMul, Int.reduceLT, Int.reduceLE, Int.reduceEq, Int.reducePow, Int.reduceToNat, Int.reduceDiv, Int.reduceMod, Nat.zero_add, Int.ofNat_eq_natCast, Int.cast_ofNat_Int]
      refine pick_lt h2 (by omega) (by omega) fun r dr3 h3 r0 r1 => ?_
      simp only [↓W0, ↓w_then, W1, List.reduceReplicate, String.reduceEq, List.drop_succ_cons, List.drop_zero, List.drop_nil, q_ls, q_lt_s, wipeR, backR, hideR, hideS, putB, noL, noLs, Sl.own, enumFrom, intsOf, Option.map_some, intsOf_map, List.set_cons_succ, List.set_cons_zero, List.getElem?_cons_succ, List.getElem?_cons_zero, List.getD_cons_succ, List.getD_cons_zero, List.map_cons, List.map_nil, List.tail_cons, List.headD_cons, List.length_cons, List.length_nil, List.length_map, List.length_range, List.nodup_cons, List.nodup_nil, List.not_mem_nil, List.mem_cons, not_false_eq_true, or_false, false_or, or_true, true_or, and_true, true_and, and_self, if_true, if_false, reduceIte, decide_true, decide_false, Bool.not_true, Bool.not_false, Bool.and_true, Bool.true_and, List.cons_append, List.nil_append, List.append_nil, eq_self, reduceCtorEq, List.all_cons, List.all_nil, List.isEmpty_cons, List.isEmpty_nil, Nat.reduceSub, Nat.reduceAdd, Nat.reduceMul, Nat.reduceLT, Nat.reduceLeDiff, Nat.reduceEqDiff, Nat.reduceBEq, Int.reduceAdd, Int.reduceSub, Int.reduceNeg, Int.reduceMul, Int.reduceLT, Int.reduceLE, Int.reduceEq, Int.reducePow, Int.reduceToNat, Int.reduceDiv, Int.reduceMod, Nat.zero_add, Int.ofNat_eq_natCast, Int.cast_ofNat_Int]
      refine one_ok h3 (by simp) (by simp) fun x dr4 h4 hx => ?_
      obtain ⟨t3, rfl⟩ : ∃ t3 : T3, x = .str t3.s := by
        simp only [List.mem_cons, List.not_mem_nil, or_false] at hx
        rcases hx with rfl | rfl | rfl | rfl
        · exact ⟨.app, rfl⟩
        · exact ⟨.app, rfl⟩
        · exact ⟨.pi, rfl⟩
        · exact ⟨.fn, rfl⟩
      simp only [↓W0, ↓w_then, W1, List.reduceReplicate, String.reduceEq, List.drop_succ_cons, List.drop_zero, List.drop_nil, q_ls, q_lt_s, wipeR, backR, hideR, hideS, putB, noL, noLs, Sl.own, enumFrom, intsOf, Option.map_some, intsOf_map, List.set_cons_succ, List.set_cons_zero, List.getElem?_cons_succ, List.getElem?_cons_zero, List.getD_cons_succ, List.getD_cons_zero, List.map_cons, List.map_nil, List.tail_cons, List.headD_cons, List.length_cons, List.length_nil, List.length_map, List.length_range, List.nodup_cons, List.nodup_nil, List.not_mem_nil, List.mem_cons, not_false_eq_true, or_false, false_or, or_true, true_or, and_true, true_and, and_self, if_true, if_false, reduceIte, decide_true, decide_false, Bool.not_true, Bool.not_false, Bool.and_true, Bool.true_and, List.cons_append, List.nil_append, List.append_nil, eq_self, reduceCtorEq, List.all_cons, List.all_nil, List.isEmpty_cons, List.isEmpty_nil, Nat.reduceSub, Nat.reduceAdd, Nat.reduceMul, Nat.reduceLT, Nat.reduceLeDiff, Nat.reduceEqDiff, Nat.reduceBEq, Int.reduceAdd, Int.reduceSub, Int.reduceNeg, Int.reduceMul, Int.reduceLT, Int.reduceLE, Int.reduceEq, Int.reducePow, Int.reduceToNat, Int.reduceDiv, Int.reduceMod, Nat.zero_add, Int.ofNat_eq_natCast, Int.cast_ofNat_Int]
      obtain ⟨c, ec⟩ : ∃ c : Nat, 1 + r = (c : Nat) := ⟨(1 + r).toNat, by omega⟩
      cases t3
      all_goals
        simp only [↓W0, W1, List.reduceReplicate, String.reduceEq, List.drop_succ_cons, List.drop_zero, List.drop_nil, q_ls, q_lt_s, wipeR, backR, hideR, hideS, putB, noL, noLs, Sl.own, enumFrom, intsOf, Option.map_some, intsOf_map, List.set_cons_succ, List.set_cons_zero, List.getElem?_cons_succ, List.getElem?_cons_zero, List.getD_cons_succ, List.getD_cons_zero, List.map_cons, List.map_nil, List.tail_cons, List.headD_cons, List.length_cons, List.length_nil, List.length_map, List.length_range, List.nodup_cons, List.nodup_nil, List.not_mem_nil, List.mem_cons, not_false_eq_true, or_false, false_or, or_true, true_or, and_true, true_and, and_self, if_true, if_false, reduceIte, decide_true, decide_false, Bool.not_true, Bool.not_false, Bool.and_true, Bool.true_and, List.cons_append, List.nil_append, List.append_nil, eq_self, reduceCtorEq, List.all_cons, List.all_nil, List.isEmpty_cons, List.isEmpty_nil, Nat.reduceSub, Nat.reduceAdd, Nat.reduceMul, Nat.reduceLT, Nat.reduceLeDiff, Nat.reduceEqDiff, Nat.reduceBEq, Int.reduceAdd, Int.reduceSub, Int.reduceNeg, Int.reduceMul, Int.reduceLT, Int.reduceLE, Int.reduceEq, Int.reducePow, Int.reduceToNat, Int.reduceDiv, Int.reduceMod, Nat.zero_add, Int.ofNat_eq_natCast, Int.cast_ofNat_Int, T3.s]
        rw [ec]
        refine ex (by omega) (by omega) h4 u0 (by omega) fun t dr5 h5 ht => ?_
        simp only [↓W0, ↓w_then, W1, List.reduceReplicate, String.reduceEq, List.drop_succ_cons, List.drop_zero, List.drop_nil, q_ls, q_lt_s, wipeR, backR, hideR, hideS, putB, noL, noLs, Sl.own, enumFrom, intsOf, Option.map_some, intsOf_map, List.set_cons_succ, List.set_cons_zero, List.getElem?_cons_succ, List.getElem?_cons_zero, List.getD_cons_succ, List.getD_cons_zero, List.map_cons, List.map_nil, List.tail_cons, List.headD_cons, List.length_cons, List.length_nil, List.length_map, List.length_range, List.nodup_cons, List.nodup_nil, List.not_mem_nil, List.mem_cons, not_false_eq_true, or_false, false_or, or_true, true_or, and_true, true_and, and_self, if_true, if_false, reduceIte, decide_true, decide_false, Bool.not_true, Bool.not_false, Bool.and_true, Bool.true_and, List.cons_append, List.nil_append, List.append_nil, eq_self, reduceCtorEq, List.all_cons, List.all_nil, List.isEmpty_cons, List.isEmpty_nil, Nat.reduceSub, Nat.reduceAdd, Nat.reduceMul, Nat.reduceLT, Nat.reduceLeDiff, Nat.reduceEqDiff, Nat.reduceBEq, Int.reduceAdd, Int.reduceSub, Int.reduceNeg, Int.reduceMul, Int.reduceLT, Int.reduceLE, Int.reduceEq, Int.reducePow, Int.reduceToNat, Int.reduceDiv, Int.reduceMod, Nat.zero_add, Int.ofNat_eq_natCast, Int.cast_ofNat_Int]
        obtain ⟨d, ed⟩ : ∃ d : Nat, (room : Int) - 1 - (c : Nat) = (d : Nat) := ⟨((room : Int) - 1 - (c : Nat)).toNat, by omega⟩
        rw [ed]
        refine ex (by omega) (by omega) h5 (by omega) (by omega) fun t' dr6 h6 ht' => ?_
        simp only [↓W0, ↓w_then, W1, List.reduceReplicate, String.reduceEq, List.drop_succ_cons, List.drop_zero, List.drop_nil, q_ls, q_lt_s, wipeR, backR, hideR, hideS, putB, noL, noLs, Sl.own, enumFrom, intsOf, Option.map_some, intsOf_map, List.set_cons_succ, List.set_cons_zero, List.getElem?_cons_succ, List.getElem?_cons_zero, List.getD_cons_succ, List.getD_cons_zero, List.map_cons, List.map_nil, List.tail_cons, List.headD_cons, List.length_cons, List.length_nil, List.length_map, List.length_range, List.nodup_cons, List.nodup_nil, List.not_mem_nil, List.mem_cons, not_false_eq_true, or_false, false_or, or_true, true_or, and_true, true_and, and_self, if_true, if_false, reduceIte, decide_true, decide_false, Bool.not_true, Bool.not_false, Bool.and_true, Bool.true_and, List.cons_append, List.nil_append, List.append_nil, eq_self, reduceCtorEq, List.all_cons, List.all_nil, List.isEmpty_cons, List.isEmpty_nil, Nat.reduceSub, Nat.reduceAdd, Nat.reduceMul, Nat.reduceLT, Nat.reduceLeDiff, Nat.reduceEqDiff, Nat.reduceBEq, Int.reduceAdd, Int.reduceSub, Int.reduceNeg, Int.reduceMul, Int.reduceLT, Int.reduceLE, Int.reduceEq, Int.reducePow, Int.reduceToNat, Int.reduceDiv, Int.reduceMod, Nat.zero_add, Int.ofNat_eq_natCast, Int.cast_ofNat_Int]
        first
          | exact k (.two .app t t') dr6 h6 (by simp only [Tr.sz]; omega)
          | exact k (.two .pi t t') dr6 h6 (by simp only [Tr.sz]; omega)
          | exact k (.two .fn t t') dr6 h6 (by simp only [Tr.sz]; omega)
    refine w_then.mpr ?_
    simp only [↓W0, ↓w_then, W1, List.reduceReplicate, String.reduceEq, List.drop_succ_cons, List.drop_zero, List.drop_nil, q_ls, q_lt_s, wipeR, backR, hideR, hideS, putB, noL, noLs, Sl.own, enumFrom, intsOf, Option.map_some, intsOf_map, List.set_cons_succ, List.set_cons_zero, List.getElem?_cons_succ, List.getElem?_cons_zero, List.getD_cons_succ, List.getD_cons_zero, List.map_cons, List.map_nil, List.tail_cons, List.headD_cons, List.length_cons, List.length_nil, List.length_map, List.length_range, List.nodup_cons, List.nodup_nil, List.not_mem_nil, List.mem_cons, not_false_eq_true, or_false, false_or, or_true, true_or, and_true, true_and, and_self, if_true, if_false, reduceIte, decide_true, decide_false, Bool.not_true, Bool.not_false, Bool.and_true, Bool.true_and, List.cons_append, List.nil_append, List.append_nil, eq_self, reduceCtorEq, List.all_cons, List.all_nil, List.isEmpty_cons, List.isEmpty_nil, Nat.reduceSub, Nat.reduceAdd, Nat.reduceMul, Nat.reduceLT, Nat.reduceLeDiff, Nat.reduceEqDiff, Nat.reduceBEq, Int.reduceAdd, Int.reduceSub, Int.reduceNeg, Int.reduceMul, Int.reduceLT, Int.reduceLE, Int.reduceEq, Int.reducePow, Int.reduceToNat, Int.reduceDiv, Int.reduceMod, Nat.zero_add, Int.ofNat_eq_natCast, Int.cast_ofNat_Int]
    refine br_dec (fun e3 => ?_) (fun e3 => ?_)
    · simp only [↓W0, ↓w_then, W1, List.reduceReplicate, String.reduceEq, List.drop_succ_cons, List.drop_zero, List.drop_nil, q_ls, q_lt_s, wipeR, backR, hideR, hideS, putB, noL, noLs, Sl.own, enumFrom, intsOf, Option.map_some, intsOf_map, List.set_cons_succ, List.set_cons_zero, List.getElem?_cons_succ, List.getElem?_cons_zero, List.getD_cons_succ, List.getD_cons_zero, List.map_cons, List.map_nil, List.tail_cons, List.headD_cons, List.length_cons, List.length_nil, List.length_map, List.length_range, List.nodup_cons, List.nodup_nil, List.not_mem_nil, List.mem_cons, not_false_eq_true, or_false, false_or, or_true, true_or, and_true, true_and, and_self, if_true, if_false, reduceIte, decide_true, decide_false, Bool.not_true, Bool.not_false, Bool.and_true, Bool.true_and, List.cons_append, List.nil_append, List.append_nil, eq_self, reduceCtorEq, List.all_cons, List.all_nil, List.isEmpty_cons, List.isEmpty_nil, Nat.reduceSub, Nat.reduceAdd, Nat.reduceMul, Nat.reduceLT, Nat.reduceLeDiff, Nat.reduceEqDiff, Nat.reduceBEq, Int.reduceAdd, Int.reduceSub, Int.reduceNeg, Int.reduceMul, Int.reduceLT, Int.reduceLE, Int.reduceEq, Int.reducePow, Int.reduceToNat, Int.reduceDiv, Int.reduceMod, Nat.zero_add, Int.ofNat_eq_natCast, Int.cast_ofNat_Int]
      refine br_dec (fun e4 => ?_) (fun e4 => ?_)
      · simp only [↓W0, ↓w_then, W1, List.reduceReplicate, String.reduceEq, List.drop_succ_cons, List.drop_zero, List.drop_nil, q_ls, q_lt_s, wipeR, backR, hideR, hideS, putB, noL, noLs, Sl.own, enumFrom, intsOf, Option.map_some, intsOf_map, List.set_cons_succ, List.set_cons_zero, List.getElem?_cons_succ, List.getElem?_cons_zero, List.getD_cons_succ, List.getD_cons_zero, List.map_cons, List.map_nil, List.tail_cons, List.headD_cons, List.length_cons, List.length_nil, List.length_map, List.length_range, List.nodup_cons, List.nodup_nil, List.not_mem_nil, List.mem_cons, not_false_eq_true, or_false, false_or, or_true, true_or, and_true, true_and, and_self, if_true, if_false, reduceIte, decide_true, decide_false, Bool.not_true, Bool.not_false, Bool.and_true, Bool.true_and, List.cons_append, List.nil_append, List.append_nil, eq_self, reduceCtorEq, List.all_cons, List.all_nil, List.isEmpty_cons, List.isEmpty_nil, Nat.reduceSub, Nat.reduceAdd, Nat.reduceMul, Nat.reduceLT, Nat.reduceLeDiff, Nat.reduceEqDiff, Nat.reduceBEq, Int.reduceAdd, Int.reduceSub, Int.reduceNeg, Int.reduceMul, Int.reduceLT, Int.reduceLE, Int.reduceEq, Int.reducePow, Int.reduceToNat, Int.reduceDiv, Int.reduceMod, Nat.zero_add, Int.ofNat_eq_natCast, Int.cast_ofNat_Int]
        obtain ⟨th, eth⟩ : ∃ th : Nat, ((room : Int) - 1) / 3 = (th : Nat) := ⟨(((room : Int) - 1) / 3).toNat, by omega⟩
        rw [eth]
        have ht0 : 1 ≤ th := by omega
        have ht1 : 3 * th + 1 ≤ room := by omega
        refine comp_st (σ := List D) (mk := fun s => [.l s, .d (.int room), .d (.list (pool.map .str)), .d (.int under), .d (.int lots), .d (.int way), .d (.tuple [.int lv, .tuple []]), .d (.int th), .un, .un, .un, .un, .un]) (I := DrOk) (enc := fun z : Nat => PyData.int (z : Nat)) (r := fun _ y => ∃ t : Tr, y = t.e ∧ t.sz ≤ th) (L := [0, 1]) (s := dr2) ?_ h2 ?_
        · intro x _ s hs
          simp only [↓W0, ↓w_then, W1, List.reduceReplicate, String.reduceEq, List.drop_succ_cons, List.drop_zero, List.drop_nil, q_ls, q_lt_s, wipeR, backR, hideR, hideS, putB, noL, noLs, Sl.own, enumFrom, intsOf, Option.map_some, intsOf_map, List.set_cons_succ, List.set_cons_zero, List.getElem?_cons_succ, List.getElem?_cons_zero, List.getD_cons_succ, List.getD_cons_zero, List.map_cons, List.map_nil, List.tail_cons, List.headD_cons, List.length_cons, List.length_nil, List.length_map, List.length_range, List.nodup_cons, List.nodup_nil, List.not_mem_nil, List.mem_cons, not_false_eq_true, or_false, false_or, or_true, true_or, and_true, true_and, and_self, if_true, if_false, reduceIte, decide_true, decide_false, Bool.not_true, Bool.not_false, Bool.and_true, Bool.true_and, List.cons_append, List.nil_append, List.append_nil, eq_self, reduceCtorEq, List.all_cons, List.all_nil, List.isEmpty_cons, List.isEmpty_nil, Nat.reduceSub, Nat.reduceAdd, Nat.reduceMul, Nat.reduceLT, Nat.reduceLeDiff, Nat.reduceEqDiff, Nat.reduceBEq, Int.reduceAdd, Int.reduceSub, Int.reduceNeg, Int.reduceMul, Int.reduceLT, Int.reduceLE, Int.reduceEq, Int.reducePow, Int.reduceToNat, Int.reduceDiv, Int.reduceMod, Nat.zero_add, Int.ofNat_eq_natCast, Int.cast_ofNat_Int]
          refine ex (by omega) (by omega) hs u0 (by omega) fun t dr' h' ht => ?_
          simp only [↓W0, ↓w_then, W1, List.reduceReplicate, String.reduceEq, List.drop_succ_cons, List.drop_zero, List.drop_nil, q_ls, q_lt_s, wipeR, backR, hideR, hideS, putB, noL, noLs, Sl.own, enumFrom, intsOf, Option.map_some, intsOf_map, List.set_cons_succ, List.set_cons_zero, List.getElem?_cons_succ, List.getElem?_cons_zero, List.getD_cons_succ, List.getD_cons_zero, List.map_cons, List.map_nil, List.tail_cons, List.headD_cons, List.length_cons, List.length_nil, List.length_map, List.length_range, List.nodup_cons, List.nodup_nil, List.not_mem_nil, List.mem_cons, not_false_eq_true, or_false, false_or, or_true, true_or, and_true, true_and, and_self, if_true, if_false, reduceIte, decide_true, decide_false, Bool.not_true, Bool.not_false, Bool.and_true, Bool.true_and, List.cons_append, List.nil_append, List.append_nil, eq_self, reduceCtorEq, List.all_cons, List.all_nil, List.isEmpty_cons, List.isEmpty_nil, Nat.reduceSub, Nat.reduceAdd, Nat.reduceMul, Nat.reduceLT, Nat.reduceLeDiff, Nat.reduceEqDiff, Nat.reduceBEq, Int.reduceAdd, Int.reduceSub, Int.reduceNeg, Int.reduceMul, Int.reduceLT, Int.reduceLE, Int.reduceEq, Int.reducePow, Int.reduceToNat, Int.reduceDiv, Int.reduceMod, Nat.zero_add, Int.ofNat_eq_natCast, Int.cast_ofNat_Int]
          exact ⟨⟨t, rfl, by omega⟩, dr', h', rfl⟩
        intro ys s' q hs
        obtain ⟨ts, e5, e6, e7⟩ := q.ex
        obtain ⟨a, b, rfl⟩ : ∃ a b, ts = [a, b] := by
          match ts, e6 with
          | [a, b], _ => exact ⟨a, b, rfl⟩
        subst e5
        simp only [↓W0, ↓w_then, W1, List.reduceReplicate, String.reduceEq, List.drop_succ_cons, List.drop_zero, List.drop_nil, q_ls, q_lt_s, wipeR, backR, hideR, hideS, putB, noL, noLs, Sl.own, enumFrom, intsOf, Option.map_some, intsOf_map, List.set_cons_succ, List.set_cons_zero, List.getElem?_cons_succ, List.getElem?_cons_zero, List.getD_cons_succ, List.getD_cons_zero, List.map_cons, List.map_nil, List.tail_cons, List.headD_cons, List.length_cons, List.length_nil, List.length_map, List.length_range, List.nodup_cons, List.nodup_nil, List.not_mem_nil, List.mem_cons, not_false_eq_true, or_false, false_or, or_true, true_or, and_true, true_and, and_self, if_true, if_false, reduceIte, decide_true, decide_false, Bool.not_true, Bool.not_false, Bool.and_true, Bool.true_and, List.cons_append, List.nil_append, List.append_nil, eq_self, reduceCtorEq, List.all_cons, List.all_nil, List.isEmpty_cons, List.isEmpty_nil, Nat.reduceSub, Nat.reduceAdd, Nat.reduceMul, Nat.reduceLT, Nat.reduceLeDiff, Nat.reduceEqDiff, Nat.reduceBEq, Int.reduceAdd, Int.reduceSub, Int.reduceNeg, Int.reduceMul, Int.reduceLT, Int.reduceLE, Int.reduceEq, Int.reducePow, Int.reduceToNat, Int.reduceDiv, Int.reduceMod, Nat.zero_add, Int.ofNat_eq_natCast, Int.cast_ofNat_Int]
        refine ex (by omega) (by omega) hs (by omega) (by omega) fun t dr' h' ht => ?_
        simp only [↓W0, ↓w_then, W1, List.reduceReplicate, String.reduceEq, List.drop_succ_cons, List.drop_zero, List.drop_nil, q_ls, q_lt_s, wipeR, backR, hideR, hideS, putB, noL, noLs, Sl.own, enumFrom, intsOf, Option.map_some, intsOf_map, List.set_cons_succ, List.set_cons_zero, List.getElem?_cons_succ, List.getElem?_cons_zero, List.getD_cons_succ, List.getD_cons_zero, List.map_cons, List.map_nil, List.tail_cons, List.headD_cons, List.length_cons, List.length_nil, List.length_map, List.length_range, List.nodup_cons, List.nodup_nil, List.not_mem_nil, List.mem_cons, not_false_eq_true, or_false, false_or, or_true, true_or, and_true, true_and, and_self, if_true, if_false, reduceIte, decide_true, decide_false, Bool.not_true, Bool.not_false, Bool.and_true, Bool.true_and, List.cons_append, List.nil_append, List.append_nil, eq_self, reduceCtorEq, List.all_cons, List.all_nil, List.isEmpty_cons, List.isEmpty_nil, Nat.reduceSub, Nat.reduceAdd, Nat.reduceMul, Nat.reduceLT, Nat.reduceLeDiff, Nat.reduceEqDiff, Nat.reduceBEq, Int.reduceAdd, Int.reduceSub, Int.reduceNeg, Int.reduceMul, Int.reduceLT, Int.reduceLE, Int.reduceEq, Int.reducePow, Int.reduceToNat, Int.reduceDiv, Int.reduceMod, Nat.zero_add, Int.ofNat_eq_natCast, Int.cast_ofNat_Int]
        have s1 := e7 a (by simp)
        have s2 := e7 b (by simp)
        exact k (.lt a b t) dr' h' (by simp only [Tr.sz]; omega)
      · simp only [↓W0, W1, List.reduceReplicate, String.reduceEq, List.drop_succ_cons, List.drop_zero, List.drop_nil, q_ls, q_lt_s, wipeR, backR, hideR, hideS, putB, noL, noLs, Sl.own, enumFrom, intsOf, Option.map_some, intsOf_map, List.set_cons_succ, List.set_cons_zero, List.getElem?_cons_succ, List.getElem?_cons_zero, List.getD_cons_succ, List.getD_cons_zero, List.map_cons, List.map_nil, List.tail_cons, List.headD_cons, List.length_cons, List.length_nil, List.length_map, List.length_range, List.nodup_cons, List.nodup_nil, List.not_mem_nil, List.mem_cons, not_false_eq_true, or_false, false_or, or_true, true_or, and_true, true_and, and_self, if_true, if_false, reduceIte, decide_true, decide_false, Bool.not_true, Bool.not_false, Bool.and_true, Bool.true_and, List.cons_append, List.nil_append, List.append_nil, eq_self, reduceCtorEq, List.all_cons, List.all_nil, List.isEmpty_cons, List.isEmpty_nil, Nat.reduceSub, Nat.reduceAdd, Nat.reduceMul, Nat.reduceLT, Nat.reduceLeDiff, Nat.reduceEqDiff, Nat.reduceBEq, Int.reduceAdd, Int.reduceSub, Int.reduceNeg, Int.reduceMul, Int.reduceLT, Int.reduceLE, Int.reduceEq, Int.reducePow, Int.reduceToNat, Int.reduceDiv, Int.reduceMod, Nat.zero_add, Int.ofNat_eq_natCast, Int.cast_ofNat_Int]
        exact last
    · simp only [↓W0, W1, List.reduceReplicate, String.reduceEq, List.drop_succ_cons, List.drop_zero, List.drop_nil, q_ls, q_lt_s, wipeR, backR, hideR, hideS, putB, noL, noLs, Sl.own, enumFrom, intsOf, Option.map_some, intsOf_map, List.set_cons_succ, List.set_cons_zero, List.getElem?_cons_succ, List.getElem?_cons_zero, List.getD_cons_succ, List.getD_cons_zero, List.map_cons, List.map_nil, List.tail_cons, List.headD_cons, List.length_cons, List.length_nil, List.length_map, List.length_range, List.nodup_cons, List.nodup_nil, List.not_mem_nil, List.mem_cons, not_false_eq_true, or_false, false_or, or_true, true_or, and_true, true_and, and_self, if_true, if_false, reduceIte, decide_true, decide_false, Bool.not_true, Bool.not_false, Bool.and_true, Bool.true_and, List.cons_append, List.nil_append, List.append_nil, eq_self, reduceCtorEq, List.all_cons, List.all_nil, List.isEmpty_cons, List.isEmpty_nil, Nat.reduceSub, Nat.reduceAdd, Nat.reduceMul, Nat.reduceLT, Nat.reduceLeDiff, Nat.reduceEqDiff, Nat.reduceBEq, Int.reduceAdd, Int.reduceSub, Int.reduceNeg, Int.reduceMul, Int.reduceLT, Int.reduceLE, Int.reduceEq, Int.reducePow, Int.reduceToNat, Int.reduceDiv, Int.reduceMod, Nat.zero_add, Int.ofNat_eq_natCast, Int.cast_ofNat_Int]
      exact last

end DL

namespace DL
open PySem PySem.Spec PyProof.Rows L2
theorem cons_map {α : Type} {f : α → D} {a : α} {l : List α} : f a :: l.map f = (a :: l).map f := rfl
/-- rooms -/
theorem rooms_ok {dr : List D} {most : Int} {Q : D → R → Prop} (h : DrOk dr) (m0 : 0 ≤ most) (m1 : most ≤ 8) (k : ∀ (rs : List Nat) dr', DrOk dr' → rs.length ≤ most.toNat → (∀ r ∈ rs, r ≤ 8) → Q (.list (rs.map fun r : Nat => .int (r : Nat))) [.l dr', .un]) : Wp (M_l_rooms [.l dr, .d (.int most)]) Q := by
  unfold M_l_rooms b_l_rooms
  simp only [↓W0, ↓w_then, W1, List.reduceReplicate, String.reduceEq, List.drop_succ_cons, List.drop_zero, List.drop_nil, q_ls, q_lt_s, wipeR, backR, hideR, hideS, putB, noL, noLs, Sl.own, enumFrom, intsOf, Option.map_some, intsOf_map, List.set_cons_succ, List.set_cons_zero, List.getElem?_cons_succ, List.getElem?_cons_zero, List.getD_cons_succ, List.getD_cons_zero, List.map_cons, List.map_nil, List.tail_cons, List.headD_cons, List.length_cons, List.length_nil, List.length_map, List.length_range, List.nodup_cons, List.nodup_nil, List.not_mem_nil, List.mem_cons, not_false_eq_true, or_false, false_or, or_true, true_or, and_true, true_and, and_self, if_true, if_false, reduceIte, decide_true, decide_false, Bool.not_true, Bool.not_false, Bool.and_true, Bool.true_and, List.cons_append, List.nil_append, List.append_nil, eq_self, reduceCtorEq, List.all_cons, List.all_nil, List.isEmpty_cons, List.isEmpty_nil, Nat.reduceSub, Nat.reduceAdd, Nat.reduceMul, Nat.reduceLT, Nat.reduceLeDiff, Nat.reduceEqDiff, Nat.reduceBEq, Int.reduceAdd, Int.reduceSub, Int.reduceNeg, Int.reduceMul, Int.reduceLT, Int.reduceLE, Int.reduceEq, Int.reducePow, Int.reduceToNat, Int.reduceDiv, Int.reduceMod, Nat.zero_add, Int.ofNat_eq_natCast, Int.cast_ofNat_Int]
  refine pick_lt h (by omega) (by omega) fun m dr1 h1 r0 r1 => ?_
  have er := range_ok r0 (by omega)
  have a1 : m.toNat ≤ 1000 := by omega
  simp only [↓W0, ↓w_then, W1, List.reduceReplicate, String.reduceEq, List.drop_succ_cons, List.drop_zero, List.drop_nil, q_ls, q_lt_s, wipeR, backR, hideR, hideS, putB, noL, noLs, Sl.own, enumFrom, intsOf, Option.map_some, intsOf_map, List.set_cons_succ, List.set_cons_zero, List.getElem?_cons_succ, List.getElem?_cons_zero, List.getD_cons_succ, List.getD_cons_zero, List.map_cons, List.map_nil, List.tail_cons, List.headD_cons, List.length_cons, List.length_nil, List.length_map, List.length_range, List.nodup_cons, List.nodup_nil, List.not_mem_nil, List.mem_cons, not_false_eq_true, or_false, false_or, or_true, true_or, and_true, true_and, and_self, if_true, if_false, reduceIte, decide_true, decide_false, Bool.not_true, Bool.not_false, Bool.and_true, Bool.true_and, List.cons_append, List.nil_append, List.append_nil, eq_self, reduceCtorEq, List.all_cons, List.all_nil, List.isEmpty_cons, List.isEmpty_nil, Nat.reduceSub, Nat.reduceAdd, Nat.reduceMul, Nat.reduceLT, Nat.reduceLeDiff, Nat.reduceEqDiff, Nat.reduceBEq, Int.reduceAdd, Int.reduceSub, Int.reduceNeg, Int.reduceMul, Int.reduceLT, Int.reduceLE, Int.reduceEq, Int.reducePow, Int.reduceToNat, Int.reduceDiv, Int.reduceMod, Nat.zero_add, Int.ofNat_eq_natCast, Int.cast_ofNat_Int, er, a1]
  refine comp_st (σ := List D) (mk := fun s => [.l s, .d (.int most), .un]) (I := DrOk) (enc := fun z : Nat => PyData.int (z : Nat)) (r := fun _ y => ∃ t : Nat, y = PyData.int (t : Nat) ∧ t ≤ 8) (L := List.range m.toNat) (s := dr1) ?_ h1 ?_
  · intro x _ s hs
    simp only [↓W0, ↓w_then, W1, List.reduceReplicate, String.reduceEq, List.drop_succ_cons, List.drop_zero, List.drop_nil, q_ls, q_lt_s, wipeR, backR, hideR, hideS, putB, noL, noLs, Sl.own, enumFrom, intsOf, Option.map_some, intsOf_map, List.set_cons_succ, List.set_cons_zero, List.getElem?_cons_succ, List.getElem?_cons_zero, List.getD_cons_succ, List.getD_cons_zero, List.map_cons, List.map_nil, List.tail_cons, List.headD_cons, List.length_cons, List.length_nil, List.length_map, List.length_range, List.nodup_cons, List.nodup_nil, List.not_mem_nil, List.mem_cons, not_false_eq_true, or_false, false_or, or_true, true_or, and_true, true_and, and_self, if_true, if_false, reduceIte, decide_true, decide_false, Bool.not_true, Bool.not_false, Bool.and_true, Bool.true_and, List.cons_append, List.nil_append, List.append_nil, eq_self, reduceCtorEq, List.all_cons, List.all_nil, List.isEmpty_cons, List.isEmpty_nil, Nat.reduceSub, Nat.reduceAdd, Nat.reduceMul, Nat.reduceLT, Nat.reduceLeDiff, Nat.reduceEqDiff, Nat.reduceBEq, Int.reduceAdd, Int.reduceSub, Int.reduceNeg, Int.reduceMul, Int.reduceLT, Int.reduceLE, Int.reduceEq, Int.reducePow, Int.reduceToNat, Int.reduceDiv, Int.reduceMod, Nat.zero_add, Int.ofNat_eq_natCast, Int.cast_ofNat_Int]
    refine pick_lt hs (by omega) (by omega) fun v dr2 h2 v0 v1 => ?_
    simp only [↓W0, ↓w_then, W1, List.reduceReplicate, String.reduceEq, List.drop_succ_cons, List.drop_zero, List.drop_nil, q_ls, q_lt_s, wipeR, backR, hideR, hideS, putB, noL, noLs, Sl.own, enumFrom, intsOf, Option.map_some, intsOf_map, List.set_cons_succ, List.set_cons_zero, List.getElem?_cons_succ, List.getElem?_cons_zero, List.getD_cons_succ, List.getD_cons_zero, List.map_cons, List.map_nil, List.tail_cons, List.headD_cons, List.length_cons, List.length_nil, List.length_map, List.length_range, List.nodup_cons, List.nodup_nil, List.not_mem_nil, List.mem_cons, not_false_eq_true, or_false, false_or, or_true, true_or, and_true, true_and, and_self, if_true, if_false, reduceIte, decide_true, decide_false, Bool.not_true, Bool.not_false, Bool.and_true, Bool.true_and, List.cons_append, List.nil_append, List.append_nil, eq_self, reduceCtorEq, List.all_cons, List.all_nil, List.isEmpty_cons, List.isEmpty_nil, Nat.reduceSub, Nat.reduceAdd, Nat.reduceMul, Nat.reduceLT, Nat.reduceLeDiff, Nat.reduceEqDiff, Nat.reduceBEq, Int.reduceAdd, Int.reduceSub, Int.reduceNeg, Int.reduceMul, Int.reduceLT, Int.reduceLE, Int.reduceEq, Int.reducePow, Int.reduceToNat, Int.reduceDiv, Int.reduceMod, Nat.zero_add, Int.ofNat_eq_natCast, Int.cast_ofNat_Int]
    exact ⟨⟨(1 + v).toNat, by congr 1; omega, by omega⟩, dr2, h2, rfl⟩
  intro ys s' q hs
  obtain ⟨rs, e5, e6, e7⟩ := q.ex
  subst e5
  simp only [↓W0, ↓w_then, W1, List.reduceReplicate, String.reduceEq, List.drop_succ_cons, List.drop_zero, List.drop_nil, q_ls, q_lt_s, wipeR, backR, hideR, hideS, putB, noL, noLs, Sl.own, enumFrom, intsOf, Option.map_some, intsOf_map, List.set_cons_succ, List.set_cons_zero, List.getElem?_cons_succ, List.getElem?_cons_zero, List.getD_cons_succ, List.getD_cons_zero, List.map_cons, List.map_nil, List.tail_cons, List.headD_cons, List.length_cons, List.length_nil, List.length_map, List.length_range, List.nodup_cons, List.nodup_nil, List.not_mem_nil, List.mem_cons, not_false_eq_true, or_false, false_or, or_true, true_or, and_true, true_and, and_self, if_true, if_false, reduceIte, decide_true, decide_false, Bool.not_true, Bool.not_false, Bool.and_true, Bool.true_and, List.cons_append, List.nil_append, List.append_nil, eq_self, reduceCtorEq, List.all_cons, List.all_nil, List.isEmpty_cons, List.isEmpty_nil, Nat.reduceSub, Nat.reduceAdd, Nat.reduceMul, Nat.reduceLT, Nat.reduceLeDiff, Nat.reduceEqDiff, Nat.reduceBEq, Int.reduceAdd, Int.reduceSub, Int.reduceNeg, Int.reduceMul, Int.reduceLT, Int.reduceLE, Int.reduceEq, Int.reducePow, Int.reduceToNat, Int.reduceDiv, Int.reduceMod, Nat.zero_add, Int.ofNat_eq_natCast, Int.cast_ofNat_Int]
  exact k rs s' hs (by rw [e6, List.length_range]; omega) e7
/-- terms of rooms -/
theorem somes_ok {dr : List D} {pool : List Str} {rs : List Nat} {under lots step : Int} {Q : D → R → Prop} (h : DrOk dr) (hr : rs.length ≤ 12) (hr8 : ∀ r ∈ rs, r ≤ 8) (p0 : 0 < pool.length) (p1 : pool.length ≤ 900) (u0 : 0 ≤ under) (u1 : under ≤ 1000) (l0 : 0 ≤ lots) (l1 : lots ≤ 10) (s0 : 0 ≤ step) (s1 : step ≤ 1)
    (k : ∀ (ts : List Tr) dr', DrOk dr' → ts.length = rs.length → (∀ t ∈ ts, t.sz ≤ 8) → Q (tsD ts) [.l dr', .un, .un, .un, .un, .un]) :
    Wp (M_l_somes [.l dr, .d (.list (rs.map fun r : Nat => .int (r : Nat))), .d (.list (pool.map .str)), .d (.int under), .d (.int lots), .d (.int step)]) Q := by
  unfold M_l_somes b_l_somes
  have a1 : (List.zipIdx rs).length ≤ 1000 := by rw [List.length_zipIdx]; omega
  simp only [↓W0, ↓w_then, W1, List.reduceReplicate, String.reduceEq, List.drop_succ_cons, List.drop_zero, List.drop_nil, q_ls, q_lt_s, wipeR, backR, hideR, hideS, putB, noL, noLs, Sl.own, enumFrom, intsOf, Option.map_some, intsOf_map, List.set_cons_succ, List.set_cons_zero, List.getElem?_cons_succ, List.getElem?_cons_zero, List.getD_cons_succ, List.getD_cons_zero, List.map_cons, List.map_nil, List.tail_cons, List.headD_cons, List.length_cons, List.length_nil, List.length_map, List.length_range, List.nodup_cons, List.nodup_nil, List.not_mem_nil, List.mem_cons, not_false_eq_true, or_false, false_or, or_true, true_or, and_true, true_and, and_self, if_true, if_false, reduceIte, decide_true, decide_false, Bool.not_true, Bool.not_false, Bool.and_true, Bool.true_and, List.cons_append, List.nil_append, List.append_nil, eq_self, reduceCtorEq, List.all_cons, List.all_nil, List.isEmpty_cons, List.isEmpty_nil, Nat.reduceSub, Nat.reduceAdd, Nat.reduceMul, Nat.reduceLT, Nat.reduceLeDiff, Nat.reduceEqDiff, Nat.reduceBEq, Int.reduceAdd, Int.reduceSub, Int.reduceNeg, Int.reduceMul, Int.reduceLT, Int.reduceLE, Int.reduceEq, Int.reducePow, Int.reduceToNat, Int.reduceDiv, Int.reduceMod, Nat.zero_add, Int.ofNat_eq_natCast, Int.cast_ofNat_Int, enumFrom_map, a1]
  refine comp_st (σ := List D) (mk := fun s => [.l s, .d (.list (rs.map fun r : Nat => .int (r : Nat))), .d (.list (pool.map .str)), .d (.int under), .d (.int lots), .d (.int step), .un, .un]) (I := DrOk) (enc := fun p : Nat × Nat => PyData.tuple [.int (p.2 : Nat), .int (p.1 : Nat)]) (r := fun _ y => ∃ t : Tr, y = t.e ∧ t.sz ≤ 8) (L := List.zipIdx rs) (s := dr) ?_ h ?_
  · rintro ⟨r, i⟩ hx s hs
    have hr := List.fst_mem_of_mem_zipIdx hx
    have hr := hr8 r hr
    have hi : i < 12 := by
      have : i < 0 + rs.length := (List.mem_zipIdx hx).2.1
      omega
    have hm : (-(2 ^ 64) < (i : Int) ∧ (i : Int) < 2 ^ 64) ∨ (-(2 ^ 64) < step ∧ step < 2 ^ 64) := .inl ⟨by omega, by omega⟩
    have hb : 0 ≤ (i : Int) * step ∧ (i : Int) * step ≤ 12 := by
      have : step = 0 ∨ step = 1 := by omega
      rcases this with rfl | rfl <;> omega
    simp only [↓W0, ↓w_then, W1, List.reduceReplicate, String.reduceEq, List.drop_succ_cons, List.drop_zero, List.drop_nil, q_ls, q_lt_s, wipeR, backR, hideR, hideS, putB, noL, noLs, Sl.own, enumFrom, intsOf, Option.map_some, intsOf_map, List.set_cons_succ, List.set_cons_zero, List.getElem?_cons_succ, List.getElem?_cons_zero, List.getD_cons_succ, List.getD_cons_zero, List.map_cons, List.map_nil, List.tail_cons, List.headD_cons, List.length_cons, List.length_nil, List.length_map, List.length_range, List.nodup_cons, List.nodup_nil, List.not_mem_nil, List.mem_cons, not_false_eq_true, or_false, false_or, or_true, true_or, and_true, true_and, and_self, if_true, if_false, reduceIte, decide_true, decide_false, Bool.not_true, Bool.not_false, Bool.and_true, Bool.true_and, List.cons_append, List.nil_append, List.append_nil, eq_self, reduceCtorEq, List.all_cons, List.all_nil, List.isEmpty_cons, List.isEmpty_nil, Nat.reduceSub, Nat.reduceAdd, Nat.reduceMul, Nat.reduceLT, Nat.reduceLeDiff, Nat.reduceEqDiff, Nat.reduceBEq, Int.reduceAdd, Int.reduceSub, Int.reduceNeg, Int.reduceMul, Int.reduceLT, Int.reduceLE, Int.reduceEq, Int.reducePow, Int.reduceToNat, Int.reduceDiv, Int.reduceMod, Nat.zero_add, Int.ofNat_eq_natCast, Int.cast_ofNat_Int]
    refine ⟨by omega, ?_⟩
    refine some_ok 12 r (by omega) (by omega) hs p0 p1 (by omega) (by omega) l0 l1 fun t dr' h' ht => ?_
    simp only [↓W0, ↓w_then, W1, List.reduceReplicate, String.reduceEq, List.drop_succ_cons, List.drop_zero, List.drop_nil, q_ls, q_lt_s, wipeR, backR, hideR, hideS, putB, noL, noLs, Sl.own, enumFrom, intsOf, Option.map_some, intsOf_map, List.set_cons_succ, List.set_cons_zero, List.getElem?_cons_succ, List.getElem?_cons_zero, List.getD_cons_succ, List.getD_cons_zero, List.map_cons, List.map_nil, List.tail_cons, List.headD_cons, List.length_cons, List.length_nil, List.length_map, List.length_range, List.nodup_cons, List.nodup_nil, List.not_mem_nil, List.mem_cons, not_false_eq_true, or_false, false_or, or_true, true_or, and_true, true_and, and_self, if_true, if_false, reduceIte, decide_true, decide_false, Bool.not_true, Bool.not_false, Bool.and_true, Bool.true_and, List.cons_append, List.nil_append, List.append_nil, eq_self, reduceCtorEq, List.all_cons, List.all_nil, List.isEmpty_cons, List.isEmpty_nil, Nat.reduceSub, Nat.reduceAdd, Nat.reduceMul, Nat.reduceLT, Nat.reduceLeDiff, Nat.reduceEqDiff, Nat.reduceBEq, Int.reduceAdd, Int.reduceSub, Int.reduceNeg, Int.reduceMul, Int.reduceLT, Int.reduceLE, Int.reduceEq, Int.reducePow, Int.reduceToNat, Int.reduceDiv, Int.reduceMod, Nat.zero_add, Int.ofNat_eq_natCast, Int.cast_ofNat_Int]
    exact ⟨⟨t, rfl, by omega⟩, dr', h', rfl⟩
  intro ys s' q hs
  obtain ⟨ts, e5, e6, e7⟩ := q.ex
  subst e5
  simp only [↓W0, ↓w_then, W1, List.reduceReplicate, String.reduceEq, List.drop_succ_cons, List.drop_zero, List.drop_nil, q_ls, q_lt_s, wipeR, backR, hideR, hideS, putB, noL, noLs, Sl.own, enumFrom, intsOf, Option.map_some, intsOf_map, List.set_cons_succ, List.set_cons_zero, List.getElem?_cons_succ, List.getElem?_cons_zero, List.getD_cons_succ, List.getD_cons_zero, List.map_cons, List.map_nil, List.tail_cons, List.headD_cons, List.length_cons, List.length_nil, List.length_map, List.length_range, List.nodup_cons, List.nodup_nil, List.not_mem_nil, List.mem_cons, not_false_eq_true, or_false, false_or, or_true, true_or, and_true, true_and, and_self, if_true, if_false, reduceIte, decide_true, decide_false, Bool.not_true, Bool.not_false, Bool.and_true, Bool.true_and, List.cons_append, List.nil_append, List.append_nil, eq_self, reduceCtorEq, List.all_cons, List.all_nil, List.isEmpty_cons, List.isEmpty_nil, Nat.reduceSub, Nat.reduceAdd, Nat.reduceMul, Nat.reduceLT, Nat.reduceLeDiff, Nat.reduceEqDiff, Nat.reduceBEq, Int.reduceAdd, Int.reduceSub, Int.reduceNeg, Int.reduceMul, Int.reduceLT, Int.reduceLE, Int.reduceEq, Int.reducePow, Int.reduceToNat, Int.reduceDiv, Int.reduceMod, Nat.zero_add, Int.ofNat_eq_natCast, Int.cast_ofNat_Int]
  exact k ts s' hs (by rw [e6, List.length_zipIdx]) e7

end DL

namespace DL
open PySem PySem.Spec PyProof.Rows L2
theorem szs_bd {n : Nat} : ∀ {ts : List Tr}, (∀ t ∈ ts, t.sz ≤ n) → szs ts ≤ n * ts.length
  | [], _ => by simp [szs]
  | t :: ts, h => by
    have := szs_bd fun u hu => h u (List.mem_cons_of_mem _ hu)
    have := h t List.mem_cons_self
    rw [szs_cons, List.length_cons, Nat.mul_add]; omega
/-- the names of a row -/
def NmOk (ns : List Str) : Prop := 1 ≤ ns.length ∧ ns.length ≤ 6 ∧ ∀ n ∈ ns, n.length ≤ 100
theorem mem_cut {α : Type} {x : α} {xs : List α} {n : Nat} : x ∈ xs.take n → x ∈ xs := List.mem_of_mem_take
/-- a family's makers and the rest -/
theorem row_fam {dr tk pl : List D} {n0 : Str} {os pool : List Str} {lots : Int} {ps : List Tr} {QF : Fl → R → Prop} (h : DrOk dr) (hn : NmOk (n0 :: os)) (p0 : 0 < pool.length) (p1 : pool.length ≤ 900) (l0 : 0 ≤ lots) (l1 : lots ≤ 2) (hp : ps.length ≤ 3) (hps : ∀ t ∈ ps, t.sz ≤ 8)
    (k : ∀ (r : Row) dr' ρ, DrOk dr' → r.Sm → ρ[0]? = some (.l dr') → QF (.rt r.e) ρ) :
    Wp ((mThen (mOwn 14 mNil) (mThen (mFor (mItems (mCut (mVar 5) mNone (mPart (mCall (noX M_l_pick) [] (aO 0 (aD (mOp addD (mFn lenD (mCons (mVar 5) mNil)) (mC (.int 1))) aNil)))))) (mSet 8) (mThen (mAsg (mCall (noX M_l_somes) [] (aO 0 (aD (mCall (noX M_l_rooms) [] (aO 0 (aD (mC (.int 5)) aNil))) (aD (mVar 7) (aD (mFn lenD (mCons (mVar 10) mNil)) (aD (mVar 6) (aD (mC (.int 1)) aNil))))))) (mSet 15)) (mThen (mAsg (mCall (noX M_l_somes) [] (aO 0 (aD (mCall (noX M_l_rooms) [] (aO 0 (aD (mC (.int 2)) aNil))) (aD (mVar 7) (aD (mOp addD (mFn lenD (mCons (mVar 10) mNil)) (mFn lenD (mCons (mVar 15) mNil))) (aD (mVar 6) (aD (mC (.int 0)) aNil))))))) (mSet 16)) (mApp 14 (mTup (mCons (mVar 8) (mCons (mVar 15) (mCons (mVar 16) mNil)))))))) (mThen (mAsg (mCall (noX M_l_somes) [] (aO 0 (aD (mCall (noX M_l_rooms) [] (aO 0 (aD (mC (.int 2)) aNil))) (aD (mVar 7) (aD (mFn lenD (mCons (mVar 10) mNil)) (aD (mVar 6) (aD (mC (.int 1)) aNil))))))) (mSet 17)) (mRet (mBor noL 14 (mTup (mCons (mVar 9) (mCons (mVar 4) (mCons (mVar 6) (mCons (mVar 10) (mCons (mVar 17) (mCons (mTup (mCons (mC (.int 1)) (mCons (mTup mNil) mNil))) (mCons (mFn tupleD (mCons (mVar 14) mNil)) mNil))))))))))))) [.l dr, .l tk, .d (.list pl), .un, .d (.str n0), .d (.list (os.map .str)), .d (.int lots), .d (.list (pool.map .str)), .un, .d (.str "family"), .d (tsD ps), .un, .un, .un, .un, .un, .un, .un]) QF := by
  obtain ⟨n1, n2, n3⟩ := hn
  rw [List.length_cons] at n2
  refine w_then.mpr ?_
  simp only [↓W0, W1, List.reduceReplicate, String.reduceEq, List.drop_succ_cons, List.drop_zero, List.drop_nil, q_ls, q_lt_s, wipeR, backR, hideR, hideS, putB, noL, noLs, Sl.own, enumFrom, intsOf, Option.map_some, intsOf_map, List.set_cons_succ, List.set_cons_zero, List.getElem?_cons_succ, List.getElem?_cons_zero, List.getD_cons_succ, List.getD_cons_zero, List.map_cons, List.map_nil, List.tail_cons, List.headD_cons, List.length_cons, List.length_nil, List.length_map, List.length_range, List.nodup_cons, List.nodup_nil, List.not_mem_nil, List.mem_cons, not_false_eq_true, or_false, false_or, or_true, true_or, and_true, true_and, and_self, if_true, if_false, reduceIte, decide_true, decide_false, Bool.not_true, Bool.not_false, Bool.and_true, Bool.true_and, List.cons_append, List.nil_append, List.append_nil, eq_self, reduceCtorEq, List.all_cons, List.all_nil, List.isEmpty_cons, List.isEmpty_nil, Nat.reduceSub, Nat.reduceAdd, Nat.reduceMul, Nat.reduceLT, Nat.reduceLeDiff, Nat.reduceEqDiff, Nat.reduceBEq, Int.reduceAdd, Int.reduceSub, Int.reduceNeg, Int.reduceMul, Int.reduceLT, Int.reduceLE, Int.reduceEq, Int.reducePow, Int.reduceToNat, Int.reduceDiv, Int.reduceMod, Nat.zero_add, Int.ofNat_eq_natCast, Int.cast_ofNat_Int]
  refine w_then.mpr ?_
  simp only [↓W0, W1, List.reduceReplicate, String.reduceEq, List.drop_succ_cons, List.drop_zero, List.drop_nil, q_ls, q_lt_s, wipeR, backR, hideR, hideS, putB, noL, noLs, Sl.own, enumFrom, intsOf, Option.map_some, intsOf_map, List.set_cons_succ, List.set_cons_zero, List.getElem?_cons_succ, List.getElem?_cons_zero, List.getD_cons_succ, List.getD_cons_zero, List.map_cons, List.map_nil, List.tail_cons, List.headD_cons, List.length_cons, List.length_nil, List.length_map, List.length_range, List.nodup_cons, List.nodup_nil, List.not_mem_nil, List.mem_cons, not_false_eq_true, or_false, false_or, or_true, true_or, and_true, true_and, and_self, if_true, if_false, reduceIte, decide_true, decide_false, Bool.not_true, Bool.not_false, Bool.and_true, Bool.true_and, List.cons_append, List.nil_append, List.append_nil, eq_self, reduceCtorEq, List.all_cons, List.all_nil, List.isEmpty_cons, List.isEmpty_nil, Nat.reduceSub, Nat.reduceAdd, Nat.reduceMul, Nat.reduceLT, Nat.reduceLeDiff, Nat.reduceEqDiff, Nat.reduceBEq, Int.reduceAdd, Int.reduceSub, Int.reduceNeg, Int.reduceMul, Int.reduceLT, Int.reduceLE, Int.reduceEq, Int.reducePow, Int.reduceToNat, Int.reduceDiv, Int.reduceMod, Nat.zero_add, Int.ofNat_eq_natCast, Int.cast_ofNat_Int]
  refine pick_lt h (by omega) (by omega) fun c dr1 h1 c0 c1 => ?_
  have ec : cutL (os.map PyData.str) none (some c) = (os.take c.toNat).map .str := by rw [cut_takeI _ c0, List.map_take]
  have hc : (os.take c.toNat).length ≤ 5 := by rw [List.length_take]; omega
  have hm : ∀ x ∈ os.take c.toNat, x.length ≤ 100 := fun x hx => n3 x (List.mem_cons_of_mem _ (mem_cut hx))
  generalize os.take c.toNat = us at ec hc hm
  simp only [↓W0, W1, List.reduceReplicate, String.reduceEq, List.drop_succ_cons, List.drop_zero, List.drop_nil, q_ls, q_lt_s, wipeR, backR, hideR, hideS, putB, noL, noLs, Sl.own, enumFrom, intsOf, Option.map_some, intsOf_map, List.set_cons_succ, List.set_cons_zero, List.getElem?_cons_succ, List.getElem?_cons_zero, List.getD_cons_succ, List.getD_cons_zero, List.map_cons, List.map_nil, List.tail_cons, List.headD_cons, List.length_cons, List.length_nil, List.length_map, List.length_range, List.nodup_cons, List.nodup_nil, List.not_mem_nil, List.mem_cons, not_false_eq_true, or_false, false_or, or_true, true_or, and_true, true_and, and_self, if_true, if_false, reduceIte, decide_true, decide_false, Bool.not_true, Bool.not_false, Bool.and_true, Bool.true_and, List.cons_append, List.nil_append, List.append_nil, eq_self, reduceCtorEq, List.all_cons, List.all_nil, List.isEmpty_cons, List.isEmpty_nil, Nat.reduceSub, Nat.reduceAdd, Nat.reduceMul, Nat.reduceLT, Nat.reduceLeDiff, Nat.reduceEqDiff, Nat.reduceBEq, Int.reduceAdd, Int.reduceSub, Int.reduceNeg, Int.reduceMul, Int.reduceLT, Int.reduceLE, Int.reduceEq, Int.reducePow, Int.reduceToNat, Int.reduceDiv, Int.reduceMod, Nat.zero_add, Int.ofNat_eq_natCast, Int.cast_ofNat_Int, ec]
  refine for_st (α := Str) (σ := List D × List (Str × List Tr × List Tr) × Sl × Sl × Sl) (fun L s => DrOk s.1 ∧ s.2.1.length + L.length ≤ 5 ∧ ∀ m ∈ s.2.1, (m.2.1.length ≤ 5 ∧ m.2.2.length ≤ 2) ∧ (∀ t ∈ m.2.1, t.sz ≤ 8) ∧ ∀ t ∈ m.2.2, t.sz ≤ 8)
    (fun s => [.l s.1, .l tk, .d (.list pl), .un, .d (.str n0), .d (.list (os.map .str)), .d (.int lots), .d (.list (pool.map .str)), s.2.2.1, .d (.str "family"), .d (tsD ps), .un, .un, .un, .l (s.2.1.map mD), s.2.2.2.1, s.2.2.2.2, .un]) ?_ ?_ (L := us) (s := (dr1, [], .un, .un, .un)) ⟨h1, by simpa using hc, fun m hm => by simp at hm⟩
  · rintro x L ⟨dr, ms, s8, s15, s16⟩ ⟨hd, hl, hms⟩
    rw [List.length_cons] at hl
    simp only at hd hl hms
    have a1 : ms.length < 1000 := by omega
    simp only [↓W0, ↓w_then, W1, List.reduceReplicate, String.reduceEq, List.drop_succ_cons, List.drop_zero, List.drop_nil, q_ls, q_lt_s, wipeR, backR, hideR, hideS, putB, noL, noLs, Sl.own, enumFrom, intsOf, Option.map_some, intsOf_map, List.set_cons_succ, List.set_cons_zero, List.getElem?_cons_succ, List.getElem?_cons_zero, List.getD_cons_succ, List.getD_cons_zero, List.map_cons, List.map_nil, List.tail_cons, List.headD_cons, List.length_cons, List.length_nil, List.length_map, List.length_range, List.nodup_cons, List.nodup_nil, List.not_mem_nil, List.mem_cons, not_false_eq_true, or_false, false_or, or_true, true_or, and_true, true_and, and_self, if_true, if_false, reduceIte, decide_true, decide_false, Bool.not_true, Bool.not_false, Bool.and_true, Bool.true_and, List.cons_append, List.nil_append, List.append_nil, eq_self, reduceCtorEq, List.all_cons, List.all_nil, List.isEmpty_cons, List.isEmpty_nil, Nat.reduceSub, Nat.reduceAdd, Nat.reduceMul, Nat.reduceLT, Nat.reduceLeDiff, Nat.reduceEqDiff, Nat.reduceBEq, Int.reduceAdd, Int.reduceSub, Int.reduceNeg, Int.reduceMul, Int.reduceLT, Int.reduceLE, Int.reduceEq, Int.reducePow, Int.reduceToNat, Int.reduceDiv, Int.reduceMod, Nat.zero_add, Int.ofNat_eq_natCast, Int.cast_ofNat_Int, tsD]
    refine rooms_ok hd (by omega) (by omega) fun rs dr1 h1 r1 r2 => ?_
    simp only [↓W0, ↓w_then, W1, List.reduceReplicate, String.reduceEq, List.drop_succ_cons, List.drop_zero, List.drop_nil, q_ls, q_lt_s, wipeR, backR, hideR, hideS, putB, noL, noLs, Sl.own, enumFrom, intsOf, Option.map_some, intsOf_map, List.set_cons_succ, List.set_cons_zero, List.getElem?_cons_succ, List.getElem?_cons_zero, List.getD_cons_succ, List.getD_cons_zero, List.map_cons, List.map_nil, List.tail_cons, List.headD_cons, List.length_cons, List.length_nil, List.length_map, List.length_range, List.nodup_cons, List.nodup_nil, List.not_mem_nil, List.mem_cons, not_false_eq_true, or_false, false_or, or_true, true_or, and_true, true_and, and_self, if_true, if_false, reduceIte, decide_true, decide_false, Bool.not_true, Bool.not_false, Bool.and_true, Bool.true_and, List.cons_append, List.nil_append, List.append_nil, eq_self, reduceCtorEq, List.all_cons, List.all_nil, List.isEmpty_cons, List.isEmpty_nil, Nat.reduceSub, Nat.reduceAdd, Nat.reduceMul, Nat.reduceLT, Nat.reduceLeDiff, Nat.reduceEqDiff, Nat.reduceBEq, Int.reduceAdd, Int.reduceSub, Int.reduceNeg, Int.reduceMul, Int.reduceLT, Int.reduceLE, Int.reduceEq, Int.reducePow, Int.reduceToNat, Int.reduceDiv, Int.reduceMod, Nat.zero_add, Int.ofNat_eq_natCast, Int.cast_ofNat_Int]
    refine somes_ok h1 (by omega) r2 p0 p1 (by omega) (by omega) l0 (by omega) (by omega) (by omega) fun as dr2 h2 as1 as2 => ?_
    simp only [↓W0, ↓w_then, W1, List.reduceReplicate, String.reduceEq, List.drop_succ_cons, List.drop_zero, List.drop_nil, q_ls, q_lt_s, wipeR, backR, hideR, hideS, putB, noL, noLs, Sl.own, enumFrom, intsOf, Option.map_some, intsOf_map, List.set_cons_succ, List.set_cons_zero, List.getElem?_cons_succ, List.getElem?_cons_zero, List.getD_cons_succ, List.getD_cons_zero, List.map_cons, List.map_nil, List.tail_cons, List.headD_cons, List.length_cons, List.length_nil, List.length_map, List.length_range, List.nodup_cons, List.nodup_nil, List.not_mem_nil, List.mem_cons, not_false_eq_true, or_false, false_or, or_true, true_or, and_true, true_and, and_self, if_true, if_false, reduceIte, decide_true, decide_false, Bool.not_true, Bool.not_false, Bool.and_true, Bool.true_and, List.cons_append, List.nil_append, List.append_nil, eq_self, reduceCtorEq, List.all_cons, List.all_nil, List.isEmpty_cons, List.isEmpty_nil, Nat.reduceSub, Nat.reduceAdd, Nat.reduceMul, Nat.reduceLT, Nat.reduceLeDiff, Nat.reduceEqDiff, Nat.reduceBEq, Int.reduceAdd, Int.reduceSub, Int.reduceNeg, Int.reduceMul, Int.reduceLT, Int.reduceLE, Int.reduceEq, Int.reducePow, Int.reduceToNat, Int.reduceDiv, Int.reduceMod, Nat.zero_add, Int.ofNat_eq_natCast, Int.cast_ofNat_Int]
    refine rooms_ok h2 (by omega) (by omega) fun rs' dr3 h3 r3 r4 => ?_
    simp only [↓W0, ↓w_then, W1, List.reduceReplicate, String.reduceEq, List.drop_succ_cons, List.drop_zero, List.drop_nil, q_ls, q_lt_s, wipeR, backR, hideR, hideS, putB, noL, noLs, Sl.own, enumFrom, intsOf, Option.map_some, intsOf_map, List.set_cons_succ, List.set_cons_zero, List.getElem?_cons_succ, List.getElem?_cons_zero, List.getD_cons_succ, List.getD_cons_zero, List.map_cons, List.map_nil, List.tail_cons, List.headD_cons, List.length_cons, List.length_nil, List.length_map, List.length_range, List.nodup_cons, List.nodup_nil, List.not_mem_nil, List.mem_cons, not_false_eq_true, or_false, false_or, or_true, true_or, and_true, true_and, and_self, if_true, if_false, reduceIte, decide_true, decide_false, Bool.not_true, Bool.not_false, Bool.and_true, Bool.true_and, List.cons_append, List.nil_append, List.append_nil, eq_self, reduceCtorEq, List.all_cons, List.all_nil, List.isEmpty_cons, List.isEmpty_nil, Nat.reduceSub, Nat.reduceAdd, Nat.reduceMul, Nat.reduceLT, Nat.reduceLeDiff, Nat.reduceEqDiff, Nat.reduceBEq, Int.reduceAdd, Int.reduceSub, Int.reduceNeg, Int.reduceMul, Int.reduceLT, Int.reduceLE, Int.reduceEq, Int.reducePow, Int.reduceToNat, Int.reduceDiv, Int.reduceMod, Nat.zero_add, Int.ofNat_eq_natCast, Int.cast_ofNat_Int, tsD]
    refine somes_ok h3 (by omega) r4 p0 p1 (by omega) (by omega) l0 (by omega) (by omega) (by omega) fun es dr4 h4 es1 es2 => ?_
    simp only [↓W0, ↓w_then, W1, List.reduceReplicate, String.reduceEq, List.drop_succ_cons, List.drop_zero, List.drop_nil, q_ls, q_lt_s, wipeR, backR, hideR, hideS, putB, noL, noLs, Sl.own, enumFrom, intsOf, Option.map_some, intsOf_map, List.set_cons_succ, List.set_cons_zero, List.getElem?_cons_succ, List.getElem?_cons_zero, List.getD_cons_succ, List.getD_cons_zero, List.map_cons, List.map_nil, List.tail_cons, List.headD_cons, List.length_cons, List.length_nil, List.length_map, List.length_range, List.nodup_cons, List.nodup_nil, List.not_mem_nil, List.mem_cons, not_false_eq_true, or_false, false_or, or_true, true_or, and_true, true_and, and_self, if_true, if_false, reduceIte, decide_true, decide_false, Bool.not_true, Bool.not_false, Bool.and_true, Bool.true_and, List.cons_append, List.nil_append, List.append_nil, eq_self, reduceCtorEq, List.all_cons, List.all_nil, List.isEmpty_cons, List.isEmpty_nil, Nat.reduceSub, Nat.reduceAdd, Nat.reduceMul, Nat.reduceLT, Nat.reduceLeDiff, Nat.reduceEqDiff, Nat.reduceBEq, Int.reduceAdd, Int.reduceSub, Int.reduceNeg, Int.reduceMul, Int.reduceLT, Int.reduceLE, Int.reduceEq, Int.reducePow, Int.reduceToNat, Int.reduceDiv, Int.reduceMod, Nat.zero_add, Int.ofNat_eq_natCast, Int.cast_ofNat_Int, a1]
    refine ⟨(dr4, ms ++ [(x, as, es)], _, _, _), ⟨h4, by rw [List.length_append]; simp only [List.length_cons, List.length_nil]; omega, fun m hm => ?_⟩, by rw [List.map_append]; rfl⟩
    rcases List.mem_append.mp hm with z | z
    · exact hms m z
    · rw [List.mem_singleton] at z
      subst z
      exact ⟨⟨by simp only; omega, by simp only; omega⟩, as2, es2⟩
  rintro ⟨dr, ms, s8, s15, s16⟩ hh
  have hd : DrOk dr := hh.1
  have hl : ms.length ≤ 5 := hh.2.1
  have hms := hh.2.2
  simp only at hms
  simp only [↓W0, W1, List.reduceReplicate, String.reduceEq, List.drop_succ_cons, List.drop_zero, List.drop_nil, q_ls, q_lt_s, wipeR, backR, hideR, hideS, putB, noL, noLs, Sl.own, enumFrom, intsOf, Option.map_some, intsOf_map, List.set_cons_succ, List.set_cons_zero, List.getElem?_cons_succ, List.getElem?_cons_zero, List.getD_cons_succ, List.getD_cons_zero, List.map_cons, List.map_nil, List.tail_cons, List.headD_cons, List.length_cons, List.length_nil, List.length_map, List.length_range, List.nodup_cons, List.nodup_nil, List.not_mem_nil, List.mem_cons, not_false_eq_true, or_false, false_or, or_true, true_or, and_true, true_and, and_self, if_true, if_false, reduceIte, decide_true, decide_false, Bool.not_true, Bool.not_false, Bool.and_true, Bool.true_and, List.cons_append, List.nil_append, List.append_nil, eq_self, reduceCtorEq, List.all_cons, List.all_nil, List.isEmpty_cons, List.isEmpty_nil, Nat.reduceSub, Nat.reduceAdd, Nat.reduceMul, Nat.reduceLT, Nat.reduceLeDiff, Nat.reduceEqDiff, Nat.reduceBEq, Int.reduceAdd, Int.reduceSub, Int.reduceNeg, Int.reduceMul, Int.reduceLT, Int.reduceLE, Int.reduceEq, Int.reducePow, Int.reduceToNat, Int.reduceDiv, Int.reduceMod, Nat.zero_add, Int.ofNat_eq_natCast, Int.cast_ofNat_Int]
  refine w_then.mpr ?_
  simp only [↓W0, W1, List.reduceReplicate, String.reduceEq, List.drop_succ_cons, List.drop_zero, List.drop_nil, q_ls, q_lt_s, wipeR, backR, hideR, hideS, putB, noL, noLs, Sl.own, enumFrom, intsOf, Option.map_some, intsOf_map, List.set_cons_succ, List.set_cons_zero, List.getElem?_cons_succ, List.getElem?_cons_zero, List.getD_cons_succ, List.getD_cons_zero, List.map_cons, List.map_nil, List.tail_cons, List.headD_cons, List.length_cons, List.length_nil, List.length_map, List.length_range, List.nodup_cons, List.nodup_nil, List.not_mem_nil, List.mem_cons, not_false_eq_true, or_false, false_or, or_true, true_or, and_true, true_and, and_self, if_true, if_false, reduceIte, decide_true, decide_false, Bool.not_true, Bool.not_false, Bool.and_true, Bool.true_and, List.cons_append, List.nil_append, List.append_nil, eq_self, reduceCtorEq, List.all_cons, List.all_nil, List.isEmpty_cons, List.isEmpty_nil, Nat.reduceSub, Nat.reduceAdd, Nat.reduceMul, Nat.reduceLT, Nat.reduceLeDiff, Nat.reduceEqDiff, Nat.reduceBEq, Int.reduceAdd, Int.reduceSub, Int.reduceNeg, Int.reduceMul, Int.reduceLT, Int.reduceLE, Int.reduceEq, Int.reducePow, Int.reduceToNat, Int.reduceDiv, Int.reduceMod, Nat.zero_add, Int.ofNat_eq_natCast, Int.cast_ofNat_Int]
  refine rooms_ok hd (by omega) (by omega) fun rs dr1 h1 r1 r2 => ?_
  simp only [↓W0, W1, List.reduceReplicate, String.reduceEq, List.drop_succ_cons, List.drop_zero, List.drop_nil, q_ls, q_lt_s, wipeR, backR, hideR, hideS, putB, noL, noLs, Sl.own, enumFrom, intsOf, Option.map_some, intsOf_map, List.set_cons_succ, List.set_cons_zero, List.getElem?_cons_succ, List.getElem?_cons_zero, List.getD_cons_succ, List.getD_cons_zero, List.map_cons, List.map_nil, List.tail_cons, List.headD_cons, List.length_cons, List.length_nil, List.length_map, List.length_range, List.nodup_cons, List.nodup_nil, List.not_mem_nil, List.mem_cons, not_false_eq_true, or_false, false_or, or_true, true_or, and_true, true_and, and_self, if_true, if_false, reduceIte, decide_true, decide_false, Bool.not_true, Bool.not_false, Bool.and_true, Bool.true_and, List.cons_append, List.nil_append, List.append_nil, eq_self, reduceCtorEq, List.all_cons, List.all_nil, List.isEmpty_cons, List.isEmpty_nil, Nat.reduceSub, Nat.reduceAdd, Nat.reduceMul, Nat.reduceLT, Nat.reduceLeDiff, Nat.reduceEqDiff, Nat.reduceBEq, Int.reduceAdd, Int.reduceSub, Int.reduceNeg, Int.reduceMul, Int.reduceLT, Int.reduceLE, Int.reduceEq, Int.reducePow, Int.reduceToNat, Int.reduceDiv, Int.reduceMod, Nat.zero_add, Int.ofNat_eq_natCast, Int.cast_ofNat_Int, tsD]
  refine somes_ok h1 (by omega) r2 p0 p1 (by omega) (by omega) l0 (by omega) (by omega) (by omega) fun is dr2 h2 is1 is2 => ?_
  simp only [↓W0, W1, List.reduceReplicate, String.reduceEq, List.drop_succ_cons, List.drop_zero, List.drop_nil, q_ls, q_lt_s, wipeR, backR, hideR, hideS, putB, noL, noLs, Sl.own, enumFrom, intsOf, Option.map_some, intsOf_map, List.set_cons_succ, List.set_cons_zero, List.getElem?_cons_succ, List.getElem?_cons_zero, List.getD_cons_succ, List.getD_cons_zero, List.map_cons, List.map_nil, List.tail_cons, List.headD_cons, List.length_cons, List.length_nil, List.length_map, List.length_range, List.nodup_cons, List.nodup_nil, List.not_mem_nil, List.mem_cons, not_false_eq_true, or_false, false_or, or_true, true_or, and_true, true_and, and_self, if_true, if_false, reduceIte, decide_true, decide_false, Bool.not_true, Bool.not_false, Bool.and_true, Bool.true_and, List.cons_append, List.nil_append, List.append_nil, eq_self, reduceCtorEq, List.all_cons, List.all_nil, List.isEmpty_cons, List.isEmpty_nil, Nat.reduceSub, Nat.reduceAdd, Nat.reduceMul, Nat.reduceLT, Nat.reduceLeDiff, Nat.reduceEqDiff, Nat.reduceBEq, Int.reduceAdd, Int.reduceSub, Int.reduceNeg, Int.reduceMul, Int.reduceLT, Int.reduceLE, Int.reduceEq, Int.reducePow, Int.reduceToNat, Int.reduceDiv, Int.reduceMod, Nat.zero_add, Int.ofNat_eq_natCast, Int.cast_ofNat_Int]
  have q1 : noLs (ps.map Tr.e) = true := noLs_map Tr.nl _
  have q2 : noL (tsD is) = true := noLs_map Tr.nl _
  have q3 : noLs (ms.map mD) = true := noLs_map (fun m => by
    show (true && (noLs (m.2.1.map Tr.e) && (noLs (m.2.2.map Tr.e) && true))) = true
    rw [noLs_map Tr.nl, noLs_map Tr.nl]; rfl) _
  refine ⟨by rw [q1, q2, q3]; rfl, ?_⟩
  have n10 : n0.length ≤ 100 := n3 _ List.mem_cons_self
  refine k (.fm n0 (.int lots) (.tuple [.int 1, .tuple []]) ps is ms) dr2 _ h2 ⟨⟨by unfold shN; omega, by unfold shT; omega, by unfold shT; omega, by omega, fun m hm => ⟨?_, ?_⟩⟩, ?_, ?_⟩ rfl
  · have := (hms m hm).1.1
    unfold shT; omega
  · have := (hms m hm).1.2
    unfold shT; omega
  · intro t ht
    simp only [Row.terms, List.mem_append, List.mem_flatMap] at ht
    rcases ht with (z | z) | ⟨m, z1, z2⟩
    · have := hps t z; omega
    · have := is2 t z; omega
    · rcases List.mem_append.mp z2 with z2 | z2
      · have := (hms m z1).2.1 t z2; omega
      · have := (hms m z1).2.2 t z2; omega
  · have : ∀ t ∈ (Row.fm n0 (.int lots) (.tuple [.int 1, .tuple []]) ps is ms).terms, t.sz ≤ 8 := by
      intro t ht
      simp only [Row.terms, List.mem_append, List.mem_flatMap] at ht
      rcases ht with (z | z) | ⟨m, z1, z2⟩
      · exact hps t z
      · exact is2 t z
      · rcases List.mem_append.mp z2 with z2 | z2
        · exact (hms m z1).2.1 t z2
        · exact (hms m z1).2.2 t z2
    have b := szs_bd this
    have : ∀ ns : List (Str × List Tr × List Tr), (∀ m ∈ ns, m ∈ ms) → (ns.flatMap mts).length ≤ 7 * ns.length := by
      intro ns
      induction ns with
      | nil => intro _; simp
      | cons m ns ih =>
        intro hh
        have := ih fun x hx => hh x (List.mem_cons_of_mem _ hx)
        have := (hms m (hh m List.mem_cons_self)).1
        rw [List.flatMap_cons, List.length_append, List.length_cons]
        unfold mts
        rw [List.length_append]
        unfold mts at *
        omega
    have := this ms fun m hm => hm
    have e : (Row.fm n0 (.int lots) (.tuple [.int 1, .tuple []]) ps is ms).terms.length = ps.length + is.length + (ms.flatMap mts).length := by
      simp only [Row.terms, List.length_append]
    rw [e] at b
    omega
/-- a record -/
theorem row_rec {dr tk pl : List D} {n0 : Str} {os pool : List Str} {lots : Int} {ps : List Tr} {QF : Fl → R → Prop} (h : DrOk dr) (hn : NmOk (n0 :: os)) (p0 : 0 < pool.length) (p1 : pool.length ≤ 900) (l0 : 0 ≤ lots) (l1 : lots ≤ 2) (hp : ps.length ≤ 3) (hps : ∀ t ∈ ps, t.sz ≤ 8)
    (k : ∀ (r : Row) dr' ρ, DrOk dr' → r.Sm → ρ[0]? = some (.l dr') → QF (.rt r.e) ρ) :
    Wp ((mThen (mAsg (mCut (mVar 5) (mPart (mCall (noX M_l_pick) [] (aO 0 (aD (mFn lenD (mCons (mVar 5) mNil)) aNil)))) mNone) (mSet 11)) (mThen (mAsg (mCall (noX M_l_somes) [] (aO 0 (aD (mFz (mLc [8] (mItems (mCut (mVar 11) mNone (mPart (mC (.int 4))))) (mSet 8) mYes (mOp addD (mC (.int 1)) (mCall (noX M_l_pick) [] (aO 0 (aD (mC (.int 8)) aNil)))))) (aD (mVar 7) (aD (mFn lenD (mCons (mVar 10) mNil)) (aD (mVar 6) (aD (mC (.int 1)) aNil))))))) (mSet 12)) (mRet (mTup (mCons (mVar 9) (mCons (mVar 4) (mCons (mVar 6) (mCons (mVar 10) (mCons (mTup (mCons (mC (.int 0)) (mCons (mTup mNil) mNil))) (mCons (mFn tupleD (mCons (mFz (mLc [8, 13] (mZip (mVar 11) (mVar 12)) (gtTup (gtCons (mSet 8) (gtCons (mSet 13) gtNil))) mYes (mTup (mCons (mVar 8) (mCons (mVar 13) mNil))))) mNil)) mNil)))))))))) [.l dr, .l tk, .d (.list pl), .un, .d (.str n0), .d (.list (os.map .str)), .d (.int lots), .d (.list (pool.map .str)), .un, .d (.str "record"), .d (tsD ps), .un, .un, .un, .un, .un, .un, .un]) QF := by
  obtain ⟨n1, n2, n3⟩ := hn
  rw [List.length_cons] at n2
  have a0 : os.length ≤ 1000 := by omega
  refine w_then.mpr ?_
  simp only [↓W0, W1, List.reduceReplicate, String.reduceEq, List.drop_succ_cons, List.drop_zero, List.drop_nil, q_ls, q_lt_s, wipeR, backR, hideR, hideS, putB, noL, noLs, Sl.own, enumFrom, intsOf, Option.map_some, intsOf_map, List.set_cons_succ, List.set_cons_zero, List.getElem?_cons_succ, List.getElem?_cons_zero, List.getD_cons_succ, List.getD_cons_zero, List.map_cons, List.map_nil, List.tail_cons, List.headD_cons, List.length_cons, List.length_nil, List.length_map, List.length_range, List.nodup_cons, List.nodup_nil, List.not_mem_nil, List.mem_cons, not_false_eq_true, or_false, false_or, or_true, true_or, and_true, true_and, and_self, if_true, if_false, reduceIte, decide_true, decide_false, Bool.not_true, Bool.not_false, Bool.and_true, Bool.true_and, List.cons_append, List.nil_append, List.append_nil, eq_self, reduceCtorEq, List.all_cons, List.all_nil, List.isEmpty_cons, List.isEmpty_nil, Nat.reduceSub, Nat.reduceAdd, Nat.reduceMul, Nat.reduceLT, Nat.reduceLeDiff, Nat.reduceEqDiff, Nat.reduceBEq, Int.reduceAdd, Int.reduceSub, Int.reduceNeg, Int.reduceMul, Int.reduceLT, Int.reduceLE, Int.reduceEq, Int.reducePow, Int.reduceToNat, Int.reduceDiv, Int.reduceMod, Nat.zero_add, Int.ofNat_eq_natCast, Int.cast_ofNat_Int]
  refine pick_ok h (by omega) fun c dr1 h1 c0 c1 => ?_
  have ec : cutL (os.map PyData.str) (some c) none = (os.drop c.toNat).map .str := by rw [cut_dropI _ c0, List.map_drop]
  have hm : ∀ x ∈ os.drop c.toNat, x.length ≤ 100 := fun x hx => n3 x (List.mem_cons_of_mem _ (List.mem_of_mem_drop hx))
  have hc : (os.drop c.toNat).length ≤ 5 := by rw [List.length_drop]; omega
  generalize os.drop c.toNat = us at ec hm hc
  simp only [↓W0, W1, List.reduceReplicate, String.reduceEq, List.drop_succ_cons, List.drop_zero, List.drop_nil, q_ls, q_lt_s, wipeR, backR, hideR, hideS, putB, noL, noLs, Sl.own, enumFrom, intsOf, Option.map_some, intsOf_map, List.set_cons_succ, List.set_cons_zero, List.getElem?_cons_succ, List.getElem?_cons_zero, List.getD_cons_succ, List.getD_cons_zero, List.map_cons, List.map_nil, List.tail_cons, List.headD_cons, List.length_cons, List.length_nil, List.length_map, List.length_range, List.nodup_cons, List.nodup_nil, List.not_mem_nil, List.mem_cons, not_false_eq_true, or_false, false_or, or_true, true_or, and_true, true_and, and_self, if_true, if_false, reduceIte, decide_true, decide_false, Bool.not_true, Bool.not_false, Bool.and_true, Bool.true_and, List.cons_append, List.nil_append, List.append_nil, eq_self, reduceCtorEq, List.all_cons, List.all_nil, List.isEmpty_cons, List.isEmpty_nil, Nat.reduceSub, Nat.reduceAdd, Nat.reduceMul, Nat.reduceLT, Nat.reduceLeDiff, Nat.reduceEqDiff, Nat.reduceBEq, Int.reduceAdd, Int.reduceSub, Int.reduceNeg, Int.reduceMul, Int.reduceLT, Int.reduceLE, Int.reduceEq, Int.reducePow, Int.reduceToNat, Int.reduceDiv, Int.reduceMod, Nat.zero_add, Int.ofNat_eq_natCast, Int.cast_ofNat_Int, ec]
  refine w_then.mpr ?_
  have hu : (us.take 4).length ≤ 4 := by rw [List.length_take]; omega
  have hu2 : (us.take 4).length ≤ 1000 := by omega
  have hu3 : min 4 us.length ≤ 1000 := by omega
  simp only [↓W0, W1, List.reduceReplicate, String.reduceEq, List.drop_succ_cons, List.drop_zero, List.drop_nil, q_ls, q_lt_s, wipeR, backR, hideR, hideS, putB, noL, noLs, Sl.own, enumFrom, intsOf, Option.map_some, intsOf_map, List.set_cons_succ, List.set_cons_zero, List.getElem?_cons_succ, List.getElem?_cons_zero, List.getD_cons_succ, List.getD_cons_zero, List.map_cons, List.map_nil, List.tail_cons, List.headD_cons, List.length_cons, List.length_nil, List.length_map, List.length_range, List.nodup_cons, List.nodup_nil, List.not_mem_nil, List.mem_cons, not_false_eq_true, or_false, false_or, or_true, true_or, and_true, true_and, and_self, if_true, if_false, reduceIte, decide_true, decide_false, Bool.not_true, Bool.not_false, Bool.and_true, Bool.true_and, List.cons_append, List.nil_append, List.append_nil, eq_self, reduceCtorEq, List.all_cons, List.all_nil, List.isEmpty_cons, List.isEmpty_nil, Nat.reduceSub, Nat.reduceAdd, Nat.reduceMul, Nat.reduceLT, Nat.reduceLeDiff, Nat.reduceEqDiff, Nat.reduceBEq, Int.reduceAdd, Int.reduceSub, Int.reduceNeg, Int.reduceMul, Int.reduceLT, Int.reduceLE, Int.reduceEq, Int.reducePow, Int.reduceToNat, Int.reduceDiv, Int.reduceMod, Nat.zero_add, Int.ofNat_eq_natCast, Int.cast_ofNat_Int, ← List.map_take, hu2, List.length_take, hu3]
  refine comp_st (σ := List D) (mk := fun s => [.l s, .l tk, .d (.list pl), .un, .d (.str n0), .d (.list (os.map .str)), .d (.int lots), .d (.list (pool.map .str)), .un, .d (.str "record"), .d (tsD ps), .d (.list (us.map .str)), .un, .un, .un, .un, .un, .un]) (I := DrOk) (enc := PyData.str) (r := fun _ y => ∃ t : Nat, y = PyData.int (t : Nat) ∧ t ≤ 8) (L := us.take 4) (s := dr1) ?_ h1 ?_
  · intro x _ s hs
    simp only [↓W0, ↓w_then, W1, List.reduceReplicate, String.reduceEq, List.drop_succ_cons, List.drop_zero, List.drop_nil, q_ls, q_lt_s, wipeR, backR, hideR, hideS, putB, noL, noLs, Sl.own, enumFrom, intsOf, Option.map_some, intsOf_map, List.set_cons_succ, List.set_cons_zero, List.getElem?_cons_succ, List.getElem?_cons_zero, List.getD_cons_succ, List.getD_cons_zero, List.map_cons, List.map_nil, List.tail_cons, List.headD_cons, List.length_cons, List.length_nil, List.length_map, List.length_range, List.nodup_cons, List.nodup_nil, List.not_mem_nil, List.mem_cons, not_false_eq_true, or_false, false_or, or_true, true_or, and_true, true_and, and_self, if_true, if_false, reduceIte, decide_true, decide_false, Bool.not_true, Bool.not_false, Bool.and_true, Bool.true_and, List.cons_append, List.nil_append, List.append_nil, eq_self, reduceCtorEq, List.all_cons, List.all_nil, List.isEmpty_cons, List.isEmpty_nil, Nat.reduceSub, Nat.reduceAdd, Nat.reduceMul, Nat.reduceLT, Nat.reduceLeDiff, Nat.reduceEqDiff, Nat.reduceBEq, Int.reduceAdd, Int.reduceSub, Int.reduceNeg, Int.reduceMul, Int.reduceLT, Int.reduceLE, Int.reduceEq, Int.reducePow, Int.reduceToNat, Int.reduceDiv, Int.reduceMod, Nat.zero_add, Int.ofNat_eq_natCast, Int.cast_ofNat_Int]
    refine pick_lt hs (by omega) (by omega) fun v dr2 h2 v0 v1 => ?_
    simp only [↓W0, ↓w_then, W1, List.reduceReplicate, String.reduceEq, List.drop_succ_cons, List.drop_zero, List.drop_nil, q_ls, q_lt_s, wipeR, backR, hideR, hideS, putB, noL, noLs, Sl.own, enumFrom, intsOf, Option.map_some, intsOf_map, List.set_cons_succ, List.set_cons_zero, List.getElem?_cons_succ, List.getElem?_cons_zero, List.getD_cons_succ, List.getD_cons_zero, List.map_cons, List.map_nil, List.tail_cons, List.headD_cons, List.length_cons, List.length_nil, List.length_map, List.length_range, List.nodup_cons, List.nodup_nil, List.not_mem_nil, List.mem_cons, not_false_eq_true, or_false, false_or, or_true, true_or, and_true, true_and, and_self, if_true, if_false, reduceIte, decide_true, decide_false, Bool.not_true, Bool.not_false, Bool.and_true, Bool.true_and, List.cons_append, List.nil_append, List.append_nil, eq_self, reduceCtorEq, List.all_cons, List.all_nil, List.isEmpty_cons, List.isEmpty_nil, Nat.reduceSub, Nat.reduceAdd, Nat.reduceMul, Nat.reduceLT, Nat.reduceLeDiff, Nat.reduceEqDiff, Nat.reduceBEq, Int.reduceAdd, Int.reduceSub, Int.reduceNeg, Int.reduceMul, Int.reduceLT, Int.reduceLE, Int.reduceEq, Int.reducePow, Int.reduceToNat, Int.reduceDiv, Int.reduceMod, Nat.zero_add, Int.ofNat_eq_natCast, Int.cast_ofNat_Int]
    exact ⟨⟨(1 + v).toNat, by congr 1; omega, by omega⟩, dr2, h2, rfl⟩
  intro ys s' q hs
  obtain ⟨rs, e5, e6, e7⟩ := q.ex
  subst e5
  simp only [↓W0, W1, List.reduceReplicate, String.reduceEq, List.drop_succ_cons, List.drop_zero, List.drop_nil, q_ls, q_lt_s, wipeR, backR, hideR, hideS, putB, noL, noLs, Sl.own, enumFrom, intsOf, Option.map_some, intsOf_map, List.set_cons_succ, List.set_cons_zero, List.getElem?_cons_succ, List.getElem?_cons_zero, List.getD_cons_succ, List.getD_cons_zero, List.map_cons, List.map_nil, List.tail_cons, List.headD_cons, List.length_cons, List.length_nil, List.length_map, List.length_range, List.nodup_cons, List.nodup_nil, List.not_mem_nil, List.mem_cons, not_false_eq_true, or_false, false_or, or_true, true_or, and_true, true_and, and_self, if_true, if_false, reduceIte, decide_true, decide_false, Bool.not_true, Bool.not_false, Bool.and_true, Bool.true_and, List.cons_append, List.nil_append, List.append_nil, eq_self, reduceCtorEq, List.all_cons, List.all_nil, List.isEmpty_cons, List.isEmpty_nil, Nat.reduceSub, Nat.reduceAdd, Nat.reduceMul, Nat.reduceLT, Nat.reduceLeDiff, Nat.reduceEqDiff, Nat.reduceBEq, Int.reduceAdd, Int.reduceSub, Int.reduceNeg, Int.reduceMul, Int.reduceLT, Int.reduceLE, Int.reduceEq, Int.reducePow, Int.reduceToNat, Int.reduceDiv, Int.reduceMod, Nat.zero_add, Int.ofNat_eq_natCast, Int.cast_ofNat_Int, tsD]
  refine somes_ok hs (by omega) e7 p0 p1 (by omega) (by omega) l0 (by omega) (by omega) (by omega) fun ks dr2 h2 k1 k2 => ?_
  have hz : (us.zip ks).length ≤ 1000 := by rw [List.length_zip]; omega
  simp only [↓W0, W1, List.reduceReplicate, String.reduceEq, List.drop_succ_cons, List.drop_zero, List.drop_nil, q_ls, q_lt_s, wipeR, backR, hideR, hideS, putB, noL, noLs, Sl.own, enumFrom, intsOf, Option.map_some, intsOf_map, List.set_cons_succ, List.set_cons_zero, List.getElem?_cons_succ, List.getElem?_cons_zero, List.getD_cons_succ, List.getD_cons_zero, List.map_cons, List.map_nil, List.tail_cons, List.headD_cons, List.length_cons, List.length_nil, List.length_map, List.length_range, List.nodup_cons, List.nodup_nil, List.not_mem_nil, List.mem_cons, not_false_eq_true, or_false, false_or, or_true, true_or, and_true, true_and, and_self, if_true, if_false, reduceIte, decide_true, decide_false, Bool.not_true, Bool.not_false, Bool.and_true, Bool.true_and, List.cons_append, List.nil_append, List.append_nil, eq_self, reduceCtorEq, List.all_cons, List.all_nil, List.isEmpty_cons, List.isEmpty_nil, Nat.reduceSub, Nat.reduceAdd, Nat.reduceMul, Nat.reduceLT, Nat.reduceLeDiff, Nat.reduceEqDiff, Nat.reduceBEq, Int.reduceAdd, Int.reduceSub, Int.reduceNeg, Int.reduceMul, Int.reduceLT, Int.reduceLE, Int.reduceEq, Int.reducePow, Int.reduceToNat, Int.reduceDiv, Int.reduceMod, Nat.zero_add, Int.ofNat_eq_natCast, Int.cast_ofNat_Int, tsD, zipD_map, hz]
  refine wp_of (comp_all (f := fun p : Str × Tr => fD p) fun p hp => ?_) ?_
  · simp only [↓W0, W1, List.reduceReplicate, String.reduceEq, List.drop_succ_cons, List.drop_zero, List.drop_nil, q_ls, q_lt_s, wipeR, backR, hideR, hideS, putB, noL, noLs, Sl.own, enumFrom, intsOf, Option.map_some, intsOf_map, List.set_cons_succ, List.set_cons_zero, List.getElem?_cons_succ, List.getElem?_cons_zero, List.getD_cons_succ, List.getD_cons_zero, List.map_cons, List.map_nil, List.tail_cons, List.headD_cons, List.length_cons, List.length_nil, List.length_map, List.length_range, List.nodup_cons, List.nodup_nil, List.not_mem_nil, List.mem_cons, not_false_eq_true, or_false, false_or, or_true, true_or, and_true, true_and, and_self, if_true, if_false, reduceIte, decide_true, decide_false, Bool.not_true, Bool.not_false, Bool.and_true, Bool.true_and, List.cons_append, List.nil_append, List.append_nil, eq_self, reduceCtorEq, List.all_cons, List.all_nil, List.isEmpty_cons, List.isEmpty_nil, Nat.reduceSub, Nat.reduceAdd, Nat.reduceMul, Nat.reduceLT, Nat.reduceLeDiff, Nat.reduceEqDiff, Nat.reduceBEq, Int.reduceAdd, Int.reduceSub, Int.reduceNeg, Int.reduceMul, Int.reduceLT, Int.reduceLE, Int.reduceEq, Int.reducePow, Int.reduceToNat, Int.reduceDiv, Int.reduceMod, Nat.zero_add, Int.ofNat_eq_natCast, Int.cast_ofNat_Int, fD]
  simp only [↓W0, W1, List.reduceReplicate, String.reduceEq, List.drop_succ_cons, List.drop_zero, List.drop_nil, q_ls, q_lt_s, wipeR, backR, hideR, hideS, putB, noL, noLs, Sl.own, enumFrom, intsOf, Option.map_some, intsOf_map, List.set_cons_succ, List.set_cons_zero, List.getElem?_cons_succ, List.getElem?_cons_zero, List.getD_cons_succ, List.getD_cons_zero, List.map_cons, List.map_nil, List.tail_cons, List.headD_cons, List.length_cons, List.length_nil, List.length_map, List.length_range, List.nodup_cons, List.nodup_nil, List.not_mem_nil, List.mem_cons, not_false_eq_true, or_false, false_or, or_true, true_or, and_true, true_and, and_self, if_true, if_false, reduceIte, decide_true, decide_false, Bool.not_true, Bool.not_false, Bool.and_true, Bool.true_and, List.cons_append, List.nil_append, List.append_nil, eq_self, reduceCtorEq, List.all_cons, List.all_nil, List.isEmpty_cons, List.isEmpty_nil, Nat.reduceSub, Nat.reduceAdd, Nat.reduceMul, Nat.reduceLT, Nat.reduceLeDiff, Nat.reduceEqDiff, Nat.reduceBEq, Int.reduceAdd, Int.reduceSub, Int.reduceNeg, Int.reduceMul, Int.reduceLT, Int.reduceLE, Int.reduceEq, Int.reducePow, Int.reduceToNat, Int.reduceDiv, Int.reduceMod, Nat.zero_add, Int.ofNat_eq_natCast, Int.cast_ofNat_Int]
  have n10 : n0.length ≤ 100 := n3 _ List.mem_cons_self
  have t8 : ∀ t ∈ (Row.rc n0 (.int lots) (.tuple [.int 0, .tuple []]) ps (us.zip ks)).terms, t.sz ≤ 8 := by
    intro t ht
    simp only [Row.terms, List.mem_append, List.mem_map] at ht
    rcases ht with z | ⟨⟨a, b⟩, z1, rfl⟩
    · exact hps t z
    · exact k2 _ (List.of_mem_zip z1).2
  refine k (.rc n0 (.int lots) (.tuple [.int 0, .tuple []]) ps (us.zip ks)) dr2 _ h2 ⟨⟨by unfold shN; omega, by unfold shT; omega, by rw [List.length_zip]; omega, fun f hf => ?_⟩, fun t ht => by have := t8 t ht; omega, ?_⟩ rfl
  · have := hm _ (List.of_mem_zip (a := f.1) (b := f.2) hf).1
    unfold shN; omega
  · have b := szs_bd t8
    have e : (Row.rc n0 (.int lots) (.tuple [.int 0, .tuple []]) ps (us.zip ks)).terms.length = ps.length + min us.length ks.length := by
      simp only [Row.terms, List.length_append, List.length_map, List.length_zip]
    rw [e] at b
    omega

end DL

namespace DL
open PySem PySem.Spec PyProof.Rows L2
def dfB (w : Str) : Prop := w = "define" ∨ w = "result"
theorem row_ok {dr : List D} {Q : D → R → Prop} (h : DrOk dr) (k : ∀ (r : Row) dr', DrOk dr' → r.Sm → Q r.e [.l dr']) : Wp (M_l_any_row [.l dr]) Q := by
  unfold M_l_any_row b_l_any_row
  simp only [↓W0, W1, List.reduceReplicate, String.reduceEq, List.drop_succ_cons, List.drop_zero, List.drop_nil, q_ls, q_lt_s, wipeR, backR, hideR, hideS, putB, noL, noLs, Sl.own, enumFrom, intsOf, Option.map_some, intsOf_map, List.set_cons_succ, List.set_cons_zero, List.getElem?_cons_succ, List.getElem?_cons_zero, List.getD_cons_succ, List.getD_cons_zero, List.map_cons, List.map_nil, List.tail_cons, List.headD_cons, List.length_cons, List.length_nil, List.length_map, List.length_range, List.nodup_cons, List.nodup_nil, List.not_mem_nil, List.mem_cons, not_false_eq_true, or_false, false_or, or_true, true_or, and_true, true_and, and_self, if_true, if_false, reduceIte, decide_true, decide_false, Bool.not_true, Bool.not_false, Bool.and_true, Bool.true_and, List.cons_append, List.nil_append, List.append_nil, eq_self, reduceCtorEq, List.all_cons, List.all_nil, List.isEmpty_cons, List.isEmpty_nil, Nat.reduceSub, Nat.reduceAdd, Nat.reduceMul, Nat.reduceLT, Nat.reduceLeDiff, Nat.reduceEqDiff, Nat.reduceBEq, Int.reduceAdd, Int.reduceSub, Int.reduceNeg, Int.reduceMul, Int.reduceLT, Int.reduceLE, Int.reduceEq, Int.reducePow, Int.reduceToNat, Int.reduceDiv, Int.reduceMod, Nat.zero_add, Int.ofNat_eq_natCast, Int.cast_ofNat_Int]
  refine w_then.mpr ?_
  simp only [↓W0, W1, List.reduceReplicate, String.reduceEq, List.drop_succ_cons, List.drop_zero, List.drop_nil, q_ls, q_lt_s, wipeR, backR, hideR, hideS, putB, noL, noLs, Sl.own, enumFrom, intsOf, Option.map_some, intsOf_map, List.set_cons_succ, List.set_cons_zero, List.getElem?_cons_succ, List.getElem?_cons_zero, List.getD_cons_succ, List.getD_cons_zero, List.map_cons, List.map_nil, List.tail_cons, List.headD_cons, List.length_cons, List.length_nil, List.length_map, List.length_range, List.nodup_cons, List.nodup_nil, List.not_mem_nil, List.mem_cons, not_false_eq_true, or_false, false_or, or_true, true_or, and_true, true_and, and_self, if_true, if_false, reduceIte, decide_true, decide_false, Bool.not_true, Bool.not_false, Bool.and_true, Bool.true_and, List.cons_append, List.nil_append, List.append_nil, eq_self, reduceCtorEq, List.all_cons, List.all_nil, List.isEmpty_cons, List.isEmpty_nil, Nat.reduceSub, Nat.reduceAdd, Nat.reduceMul, Nat.reduceLT, Nat.reduceLeDiff, Nat.reduceEqDiff, Nat.reduceBEq, Int.reduceAdd, Int.reduceSub, Int.reduceNeg, Int.reduceMul, Int.reduceLT, Int.reduceLE, Int.reduceEq, Int.reducePow, Int.reduceToNat, Int.reduceDiv, Int.reduceMod, Nat.zero_add, Int.ofNat_eq_natCast, Int.cast_ofNat_Int]
  refine w_then.mpr ?_
  simp only [↓W0, W1, List.reduceReplicate, String.reduceEq, List.drop_succ_cons, List.drop_zero, List.drop_nil, q_ls, q_lt_s, wipeR, backR, hideR, hideS, putB, noL, noLs, Sl.own, enumFrom, intsOf, Option.map_some, intsOf_map, List.set_cons_succ, List.set_cons_zero, List.getElem?_cons_succ, List.getElem?_cons_zero, List.getD_cons_succ, List.getD_cons_zero, List.map_cons, List.map_nil, List.tail_cons, List.headD_cons, List.length_cons, List.length_nil, List.length_map, List.length_range, List.nodup_cons, List.nodup_nil, List.not_mem_nil, List.mem_cons, not_false_eq_true, or_false, false_or, or_true, true_or, and_true, true_and, and_self, if_true, if_false, reduceIte, decide_true, decide_false, Bool.not_true, Bool.not_false, Bool.and_true, Bool.true_and, List.cons_append, List.nil_append, List.append_nil, eq_self, reduceCtorEq, List.all_cons, List.all_nil, List.isEmpty_cons, List.isEmpty_nil, Nat.reduceSub, Nat.reduceAdd, Nat.reduceMul, Nat.reduceLT, Nat.reduceLeDiff, Nat.reduceEqDiff, Nat.reduceBEq, Int.reduceAdd, Int.reduceSub, Int.reduceNeg, Int.reduceMul, Int.reduceLT, Int.reduceLE, Int.reduceEq, Int.reducePow, Int.reduceToNat, Int.reduceDiv, Int.reduceMod, Nat.zero_add, Int.ofNat_eq_natCast, Int.cast_ofNat_Int]
  refine pick_lt h (by omega) (by omega) fun c dr1 h1 c0 c1 => ?_
  have er := range_ok (i := 2 + c) (by omega) (by omega)
  have a1 : (2 + c).toNat ≤ 1000 := by omega
  simp only [↓W0, W1, List.reduceReplicate, String.reduceEq, List.drop_succ_cons, List.drop_zero, List.drop_nil, q_ls, q_lt_s, wipeR, backR, hideR, hideS, putB, noL, noLs, Sl.own, enumFrom, intsOf, Option.map_some, intsOf_map, List.set_cons_succ, List.set_cons_zero, List.getElem?_cons_succ, List.getElem?_cons_zero, List.getD_cons_succ, List.getD_cons_zero, List.map_cons, List.map_nil, List.tail_cons, List.headD_cons, List.length_cons, List.length_nil, List.length_map, List.length_range, List.nodup_cons, List.nodup_nil, List.not_mem_nil, List.mem_cons, not_false_eq_true, or_false, false_or, or_true, true_or, and_true, true_and, and_self, if_true, if_false, reduceIte, decide_true, decide_false, Bool.not_true, Bool.not_false, Bool.and_true, Bool.true_and, List.cons_append, List.nil_append, List.append_nil, eq_self, reduceCtorEq, List.all_cons, List.all_nil, List.isEmpty_cons, List.isEmpty_nil, Nat.reduceSub, Nat.reduceAdd, Nat.reduceMul, Nat.reduceLT, Nat.reduceLeDiff, Nat.reduceEqDiff, Nat.reduceBEq, Int.reduceAdd, Int.reduceSub, Int.reduceNeg, Int.reduceMul, Int.reduceLT, Int.reduceLE, Int.reduceEq, Int.reducePow, Int.reduceToNat, Int.reduceDiv, Int.reduceMod, Nat.zero_add, Int.ofNat_eq_natCast, Int.cast_ofNat_Int, er, a1]
  refine comp_stL (σ := List D × List Str) (mk := fun s => [.l s.1, .l (s.2.map .str), .un, .un, .un, .un, .un, .un, .un, .un, .un, .un, .un, .un, .un, .un, .un, .un]) (fun L s => DrOk s.1 ∧ s.2.length + L.length ≤ 12) (enc := fun z : Nat => PyData.int (z : Nat)) (r := fun _ y => ∃ t : Str, y = PyData.str t ∧ t.length ≤ 100) (L := List.range (2 + c).toNat) (s := (dr1, [])) ?_ ⟨h1, by simp; omega⟩ ?_
  · rintro x L ⟨dr, tk⟩ hh
    have hd : DrOk dr := hh.1
    have hl : tk.length + (x :: L).length ≤ 12 := hh.2
    rw [List.length_cons] at hl
    simp only [↓W0, W1, List.reduceReplicate, String.reduceEq, List.drop_succ_cons, List.drop_zero, List.drop_nil, q_ls, q_lt_s, wipeR, backR, hideR, hideS, putB, noL, noLs, Sl.own, enumFrom, intsOf, Option.map_some, intsOf_map, List.set_cons_succ, List.set_cons_zero, List.getElem?_cons_succ, List.getElem?_cons_zero, List.getD_cons_succ, List.getD_cons_zero, List.map_cons, List.map_nil, List.tail_cons, List.headD_cons, List.length_cons, List.length_nil, List.length_map, List.length_range, List.nodup_cons, List.nodup_nil, List.not_mem_nil, List.mem_cons, not_false_eq_true, or_false, false_or, or_true, true_or, and_true, true_and, and_self, if_true, if_false, reduceIte, decide_true, decide_false, Bool.not_true, Bool.not_false, Bool.and_true, Bool.true_and, List.cons_append, List.nil_append, List.append_nil, eq_self, reduceCtorEq, List.all_cons, List.all_nil, List.isEmpty_cons, List.isEmpty_nil, Nat.reduceSub, Nat.reduceAdd, Nat.reduceMul, Nat.reduceLT, Nat.reduceLeDiff, Nat.reduceEqDiff, Nat.reduceBEq, Int.reduceAdd, Int.reduceSub, Int.reduceNeg, Int.reduceMul, Int.reduceLT, Int.reduceLE, Int.reduceEq, Int.reducePow, Int.reduceToNat, Int.reduceDiv, Int.reduceMod, Nat.zero_add, Int.ofNat_eq_natCast, Int.cast_ofNat_Int]
    refine name_ok hd (by omega) fun s dr2 h2 hs => ?_
    simp only [↓W0, W1, List.reduceReplicate, String.reduceEq, List.drop_succ_cons, List.drop_zero, List.drop_nil, q_ls, q_lt_s, wipeR, backR, hideR, hideS, putB, noL, noLs, Sl.own, enumFrom, intsOf, Option.map_some, intsOf_map, List.set_cons_succ, List.set_cons_zero, List.getElem?_cons_succ, List.getElem?_cons_zero, List.getD_cons_succ, List.getD_cons_zero, List.map_cons, List.map_nil, List.tail_cons, List.headD_cons, List.length_cons, List.length_nil, List.length_map, List.length_range, List.nodup_cons, List.nodup_nil, List.not_mem_nil, List.mem_cons, not_false_eq_true, or_false, false_or, or_true, true_or, and_true, true_and, and_self, if_true, if_false, reduceIte, decide_true, decide_false, Bool.not_true, Bool.not_false, Bool.and_true, Bool.true_and, List.cons_append, List.nil_append, List.append_nil, eq_self, reduceCtorEq, List.all_cons, List.all_nil, List.isEmpty_cons, List.isEmpty_nil, Nat.reduceSub, Nat.reduceAdd, Nat.reduceMul, Nat.reduceLT, Nat.reduceLeDiff, Nat.reduceEqDiff, Nat.reduceBEq, Int.reduceAdd, Int.reduceSub, Int.reduceNeg, Int.reduceMul, Int.reduceLT, Int.reduceLE, Int.reduceEq, Int.reducePow, Int.reduceToNat, Int.reduceDiv, Int.reduceMod, Nat.zero_add, Int.ofNat_eq_natCast, Int.cast_ofNat_Int]
    exact ⟨⟨s, rfl, hs⟩, (dr2, tk ++ [s]), ⟨h2, by rw [List.length_append]; simp only [List.length_cons, List.length_nil]; omega⟩, rfl⟩
  rintro ys ⟨dr2, tk⟩ q hh
  have h2 : DrOk dr2 := hh.1
  obtain ⟨ns, e5, e6, e7⟩ := q.ex
  subst e5
  rw [List.length_range] at e6
  obtain ⟨n0, os, rfl⟩ : ∃ n0 os, ns = n0 :: os := by
    cases ns with
    | nil => simp at e6; omega
    | cons a b => exact ⟨a, b, rfl⟩
  have hn : NmOk (n0 :: os) := ⟨by omega, by omega, e7⟩
  simp only [↓W0, W1, List.reduceReplicate, String.reduceEq, List.drop_succ_cons, List.drop_zero, List.drop_nil, q_ls, q_lt_s, wipeR, backR, hideR, hideS, putB, noL, noLs, Sl.own, enumFrom, intsOf, Option.map_some, intsOf_map, List.set_cons_succ, List.set_cons_zero, List.getElem?_cons_succ, List.getElem?_cons_zero, List.getD_cons_succ, List.getD_cons_zero, List.map_cons, List.map_nil, List.tail_cons, List.headD_cons, List.length_cons, List.length_nil, List.length_map, List.length_range, List.nodup_cons, List.nodup_nil, List.not_mem_nil, List.mem_cons, not_false_eq_true, or_false, false_or, or_true, true_or, and_true, true_and, and_self, if_true, if_false, reduceIte, decide_true, decide_false, Bool.not_true, Bool.not_false, Bool.and_true, Bool.true_and, List.cons_append, List.nil_append, List.append_nil, eq_self, reduceCtorEq, List.all_cons, List.all_nil, List.isEmpty_cons, List.isEmpty_nil, Nat.reduceSub, Nat.reduceAdd, Nat.reduceMul, Nat.reduceLT, Nat.reduceLeDiff, Nat.reduceEqDiff, Nat.reduceBEq, Int.reduceAdd, Int.reduceSub, Int.reduceNeg, Int.reduceMul, Int.reduceLT, Int.reduceLE, Int.reduceEq, Int.reducePow, Int.reduceToNat, Int.reduceDiv, Int.reduceMod, Nat.zero_add, Int.ofNat_eq_natCast, Int.cast_ofNat_Int]
  refine w_then.mpr ?_
  simp only [↓W0, W1, List.reduceReplicate, String.reduceEq, List.drop_succ_cons, List.drop_zero, List.drop_nil, q_ls, q_lt_s, wipeR, backR, hideR, hideS, putB, noL, noLs, Sl.own, enumFrom, intsOf, Option.map_some, intsOf_map, List.set_cons_succ, List.set_cons_zero, List.getElem?_cons_succ, List.getElem?_cons_zero, List.getD_cons_succ, List.getD_cons_zero, List.map_cons, List.map_nil, List.tail_cons, List.headD_cons, List.length_cons, List.length_nil, List.length_map, List.length_range, List.nodup_cons, List.nodup_nil, List.not_mem_nil, List.mem_cons, not_false_eq_true, or_false, false_or, or_true, true_or, and_true, true_and, and_self, if_true, if_false, reduceIte, decide_true, decide_false, Bool.not_true, Bool.not_false, Bool.and_true, Bool.true_and, List.cons_append, List.nil_append, List.append_nil, eq_self, reduceCtorEq, List.all_cons, List.all_nil, List.isEmpty_cons, List.isEmpty_nil, Nat.reduceSub, Nat.reduceAdd, Nat.reduceMul, Nat.reduceLT, Nat.reduceLeDiff, Nat.reduceEqDiff, Nat.reduceBEq, Int.reduceAdd, Int.reduceSub, Int.reduceNeg, Int.reduceMul, Int.reduceLT, Int.reduceLE, Int.reduceEq, Int.reducePow, Int.reduceToNat, Int.reduceDiv, Int.reduceMod, Nat.zero_add, Int.ofNat_eq_natCast, Int.cast_ofNat_Int]
  refine pick_lt h2 (by omega) (by omega) fun lots dr3 h3 l0 l1 => ?_
  have n3 := hn.2.2
  have n10 : n0.length ≤ 100 := n3 _ List.mem_cons_self
  have ol : os.length ≤ 5 := by have := hn.2.1; rw [List.length_cons] at this; omega
  have os3 : ∀ x ∈ os, x.length ≤ 100 := fun x hx => n3 x (List.mem_cons_of_mem _ hx)
  simp only [↓W0, W1, List.reduceReplicate, String.reduceEq, List.drop_succ_cons, List.drop_zero, List.drop_nil, q_ls, q_lt_s, wipeR, backR, hideR, hideS, putB, noL, noLs, Sl.own, enumFrom, intsOf, Option.map_some, intsOf_map, List.set_cons_succ, List.set_cons_zero, List.getElem?_cons_succ, List.getElem?_cons_zero, List.getD_cons_succ, List.getD_cons_zero, List.map_cons, List.map_nil, List.tail_cons, List.headD_cons, List.length_cons, List.length_nil, List.length_map, List.length_range, List.nodup_cons, List.nodup_nil, List.not_mem_nil, List.mem_cons, not_false_eq_true, or_false, false_or, or_true, true_or, and_true, true_and, and_self, if_true, if_false, reduceIte, decide_true, decide_false, Bool.not_true, Bool.not_false, Bool.and_true, Bool.true_and, List.cons_append, List.nil_append, List.append_nil, eq_self, reduceCtorEq, List.all_cons, List.all_nil, List.isEmpty_cons, List.isEmpty_nil, Nat.reduceSub, Nat.reduceAdd, Nat.reduceMul, Nat.reduceLT, Nat.reduceLeDiff, Nat.reduceEqDiff, Nat.reduceBEq, Int.reduceAdd, Int.reduceSub, Int.reduceNeg, Int.reduceMul, Int.reduceLT, Int.reduceLE, Int.reduceEq, Int.reducePow, Int.reduceToNat, Int.reduceDiv, Int.reduceMod, Nat.zero_add, Int.ofNat_eq_natCast, Int.cast_ofNat_Int]
  refine w_then.mpr ?_
  obtain ⟨nm, enm⟩ : ∃ nm, nm = n0 :: os := ⟨_, rfl⟩
  have e8 : PyData.str n0 :: os.map PyData.str = nm.map PyData.str := by rw [enm]; rfl
  have nl : nm.length ≤ 6 := by rw [enm]; exact hn.2.1
  have nl0 : 1 ≤ nm.length := by rw [enm]; exact hn.1
  have n30 : ∀ x ∈ nm, x.length ≤ 100 := by rw [enm]; exact n3
  rw [e8]
  have b1 : nm.length ≤ 1000 := by omega
  simp only [↓W0, W1, List.reduceReplicate, String.reduceEq, List.drop_succ_cons, List.drop_zero, List.drop_nil, q_ls, q_lt_s, wipeR, backR, hideR, hideS, putB, noL, noLs, Sl.own, enumFrom, intsOf, Option.map_some, intsOf_map, List.set_cons_succ, List.set_cons_zero, List.getElem?_cons_succ, List.getElem?_cons_zero, List.getD_cons_succ, List.getD_cons_zero, List.map_cons, List.map_nil, List.tail_cons, List.headD_cons, List.length_cons, List.length_nil, List.length_map, List.length_range, List.nodup_cons, List.nodup_nil, List.not_mem_nil, List.mem_cons, not_false_eq_true, or_false, false_or, or_true, true_or, and_true, true_and, and_self, if_true, if_false, reduceIte, decide_true, decide_false, Bool.not_true, Bool.not_false, Bool.and_true, Bool.true_and, List.cons_append, List.nil_append, List.append_nil, eq_self, reduceCtorEq, List.all_cons, List.all_nil, List.isEmpty_cons, List.isEmpty_nil, Nat.reduceSub, Nat.reduceAdd, Nat.reduceMul, Nat.reduceLT, Nat.reduceLeDiff, Nat.reduceEqDiff, Nat.reduceBEq, Int.reduceAdd, Int.reduceSub, Int.reduceNeg, Int.reduceMul, Int.reduceLT, Int.reduceLE, Int.reduceEq, Int.reducePow, Int.reduceToNat, Int.reduceDiv, Int.reduceMod, Nat.zero_add, Int.ofNat_eq_natCast, Int.cast_ofNat_Int, b1]
  refine wp_of (comp_all (f := fun n => .str (n ++ (".rec" : Str))) fun n hx => ?_) ?_
  · have : n.length + 4 ≤ 1000 := by have := n30 n hx; omega
    simp only [↓W0, W1, List.reduceReplicate, String.reduceEq, List.drop_succ_cons, List.drop_zero, List.drop_nil, q_ls, q_lt_s, wipeR, backR, hideR, hideS, putB, noL, noLs, Sl.own, enumFrom, intsOf, Option.map_some, intsOf_map, List.set_cons_succ, List.set_cons_zero, List.getElem?_cons_succ, List.getElem?_cons_zero, List.getD_cons_succ, List.getD_cons_zero, List.map_cons, List.map_nil, List.tail_cons, List.headD_cons, List.length_cons, List.length_nil, List.length_map, List.length_range, List.nodup_cons, List.nodup_nil, List.not_mem_nil, List.mem_cons, not_false_eq_true, or_false, false_or, or_true, true_or, and_true, true_and, and_self, if_true, if_false, reduceIte, decide_true, decide_false, Bool.not_true, Bool.not_false, Bool.and_true, Bool.true_and, List.cons_append, List.nil_append, List.append_nil, eq_self, reduceCtorEq, List.all_cons, List.all_nil, List.isEmpty_cons, List.isEmpty_nil, Nat.reduceSub, Nat.reduceAdd, Nat.reduceMul, Nat.reduceLT, Nat.reduceLeDiff, Nat.reduceEqDiff, Nat.reduceBEq, Int.reduceAdd, Int.reduceSub, Int.reduceNeg, Int.reduceMul, Int.reduceLT, Int.reduceLE, Int.reduceEq, Int.reducePow, Int.reduceToNat, Int.reduceDiv, Int.reduceMod, Nat.zero_add, Int.ofNat_eq_natCast, Int.cast_ofNat_Int, len_rec, this]
  simp only [↓W0, W1, List.reduceReplicate, String.reduceEq, List.drop_succ_cons, List.drop_zero, List.drop_nil, q_ls, q_lt_s, wipeR, backR, hideR, hideS, putB, noL, noLs, Sl.own, enumFrom, intsOf, Option.map_some, intsOf_map, List.set_cons_succ, List.set_cons_zero, List.getElem?_cons_succ, List.getElem?_cons_zero, List.getD_cons_succ, List.getD_cons_zero, List.map_cons, List.map_nil, List.tail_cons, List.headD_cons, List.length_cons, List.length_nil, List.length_map, List.length_range, List.nodup_cons, List.nodup_nil, List.not_mem_nil, List.mem_cons, not_false_eq_true, or_false, false_or, or_true, true_or, and_true, true_and, and_self, if_true, if_false, reduceIte, decide_true, decide_false, Bool.not_true, Bool.not_false, Bool.and_true, Bool.true_and, List.cons_append, List.nil_append, List.append_nil, eq_self, reduceCtorEq, List.all_cons, List.all_nil, List.isEmpty_cons, List.isEmpty_nil, Nat.reduceSub, Nat.reduceAdd, Nat.reduceMul, Nat.reduceLT, Nat.reduceLeDiff, Nat.reduceEqDiff, Nat.reduceBEq, Int.reduceAdd, Int.reduceSub, Int.reduceNeg, Int.reduceMul, Int.reduceLT, Int.reduceLE, Int.reduceEq, Int.reducePow, Int.reduceToNat, Int.reduceDiv, Int.reduceMod, Nat.zero_add, Int.ofNat_eq_natCast, Int.cast_ofNat_Int, b1]
  refine ⟨Nat.le_trans (m := 1000) (by (try simp only [List.length_map, List.length_append, List.length_reverse, List.length_cons, List.length_nil, List.length_zipIdx, List.length_take, List.length_drop, List.length_range, List.length_replicate]) <;> omega) (by decide), ?_⟩
  try simp only [↓W0, W1, List.reduceReplicate, String.reduceEq, List.drop_succ_cons, List.drop_zero, List.drop_nil, q_ls, q_lt_s, wipeR, backR, hideR, hideS, putB, noL, noLs, Sl.own, enumFrom, intsOf, Option.map_some, intsOf_map, List.set_cons_succ, List.set_cons_zero, List.getElem?_cons_succ, List.getElem?_cons_zero, List.getD_cons_succ, List.getD_cons_zero, List.map_cons, List.map_nil, List.tail_cons, List.headD_cons, List.length_cons, List.length_nil, List.length_map, List.length_range, List.nodup_cons, List.nodup_nil, List.not_mem_nil, List.mem_cons, not_false_eq_true, or_false, false_or, or_true, true_or, and_true, true_and, and_self, if_true, if_false, reduceIte, decide_true, decide_false, Bool.not_true, Bool.not_false, Bool.and_true, Bool.true_and, List.cons_append, List.nil_append, List.append_nil, eq_self, reduceCtorEq, List.all_cons, List.all_nil, List.isEmpty_cons, List.isEmpty_nil, Nat.reduceSub, Nat.reduceAdd, Nat.reduceMul, Nat.reduceLT, Nat.reduceLeDiff, Nat.reduceEqDiff, Nat.reduceBEq, Int.reduceAdd, Int.reduceSub, Int.reduceNeg, Int.reduceMul, Int.reduceLT, Int.reduceLE, Int.reduceEq, Int.reducePow, Int.reduceToNat, Int.reduceDiv, Int.reduceMod, Nat.zero_add, Int.ofNat_eq_natCast, Int.cast_ofNat_Int, b1]
  refine wp_of (comp_all (f := fun n => .str (n ++ (".mk" : Str))) fun n hx => ?_) ?_
  · have : n.length + 3 ≤ 1000 := by have := n30 n hx; omega
    simp only [↓W0, W1, List.reduceReplicate, String.reduceEq, List.drop_succ_cons, List.drop_zero, List.drop_nil, q_ls, q_lt_s, wipeR, backR, hideR, hideS, putB, noL, noLs, Sl.own, enumFrom, intsOf, Option.map_some, intsOf_map, List.set_cons_succ, List.set_cons_zero, List.getElem?_cons_succ, List.getElem?_cons_zero, List.getD_cons_succ, List.getD_cons_zero, List.map_cons, List.map_nil, List.tail_cons, List.headD_cons, List.length_cons, List.length_nil, List.length_map, List.length_range, List.nodup_cons, List.nodup_nil, List.not_mem_nil, List.mem_cons, not_false_eq_true, or_false, false_or, or_true, true_or, and_true, true_and, and_self, if_true, if_false, reduceIte, decide_true, decide_false, Bool.not_true, Bool.not_false, Bool.and_true, Bool.true_and, List.cons_append, List.nil_append, List.append_nil, eq_self, reduceCtorEq, List.all_cons, List.all_nil, List.isEmpty_cons, List.isEmpty_nil, Nat.reduceSub, Nat.reduceAdd, Nat.reduceMul, Nat.reduceLT, Nat.reduceLeDiff, Nat.reduceEqDiff, Nat.reduceBEq, Int.reduceAdd, Int.reduceSub, Int.reduceNeg, Int.reduceMul, Int.reduceLT, Int.reduceLE, Int.reduceEq, Int.reducePow, Int.reduceToNat, Int.reduceDiv, Int.reduceMod, Nat.zero_add, Int.ofNat_eq_natCast, Int.cast_ofNat_Int, len_mk, this]
  simp only [↓W0, W1, List.reduceReplicate, String.reduceEq, List.drop_succ_cons, List.drop_zero, List.drop_nil, q_ls, q_lt_s, wipeR, backR, hideR, hideS, putB, noL, noLs, Sl.own, enumFrom, intsOf, Option.map_some, intsOf_map, List.set_cons_succ, List.set_cons_zero, List.getElem?_cons_succ, List.getElem?_cons_zero, List.getD_cons_succ, List.getD_cons_zero, List.map_cons, List.map_nil, List.tail_cons, List.headD_cons, List.length_cons, List.length_nil, List.length_map, List.length_range, List.nodup_cons, List.nodup_nil, List.not_mem_nil, List.mem_cons, not_false_eq_true, or_false, false_or, or_true, true_or, and_true, true_and, and_self, if_true, if_false, reduceIte, decide_true, decide_false, Bool.not_true, Bool.not_false, Bool.and_true, Bool.true_and, List.cons_append, List.nil_append, List.append_nil, eq_self, reduceCtorEq, List.all_cons, List.all_nil, List.isEmpty_cons, List.isEmpty_nil, Nat.reduceSub, Nat.reduceAdd, Nat.reduceMul, Nat.reduceLT, Nat.reduceLeDiff, Nat.reduceEqDiff, Nat.reduceBEq, Int.reduceAdd, Int.reduceSub, Int.reduceNeg, Int.reduceMul, Int.reduceLT, Int.reduceLE, Int.reduceEq, Int.reducePow, Int.reduceToNat, Int.reduceDiv, Int.reduceMod, Nat.zero_add, Int.ofNat_eq_natCast, Int.cast_ofNat_Int]
  refine ⟨Nat.le_trans (m := 1000) (by (try simp only [List.length_map, List.length_append, List.length_reverse, List.length_cons, List.length_nil, List.length_zipIdx, List.length_take, List.length_drop, List.length_range, List.length_replicate]) <;> omega) (by decide), ?_⟩
  try simp only [↓W0, W1, List.reduceReplicate, String.reduceEq, List.drop_succ_cons, List.drop_zero, List.drop_nil, q_ls, q_lt_s, wipeR, backR, hideR, hideS, putB, noL, noLs, Sl.own, enumFrom, intsOf, Option.map_some, intsOf_map, List.set_cons_succ, List.set_cons_zero, List.getElem?_cons_succ, List.getElem?_cons_zero, List.getD_cons_succ, List.getD_cons_zero, List.map_cons, List.map_nil, List.tail_cons, List.headD_cons, List.length_cons, List.length_nil, List.length_map, List.length_range, List.nodup_cons, List.nodup_nil, List.not_mem_nil, List.mem_cons, not_false_eq_true, or_false, false_or, or_true, true_or, and_true, true_and, and_self, if_true, if_false, reduceIte, decide_true, decide_false, Bool.not_true, Bool.not_false, Bool.and_true, Bool.true_and, List.cons_append, List.nil_append, List.append_nil, eq_self, reduceCtorEq, List.all_cons, List.all_nil, List.isEmpty_cons, List.isEmpty_nil, Nat.reduceSub, Nat.reduceAdd, Nat.reduceMul, Nat.reduceLT, Nat.reduceLeDiff, Nat.reduceEqDiff, Nat.reduceBEq, Int.reduceAdd, Int.reduceSub, Int.reduceNeg, Int.reduceMul, Int.reduceLT, Int.reduceLE, Int.reduceEq, Int.reducePow, Int.reduceToNat, Int.reduceDiv, Int.reduceMod, Nat.zero_add, Int.ofNat_eq_natCast, Int.cast_ofNat_Int]
  have b2 : os.length ≤ 1000 := by omega
  refine w_then.mpr ?_
  simp only [↓W0, W1, List.reduceReplicate, String.reduceEq, List.drop_succ_cons, List.drop_zero, List.drop_nil, q_ls, q_lt_s, wipeR, backR, hideR, hideS, putB, noL, noLs, Sl.own, enumFrom, intsOf, Option.map_some, intsOf_map, List.set_cons_succ, List.set_cons_zero, List.getElem?_cons_succ, List.getElem?_cons_zero, List.getD_cons_succ, List.getD_cons_zero, List.map_cons, List.map_nil, List.tail_cons, List.headD_cons, List.length_cons, List.length_nil, List.length_map, List.length_range, List.nodup_cons, List.nodup_nil, List.not_mem_nil, List.mem_cons, not_false_eq_true, or_false, false_or, or_true, true_or, and_true, true_and, and_self, if_true, if_false, reduceIte, decide_true, decide_false, Bool.not_true, Bool.not_false, Bool.and_true, Bool.true_and, List.cons_append, List.nil_append, List.append_nil, eq_self, reduceCtorEq, List.all_cons, List.all_nil, List.isEmpty_cons, List.isEmpty_nil, Nat.reduceSub, Nat.reduceAdd, Nat.reduceMul, Nat.reduceLT, Nat.reduceLeDiff, Nat.reduceEqDiff, Nat.reduceBEq, Int.reduceAdd, Int.reduceSub, Int.reduceNeg, Int.reduceMul, Int.reduceLT, Int.reduceLE, Int.reduceEq, Int.reducePow, Int.reduceToNat, Int.reduceDiv, Int.reduceMod, Nat.zero_add, Int.ofNat_eq_natCast, Int.cast_ofNat_Int, b2]
  refine wp_of (comp_all (f := fun n => .str (n0 ++ ("." : Str) ++ n)) fun n hx => ?_) ?_
  · have a5 : n0.length + 1 ≤ 1000 := by omega
    have a6 : n0.length + 1 + n.length ≤ 1000 := by have := os3 n hx; omega
    simp only [↓W0, W1, List.reduceReplicate, String.reduceEq, List.drop_succ_cons, List.drop_zero, List.drop_nil, q_ls, q_lt_s, wipeR, backR, hideR, hideS, putB, noL, noLs, Sl.own, enumFrom, intsOf, Option.map_some, intsOf_map, List.set_cons_succ, List.set_cons_zero, List.getElem?_cons_succ, List.getElem?_cons_zero, List.getD_cons_succ, List.getD_cons_zero, List.map_cons, List.map_nil, List.tail_cons, List.headD_cons, List.length_cons, List.length_nil, List.length_map, List.length_range, List.nodup_cons, List.nodup_nil, List.not_mem_nil, List.mem_cons, not_false_eq_true, or_false, false_or, or_true, true_or, and_true, true_and, and_self, if_true, if_false, reduceIte, decide_true, decide_false, Bool.not_true, Bool.not_false, Bool.and_true, Bool.true_and, List.cons_append, List.nil_append, List.append_nil, eq_self, reduceCtorEq, List.all_cons, List.all_nil, List.isEmpty_cons, List.isEmpty_nil, Nat.reduceSub, Nat.reduceAdd, Nat.reduceMul, Nat.reduceLT, Nat.reduceLeDiff, Nat.reduceEqDiff, Nat.reduceBEq, Int.reduceAdd, Int.reduceSub, Int.reduceNeg, Int.reduceMul, Int.reduceLT, Int.reduceLE, Int.reduceEq, Int.reducePow, Int.reduceToNat, Int.reduceDiv, Int.reduceMod, Nat.zero_add, Int.ofNat_eq_natCast, Int.cast_ofNat_Int, len_dot, len_app, a5, a6]
  simp only [↓W0, W1, List.reduceReplicate, String.reduceEq, List.drop_succ_cons, List.drop_zero, List.drop_nil, q_ls, q_lt_s, wipeR, backR, hideR, hideS, putB, noL, noLs, Sl.own, enumFrom, intsOf, Option.map_some, intsOf_map, List.set_cons_succ, List.set_cons_zero, List.getElem?_cons_succ, List.getElem?_cons_zero, List.getD_cons_succ, List.getD_cons_zero, List.map_cons, List.map_nil, List.tail_cons, List.headD_cons, List.length_cons, List.length_nil, List.length_map, List.length_range, List.nodup_cons, List.nodup_nil, List.not_mem_nil, List.mem_cons, not_false_eq_true, or_false, false_or, or_true, true_or, and_true, true_and, and_self, if_true, if_false, reduceIte, decide_true, decide_false, Bool.not_true, Bool.not_false, Bool.and_true, Bool.true_and, List.cons_append, List.nil_append, List.append_nil, eq_self, reduceCtorEq, List.all_cons, List.all_nil, List.isEmpty_cons, List.isEmpty_nil, Nat.reduceSub, Nat.reduceAdd, Nat.reduceMul, Nat.reduceLT, Nat.reduceLeDiff, Nat.reduceEqDiff, Nat.reduceBEq, Int.reduceAdd, Int.reduceSub, Int.reduceNeg, Int.reduceMul, Int.reduceLT, Int.reduceLE, Int.reduceEq, Int.reducePow, Int.reduceToNat, Int.reduceDiv, Int.reduceMod, Nat.zero_add, Int.ofNat_eq_natCast, Int.cast_ofNat_Int]
  refine ⟨Nat.le_trans (m := 1000) (by (try simp only [List.length_map, List.length_append, List.length_reverse, List.length_cons, List.length_nil, List.length_zipIdx, List.length_take, List.length_drop, List.length_range, List.length_replicate]) <;> omega) (by decide), ?_⟩
  try simp only [↓W0, W1, List.reduceReplicate, String.reduceEq, List.drop_succ_cons, List.drop_zero, List.drop_nil, q_ls, q_lt_s, wipeR, backR, hideR, hideS, putB, noL, noLs, Sl.own, enumFrom, intsOf, Option.map_some, intsOf_map, List.set_cons_succ, List.set_cons_zero, List.getElem?_cons_succ, List.getElem?_cons_zero, List.getD_cons_succ, List.getD_cons_zero, List.map_cons, List.map_nil, List.tail_cons, List.headD_cons, List.length_cons, List.length_nil, List.length_map, List.length_range, List.nodup_cons, List.nodup_nil, List.not_mem_nil, List.mem_cons, not_false_eq_true, or_false, false_or, or_true, true_or, and_true, true_and, and_self, if_true, if_false, reduceIte, decide_true, decide_false, Bool.not_true, Bool.not_false, Bool.and_true, Bool.true_and, List.cons_append, List.nil_append, List.append_nil, eq_self, reduceCtorEq, List.all_cons, List.all_nil, List.isEmpty_cons, List.isEmpty_nil, Nat.reduceSub, Nat.reduceAdd, Nat.reduceMul, Nat.reduceLT, Nat.reduceLeDiff, Nat.reduceEqDiff, Nat.reduceBEq, Int.reduceAdd, Int.reduceSub, Int.reduceNeg, Int.reduceMul, Int.reduceLT, Int.reduceLE, Int.reduceEq, Int.reducePow, Int.reduceToNat, Int.reduceDiv, Int.reduceMod, Nat.zero_add, Int.ofNat_eq_natCast, Int.cast_ofNat_Int]
  obtain ⟨pool, ep, pl0, pl1⟩ : ∃ pool : List Str, pool.map PyData.str = List.map PyData.str nm ++ List.map (fun n => PyData.str (n ++ Str.ofString ".rec")) nm ++ List.map (fun n => PyData.str (n ++ Str.ofString ".mk")) nm ++ List.map (fun n => PyData.str (n0 ++ Str.ofString "." ++ n)) os ∧ 0 < pool.length ∧ pool.length ≤ 900 :=
    ⟨nm ++ nm.map (fun n => n ++ (".rec" : Str)) ++ nm.map (fun n => n ++ (".mk" : Str)) ++ os.map (fun n => n0 ++ ("." : Str) ++ n), by simp only [List.map_append, List.map_map]; rfl, by simp only [List.length_append, List.length_map]; omega, by simp only [List.length_append, List.length_map]; omega⟩
  rw [← ep]
  refine w_then.mpr ?_
  simp only [↓W0, W1, List.reduceReplicate, String.reduceEq, List.drop_succ_cons, List.drop_zero, List.drop_nil, q_ls, q_lt_s, wipeR, backR, hideR, hideS, putB, noL, noLs, Sl.own, enumFrom, intsOf, Option.map_some, intsOf_map, List.set_cons_succ, List.set_cons_zero, List.getElem?_cons_succ, List.getElem?_cons_zero, List.getD_cons_succ, List.getD_cons_zero, List.map_cons, List.map_nil, List.tail_cons, List.headD_cons, List.length_cons, List.length_nil, List.length_map, List.length_range, List.nodup_cons, List.nodup_nil, List.not_mem_nil, List.mem_cons, not_false_eq_true, or_false, false_or, or_true, true_or, and_true, true_and, and_self, if_true, if_false, reduceIte, decide_true, decide_false, Bool.not_true, Bool.not_false, Bool.and_true, Bool.true_and, List.cons_append, List.nil_append, List.append_nil, eq_self, reduceCtorEq, List.all_cons, List.all_nil, List.isEmpty_cons, List.isEmpty_nil, Nat.reduceSub, Nat.reduceAdd, Nat.reduceMul, Nat.reduceLT, Nat.reduceLeDiff, Nat.reduceEqDiff, Nat.reduceBEq, Int.reduceAdd, Int.reduceSub, Int.reduceNeg, Int.reduceMul, Int.reduceLT, Int.reduceLE, Int.reduceEq, Int.reducePow, Int.reduceToNat, Int.reduceDiv, Int.reduceMod, Nat.zero_add, Int.ofNat_eq_natCast, Int.cast_ofNat_Int]
  refine one_ok h3 (by simp) (by simp) fun w dr4 h4 hw => ?_
  have df : ∀ (w : String) (b : Bool), (Str.ofString w = if b = true then Str.ofString "define" else Str.ofString "result") → w ≠ "axiom" → w ≠ "family" → w ≠ "record" → Wp ((mThen (mIf (mTest boolD (mOp eqD (mVar 9) (mC (.str "axiom")))) (mRet (mTup (mCons (mVar 9) (mCons (mVar 4) (mCons (mVar 6) (mCons (mCall (noX (M_l_some 12)) [] (aO 0 (aD (mC (.int 8)) (aD (mVar 7) (aD (mC (.int 0)) (aD (mVar 6) aNil)))))) mNil)))))) mSkip) (mThen (mIf (mAnd (mTest boolD (mOp neD (mVar 9) (mC (.str "family")))) (mTest boolD (mOp neD (mVar 9) (mC (.str "record"))))) (mRet (mOp addD (mTup (mCons (mVar 9) (mCons (mVar 4) (mCons (mVar 6) mNil)))) (mCall (noX M_l_somes) [] (aO 0 (aD (mFz (mCons (mOp addD (mC (.int 1)) (mCall (noX M_l_pick) [] (aO 0 (aD (mC (.int 8)) aNil)))) (mCons (mC (.int 8)) mNil))) (aD (mVar 7) (aD (mC (.int 0)) (aD (mVar 6) (aD (mC (.int 0)) aNil))))))))) mSkip) (mThen (mAsg (mCall (noX M_l_somes) [] (aO 0 (aD (mCall (noX M_l_rooms) [] (aO 0 (aD (mC (.int 3)) aNil))) (aD (mVar 7) (aD (mC (.int 0)) (aD (mVar 6) (aD (mC (.int 1)) aNil))))))) (mSet 10)) (mThen (mIf (mTest boolD (mOp eqD (mVar 9) (mC (.str "record")))) (mThen (mAsg (mCut (mVar 5) (mPart (mCall (noX M_l_pick) [] (aO 0 (aD (mFn lenD (mCons (mVar 5) mNil)) aNil)))) mNone) (mSet 11)) (mThen (mAsg (mCall (noX M_l_somes) [] (aO 0 (aD (mFz (mLc [8] (mItems (mCut (mVar 11) mNone (mPart (mC (.int 4))))) (mSet 8) mYes (mOp addD (mC (.int 1)) (mCall (noX M_l_pick) [] (aO 0 (aD (mC (.int 8)) aNil)))))) (aD (mVar 7) (aD (mFn lenD (mCons (mVar 10) mNil)) (aD (mVar 6) (aD (mC (.int 1)) aNil))))))) (mSet 12)) (mRet (mTup (mCons (mVar 9) (mCons (mVar 4) (mCons (mVar 6) (mCons (mVar 10) (mCons (mTup (mCons (mC (.int 0)) (mCons (mTup mNil) mNil))) (mCons (mFn tupleD (mCons (mFz (mLc [8, 13] (mZip (mVar 11) (mVar 12)) (gtTup (gtCons (mSet 8) (gtCons (mSet 13) gtNil))) mYes (mTup (mCons (mVar 8) (mCons (mVar 13) mNil))))) mNil)) mNil)))))))))) mSkip) (mThen (mOwn 14 mNil) (mThen (mFor (mItems (mCut (mVar 5) mNone (mPart (mCall (noX M_l_pick) [] (aO 0 (aD (mOp addD (mFn lenD (mCons (mVar 5) mNil)) (mC (.int 1))) aNil)))))) (mSet 8) (mThen (mAsg (mCall (noX M_l_somes) [] (aO 0 (aD (mCall (noX M_l_rooms) [] (aO 0 (aD (mC (.int 5)) aNil))) (aD (mVar 7) (aD (mFn lenD (mCons (mVar 10) mNil)) (aD (mVar 6) (aD (mC (.int 1)) aNil))))))) (mSet 15)) (mThen (mAsg (mCall (noX M_l_somes) [] (aO 0 (aD (mCall (noX M_l_rooms) [] (aO 0 (aD (mC (.int 2)) aNil))) (aD (mVar 7) (aD (mOp addD (mFn lenD (mCons (mVar 10) mNil)) (mFn lenD (mCons (mVar 15) mNil))) (aD (mVar 6) (aD (mC (.int 0)) aNil))))))) (mSet 16)) (mApp 14 (mTup (mCons (mVar 8) (mCons (mVar 15) (mCons (mVar 16) mNil)))))))) (mThen (mAsg (mCall (noX M_l_somes) [] (aO 0 (aD (mCall (noX M_l_rooms) [] (aO 0 (aD (mC (.int 2)) aNil))) (aD (mVar 7) (aD (mFn lenD (mCons (mVar 10) mNil)) (aD (mVar 6) (aD (mC (.int 1)) aNil))))))) (mSet 17)) (mRet (mBor noL 14 (mTup (mCons (mVar 9) (mCons (mVar 4) (mCons (mVar 6) (mCons (mVar 10) (mCons (mVar 17) (mCons (mTup (mCons (mC (.int 1)) (mCons (mTup mNil) mNil))) (mCons (mFn tupleD (mCons (mVar 14) mNil)) mNil))))))))))))))))) [.l dr4, .l (tk.map .str), .d (.list (nm.map .str)), .un, .d (.str n0), .d (.list (os.map .str)), .d (.int lots), .d (.list (pool.map .str)), .un, .d (.str w), .un, .un, .un, .un, .un, .un, .un, .un]) fun fl ρ => At (outP [0] 1 ρ) fun ρ1 => Bd Q fl ρ1 := fun w b ew w1 w2 w3 => by
    refine w_then.mpr ?_
    simp only [↓W0, W1, List.reduceReplicate, String.reduceEq, List.drop_succ_cons, List.drop_zero, List.drop_nil, q_ls, q_lt_s, wipeR, backR, hideR, hideS, putB, noL, noLs, Sl.own, enumFrom, intsOf, Option.map_some, intsOf_map, List.set_cons_succ, List.set_cons_zero, List.getElem?_cons_succ, List.getElem?_cons_zero, List.getD_cons_succ, List.getD_cons_zero, List.map_cons, List.map_nil, List.tail_cons, List.headD_cons, List.length_cons, List.length_nil, List.length_map, List.length_range, List.nodup_cons, List.nodup_nil, List.not_mem_nil, List.mem_cons, not_false_eq_true, or_false, false_or, or_true, true_or, and_true, true_and, and_self, if_true, if_false, reduceIte, decide_true, decide_false, Bool.not_true, Bool.not_false, Bool.and_true, Bool.true_and, List.cons_append, List.nil_append, List.append_nil, eq_self, reduceCtorEq, List.all_cons, List.all_nil, List.isEmpty_cons, List.isEmpty_nil, Nat.reduceSub, Nat.reduceAdd, Nat.reduceMul, Nat.reduceLT, Nat.reduceLeDiff, Nat.reduceEqDiff, Nat.reduceBEq, Int.reduceAdd, Int.reduceSub, Int.reduceNeg, Int.reduceMul, Int.reduceLT, Int.reduceLE, Int.reduceEq, Int.reducePow, Int.reduceToNat, Int.reduceDiv, Int.reduceMod, Nat.zero_add, Int.ofNat_eq_natCast, Int.cast_ofNat_Int, w1]
    refine w_then.mpr ?_
    simp only [↓W0, W1, List.reduceReplicate, String.reduceEq, List.drop_succ_cons, List.drop_zero, List.drop_nil, q_ls, q_lt_s, wipeR, backR, hideR, hideS, putB, noL, noLs, Sl.own, enumFrom, intsOf, Option.map_some, intsOf_map, List.set_cons_succ, List.set_cons_zero, List.getElem?_cons_succ, List.getElem?_cons_zero, List.getD_cons_succ, List.getD_cons_zero, List.map_cons, List.map_nil, List.tail_cons, List.headD_cons, List.length_cons, List.length_nil, List.length_map, List.length_range, List.nodup_cons, List.nodup_nil, List.not_mem_nil, List.mem_cons, not_false_eq_true, or_false, false_or, or_true, true_or, and_true, true_and, and_self, if_true, if_false, reduceIte, decide_true, decide_false, Bool.not_true, Bool.not_false, Bool.and_true, Bool.true_and, List.cons_append, List.nil_append, List.append_nil, eq_self, reduceCtorEq, List.all_cons, List.all_nil, List.isEmpty_cons, List.isEmpty_nil, Nat.reduceSub, Nat.reduceAdd, Nat.reduceMul, Nat.reduceLT, Nat.reduceLeDiff, Nat.reduceEqDiff, Nat.reduceBEq, Int.reduceAdd, Int.reduceSub, Int.reduceNeg, Int.reduceMul, Int.reduceLT, Int.reduceLE, Int.reduceEq, Int.reducePow, Int.reduceToNat, Int.reduceDiv, Int.reduceMod, Nat.zero_add, Int.ofNat_eq_natCast, Int.cast_ofNat_Int, w2, w3]
    refine pick_lt h4 (by omega) (by omega) fun v dr5 h5 v0 v1 => ?_
    obtain ⟨u, eu⟩ : ∃ u : Nat, 1 + v = (u : Nat) := ⟨(1 + v).toNat, by omega⟩
    simp only [↓W0, W1, List.reduceReplicate, String.reduceEq, List.drop_succ_cons, List.drop_zero, List.drop_nil, q_ls, q_lt_s, wipeR, backR, hideR, hideS, putB, noL, noLs, Sl.own, enumFrom, intsOf, Option.map_some, intsOf_map, List.set_cons_succ, List.set_cons_zero, List.getElem?_cons_succ, List.getElem?_cons_zero, List.getD_cons_succ, List.getD_cons_zero, List.map_cons, List.map_nil, List.tail_cons, List.headD_cons, List.length_cons, List.length_nil, List.length_map, List.length_range, List.nodup_cons, List.nodup_nil, List.not_mem_nil, List.mem_cons, not_false_eq_true, or_false, false_or, or_true, true_or, and_true, true_and, and_self, if_true, if_false, reduceIte, decide_true, decide_false, Bool.not_true, Bool.not_false, Bool.and_true, Bool.true_and, List.cons_append, List.nil_append, List.append_nil, eq_self, reduceCtorEq, List.all_cons, List.all_nil, List.isEmpty_cons, List.isEmpty_nil, Nat.reduceSub, Nat.reduceAdd, Nat.reduceMul, Nat.reduceLT, Nat.reduceLeDiff, Nat.reduceEqDiff, Nat.reduceBEq, Int.reduceAdd, Int.reduceSub, Int.reduceNeg, Int.reduceMul, Int.reduceLT, Int.reduceLE, Int.reduceEq, Int.reducePow, Int.reduceToNat, Int.reduceDiv, Int.reduceMod, Nat.zero_add, Int.ofNat_eq_natCast, Int.cast_ofNat_Int]
    have e9 : [PyData.int (1 + v), PyData.int 8] = ([u, 8] : List Nat).map fun r : Nat => PyData.int (r : Nat) := by rw [eu]; rfl
    rw [e9]
    refine somes_ok h5 (by simp) (by simp; omega) pl0 pl1 (by omega) (by omega) l0 (by omega) (by omega) (by omega) fun ts dr6 h6 t1 t2 => ?_
    obtain ⟨a, c, rfl⟩ : ∃ a c, ts = [a, c] := by
      match ts, t1 with
      | [a, c], _ => exact ⟨a, c, rfl⟩
    have ta := t2 a (by simp)
    have tc := t2 c (by simp)
    simp only [↓W0, W1, List.reduceReplicate, String.reduceEq, List.drop_succ_cons, List.drop_zero, List.drop_nil, q_ls, q_lt_s, wipeR, backR, hideR, hideS, putB, noL, noLs, Sl.own, enumFrom, intsOf, Option.map_some, intsOf_map, List.set_cons_succ, List.set_cons_zero, List.getElem?_cons_succ, List.getElem?_cons_zero, List.getD_cons_succ, List.getD_cons_zero, List.map_cons, List.map_nil, List.tail_cons, List.headD_cons, List.length_cons, List.length_nil, List.length_map, List.length_range, List.nodup_cons, List.nodup_nil, List.not_mem_nil, List.mem_cons, not_false_eq_true, or_false, false_or, or_true, true_or, and_true, true_and, and_self, if_true, if_false, reduceIte, decide_true, decide_false, Bool.not_true, Bool.not_false, Bool.and_true, Bool.true_and, List.cons_append, List.nil_append, List.append_nil, eq_self, reduceCtorEq, List.all_cons, List.all_nil, List.isEmpty_cons, List.isEmpty_nil, Nat.reduceSub, Nat.reduceAdd, Nat.reduceMul, Nat.reduceLT, Nat.reduceLeDiff, Nat.reduceEqDiff, Nat.reduceBEq, Int.reduceAdd, Int.reduceSub, Int.reduceNeg, Int.reduceMul, Int.reduceLT, Int.reduceLE, Int.reduceEq, Int.reducePow, Int.reduceToNat, Int.reduceDiv, Int.reduceMod, Nat.zero_add, Int.ofNat_eq_natCast, Int.cast_ofNat_Int, tsD, ew]
    exact k (.df b n0 (.int lots) a c) dr6 h6 ⟨by show n0.length ≤ 200; omega, fun t ht => by have := t2 t ht; omega, by show szs [a, c] ≤ 900; rw [szs_cons, szs_cons]; simp [szs]; omega⟩
  have e0 : ∀ {ρ : R} {dr' : List D}, ρ[0]? = some (.l dr') → List.getD ρ 0 Sl.un = .l dr' := fun hρ => by rw [List.getD_eq_getElem?_getD, hρ]; rfl
  simp only [List.mem_cons, List.not_mem_nil, or_false] at hw
  rcases hw with rfl | rfl | rfl | rfl | rfl | rfl
  · simp only [↓W0, W1, List.reduceReplicate, String.reduceEq, List.drop_succ_cons, List.drop_zero, List.drop_nil, q_ls, q_lt_s, wipeR, backR, hideR, hideS, putB, noL, noLs, Sl.own, enumFrom, intsOf, Option.map_some, intsOf_map, List.set_cons_succ, List.set_cons_zero, List.getElem?_cons_succ, List.getElem?_cons_zero, List.getD_cons_succ, List.getD_cons_zero, List.map_cons, List.map_nil, List.tail_cons, List.headD_cons, List.length_cons, List.length_nil, List.length_map, List.length_range, List.nodup_cons, List.nodup_nil, List.not_mem_nil, List.mem_cons, not_false_eq_true, or_false, false_or, or_true, true_or, and_true, true_and, and_self, if_true, if_false, reduceIte, decide_true, decide_false, Bool.not_true, Bool.not_false, Bool.and_true, Bool.true_and, List.cons_append, List.nil_append, List.append_nil, eq_self, reduceCtorEq, List.all_cons, List.all_nil, List.isEmpty_cons, List.isEmpty_nil, Nat.reduceSub, Nat.reduceAdd, Nat.reduceMul, Nat.reduceLT, Nat.reduceLeDiff, Nat.reduceEqDiff, Nat.reduceBEq, Int.reduceAdd, Int.reduceSub, Int.reduceNeg, Int.reduceMul, Int.reduceLT, Int.reduceLE, Int.reduceEq, Int.reducePow, Int.reduceToNat, Int.reduceDiv, Int.reduceMod, Nat.zero_add, Int.ofNat_eq_natCast, Int.cast_ofNat_Int]
    refine w_then.mpr ?_
    simp only [↓W0, W1, List.reduceReplicate, String.reduceEq, List.drop_succ_cons, List.drop_zero, List.drop_nil, q_ls, q_lt_s, wipeR, backR, hideR, hideS, putB, noL, noLs, Sl.own, enumFrom, intsOf, Option.map_some, intsOf_map, List.set_cons_succ, List.set_cons_zero, List.getElem?_cons_succ, List.getElem?_cons_zero, List.getD_cons_succ, List.getD_cons_zero, List.map_cons, List.map_nil, List.tail_cons, List.headD_cons, List.length_cons, List.length_nil, List.length_map, List.length_range, List.nodup_cons, List.nodup_nil, List.not_mem_nil, List.mem_cons, not_false_eq_true, or_false, false_or, or_true, true_or, and_true, true_and, and_self, if_true, if_false, reduceIte, decide_true, decide_false, Bool.not_true, Bool.not_false, Bool.and_true, Bool.true_and, List.cons_append, List.nil_append, List.append_nil, eq_self, reduceCtorEq, List.all_cons, List.all_nil, List.isEmpty_cons, List.isEmpty_nil, Nat.reduceSub, Nat.reduceAdd, Nat.reduceMul, Nat.reduceLT, Nat.reduceLeDiff, Nat.reduceEqDiff, Nat.reduceBEq, Int.reduceAdd, Int.reduceSub, Int.reduceNeg, Int.reduceMul, Int.reduceLT, Int.reduceLE, Int.reduceEq, Int.reducePow, Int.reduceToNat, Int.reduceDiv, Int.reduceMod, Nat.zero_add, Int.ofNat_eq_natCast, Int.cast_ofNat_Int]
    refine some_ok 12 8 (by omega) (by omega) h4 pl0 pl1 (by omega) (by omega) l0 (by omega) fun t dr5 h5 ht => ?_
    simp only [↓W0, W1, List.reduceReplicate, String.reduceEq, List.drop_succ_cons, List.drop_zero, List.drop_nil, q_ls, q_lt_s, wipeR, backR, hideR, hideS, putB, noL, noLs, Sl.own, enumFrom, intsOf, Option.map_some, intsOf_map, List.set_cons_succ, List.set_cons_zero, List.getElem?_cons_succ, List.getElem?_cons_zero, List.getD_cons_succ, List.getD_cons_zero, List.map_cons, List.map_nil, List.tail_cons, List.headD_cons, List.length_cons, List.length_nil, List.length_map, List.length_range, List.nodup_cons, List.nodup_nil, List.not_mem_nil, List.mem_cons, not_false_eq_true, or_false, false_or, or_true, true_or, and_true, true_and, and_self, if_true, if_false, reduceIte, decide_true, decide_false, Bool.not_true, Bool.not_false, Bool.and_true, Bool.true_and, List.cons_append, List.nil_append, List.append_nil, eq_self, reduceCtorEq, List.all_cons, List.all_nil, List.isEmpty_cons, List.isEmpty_nil, Nat.reduceSub, Nat.reduceAdd, Nat.reduceMul, Nat.reduceLT, Nat.reduceLeDiff, Nat.reduceEqDiff, Nat.reduceBEq, Int.reduceAdd, Int.reduceSub, Int.reduceNeg, Int.reduceMul, Int.reduceLT, Int.reduceLE, Int.reduceEq, Int.reducePow, Int.reduceToNat, Int.reduceDiv, Int.reduceMod, Nat.zero_add, Int.ofNat_eq_natCast, Int.cast_ofNat_Int]
    have t9 : ∀ u ∈ (Row.ax n0 (.int lots) t).terms, u.sz ≤ 12 := fun u hu => by
      have : u = t := by simpa [Row.terms] using hu
      rw [this]; omega
    exact k (.ax n0 (.int lots) t) dr5 h5 ⟨by show n0.length ≤ 200; omega, t9, by show szs [t] ≤ 900; rw [szs_cons]; simp [szs]; omega⟩
  · simp only [↓W0, W1, List.reduceReplicate, String.reduceEq, List.drop_succ_cons, List.drop_zero, List.drop_nil, q_ls, q_lt_s, wipeR, backR, hideR, hideS, putB, noL, noLs, Sl.own, enumFrom, intsOf, Option.map_some, intsOf_map, List.set_cons_succ, List.set_cons_zero, List.getElem?_cons_succ, List.getElem?_cons_zero, List.getD_cons_succ, List.getD_cons_zero, List.map_cons, List.map_nil, List.tail_cons, List.headD_cons, List.length_cons, List.length_nil, List.length_map, List.length_range, List.nodup_cons, List.nodup_nil, List.not_mem_nil, List.mem_cons, not_false_eq_true, or_false, false_or, or_true, true_or, and_true, true_and, and_self, if_true, if_false, reduceIte, decide_true, decide_false, Bool.not_true, Bool.not_false, Bool.and_true, Bool.true_and, List.cons_append, List.nil_append, List.append_nil, eq_self, reduceCtorEq, List.all_cons, List.all_nil, List.isEmpty_cons, List.isEmpty_nil, Nat.reduceSub, Nat.reduceAdd, Nat.reduceMul, Nat.reduceLT, Nat.reduceLeDiff, Nat.reduceEqDiff, Nat.reduceBEq, Int.reduceAdd, Int.reduceSub, Int.reduceNeg, Int.reduceMul, Int.reduceLT, Int.reduceLE, Int.reduceEq, Int.reducePow, Int.reduceToNat, Int.reduceDiv, Int.reduceMod, Nat.zero_add, Int.ofNat_eq_natCast, Int.cast_ofNat_Int]
    exact df "define" true rfl (by decide) (by decide) (by decide)
  · simp only [↓W0, W1, List.reduceReplicate, String.reduceEq, List.drop_succ_cons, List.drop_zero, List.drop_nil, q_ls, q_lt_s, wipeR, backR, hideR, hideS, putB, noL, noLs, Sl.own, enumFrom, intsOf, Option.map_some, intsOf_map, List.set_cons_succ, List.set_cons_zero, List.getElem?_cons_succ, List.getElem?_cons_zero, List.getD_cons_succ, List.getD_cons_zero, List.map_cons, List.map_nil, List.tail_cons, List.headD_cons, List.length_cons, List.length_nil, List.length_map, List.length_range, List.nodup_cons, List.nodup_nil, List.not_mem_nil, List.mem_cons, not_false_eq_true, or_false, false_or, or_true, true_or, and_true, true_and, and_self, if_true, if_false, reduceIte, decide_true, decide_false, Bool.not_true, Bool.not_false, Bool.and_true, Bool.true_and, List.cons_append, List.nil_append, List.append_nil, eq_self, reduceCtorEq, List.all_cons, List.all_nil, List.isEmpty_cons, List.isEmpty_nil, Nat.reduceSub, Nat.reduceAdd, Nat.reduceMul, Nat.reduceLT, Nat.reduceLeDiff, Nat.reduceEqDiff, Nat.reduceBEq, Int.reduceAdd, Int.reduceSub, Int.reduceNeg, Int.reduceMul, Int.reduceLT, Int.reduceLE, Int.reduceEq, Int.reducePow, Int.reduceToNat, Int.reduceDiv, Int.reduceMod, Nat.zero_add, Int.ofNat_eq_natCast, Int.cast_ofNat_Int]
    exact df "result" false rfl (by decide) (by decide) (by decide)
  all_goals
    simp only [↓W0, W1, List.reduceReplicate, String.reduceEq, List.drop_succ_cons, List.drop_zero, List.drop_nil, q_ls, q_lt_s, wipeR, backR, hideR, hideS, putB, noL, noLs, Sl.own, enumFrom, intsOf, Option.map_some, intsOf_map, List.set_cons_succ, List.set_cons_zero, List.getElem?_cons_succ, List.getElem?_cons_zero, List.getD_cons_succ, List.getD_cons_zero, List.map_cons, List.map_nil, List.tail_cons, List.headD_cons, List.length_cons, List.length_nil, List.length_map, List.length_range, List.nodup_cons, List.nodup_nil, List.not_mem_nil, List.mem_cons, not_false_eq_true, or_false, false_or, or_true, true_or, and_true, true_and, and_self, if_true, if_false, reduceIte, decide_true, decide_false, Bool.not_true, Bool.not_false, Bool.and_true, Bool.true_and, List.cons_append, List.nil_append, List.append_nil, eq_self, reduceCtorEq, List.all_cons, List.all_nil, List.isEmpty_cons, List.isEmpty_nil, Nat.reduceSub, Nat.reduceAdd, Nat.reduceMul, Nat.reduceLT, Nat.reduceLeDiff, Nat.reduceEqDiff, Nat.reduceBEq, Int.reduceAdd, Int.reduceSub, Int.reduceNeg, Int.reduceMul, Int.reduceLT, Int.reduceLE, Int.reduceEq, Int.reducePow, Int.reduceToNat, Int.reduceDiv, Int.reduceMod, Nat.zero_add, Int.ofNat_eq_natCast, Int.cast_ofNat_Int]
    refine w_then.mpr ?_
    simp only [↓W0, W1, List.reduceReplicate, String.reduceEq, List.drop_succ_cons, List.drop_zero, List.drop_nil, q_ls, q_lt_s, wipeR, backR, hideR, hideS, putB, noL, noLs, Sl.own, enumFrom, intsOf, Option.map_some, intsOf_map, List.set_cons_succ, List.set_cons_zero, List.getElem?_cons_succ, List.getElem?_cons_zero, List.getD_cons_succ, List.getD_cons_zero, List.map_cons, List.map_nil, List.tail_cons, List.headD_cons, List.length_cons, List.length_nil, List.length_map, List.length_range, List.nodup_cons, List.nodup_nil, List.not_mem_nil, List.mem_cons, not_false_eq_true, or_false, false_or, or_true, true_or, and_true, true_and, and_self, if_true, if_false, reduceIte, decide_true, decide_false, Bool.not_true, Bool.not_false, Bool.and_true, Bool.true_and, List.cons_append, List.nil_append, List.append_nil, eq_self, reduceCtorEq, List.all_cons, List.all_nil, List.isEmpty_cons, List.isEmpty_nil, Nat.reduceSub, Nat.reduceAdd, Nat.reduceMul, Nat.reduceLT, Nat.reduceLeDiff, Nat.reduceEqDiff, Nat.reduceBEq, Int.reduceAdd, Int.reduceSub, Int.reduceNeg, Int.reduceMul, Int.reduceLT, Int.reduceLE, Int.reduceEq, Int.reducePow, Int.reduceToNat, Int.reduceDiv, Int.reduceMod, Nat.zero_add, Int.ofNat_eq_natCast, Int.cast_ofNat_Int]
    refine w_then.mpr ?_
    simp only [↓W0, W1, List.reduceReplicate, String.reduceEq, List.drop_succ_cons, List.drop_zero, List.drop_nil, q_ls, q_lt_s, wipeR, backR, hideR, hideS, putB, noL, noLs, Sl.own, enumFrom, intsOf, Option.map_some, intsOf_map, List.set_cons_succ, List.set_cons_zero, List.getElem?_cons_succ, List.getElem?_cons_zero, List.getD_cons_succ, List.getD_cons_zero, List.map_cons, List.map_nil, List.tail_cons, List.headD_cons, List.length_cons, List.length_nil, List.length_map, List.length_range, List.nodup_cons, List.nodup_nil, List.not_mem_nil, List.mem_cons, not_false_eq_true, or_false, false_or, or_true, true_or, and_true, true_and, and_self, if_true, if_false, reduceIte, decide_true, decide_false, Bool.not_true, Bool.not_false, Bool.and_true, Bool.true_and, List.cons_append, List.nil_append, List.append_nil, eq_self, reduceCtorEq, List.all_cons, List.all_nil, List.isEmpty_cons, List.isEmpty_nil, Nat.reduceSub, Nat.reduceAdd, Nat.reduceMul, Nat.reduceLT, Nat.reduceLeDiff, Nat.reduceEqDiff, Nat.reduceBEq, Int.reduceAdd, Int.reduceSub, Int.reduceNeg, Int.reduceMul, Int.reduceLT, Int.reduceLE, Int.reduceEq, Int.reducePow, Int.reduceToNat, Int.reduceDiv, Int.reduceMod, Nat.zero_add, Int.ofNat_eq_natCast, Int.cast_ofNat_Int]
    refine w_then.mpr ?_
    simp only [↓W0, W1, List.reduceReplicate, String.reduceEq, List.drop_succ_cons, List.drop_zero, List.drop_nil, q_ls, q_lt_s, wipeR, backR, hideR, hideS, putB, noL, noLs, Sl.own, enumFrom, intsOf, Option.map_some, intsOf_map, List.set_cons_succ, List.set_cons_zero, List.getElem?_cons_succ, List.getElem?_cons_zero, List.getD_cons_succ, List.getD_cons_zero, List.map_cons, List.map_nil, List.tail_cons, List.headD_cons, List.length_cons, List.length_nil, List.length_map, List.length_range, List.nodup_cons, List.nodup_nil, List.not_mem_nil, List.mem_cons, not_false_eq_true, or_false, false_or, or_true, true_or, and_true, true_and, and_self, if_true, if_false, reduceIte, decide_true, decide_false, Bool.not_true, Bool.not_false, Bool.and_true, Bool.true_and, List.cons_append, List.nil_append, List.append_nil, eq_self, reduceCtorEq, List.all_cons, List.all_nil, List.isEmpty_cons, List.isEmpty_nil, Nat.reduceSub, Nat.reduceAdd, Nat.reduceMul, Nat.reduceLT, Nat.reduceLeDiff, Nat.reduceEqDiff, Nat.reduceBEq, Int.reduceAdd, Int.reduceSub, Int.reduceNeg, Int.reduceMul, Int.reduceLT, Int.reduceLE, Int.reduceEq, Int.reducePow, Int.reduceToNat, Int.reduceDiv, Int.reduceMod, Nat.zero_add, Int.ofNat_eq_natCast, Int.cast_ofNat_Int]
    refine rooms_ok h4 (by omega) (by omega) fun rs dr5 h5 r1 r2 => ?_
    simp only [↓W0, W1, List.reduceReplicate, String.reduceEq, List.drop_succ_cons, List.drop_zero, List.drop_nil, q_ls, q_lt_s, wipeR, backR, hideR, hideS, putB, noL, noLs, Sl.own, enumFrom, intsOf, Option.map_some, intsOf_map, List.set_cons_succ, List.set_cons_zero, List.getElem?_cons_succ, List.getElem?_cons_zero, List.getD_cons_succ, List.getD_cons_zero, List.map_cons, List.map_nil, List.tail_cons, List.headD_cons, List.length_cons, List.length_nil, List.length_map, List.length_range, List.nodup_cons, List.nodup_nil, List.not_mem_nil, List.mem_cons, not_false_eq_true, or_false, false_or, or_true, true_or, and_true, true_and, and_self, if_true, if_false, reduceIte, decide_true, decide_false, Bool.not_true, Bool.not_false, Bool.and_true, Bool.true_and, List.cons_append, List.nil_append, List.append_nil, eq_self, reduceCtorEq, List.all_cons, List.all_nil, List.isEmpty_cons, List.isEmpty_nil, Nat.reduceSub, Nat.reduceAdd, Nat.reduceMul, Nat.reduceLT, Nat.reduceLeDiff, Nat.reduceEqDiff, Nat.reduceBEq, Int.reduceAdd, Int.reduceSub, Int.reduceNeg, Int.reduceMul, Int.reduceLT, Int.reduceLE, Int.reduceEq, Int.reducePow, Int.reduceToNat, Int.reduceDiv, Int.reduceMod, Nat.zero_add, Int.ofNat_eq_natCast, Int.cast_ofNat_Int]
    refine somes_ok h5 (by omega) r2 pl0 pl1 (by omega) (by omega) l0 (by omega) (by omega) (by omega) fun ps dr6 h6 p1 p2 => ?_
    simp only [↓W0, W1, List.reduceReplicate, String.reduceEq, List.drop_succ_cons, List.drop_zero, List.drop_nil, q_ls, q_lt_s, wipeR, backR, hideR, hideS, putB, noL, noLs, Sl.own, enumFrom, intsOf, Option.map_some, intsOf_map, List.set_cons_succ, List.set_cons_zero, List.getElem?_cons_succ, List.getElem?_cons_zero, List.getD_cons_succ, List.getD_cons_zero, List.map_cons, List.map_nil, List.tail_cons, List.headD_cons, List.length_cons, List.length_nil, List.length_map, List.length_range, List.nodup_cons, List.nodup_nil, List.not_mem_nil, List.mem_cons, not_false_eq_true, or_false, false_or, or_true, true_or, and_true, true_and, and_self, if_true, if_false, reduceIte, decide_true, decide_false, Bool.not_true, Bool.not_false, Bool.and_true, Bool.true_and, List.cons_append, List.nil_append, List.append_nil, eq_self, reduceCtorEq, List.all_cons, List.all_nil, List.isEmpty_cons, List.isEmpty_nil, Nat.reduceSub, Nat.reduceAdd, Nat.reduceMul, Nat.reduceLT, Nat.reduceLeDiff, Nat.reduceEqDiff, Nat.reduceBEq, Int.reduceAdd, Int.reduceSub, Int.reduceNeg, Int.reduceMul, Int.reduceLT, Int.reduceLE, Int.reduceEq, Int.reducePow, Int.reduceToNat, Int.reduceDiv, Int.reduceMod, Nat.zero_add, Int.ofNat_eq_natCast, Int.cast_ofNat_Int]
    refine w_then.mpr ?_
    simp only [↓W0, W1, List.reduceReplicate, String.reduceEq, List.drop_succ_cons, List.drop_zero, List.drop_nil, q_ls, q_lt_s, wipeR, backR, hideR, hideS, putB, noL, noLs, Sl.own, enumFrom, intsOf, Option.map_some, intsOf_map, List.set_cons_succ, List.set_cons_zero, List.getElem?_cons_succ, List.getElem?_cons_zero, List.getD_cons_succ, List.getD_cons_zero, List.map_cons, List.map_nil, List.tail_cons, List.headD_cons, List.length_cons, List.length_nil, List.length_map, List.length_range, List.nodup_cons, List.nodup_nil, List.not_mem_nil, List.mem_cons, not_false_eq_true, or_false, false_or, or_true, true_or, and_true, true_and, and_self, if_true, if_false, reduceIte, decide_true, decide_false, Bool.not_true, Bool.not_false, Bool.and_true, Bool.true_and, List.cons_append, List.nil_append, List.append_nil, eq_self, reduceCtorEq, List.all_cons, List.all_nil, List.isEmpty_cons, List.isEmpty_nil, Nat.reduceSub, Nat.reduceAdd, Nat.reduceMul, Nat.reduceLT, Nat.reduceLeDiff, Nat.reduceEqDiff, Nat.reduceBEq, Int.reduceAdd, Int.reduceSub, Int.reduceNeg, Int.reduceMul, Int.reduceLT, Int.reduceLE, Int.reduceEq, Int.reducePow, Int.reduceToNat, Int.reduceDiv, Int.reduceMod, Nat.zero_add, Int.ofNat_eq_natCast, Int.cast_ofNat_Int]
  · refine row_fam h6 hn pl0 pl1 l0 (by omega) (by omega) p2 fun r dr' ρ h' hs hρ => ?_
    simp only [↓W0, W1, List.reduceReplicate, String.reduceEq, List.drop_succ_cons, List.drop_zero, List.drop_nil, q_ls, q_lt_s, wipeR, backR, hideR, hideS, putB, noL, noLs, Sl.own, enumFrom, intsOf, Option.map_some, intsOf_map, List.set_cons_succ, List.set_cons_zero, List.getElem?_cons_succ, List.getElem?_cons_zero, List.getD_cons_succ, List.getD_cons_zero, List.map_cons, List.map_nil, List.tail_cons, List.headD_cons, List.length_cons, List.length_nil, List.length_map, List.length_range, List.nodup_cons, List.nodup_nil, List.not_mem_nil, List.mem_cons, not_false_eq_true, or_false, false_or, or_true, true_or, and_true, true_and, and_self, if_true, if_false, reduceIte, decide_true, decide_false, Bool.not_true, Bool.not_false, Bool.and_true, Bool.true_and, List.cons_append, List.nil_append, List.append_nil, eq_self, reduceCtorEq, List.all_cons, List.all_nil, List.isEmpty_cons, List.isEmpty_nil, Nat.reduceSub, Nat.reduceAdd, Nat.reduceMul, Nat.reduceLT, Nat.reduceLeDiff, Nat.reduceEqDiff, Nat.reduceBEq, Int.reduceAdd, Int.reduceSub, Int.reduceNeg, Int.reduceMul, Int.reduceLT, Int.reduceLE, Int.reduceEq, Int.reducePow, Int.reduceToNat, Int.reduceDiv, Int.reduceMod, Nat.zero_add, Int.ofNat_eq_natCast, Int.cast_ofNat_Int, e0 hρ]
    exact k r dr' h' hs
  · refine row_fam h6 hn pl0 pl1 l0 (by omega) (by omega) p2 fun r dr' ρ h' hs hρ => ?_
    simp only [↓W0, W1, List.reduceReplicate, String.reduceEq, List.drop_succ_cons, List.drop_zero, List.drop_nil, q_ls, q_lt_s, wipeR, backR, hideR, hideS, putB, noL, noLs, Sl.own, enumFrom, intsOf, Option.map_some, intsOf_map, List.set_cons_succ, List.set_cons_zero, List.getElem?_cons_succ, List.getElem?_cons_zero, List.getD_cons_succ, List.getD_cons_zero, List.map_cons, List.map_nil, List.tail_cons, List.headD_cons, List.length_cons, List.length_nil, List.length_map, List.length_range, List.nodup_cons, List.nodup_nil, List.not_mem_nil, List.mem_cons, not_false_eq_true, or_false, false_or, or_true, true_or, and_true, true_and, and_self, if_true, if_false, reduceIte, decide_true, decide_false, Bool.not_true, Bool.not_false, Bool.and_true, Bool.true_and, List.cons_append, List.nil_append, List.append_nil, eq_self, reduceCtorEq, List.all_cons, List.all_nil, List.isEmpty_cons, List.isEmpty_nil, Nat.reduceSub, Nat.reduceAdd, Nat.reduceMul, Nat.reduceLT, Nat.reduceLeDiff, Nat.reduceEqDiff, Nat.reduceBEq, Int.reduceAdd, Int.reduceSub, Int.reduceNeg, Int.reduceMul, Int.reduceLT, Int.reduceLE, Int.reduceEq, Int.reducePow, Int.reduceToNat, Int.reduceDiv, Int.reduceMod, Nat.zero_add, Int.ofNat_eq_natCast, Int.cast_ofNat_Int, e0 hρ]
    exact k r dr' h' hs
  · refine row_rec h6 hn pl0 pl1 l0 (by omega) (by omega) p2 fun r dr' ρ h' hs hρ => ?_
    simp only [↓W0, W1, List.reduceReplicate, String.reduceEq, List.drop_succ_cons, List.drop_zero, List.drop_nil, q_ls, q_lt_s, wipeR, backR, hideR, hideS, putB, noL, noLs, Sl.own, enumFrom, intsOf, Option.map_some, intsOf_map, List.set_cons_succ, List.set_cons_zero, List.getElem?_cons_succ, List.getElem?_cons_zero, List.getD_cons_succ, List.getD_cons_zero, List.map_cons, List.map_nil, List.tail_cons, List.headD_cons, List.length_cons, List.length_nil, List.length_map, List.length_range, List.nodup_cons, List.nodup_nil, List.not_mem_nil, List.mem_cons, not_false_eq_true, or_false, false_or, or_true, true_or, and_true, true_and, and_self, if_true, if_false, reduceIte, decide_true, decide_false, Bool.not_true, Bool.not_false, Bool.and_true, Bool.true_and, List.cons_append, List.nil_append, List.append_nil, eq_self, reduceCtorEq, List.all_cons, List.all_nil, List.isEmpty_cons, List.isEmpty_nil, Nat.reduceSub, Nat.reduceAdd, Nat.reduceMul, Nat.reduceLT, Nat.reduceLeDiff, Nat.reduceEqDiff, Nat.reduceBEq, Int.reduceAdd, Int.reduceSub, Int.reduceNeg, Int.reduceMul, Int.reduceLT, Int.reduceLE, Int.reduceEq, Int.reducePow, Int.reduceToNat, Int.reduceDiv, Int.reduceMod, Nat.zero_add, Int.ofNat_eq_natCast, Int.cast_ofNat_Int, e0 hρ]
    exact k r dr' h' hs

end DL

namespace DL
open PySem PySem.Spec PyProof.Rows L2
theorem depth_strs : ∀ xs : List Str, PyData.depthAll (xs.map .str) ≤ 1
  | [] => by simp [PyData.depthAll]
  | x :: xs => by
    have := depth_strs xs
    simp only [List.map_cons, PyData.depthAll, PyData.depth]
    omega
theorem eqD_refl {d : D} (h : d.plain = true) (h2 : d.depth ≤ 150) : eqD d d = some (.bool true) := by
  rw [eqD_of (eqC_of h h (by omega)), SeqAt.eqv_refl_plain d h]
theorem neD_refl {d : D} (h : d.plain = true) (h2 : d.depth ≤ 150) : neD d d = some (.bool false) := by
  rw [neD_of (eqC_of h h (by omega)), SeqAt.eqv_refl_plain d h]
  rfl
theorem zipD_same {α : Type} {e f : α → D} : ∀ L : List α, zipD (L.map e) (L.map f) = L.map fun x => .tuple [e x, f x]
  | [] => rfl
  | x :: L => by
    show _ :: zipD (L.map e) (L.map f) = _
    rw [zipD_same L]; rfl
def tl (r : Row) : D := .tuple ((tell r.given r.terms).map .str)
theorem plain_tl : ∀ rs : List Row, PyData.plainAll (rs.map tl) = true
  | [] => rfl
  | r :: rs => by
    show (PyData.plainAll ((tell r.given r.terms).map .str) && PyData.plainAll (rs.map tl)) = true
    rw [plain_strs, plain_tl rs]; rfl
theorem depth_tl : ∀ rs : List Row, PyData.depthAll (rs.map tl) ≤ 3
  | [] => by simp [PyData.depthAll]
  | r :: rs => by
    have := depth_tl rs
    have := depth_strs (tell r.given r.terms)
    simp only [List.map_cons, PyData.depthAll, tl, PyData.depth]
    omega
theorem law_ok {ns : List Int} (h : ns.length ≤ 63) : ∃ ρ' : R, M_the_law [.s ns] = .ok (.bool true, ρ') := by
  suffices hh : Wp (M_the_law [.s ns]) fun d _ => d = .bool true by
    unfold Wp P0.Wp at hh
    split at hh
    · rename_i p e
      exact ⟨p.2, by rw [e, ← hh]⟩
    · exact hh.elim
  unfold M_the_law b_the_law
  simp only [↓W0, W1, List.reduceReplicate, String.reduceEq, List.drop_succ_cons, List.drop_zero, List.drop_nil, q_ls, q_lt_s, wipeR, backR, hideR, hideS, putB, noL, noLs, Sl.own, enumFrom, intsOf, Option.map_some, intsOf_map, List.set_cons_succ, List.set_cons_zero, List.getElem?_cons_succ, List.getElem?_cons_zero, List.getD_cons_succ, List.getD_cons_zero, List.map_cons, List.map_nil, List.tail_cons, List.headD_cons, List.length_cons, List.length_nil, List.length_map, List.length_range, List.nodup_cons, List.nodup_nil, List.not_mem_nil, List.mem_cons, not_false_eq_true, or_false, false_or, or_true, true_or, and_true, true_and, and_self, if_true, if_false, reduceIte, decide_true, decide_false, Bool.not_true, Bool.not_false, Bool.and_true, Bool.true_and, List.cons_append, List.nil_append, List.append_nil, eq_self, reduceCtorEq, List.all_cons, List.all_nil, List.isEmpty_cons, List.isEmpty_nil, Nat.reduceSub, Nat.reduceAdd, Nat.reduceMul, Nat.reduceLT, Nat.reduceLeDiff, Nat.reduceEqDiff, Nat.reduceBEq, Int.reduceAdd, Int.reduceSub, Int.reduceNeg, Int.reduceMul, Int.reduceLT, Int.reduceLE, Int.reduceEq, Int.reducePow, Int.reduceToNat, Int.reduceDiv, Int.reduceMod, Nat.zero_add, Int.ofNat_eq_natCast, Int.cast_ofNat_Int]
  refine w_then.mpr ?_
  simp only [↓W0, W1, List.reduceReplicate, String.reduceEq, List.drop_succ_cons, List.drop_zero, List.drop_nil, q_ls, q_lt_s, wipeR, backR, hideR, hideS, putB, noL, noLs, Sl.own, enumFrom, intsOf, Option.map_some, intsOf_map, List.set_cons_succ, List.set_cons_zero, List.getElem?_cons_succ, List.getElem?_cons_zero, List.getD_cons_succ, List.getD_cons_zero, List.map_cons, List.map_nil, List.tail_cons, List.headD_cons, List.length_cons, List.length_nil, List.length_map, List.length_range, List.nodup_cons, List.nodup_nil, List.not_mem_nil, List.mem_cons, not_false_eq_true, or_false, false_or, or_true, true_or, and_true, true_and, and_self, if_true, if_false, reduceIte, decide_true, decide_false, Bool.not_true, Bool.not_false, Bool.and_true, Bool.true_and, List.cons_append, List.nil_append, List.append_nil, eq_self, reduceCtorEq, List.all_cons, List.all_nil, List.isEmpty_cons, List.isEmpty_nil, Nat.reduceSub, Nat.reduceAdd, Nat.reduceMul, Nat.reduceLT, Nat.reduceLeDiff, Nat.reduceEqDiff, Nat.reduceBEq, Int.reduceAdd, Int.reduceSub, Int.reduceNeg, Int.reduceMul, Int.reduceLT, Int.reduceLE, Int.reduceEq, Int.reducePow, Int.reduceToNat, Int.reduceDiv, Int.reduceMod, Nat.zero_add, Int.ofNat_eq_natCast, Int.cast_ofNat_Int]
  refine draw_ok h fun dr hd => ?_
  simp only [↓W0, W1, List.reduceReplicate, String.reduceEq, List.drop_succ_cons, List.drop_zero, List.drop_nil, q_ls, q_lt_s, wipeR, backR, hideR, hideS, putB, noL, noLs, Sl.own, enumFrom, intsOf, Option.map_some, intsOf_map, List.set_cons_succ, List.set_cons_zero, List.getElem?_cons_succ, List.getElem?_cons_zero, List.getD_cons_succ, List.getD_cons_zero, List.map_cons, List.map_nil, List.tail_cons, List.headD_cons, List.length_cons, List.length_nil, List.length_map, List.length_range, List.nodup_cons, List.nodup_nil, List.not_mem_nil, List.mem_cons, not_false_eq_true, or_false, false_or, or_true, true_or, and_true, true_and, and_self, if_true, if_false, reduceIte, decide_true, decide_false, Bool.not_true, Bool.not_false, Bool.and_true, Bool.true_and, List.cons_append, List.nil_append, List.append_nil, eq_self, reduceCtorEq, List.all_cons, List.all_nil, List.isEmpty_cons, List.isEmpty_nil, Nat.reduceSub, Nat.reduceAdd, Nat.reduceMul, Nat.reduceLT, Nat.reduceLeDiff, Nat.reduceEqDiff, Nat.reduceBEq, Int.reduceAdd, Int.reduceSub, Int.reduceNeg, Int.reduceMul, Int.reduceLT, Int.reduceLE, Int.reduceEq, Int.reducePow, Int.reduceToNat, Int.reduceDiv, Int.reduceMod, Nat.zero_add, Int.ofNat_eq_natCast, Int.cast_ofNat_Int]
  refine w_then.mpr ?_
  simp only [↓W0, W1, List.reduceReplicate, String.reduceEq, List.drop_succ_cons, List.drop_zero, List.drop_nil, q_ls, q_lt_s, wipeR, backR, hideR, hideS, putB, noL, noLs, Sl.own, enumFrom, intsOf, Option.map_some, intsOf_map, List.set_cons_succ, List.set_cons_zero, List.getElem?_cons_succ, List.getElem?_cons_zero, List.getD_cons_succ, List.getD_cons_zero, List.map_cons, List.map_nil, List.tail_cons, List.headD_cons, List.length_cons, List.length_nil, List.length_map, List.length_range, List.nodup_cons, List.nodup_nil, List.not_mem_nil, List.mem_cons, not_false_eq_true, or_false, false_or, or_true, true_or, and_true, true_and, and_self, if_true, if_false, reduceIte, decide_true, decide_false, Bool.not_true, Bool.not_false, Bool.and_true, Bool.true_and, List.cons_append, List.nil_append, List.append_nil, eq_self, reduceCtorEq, List.all_cons, List.all_nil, List.isEmpty_cons, List.isEmpty_nil, Nat.reduceSub, Nat.reduceAdd, Nat.reduceMul, Nat.reduceLT, Nat.reduceLeDiff, Nat.reduceEqDiff, Nat.reduceBEq, Int.reduceAdd, Int.reduceSub, Int.reduceNeg, Int.reduceMul, Int.reduceLT, Int.reduceLE, Int.reduceEq, Int.reducePow, Int.reduceToNat, Int.reduceDiv, Int.reduceMod, Nat.zero_add, Int.ofNat_eq_natCast, Int.cast_ofNat_Int]
  refine pick_lt hd (by omega) (by omega) fun c dr1 h1 c0 c1 => ?_
  have er := range_ok (i := 1 + c) (by omega) (by omega)
  have a1 : (1 + c).toNat ≤ 1000 := by omega
  simp only [↓W0, W1, List.reduceReplicate, String.reduceEq, List.drop_succ_cons, List.drop_zero, List.drop_nil, q_ls, q_lt_s, wipeR, backR, hideR, hideS, putB, noL, noLs, Sl.own, enumFrom, intsOf, Option.map_some, intsOf_map, List.set_cons_succ, List.set_cons_zero, List.getElem?_cons_succ, List.getElem?_cons_zero, List.getD_cons_succ, List.getD_cons_zero, List.map_cons, List.map_nil, List.tail_cons, List.headD_cons, List.length_cons, List.length_nil, List.length_map, List.length_range, List.nodup_cons, List.nodup_nil, List.not_mem_nil, List.mem_cons, not_false_eq_true, or_false, false_or, or_true, true_or, and_true, true_and, and_self, if_true, if_false, reduceIte, decide_true, decide_false, Bool.not_true, Bool.not_false, Bool.and_true, Bool.true_and, List.cons_append, List.nil_append, List.append_nil, eq_self, reduceCtorEq, List.all_cons, List.all_nil, List.isEmpty_cons, List.isEmpty_nil, Nat.reduceSub, Nat.reduceAdd, Nat.reduceMul, Nat.reduceLT, Nat.reduceLeDiff, Nat.reduceEqDiff, Nat.reduceBEq, Int.reduceAdd, Int.reduceSub, Int.reduceNeg, Int.reduceMul, Int.reduceLT, Int.reduceLE, Int.reduceEq, Int.reducePow, Int.reduceToNat, Int.reduceDiv, Int.reduceMod, Nat.zero_add, Int.ofNat_eq_natCast, Int.cast_ofNat_Int, er, a1]
  refine comp_st (σ := List D) (mk := fun s => [.s ns, .l s, .un, .un, .un, .un, .un]) (I := DrOk) (enc := fun z : Nat => PyData.int (z : Nat)) (r := fun _ y => ∃ t : Row, y = t.e ∧ t.Sm) (L := List.range (1 + c).toNat) (s := dr1) ?_ h1 ?_
  · intro x _ s hs
    simp only [↓W0, W1, List.reduceReplicate, String.reduceEq, List.drop_succ_cons, List.drop_zero, List.drop_nil, q_ls, q_lt_s, wipeR, backR, hideR, hideS, putB, noL, noLs, Sl.own, enumFrom, intsOf, Option.map_some, intsOf_map, List.set_cons_succ, List.set_cons_zero, List.getElem?_cons_succ, List.getElem?_cons_zero, List.getD_cons_succ, List.getD_cons_zero, List.map_cons, List.map_nil, List.tail_cons, List.headD_cons, List.length_cons, List.length_nil, List.length_map, List.length_range, List.nodup_cons, List.nodup_nil, List.not_mem_nil, List.mem_cons, not_false_eq_true, or_false, false_or, or_true, true_or, and_true, true_and, and_self, if_true, if_false, reduceIte, decide_true, decide_false, Bool.not_true, Bool.not_false, Bool.and_true, Bool.true_and, List.cons_append, List.nil_append, List.append_nil, eq_self, reduceCtorEq, List.all_cons, List.all_nil, List.isEmpty_cons, List.isEmpty_nil, Nat.reduceSub, Nat.reduceAdd, Nat.reduceMul, Nat.reduceLT, Nat.reduceLeDiff, Nat.reduceEqDiff, Nat.reduceBEq, Int.reduceAdd, Int.reduceSub, Int.reduceNeg, Int.reduceMul, Int.reduceLT, Int.reduceLE, Int.reduceEq, Int.reducePow, Int.reduceToNat, Int.reduceDiv, Int.reduceMod, Nat.zero_add, Int.ofNat_eq_natCast, Int.cast_ofNat_Int]
    refine row_ok hs fun r dr' h' hr => ?_
    simp only [↓W0, W1, List.reduceReplicate, String.reduceEq, List.drop_succ_cons, List.drop_zero, List.drop_nil, q_ls, q_lt_s, wipeR, backR, hideR, hideS, putB, noL, noLs, Sl.own, enumFrom, intsOf, Option.map_some, intsOf_map, List.set_cons_succ, List.set_cons_zero, List.getElem?_cons_succ, List.getElem?_cons_zero, List.getD_cons_succ, List.getD_cons_zero, List.map_cons, List.map_nil, List.tail_cons, List.headD_cons, List.length_cons, List.length_nil, List.length_map, List.length_range, List.nodup_cons, List.nodup_nil, List.not_mem_nil, List.mem_cons, not_false_eq_true, or_false, false_or, or_true, true_or, and_true, true_and, and_self, if_true, if_false, reduceIte, decide_true, decide_false, Bool.not_true, Bool.not_false, Bool.and_true, Bool.true_and, List.cons_append, List.nil_append, List.append_nil, eq_self, reduceCtorEq, List.all_cons, List.all_nil, List.isEmpty_cons, List.isEmpty_nil, Nat.reduceSub, Nat.reduceAdd, Nat.reduceMul, Nat.reduceLT, Nat.reduceLeDiff, Nat.reduceEqDiff, Nat.reduceBEq, Int.reduceAdd, Int.reduceSub, Int.reduceNeg, Int.reduceMul, Int.reduceLT, Int.reduceLE, Int.reduceEq, Int.reducePow, Int.reduceToNat, Int.reduceDiv, Int.reduceMod, Nat.zero_add, Int.ofNat_eq_natCast, Int.cast_ofNat_Int]
    exact ⟨⟨r, rfl, hr⟩, dr', h', rfl⟩
  rintro ys dr2 q h2
  obtain ⟨rs, e5, e6, e7⟩ := q.ex
  subst e5
  rw [List.length_range] at e6
  have rl : rs.length ≤ 1000 := by omega
  simp only [↓W0, W1, List.reduceReplicate, String.reduceEq, List.drop_succ_cons, List.drop_zero, List.drop_nil, q_ls, q_lt_s, wipeR, backR, hideR, hideS, putB, noL, noLs, Sl.own, enumFrom, intsOf, Option.map_some, intsOf_map, List.set_cons_succ, List.set_cons_zero, List.getElem?_cons_succ, List.getElem?_cons_zero, List.getD_cons_succ, List.getD_cons_zero, List.map_cons, List.map_nil, List.tail_cons, List.headD_cons, List.length_cons, List.length_nil, List.length_map, List.length_range, List.nodup_cons, List.nodup_nil, List.not_mem_nil, List.mem_cons, not_false_eq_true, or_false, false_or, or_true, true_or, and_true, true_and, and_self, if_true, if_false, reduceIte, decide_true, decide_false, Bool.not_true, Bool.not_false, Bool.and_true, Bool.true_and, List.cons_append, List.nil_append, List.append_nil, eq_self, reduceCtorEq, List.all_cons, List.all_nil, List.isEmpty_cons, List.isEmpty_nil, Nat.reduceSub, Nat.reduceAdd, Nat.reduceMul, Nat.reduceLT, Nat.reduceLeDiff, Nat.reduceEqDiff, Nat.reduceBEq, Int.reduceAdd, Int.reduceSub, Int.reduceNeg, Int.reduceMul, Int.reduceLT, Int.reduceLE, Int.reduceEq, Int.reducePow, Int.reduceToNat, Int.reduceDiv, Int.reduceMod, Nat.zero_add, Int.ofNat_eq_natCast, Int.cast_ofNat_Int]
  refine w_then.mpr ?_
  simp only [↓W0, W1, List.reduceReplicate, String.reduceEq, List.drop_succ_cons, List.drop_zero, List.drop_nil, q_ls, q_lt_s, wipeR, backR, hideR, hideS, putB, noL, noLs, Sl.own, enumFrom, intsOf, Option.map_some, intsOf_map, List.set_cons_succ, List.set_cons_zero, List.getElem?_cons_succ, List.getElem?_cons_zero, List.getD_cons_succ, List.getD_cons_zero, List.map_cons, List.map_nil, List.tail_cons, List.headD_cons, List.length_cons, List.length_nil, List.length_map, List.length_range, List.nodup_cons, List.nodup_nil, List.not_mem_nil, List.mem_cons, not_false_eq_true, or_false, false_or, or_true, true_or, and_true, true_and, and_self, if_true, if_false, reduceIte, decide_true, decide_false, Bool.not_true, Bool.not_false, Bool.and_true, Bool.true_and, List.cons_append, List.nil_append, List.append_nil, eq_self, reduceCtorEq, List.all_cons, List.all_nil, List.isEmpty_cons, List.isEmpty_nil, Nat.reduceSub, Nat.reduceAdd, Nat.reduceMul, Nat.reduceLT, Nat.reduceLeDiff, Nat.reduceEqDiff, Nat.reduceBEq, Int.reduceAdd, Int.reduceSub, Int.reduceNeg, Int.reduceMul, Int.reduceLT, Int.reduceLE, Int.reduceEq, Int.reducePow, Int.reduceToNat, Int.reduceDiv, Int.reduceMod, Nat.zero_add, Int.ofNat_eq_natCast, Int.cast_ofNat_Int, rl]
  refine wp_of (comp_all (f := tl) fun r hr => ?_) ?_
  · simp only [↓W0, W1, List.reduceReplicate, String.reduceEq, List.drop_succ_cons, List.drop_zero, List.drop_nil, q_ls, q_lt_s, wipeR, backR, hideR, hideS, putB, noL, noLs, Sl.own, enumFrom, intsOf, Option.map_some, intsOf_map, List.set_cons_succ, List.set_cons_zero, List.getElem?_cons_succ, List.getElem?_cons_zero, List.getD_cons_succ, List.getD_cons_zero, List.map_cons, List.map_nil, List.tail_cons, List.headD_cons, List.length_cons, List.length_nil, List.length_map, List.length_range, List.nodup_cons, List.nodup_nil, List.not_mem_nil, List.mem_cons, not_false_eq_true, or_false, false_or, or_true, true_or, and_true, true_and, and_self, if_true, if_false, reduceIte, decide_true, decide_false, Bool.not_true, Bool.not_false, Bool.and_true, Bool.true_and, List.cons_append, List.nil_append, List.append_nil, eq_self, reduceCtorEq, List.all_cons, List.all_nil, List.isEmpty_cons, List.isEmpty_nil, Nat.reduceSub, Nat.reduceAdd, Nat.reduceMul, Nat.reduceLT, Nat.reduceLeDiff, Nat.reduceEqDiff, Nat.reduceBEq, Int.reduceAdd, Int.reduceSub, Int.reduceNeg, Int.reduceMul, Int.reduceLT, Int.reduceLE, Int.reduceEq, Int.reducePow, Int.reduceToNat, Int.reduceDiv, Int.reduceMod, Nat.zero_add, Int.ofNat_eq_natCast, Int.cast_ofNat_Int]
    refine wp_of (mentions_ok (e7 r hr)) ?_
    simp only [↓W0, W1, List.reduceReplicate, String.reduceEq, List.drop_succ_cons, List.drop_zero, List.drop_nil, q_ls, q_lt_s, wipeR, backR, hideR, hideS, putB, noL, noLs, Sl.own, enumFrom, intsOf, Option.map_some, intsOf_map, List.set_cons_succ, List.set_cons_zero, List.getElem?_cons_succ, List.getElem?_cons_zero, List.getD_cons_succ, List.getD_cons_zero, List.map_cons, List.map_nil, List.tail_cons, List.headD_cons, List.length_cons, List.length_nil, List.length_map, List.length_range, List.nodup_cons, List.nodup_nil, List.not_mem_nil, List.mem_cons, not_false_eq_true, or_false, false_or, or_true, true_or, and_true, true_and, and_self, if_true, if_false, reduceIte, decide_true, decide_false, Bool.not_true, Bool.not_false, Bool.and_true, Bool.true_and, List.cons_append, List.nil_append, List.append_nil, eq_self, reduceCtorEq, List.all_cons, List.all_nil, List.isEmpty_cons, List.isEmpty_nil, Nat.reduceSub, Nat.reduceAdd, Nat.reduceMul, Nat.reduceLT, Nat.reduceLeDiff, Nat.reduceEqDiff, Nat.reduceBEq, Int.reduceAdd, Int.reduceSub, Int.reduceNeg, Int.reduceMul, Int.reduceLT, Int.reduceLE, Int.reduceEq, Int.reducePow, Int.reduceToNat, Int.reduceDiv, Int.reduceMod, Nat.zero_add, Int.ofNat_eq_natCast, Int.cast_ofNat_Int]
    rfl
  simp only [↓W0, W1, List.reduceReplicate, String.reduceEq, List.drop_succ_cons, List.drop_zero, List.drop_nil, q_ls, q_lt_s, wipeR, backR, hideR, hideS, putB, noL, noLs, Sl.own, enumFrom, intsOf, Option.map_some, intsOf_map, List.set_cons_succ, List.set_cons_zero, List.getElem?_cons_succ, List.getElem?_cons_zero, List.getD_cons_succ, List.getD_cons_zero, List.map_cons, List.map_nil, List.tail_cons, List.headD_cons, List.length_cons, List.length_nil, List.length_map, List.length_range, List.nodup_cons, List.nodup_nil, List.not_mem_nil, List.mem_cons, not_false_eq_true, or_false, false_or, or_true, true_or, and_true, true_and, and_self, if_true, if_false, reduceIte, decide_true, decide_false, Bool.not_true, Bool.not_false, Bool.and_true, Bool.true_and, List.cons_append, List.nil_append, List.append_nil, eq_self, reduceCtorEq, List.all_cons, List.all_nil, List.isEmpty_cons, List.isEmpty_nil, Nat.reduceSub, Nat.reduceAdd, Nat.reduceMul, Nat.reduceLT, Nat.reduceLeDiff, Nat.reduceEqDiff, Nat.reduceBEq, Int.reduceAdd, Int.reduceSub, Int.reduceNeg, Int.reduceMul, Int.reduceLT, Int.reduceLE, Int.reduceEq, Int.reducePow, Int.reduceToNat, Int.reduceDiv, Int.reduceMod, Nat.zero_add, Int.ofNat_eq_natCast, Int.cast_ofNat_Int]
  refine w_then.mpr ?_
  simp only [↓W0, W1, List.reduceReplicate, String.reduceEq, List.drop_succ_cons, List.drop_zero, List.drop_nil, q_ls, q_lt_s, wipeR, backR, hideR, hideS, putB, noL, noLs, Sl.own, enumFrom, intsOf, Option.map_some, intsOf_map, List.set_cons_succ, List.set_cons_zero, List.getElem?_cons_succ, List.getElem?_cons_zero, List.getD_cons_succ, List.getD_cons_zero, List.map_cons, List.map_nil, List.tail_cons, List.headD_cons, List.length_cons, List.length_nil, List.length_map, List.length_range, List.nodup_cons, List.nodup_nil, List.not_mem_nil, List.mem_cons, not_false_eq_true, or_false, false_or, or_true, true_or, and_true, true_and, and_self, if_true, if_false, reduceIte, decide_true, decide_false, Bool.not_true, Bool.not_false, Bool.and_true, Bool.true_and, List.cons_append, List.nil_append, List.append_nil, eq_self, reduceCtorEq, List.all_cons, List.all_nil, List.isEmpty_cons, List.isEmpty_nil, Nat.reduceSub, Nat.reduceAdd, Nat.reduceMul, Nat.reduceLT, Nat.reduceLeDiff, Nat.reduceEqDiff, Nat.reduceBEq, Int.reduceAdd, Int.reduceSub, Int.reduceNeg, Int.reduceMul, Int.reduceLT, Int.reduceLE, Int.reduceEq, Int.reducePow, Int.reduceToNat, Int.reduceDiv, Int.reduceMod, Nat.zero_add, Int.ofNat_eq_natCast, Int.cast_ofNat_Int, zipD_same]
  refine for_st (α := Row) (σ := Sl × Sl) (fun L s => (∀ r ∈ L, r.Sm) ∧ (s.1 = .un ∨ ∃ x, s.1 = .d x)) (fun s => [.s ns, .l dr2, .d (.list (rs.map Row.e)), .un, .d (.list (rs.map tl)), s.1, s.2]) ?_ ?_ (L := rs) (s := (.un, .un)) ⟨e7, .inl rfl⟩
  · rintro r L ⟨s5, s6⟩ ⟨hL, _⟩
    simp only [↓W0, W1, List.reduceReplicate, String.reduceEq, List.drop_succ_cons, List.drop_zero, List.drop_nil, q_ls, q_lt_s, wipeR, backR, hideR, hideS, putB, noL, noLs, Sl.own, enumFrom, intsOf, Option.map_some, intsOf_map, List.set_cons_succ, List.set_cons_zero, List.getElem?_cons_succ, List.getElem?_cons_zero, List.getD_cons_succ, List.getD_cons_zero, List.map_cons, List.map_nil, List.tail_cons, List.headD_cons, List.length_cons, List.length_nil, List.length_map, List.length_range, List.nodup_cons, List.nodup_nil, List.not_mem_nil, List.mem_cons, not_false_eq_true, or_false, false_or, or_true, true_or, and_true, true_and, and_self, if_true, if_false, reduceIte, decide_true, decide_false, Bool.not_true, Bool.not_false, Bool.and_true, Bool.true_and, List.cons_append, List.nil_append, List.append_nil, eq_self, reduceCtorEq, List.all_cons, List.all_nil, List.isEmpty_cons, List.isEmpty_nil, Nat.reduceSub, Nat.reduceAdd, Nat.reduceMul, Nat.reduceLT, Nat.reduceLeDiff, Nat.reduceEqDiff, Nat.reduceBEq, Int.reduceAdd, Int.reduceSub, Int.reduceNeg, Int.reduceMul, Int.reduceLT, Int.reduceLE, Int.reduceEq, Int.reducePow, Int.reduceToNat, Int.reduceDiv, Int.reduceMod, Nat.zero_add, Int.ofNat_eq_natCast, Int.cast_ofNat_Int, tl]
    refine wp_of (l_mentioned_ok (hL r List.mem_cons_self)) ?_
    simp only [↓W0, W1, List.reduceReplicate, String.reduceEq, List.drop_succ_cons, List.drop_zero, List.drop_nil, q_ls, q_lt_s, wipeR, backR, hideR, hideS, putB, noL, noLs, Sl.own, enumFrom, intsOf, Option.map_some, intsOf_map, List.set_cons_succ, List.set_cons_zero, List.getElem?_cons_succ, List.getElem?_cons_zero, List.getD_cons_succ, List.getD_cons_zero, List.map_cons, List.map_nil, List.tail_cons, List.headD_cons, List.length_cons, List.length_nil, List.length_map, List.length_range, List.nodup_cons, List.nodup_nil, List.not_mem_nil, List.mem_cons, not_false_eq_true, or_false, false_or, or_true, true_or, and_true, true_and, and_self, if_true, if_false, reduceIte, decide_true, decide_false, Bool.not_true, Bool.not_false, Bool.and_true, Bool.true_and, List.cons_append, List.nil_append, List.append_nil, eq_self, reduceCtorEq, List.all_cons, List.all_nil, List.isEmpty_cons, List.isEmpty_nil, Nat.reduceSub, Nat.reduceAdd, Nat.reduceMul, Nat.reduceLT, Nat.reduceLeDiff, Nat.reduceEqDiff, Nat.reduceBEq, Int.reduceAdd, Int.reduceSub, Int.reduceNeg, Int.reduceMul, Int.reduceLT, Int.reduceLE, Int.reduceEq, Int.reducePow, Int.reduceToNat, Int.reduceDiv, Int.reduceMod, Nat.zero_add, Int.ofNat_eq_natCast, Int.cast_ofNat_Int]
    refine o_of (neD_refl (plain_strs _) (by have := depth_strs (tell r.given r.terms); simp only [PyData.depth]; omega)) ?_
    simp only [↓W0, W1, List.reduceReplicate, String.reduceEq, List.drop_succ_cons, List.drop_zero, List.drop_nil, q_ls, q_lt_s, wipeR, backR, hideR, hideS, putB, noL, noLs, Sl.own, enumFrom, intsOf, Option.map_some, intsOf_map, List.set_cons_succ, List.set_cons_zero, List.getElem?_cons_succ, List.getElem?_cons_zero, List.getD_cons_succ, List.getD_cons_zero, List.map_cons, List.map_nil, List.tail_cons, List.headD_cons, List.length_cons, List.length_nil, List.length_map, List.length_range, List.nodup_cons, List.nodup_nil, List.not_mem_nil, List.mem_cons, not_false_eq_true, or_false, false_or, or_true, true_or, and_true, true_and, and_self, if_true, if_false, reduceIte, decide_true, decide_false, Bool.not_true, Bool.not_false, Bool.and_true, Bool.true_and, List.cons_append, List.nil_append, List.append_nil, eq_self, reduceCtorEq, List.all_cons, List.all_nil, List.isEmpty_cons, List.isEmpty_nil, Nat.reduceSub, Nat.reduceAdd, Nat.reduceMul, Nat.reduceLT, Nat.reduceLeDiff, Nat.reduceEqDiff, Nat.reduceBEq, Int.reduceAdd, Int.reduceSub, Int.reduceNeg, Int.reduceMul, Int.reduceLT, Int.reduceLE, Int.reduceEq, Int.reducePow, Int.reduceToNat, Int.reduceDiv, Int.reduceMod, Nat.zero_add, Int.ofNat_eq_natCast, Int.cast_ofNat_Int]
    exact ⟨(_, _), ⟨fun r hr => hL r (List.mem_cons_of_mem _ hr), .inr ⟨_, rfl⟩⟩, rfl⟩
  rintro ⟨s5, s6⟩ ⟨_, h5⟩
  have rl2 : rs.reverse.length ≤ 1000 := by rw [List.length_reverse]; exact rl
  simp only [↓W0, W1, List.reduceReplicate, String.reduceEq, List.drop_succ_cons, List.drop_zero, List.drop_nil, q_ls, q_lt_s, wipeR, backR, hideR, hideS, putB, noL, noLs, Sl.own, enumFrom, intsOf, Option.map_some, intsOf_map, List.set_cons_succ, List.set_cons_zero, List.getElem?_cons_succ, List.getElem?_cons_zero, List.getD_cons_succ, List.getD_cons_zero, List.map_cons, List.map_nil, List.tail_cons, List.headD_cons, List.length_cons, List.length_nil, List.length_map, List.length_range, List.nodup_cons, List.nodup_nil, List.not_mem_nil, List.mem_cons, not_false_eq_true, or_false, false_or, or_true, true_or, and_true, true_and, and_self, if_true, if_false, reduceIte, decide_true, decide_false, Bool.not_true, Bool.not_false, Bool.and_true, Bool.true_and, List.cons_append, List.nil_append, List.append_nil, eq_self, reduceCtorEq, List.all_cons, List.all_nil, List.isEmpty_cons, List.isEmpty_nil, Nat.reduceSub, Nat.reduceAdd, Nat.reduceMul, Nat.reduceLT, Nat.reduceLeDiff, Nat.reduceEqDiff, Nat.reduceBEq, Int.reduceAdd, Int.reduceSub, Int.reduceNeg, Int.reduceMul, Int.reduceLT, Int.reduceLE, Int.reduceEq, Int.reducePow, Int.reduceToNat, Int.reduceDiv, Int.reduceMod, Nat.zero_add, Int.ofNat_eq_natCast, Int.cast_ofNat_Int]
  have h5 : s5 = .un ∨ ∃ x, s5 = .d x := h5
  rw [← List.map_reverse]
  rcases h5 with rfl | ⟨x5, rfl⟩
  all_goals
   simp only [↓W0, W1, List.reduceReplicate, String.reduceEq, List.drop_succ_cons, List.drop_zero, List.drop_nil, q_ls, q_lt_s, wipeR, backR, hideR, hideS, putB, noL, noLs, Sl.own, enumFrom, intsOf, Option.map_some, intsOf_map, List.set_cons_succ, List.set_cons_zero, List.getElem?_cons_succ, List.getElem?_cons_zero, List.getD_cons_succ, List.getD_cons_zero, List.map_cons, List.map_nil, List.tail_cons, List.headD_cons, List.length_cons, List.length_nil, List.length_map, List.length_range, List.nodup_cons, List.nodup_nil, List.not_mem_nil, List.mem_cons, not_false_eq_true, or_false, false_or, or_true, true_or, and_true, true_and, and_self, if_true, if_false, reduceIte, decide_true, decide_false, Bool.not_true, Bool.not_false, Bool.and_true, Bool.true_and, List.cons_append, List.nil_append, List.append_nil, eq_self, reduceCtorEq, List.all_cons, List.all_nil, List.isEmpty_cons, List.isEmpty_nil, Nat.reduceSub, Nat.reduceAdd, Nat.reduceMul, Nat.reduceLT, Nat.reduceLeDiff, Nat.reduceEqDiff, Nat.reduceBEq, Int.reduceAdd, Int.reduceSub, Int.reduceNeg, Int.reduceMul, Int.reduceLT, Int.reduceLE, Int.reduceEq, Int.reducePow, Int.reduceToNat, Int.reduceDiv, Int.reduceMod, Nat.zero_add, Int.ofNat_eq_natCast, Int.cast_ofNat_Int, rl2]
   refine wp_of (comp_all (f := tl) fun r hr => ?_) ?_
   · simp only [↓W0, W1, List.reduceReplicate, String.reduceEq, List.drop_succ_cons, List.drop_zero, List.drop_nil, q_ls, q_lt_s, wipeR, backR, hideR, hideS, putB, noL, noLs, Sl.own, enumFrom, intsOf, Option.map_some, intsOf_map, List.set_cons_succ, List.set_cons_zero, List.getElem?_cons_succ, List.getElem?_cons_zero, List.getD_cons_succ, List.getD_cons_zero, List.map_cons, List.map_nil, List.tail_cons, List.headD_cons, List.length_cons, List.length_nil, List.length_map, List.length_range, List.nodup_cons, List.nodup_nil, List.not_mem_nil, List.mem_cons, not_false_eq_true, or_false, false_or, or_true, true_or, and_true, true_and, and_self, if_true, if_false, reduceIte, decide_true, decide_false, Bool.not_true, Bool.not_false, Bool.and_true, Bool.true_and, List.cons_append, List.nil_append, List.append_nil, eq_self, reduceCtorEq, List.all_cons, List.all_nil, List.isEmpty_cons, List.isEmpty_nil, Nat.reduceSub, Nat.reduceAdd, Nat.reduceMul, Nat.reduceLT, Nat.reduceLeDiff, Nat.reduceEqDiff, Nat.reduceBEq, Int.reduceAdd, Int.reduceSub, Int.reduceNeg, Int.reduceMul, Int.reduceLT, Int.reduceLE, Int.reduceEq, Int.reducePow, Int.reduceToNat, Int.reduceDiv, Int.reduceMod, Nat.zero_add, Int.ofNat_eq_natCast, Int.cast_ofNat_Int]
     refine wp_of (mentions_ok (e7 r (List.mem_reverse.mp hr))) ?_
     simp only [↓W0, W1, List.reduceReplicate, String.reduceEq, List.drop_succ_cons, List.drop_zero, List.drop_nil, q_ls, q_lt_s, wipeR, backR, hideR, hideS, putB, noL, noLs, Sl.own, enumFrom, intsOf, Option.map_some, intsOf_map, List.set_cons_succ, List.set_cons_zero, List.getElem?_cons_succ, List.getElem?_cons_zero, List.getD_cons_succ, List.getD_cons_zero, List.map_cons, List.map_nil, List.tail_cons, List.headD_cons, List.length_cons, List.length_nil, List.length_map, List.length_range, List.nodup_cons, List.nodup_nil, List.not_mem_nil, List.mem_cons, not_false_eq_true, or_false, false_or, or_true, true_or, and_true, true_and, and_self, if_true, if_false, reduceIte, decide_true, decide_false, Bool.not_true, Bool.not_false, Bool.and_true, Bool.true_and, List.cons_append, List.nil_append, List.append_nil, eq_self, reduceCtorEq, List.all_cons, List.all_nil, List.isEmpty_cons, List.isEmpty_nil, Nat.reduceSub, Nat.reduceAdd, Nat.reduceMul, Nat.reduceLT, Nat.reduceLeDiff, Nat.reduceEqDiff, Nat.reduceBEq, Int.reduceAdd, Int.reduceSub, Int.reduceNeg, Int.reduceMul, Int.reduceLT, Int.reduceLE, Int.reduceEq, Int.reducePow, Int.reduceToNat, Int.reduceDiv, Int.reduceMod, Nat.zero_add, Int.ofNat_eq_natCast, Int.cast_ofNat_Int]
     rfl
   simp only [↓W0, W1, List.reduceReplicate, String.reduceEq, List.drop_succ_cons, List.drop_zero, List.drop_nil, q_ls, q_lt_s, wipeR, backR, hideR, hideS, putB, noL, noLs, Sl.own, enumFrom, intsOf, Option.map_some, intsOf_map, List.set_cons_succ, List.set_cons_zero, List.getElem?_cons_succ, List.getElem?_cons_zero, List.getD_cons_succ, List.getD_cons_zero, List.map_cons, List.map_nil, List.tail_cons, List.headD_cons, List.length_cons, List.length_nil, List.length_map, List.length_range, List.nodup_cons, List.nodup_nil, List.not_mem_nil, List.mem_cons, not_false_eq_true, or_false, false_or, or_true, true_or, and_true, true_and, and_self, if_true, if_false, reduceIte, decide_true, decide_false, Bool.not_true, Bool.not_false, Bool.and_true, Bool.true_and, List.cons_append, List.nil_append, List.append_nil, eq_self, reduceCtorEq, List.all_cons, List.all_nil, List.isEmpty_cons, List.isEmpty_nil, Nat.reduceSub, Nat.reduceAdd, Nat.reduceMul, Nat.reduceLT, Nat.reduceLeDiff, Nat.reduceEqDiff, Nat.reduceBEq, Int.reduceAdd, Int.reduceSub, Int.reduceNeg, Int.reduceMul, Int.reduceLT, Int.reduceLE, Int.reduceEq, Int.reducePow, Int.reduceToNat, Int.reduceDiv, Int.reduceMod, Nat.zero_add, Int.ofNat_eq_natCast, Int.cast_ofNat_Int]
   rw [← List.map_reverse]
   refine o_of (eqD_refl (plain_tl _) (by have := depth_tl rs.reverse; simp only [PyData.depth]; omega)) ?_
   simp only [↓W0, W1, List.reduceReplicate, String.reduceEq, List.drop_succ_cons, List.drop_zero, List.drop_nil, q_ls, q_lt_s, wipeR, backR, hideR, hideS, putB, noL, noLs, Sl.own, enumFrom, intsOf, Option.map_some, intsOf_map, List.set_cons_succ, List.set_cons_zero, List.getElem?_cons_succ, List.getElem?_cons_zero, List.getD_cons_succ, List.getD_cons_zero, List.map_cons, List.map_nil, List.tail_cons, List.headD_cons, List.length_cons, List.length_nil, List.length_map, List.length_range, List.nodup_cons, List.nodup_nil, List.not_mem_nil, List.mem_cons, not_false_eq_true, or_false, false_or, or_true, true_or, and_true, true_and, and_self, if_true, if_false, reduceIte, decide_true, decide_false, Bool.not_true, Bool.not_false, Bool.and_true, Bool.true_and, List.cons_append, List.nil_append, List.append_nil, eq_self, reduceCtorEq, List.all_cons, List.all_nil, List.isEmpty_cons, List.isEmpty_nil, Nat.reduceSub, Nat.reduceAdd, Nat.reduceMul, Nat.reduceLT, Nat.reduceLeDiff, Nat.reduceEqDiff, Nat.reduceBEq, Int.reduceAdd, Int.reduceSub, Int.reduceNeg, Int.reduceMul, Int.reduceLT, Int.reduceLE, Int.reduceEq, Int.reducePow, Int.reduceToNat, Int.reduceDiv, Int.reduceMod, Nat.zero_add, Int.ofNat_eq_natCast, Int.cast_ofNat_Int]

end DL

theorem PySem.Challenge.cw_termwarrant_k50_mentions_holds : PySem.Challenge.rw_termwarrant_k50_mentions.Holds := by
  exact DL.holds_of fun ns h => DL.law_ok h
