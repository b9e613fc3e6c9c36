import PyProof.Rows.All
import Wide.All
import OpenK.AllK
import Wide.FinOn
import HandS.ForMost
import HandS.ForExc
import HandS.Property
import HandS.IsInst
import HandS.ExcIs
import HandS.Wide
import HandS.WideBits
import HandS.HotCalls
import HandS.Flow
import HandS.Style
import HandS.TupAny
import HandS.Iter
import HandS.Comp
import HandS.Conv
import HandS.SortInts
import HandS.WordsDict
import HandS.More
import HandS.Dict
import HandS.DictTup
import HandS.Defaults
import PySem.Challenge.RW_sumsplay_k48_highest_and_lowest
set_option Elab.async false
set_option linter.all false
section
set_option maxRecDepth 100000
set_option maxHeartbeats 4000000
/-! VL: values by value. D: a Python value with all immutable data inlined, mutable objects by address; W: what the mutable objects hold. -/
namespace VL
open PySem PySem.Spec PyProof.Rows L2

/-! ### data -/
inductive D where
  | non | bl (b : Bool) | int (i : Int) | str (x : Str) | ty (n : String) | obj (a : Addr)
  | tup (ds : List D) | lst (ds : List D) | ins (C : Addr) (fs : List (Str × D))
  | scr (ns : List Int)

/-- what a mutable object holds -/
inductive MO where
  | lst (ds : List D)
  | ins (C : Addr) (fs : List (Str × D))
  | dK (kvs : List (Key × D))
  | dT (kvs : List (List Key × D))

abbrev W := Addr → Option MO
def W.up (w : W) (a : Addr) (m : MO) : W := fun b => if b = a then some m else w b
def W.del (w : W) (a : Addr) : W := fun b => if b = a then none else w b
theorem W.up_same {w : W} {a : Addr} {m : MO} : w.up a m a = some m := by unfold W.up; rw [if_pos rfl]
theorem W.up_ne {w : W} {a b : Addr} {m : MO} (h : b ≠ a) : w.up a m b = w b := by unfold W.up; rw [if_neg h]
theorem W.up_up {w : W} {a : Addr} {m n : MO} : (w.up a m).up a n = w.up a n := by funext b; unfold W.up; split <;> rfl
theorem W.del_same {w : W} {a : Addr} : w.del a a = none := by unfold W.del; rw [if_pos rfl]
theorem W.del_ne {w : W} {a b : Addr} (h : b ≠ a) : w.del a b = w b := by unfold W.del; rw [if_neg h]
theorem W.del_up {w : W} {a : Addr} {m : MO} : (w.up a m).del a = w.del a := by funext b; unfold W.del W.up; split <;> rfl
theorem W.del_id {w : W} {a : Addr} (h : w a = none) : w.del a = w := by
  funext b; unfold W.del; split
  · rename_i e; rw [e, h]
  · rfl
theorem W.del_up_id {w : W} {a : Addr} {m : MO} (h : w a = none) : (w.up a m).del a = w := by rw [W.del_up, W.del_id h]
theorem W.ne_of {w : W} {a b : Addr} {m : MO} (h : w a = some m) (h' : w b = none) : a ≠ b := by
  intro e; subst e; rw [h] at h'; cases h'
def W.Sub (w w' : W) : Prop := ∀ a m, w a = some m → w' a = some m
theorem W.Sub.refl (w : W) : W.Sub w w := fun _ _ h => h
theorem W.Sub.up {w : W} {a : Addr} {m : MO} (h : w a = none) : W.Sub w (w.up a m) := fun b n e => by rw [W.up_ne (W.ne_of e h)]; exact e
theorem W.Sub.trans {w1 w2 w3 : W} (h : W.Sub w1 w2) (h' : W.Sub w2 w3) : W.Sub w1 w3 := fun a m e => h' a m (h a m e)

/-! ### how a value is borne by the heap's frozen part F -/
mutual
inductive Rep (K : PySem.W.Frag) (F : Hp) : V → D → Prop where
  | non : Rep K F .non .non
  | bl (b : Bool) : Rep K F (.bl b) (.bl b)
  | int (i : Int) : Rep K F (.int i) (.int i)
  | str (x : Str) : Rep K F (.str x) (.str x)
  | ty (n : String) : Rep K F (.ty n) (.ty n)
  | obj (a : Addr) : Rep K F (.ref a) (.obj a)
  | tup {a : Addr} {vs : List V} {ds : List D} (h : SqT K F a vs) (r : Reps K F vs ds) : Rep K F (.ref a) (.tup ds)
  | lst {a : Addr} {vs : List V} {ds : List D} (h : F a = some (.lst vs)) (r : Reps K F vs ds) : Rep K F (.ref a) (.lst ds)
  | scr {a : Addr} {ns : List Int} (h : SqL K F a (ns.map V.int)) : Rep K F (.ref a) (.scr ns)
  | ins {a C dx : Addr} {vs : List (Str × V)} {fs : List (Str × D)} (h : F a = some (.ins C dx vs)) (r : RepF K F vs fs) : Rep K F (.ref a) (.ins C fs)
inductive Reps (K : PySem.W.Frag) (F : Hp) : List V → List D → Prop where
  | nil : Reps K F [] []
  | cons {v : V} {d : D} {vs : List V} {ds : List D} (h : Rep K F v d) (r : Reps K F vs ds) : Reps K F (v :: vs) (d :: ds)
inductive RepF (K : PySem.W.Frag) (F : Hp) : List (Str × V) → List (Str × D) → Prop where
  | nil : RepF K F [] []
  | cons {x : Str} {v : V} {d : D} {vs : List (Str × V)} {ds : List (Str × D)} (h : Rep K F v d) (r : RepF K F vs ds) : RepF K F ((x, v) :: vs) ((x, d) :: ds)
end

/-- all that is tracked stays -/
abbrev Ex (H H' : Hp) : Prop := Same H H'

theorem Ex.sqT {K : PySem.W.Frag} {H H' : Hp} {a : Addr} {xs : List V} (e : Ex H H') (h : SqT K H a xs) : SqT K H' a xs := by
  rcases h with (h | ⟨o, h⟩) | h
  · exact .inl (.inl (e _ _ h))
  · exact .inl (.inr ⟨o, e _ _ h⟩)
  · exact .inr h

mutual
theorem Rep.mono {K : PySem.W.Frag} {F F' : Hp} (e : Ex F F') : ∀ {v : V} {d : D}, Rep K F v d → Rep K F' v d
  | _, _, .non => .non
  | _, _, .bl b => .bl b
  | _, _, .int i => .int i
  | _, _, .str x => .str x
  | _, _, .ty n => .ty n
  | _, _, .obj a => .obj a
  | _, _, .tup h r => .tup (Ex.sqT e h) (Reps.mono e r)
  | _, _, .lst h r => .lst (e _ _ h) (Reps.mono e r)
  | _, _, .scr h => .scr (Same.seq e h)
  | _, _, .ins h r => .ins (e _ _ h) (RepF.mono e r)
theorem Reps.mono {K : PySem.W.Frag} {F F' : Hp} (e : Ex F F') : ∀ {vs : List V} {ds : List D}, Reps K F vs ds → Reps K F' vs ds
  | _, _, .nil => .nil
  | _, _, .cons h r => .cons (Rep.mono e h) (Reps.mono e r)
theorem RepF.mono {K : PySem.W.Frag} {F F' : Hp} (e : Ex F F') : ∀ {vs : List (Str × V)} {ds : List (Str × D)}, RepF K F vs ds → RepF K F' vs ds
  | _, _, .nil => .nil
  | _, _, .cons h r => .cons (Rep.mono e h) (RepF.mono e r)
end

section
variable {K : PySem.W.Frag} {F : Hp}
theorem Reps.len : ∀ {vs : List V} {ds : List D}, Reps K F vs ds → vs.length = ds.length
  | _, _, .nil => rfl
  | _, _, .cons _ r => by rw [List.length_cons, List.length_cons, r.len]
theorem Reps.get : ∀ {vs : List V} {ds : List D} {i : Nat} {d : D}, Reps K F vs ds → ds[i]? = some d → ∃ v, vs[i]? = some v ∧ Rep K F v d
  | _, _, _, _, .nil, e => by simp at e
  | _, _, 0, _, .cons h _, e => by simp at e; subst e; exact ⟨_, rfl, h⟩
  | _, _, i + 1, d, .cons _ r, e => by
    obtain ⟨v, h1, h2⟩ := Reps.get (i := i) (d := d) r (by simpa using e)
    exact ⟨v, by simpa using h1, h2⟩
theorem Reps.get' : ∀ {vs : List V} {ds : List D} {i : Nat} {v : V}, Reps K F vs ds → vs[i]? = some v → ∃ d, ds[i]? = some d ∧ Rep K F v d
  | _, _, _, _, .nil, e => by simp at e
  | _, _, 0, _, .cons h _, e => by simp at e; subst e; exact ⟨_, rfl, h⟩
  | _, _, i + 1, d, .cons _ r, e => by
    obtain ⟨v, h1, h2⟩ := Reps.get' (i := i) (v := d) r (by simpa using e)
    exact ⟨v, by simpa using h1, h2⟩
theorem Reps.append : ∀ {vs us : List V} {ds es : List D}, Reps K F vs ds → Reps K F us es → Reps K F (vs ++ us) (ds ++ es)
  | _, _, _, _, .nil, s => s
  | _, _, _, _, .cons h r, s => .cons h (r.append s)
theorem Reps.one {v : V} {d : D} (h : Rep K F v d) : Reps K F [v] [d] := .cons h .nil
theorem Reps.take : ∀ {vs : List V} {ds : List D} (n : Nat), Reps K F vs ds → Reps K F (vs.take n) (ds.take n)
  | _, _, 0, _ => .nil
  | _, _, _ + 1, .nil => .nil
  | _, _, n + 1, .cons h r => .cons h (r.take n)
theorem Reps.drop : ∀ {vs : List V} {ds : List D} (n : Nat), Reps K F vs ds → Reps K F (vs.drop n) (ds.drop n)
  | _, _, 0, r => r
  | _, _, _ + 1, .nil => .nil
  | _, _, n + 1, .cons _ r => r.drop n
theorem Reps.rev {vs : List V} {ds : List D} (r : Reps K F vs ds) : Reps K F vs.reverse ds.reverse := by
  induction vs generalizing ds with
  | nil => cases r; exact .nil
  | cons v vs ih =>
    cases r with
    | cons h r => rw [List.reverse_cons, List.reverse_cons]; exact (ih r).append (.one h)
theorem Reps.set : ∀ {vs : List V} {ds : List D} {v : V} {d : D} (i : Nat), Rep K F v d → Reps K F vs ds → Reps K F (vs.set i v) (ds.set i d)
  | _, _, _, _, _, _, .nil => .nil
  | _, _, _, _, 0, h, .cons _ r => .cons h r
  | _, _, _, _, i + 1, h, .cons q r => .cons q (Reps.set i h r)
theorem Reps.dropLast {vs : List V} {ds : List D} (r : Reps K F vs ds) : Reps K F vs.dropLast ds.dropLast := by
  rw [List.dropLast_eq_take, List.dropLast_eq_take, r.len]; exact r.take _
theorem Reps.ints : ∀ (ns : List Int), Reps K F (ns.map V.int) (ns.map D.int)
  | [] => .nil
  | n :: ns => .cons (.int n) (Reps.ints ns)
theorem Reps.of_ints : ∀ {vs : List V} {ns : List Int}, Reps K F vs (ns.map D.int) → vs = ns.map V.int
  | _, [], .nil => rfl
  | _, n :: ns, .cons h r => by cases h; rw [Reps.of_ints r]; rfl
theorem Reps.of_bls : ∀ {vs : List V} {ns : List Bool}, Reps K F vs (ns.map D.bl) → vs = ns.map V.bl
  | _, [], .nil => rfl
  | _, n :: ns, .cons h r => by cases h; rw [Reps.of_bls r]; rfl
theorem Reps.of_strs : ∀ {vs : List V} {ns : List Str}, Reps K F vs (ns.map D.str) → vs = ns.map V.str
  | _, [], .nil => rfl
  | _, n :: ns, .cons h r => by cases h; rw [Reps.of_strs r]; rfl
theorem Reps.strs : ∀ (ns : List Str), Reps K F (ns.map V.str) (ns.map D.str)
  | [] => .nil
  | n :: ns => .cons (.str n) (Reps.strs ns)
theorem RepF.len : ∀ {vs : List (Str × V)} {fs : List (Str × D)}, RepF K F vs fs → vs.length = fs.length
  | _, _, .nil => rfl
  | _, _, .cons _ r => by rw [List.length_cons, List.length_cons, r.len]
theorem RepF.look : ∀ {vs : List (Str × V)} {fs : List (Str × D)} {f : Str} {d : D}, RepF K F vs fs → fs.lookup f = some d → ∃ v, vs.lookup f = some v ∧ Rep K F v d
  | _, _, _, _, .nil, e => by simp [List.lookup] at e
  | _, _, f, d, .cons (x := x) h r, e => by
    by_cases q : f = x
    · subst q
      simp only [List.lookup, beq_self_eq_true] at e ⊢
      cases e
      exact ⟨_, rfl, h⟩
    · have hb : (f == x) = false := beq_eq_false_iff_ne.mpr q
      simp only [List.lookup, hb] at e ⊢
      exact r.look e
theorem RepF.look_none : ∀ {vs : List (Str × V)} {fs : List (Str × D)} {f : Str}, RepF K F vs fs → fs.lookup f = none → vs.lookup f = none
  | _, _, _, .nil, _ => rfl
  | _, _, f, .cons (x := x) h r, e => by
    by_cases q : f = x
    · subst q
      simp only [List.lookup, beq_self_eq_true] at e
      cases e
    · have hb : (f == x) = false := beq_eq_false_iff_ne.mpr q
      simp only [List.lookup, hb] at e ⊢
      exact r.look_none e
end
/-- the attributes with one stored -/
def putD (f : Str) (v : D) : List (Str × D) → List (Str × D)
  | [] => [(f, v)]
  | (g, x) :: r => if g = f then (g, v) :: r else (g, x) :: putD f v r
theorem RepF.put {K : PySem.W.Frag} {F : Hp} {f : Str} {v : V} {d : D} (h : Rep K F v d) : ∀ {vs : List (Str × V)} {fs : List (Str × D)}, RepF K F vs fs → RepF K F (putF f v vs) (putD f d fs)
  | _, _, .nil => .cons h .nil
  | _, _, .cons (x := x) q r => by
    unfold putF putD
    by_cases e : x = f
    · rw [if_pos e, if_pos e]; exact .cons h r
    · rw [if_neg e, if_neg e]; exact .cons q (RepF.put h r)

/-- the pairs of a dict -/
def RepK {κ : Type} (K : PySem.W.Frag) (F : Hp) : List (κ × V) → List (κ × D) → Prop := Paired fun (p : κ × V) (q : κ × D) => p.1 = q.1 ∧ Rep K F p.2 q.2

/-- a mutable object stands in the heap H, its parts by F -/
def MOk (K : PySem.W.Frag) (F H : Hp) (a : Addr) : MO → Prop
  | .lst ds => ∃ vs, H a = some (.lst vs) ∧ Reps K F vs ds
  | .ins C fs => ∃ dx vs, H a = some (.ins C dx vs) ∧ RepF K F vs fs
  | .dK kvs => ∃ vs, H a = some (.dK vs) ∧ RepK K F vs kvs
  | .dT kvs => ∃ vs, H a = some (.dT vs) ∧ RepK K F vs kvs

/-- F is the frozen part of H; the mutable objects that w knows stand beside it -/
structure SW (K : PySem.W.Frag) (F H : Hp) (w : W) : Prop where
  ex : Ex F H
  mo : ∀ a m, w a = some m → F a = none ∧ MOk K F H a m

theorem RepK.mono {κ : Type} {K : PySem.W.Frag} {F F' : Hp} (e : Ex F F') {vs : List (κ × V)} {ds : List (κ × D)} (h : RepK K F vs ds) : RepK K F' vs ds :=
  Paired.mapP h fun _ _ z => ⟨z.1, z.2.mono e⟩
theorem MOk.mono {K : PySem.W.Frag} {F F' H : Hp} {a : Addr} {m : MO} (e : Ex F F') (h : MOk K F H a m) : MOk K F' H a m := by
  cases m with
  | lst ds => obtain ⟨vs, h1, r⟩ := h; exact ⟨vs, h1, r.mono e⟩
  | ins C fs => obtain ⟨dx, vs, h1, r⟩ := h; exact ⟨dx, vs, h1, r.mono e⟩
  | dK kvs => obtain ⟨vs, h1, r⟩ := h; exact ⟨vs, h1, r.mono e⟩
  | dT kvs => obtain ⟨vs, h1, r⟩ := h; exact ⟨vs, h1, r.mono e⟩
theorem MOk.there {K : PySem.W.Frag} {F H : Hp} {a : Addr} {m : MO} (h : MOk K F H a m) : ∃ o, H a = some o := by
  cases m with
  | lst ds => obtain ⟨vs, h1, r⟩ := h; exact ⟨_, h1⟩
  | ins C fs => obtain ⟨dx, vs, h1, r⟩ := h; exact ⟨_, h1⟩
  | dK kvs => obtain ⟨vs, h1, r⟩ := h; exact ⟨_, h1⟩
  | dT kvs => obtain ⟨vs, h1, r⟩ := h; exact ⟨_, h1⟩
theorem MOk.heap {K : PySem.W.Frag} {F H H' : Hp} {a : Addr} {m : MO} (h : MOk K F H a m) (e : ∀ o, H a = some o → H' a = some o) : MOk K F H' a m := by
  cases m with
  | lst ds => obtain ⟨vs, h1, r⟩ := h; exact ⟨vs, e _ h1, r⟩
  | ins C fs => obtain ⟨dx, vs, h1, r⟩ := h; exact ⟨dx, vs, e _ h1, r⟩
  | dK kvs => obtain ⟨vs, h1, r⟩ := h; exact ⟨vs, e _ h1, r⟩
  | dT kvs => obtain ⟨vs, h1, r⟩ := h; exact ⟨vs, e _ h1, r⟩

section
variable {K : PySem.W.Frag} {F F' H H' : Hp} {w w' : W} {p : Addr} {o : HO} {m : MO}
/-- less is known -/
theorem SW.sub (s : SW K F H w) (h : W.Sub w' w) : SW K F H w' := ⟨s.ex, fun a m e => s.mo a m (h a m e)⟩
theorem SW.wnone (s : SW K F H w) (h : H p = none) : w p = none := by
  cases e : w p with
  | none => rfl
  | some m => obtain ⟨_, q⟩ := s.mo p m e; obtain ⟨o, q⟩ := q.there; rw [h] at q; cases q
theorem SW.fnone (s : SW K F H w) (h : H p = none) : F p = none := Same.free s.ex h
/-- a new frozen object -/
theorem SW.new (s : SW K F H w) (h : H p = none) : SW K (upd F p o) (upd H p o) w := by
  refine ⟨fun a u e => ?_, fun a m e => ?_⟩
  · by_cases q : a = p
    · subst q; rw [upd_same] at e ⊢; exact e
    · rw [upd_ne q] at e ⊢; exact s.ex a u e
  · have hne : a ≠ p := W.ne_of e (s.wnone h)
    obtain ⟨h1, h2⟩ := s.mo a m e
    refine ⟨by rw [upd_ne hne]; exact h1, (h2.mono fun b u z => ?_).heap fun u z => by rw [upd_ne hne]; exact z⟩
    rw [upd_ne (ne_of_none z (s.fnone h))]; exact z
theorem Ex.new (h : F p = none) : Ex F (upd F p o) := fun a u e => by rw [upd_ne (ne_of_none e h)]; exact e
/-- a new object that nothing is said of -/
theorem SW.newU (s : SW K F H w) (h : H p = none) : SW K F (upd H p o) w :=
  ⟨fun a u e => by rw [upd_ne (ne_of_none (s.ex a u e) h)]; exact s.ex a u e, fun a m e => ⟨(s.mo a m e).1, (s.mo a m e).2.heap fun u z => by rw [upd_ne (ne_of_none z h)]; exact z⟩⟩
/-- a new mutable object -/
theorem SW.newM (s : SW K F H w) (h : H p = none) (hm : MOk K F (upd H p o) p m) : SW K F (upd H p o) (w.up p m) := by
  refine ⟨(s.newU h).ex, fun a n e => ?_⟩
  by_cases q : a = p
  · subst q; rw [W.up_same] at e; cases e; exact ⟨s.fnone h, hm⟩
  · rw [W.up_ne q] at e; exact (s.newU h).mo a n e
/-- a mutable object is changed -/
theorem SW.put {n : MO} (s : SW K F H w) (h : w p = some n) (hm : MOk K F (upd H p o) p m) : SW K F (upd H p o) (w.up p m) := by
  obtain ⟨hf, _⟩ := s.mo p n h
  refine ⟨fun a u e => by rw [upd_ne (ne_of_none e hf)]; exact s.ex a u e, fun a k e => ?_⟩
  by_cases q : a = p
  · subst q; rw [W.up_same] at e; cases e; exact ⟨hf, hm⟩
  · rw [W.up_ne q] at e
    exact ⟨(s.mo a k e).1, (s.mo a k e).2.heap fun u z => by rw [upd_ne q]; exact z⟩
theorem SW.mono (s : SW K F H w) (e : Ex F F') (h : Ex F' H) (n : ∀ a m, w a = some m → F' a = none) : SW K F' H w :=
  ⟨h, fun a m q => ⟨n a m q, (s.mo a m q).2.mono e⟩⟩
/-- a mutable object is frozen -/
theorem SW.frz {o : HO} (s : SW K F H w) (h : w p = some m) (hp : H p = some o) : SW K (upd F p o) H (w.del p) ∧ Ex F (upd F p o) := by
  obtain ⟨hf, hm⟩ := s.mo p m h
  refine ⟨⟨fun a u e => ?_, fun a n e => ?_⟩, Ex.new hf⟩
  · by_cases q : a = p
    · subst q; rw [upd_same] at e; cases e; exact hp
    · rw [upd_ne q] at e; exact s.ex a u e
  · by_cases q : a = p
    · subst q; rw [W.del_same] at e; cases e
    · rw [W.del_ne q] at e
      exact ⟨by rw [upd_ne q]; exact (s.mo a n e).1, (s.mo a n e).2.mono (Ex.new hf)⟩
end

/-! ### what the frame's slots hold -/
abbrev G := List (Option D)
structure SL (K : PySem.W.Frag) (F : Hp) (σ : L2.St) (Γ : G) : Prop where
  len : Γ.length = σ.length
  at_ : ∀ (i : Nat) (d : D), Γ[i]? = some (some d) → ∃ v, σ[i]? = some (some v) ∧ Rep K F v d
section
variable {K : PySem.W.Frag} {F F' : Hp} {σ : L2.St} {Γ Γ' : G}
theorem SL.mono (s : SL K F σ Γ) (e : Ex F F') : SL K F' σ Γ := ⟨s.len, fun i d h => let ⟨v, h1, h2⟩ := s.at_ i d h; ⟨v, h1, h2.mono e⟩⟩
theorem SL.set {i : Nat} {v : V} {d : D} (s : SL K F σ Γ) (r : Rep K F v d) : SL K F (σ.set i (some v)) (Γ.set i (some d)) := by
  refine ⟨by rw [List.length_set, List.length_set]; exact s.len, fun j e h => ?_⟩
  by_cases q : i = j
  · subst q
    by_cases hl : i < Γ.length
    · rw [List.getElem?_set_self hl] at h
      cases h
      exact ⟨v, by rw [List.getElem?_set_self (by rw [← s.len]; exact hl)], r⟩
    · rw [List.getElem?_eq_none (by rw [List.length_set]; omega)] at h; cases h
  · rw [List.getElem?_set_ne q] at h ⊢
    exact s.at_ j e h
/-- slots forgotten -/
theorem SL.sub (s : SL K F σ Γ) (hl : Γ'.length = Γ.length) (h : ∀ (i : Nat) (d : D), Γ'[i]? = some (some d) → Γ[i]? = some (some d)) : SL K F σ Γ' := ⟨hl.trans s.len, fun i d e => s.at_ i d (h i d e)⟩
end

/-- the items of a list | of a list that is no locked one | of a tuple -/
def seqD (w : W) : D → Option (List D)
  | .lst ds => some ds
  | .scr ns => some (ns.map D.int)
  | .obj a => match w a with | some (.lst ds) => some ds | _ => none
  | _ => none
def lstD (w : W) : D → Option (List D)
  | .lst ds => some ds
  | .obj a => match w a with | some (.lst ds) => some ds | _ => none
  | _ => none
section
variable {K : PySem.W.Frag} {F H : Hp} {w : W}
theorem lstD_obj {a : Addr} {ds : List D} (h : w a = some (.lst ds)) : lstD w (.obj a) = some ds := by simp only [lstD, h]
theorem seqD_obj {a : Addr} {ds : List D} (h : w a = some (.lst ds)) : seqD w (.obj a) = some ds := by simp only [seqD, h]
theorem SW.lst {x : D} {v : V} {ds : List D} (s : SW K F H w) (r : Rep K F v x) (h : lstD w x = some ds) : ∃ a vs, v = .ref a ∧ H a = some (.lst vs) ∧ Reps K F vs ds := by
  cases r with
  | lst q rs => cases h; exact ⟨_, _, rfl, s.ex _ _ q, rs⟩
  | obj a =>
    unfold lstD at h
    simp only at h
    cases e : w a with
    | none => rw [e] at h; cases h
    | some m =>
      rw [e] at h
      cases m with
      | lst es => cases h; obtain ⟨vs, h1, r⟩ := (s.mo a _ e).2; exact ⟨a, vs, rfl, h1, r⟩
      | _ => cases h
  | _ => cases h
theorem SW.seq {x : D} {v : V} {ds : List D} (s : SW K F H w) (r : Rep K F v x) (h : seqD w x = some ds) : ∃ a vs, v = .ref a ∧ SqL K H a vs ∧ Reps K F vs ds := by
  cases r with
  | scr q => cases h; exact ⟨_, _, rfl, Same.seq s.ex q, Reps.ints _⟩
  | lst q rs => cases h; exact ⟨_, _, rfl, .inl (.inl (s.ex _ _ q)), rs⟩
  | obj a =>
    obtain ⟨a', vs, h1, h2, h3⟩ := s.lst (.obj a) (ds := ds) h
    exact ⟨a', vs, h1, .inl (.inl h2), h3⟩
  | _ => cases h
theorem Rep.tup_inv {v : V} {ds : List D} (r : Rep K F v (.tup ds)) : ∃ a vs, v = .ref a ∧ SqT K F a vs ∧ Reps K F vs ds := by cases r; exact ⟨_, _, rfl, by assumption, by assumption⟩
theorem Rep.int_inv {v : V} {i : Int} (r : Rep K F v (.int i)) : v = .int i := by cases r; rfl
theorem Rep.str_inv {v : V} {i : Str} (r : Rep K F v (.str i)) : v = .str i := by cases r; rfl
theorem Rep.bl_inv {v : V} {i : Bool} (r : Rep K F v (.bl i)) : v = .bl i := by cases r; rfl
theorem Rep.non_inv {v : V} (r : Rep K F v .non) : v = .non := by cases r; rfl
theorem Reps.nil_inv {vs : List V} (r : Reps K F vs []) : vs = [] := by cases r; rfl
theorem Reps.one_inv {vs : List V} {d : D} (r : Reps K F vs [d]) : ∃ v, vs = [v] ∧ Rep K F v d := by
  cases r with
  | cons h r => cases r; exact ⟨_, rfl, h⟩
theorem Reps.two_inv {vs : List V} {d e : D} (r : Reps K F vs [d, e]) : ∃ v u, vs = [v, u] ∧ Rep K F v d ∧ Rep K F u e := by
  cases r with
  | cons h r => obtain ⟨u, rfl, h2⟩ := r.one_inv; exact ⟨_, _, rfl, h, h2⟩
end
end VL

end

section
set_option maxRecDepth 100000
set_option maxHeartbeats 4000000
namespace VL
open PySem PySem.Spec PyProof.Rows L2

/-! ### what an expression, a test, an argument list, a statement is worth, by its own run -/
def wE (X : Cx) (e : Expr) : TE := fun σ H Q => ∀ (pins : List (Addr × Obj)) (s : Shared), Inv X pins σ H s → wpAny (model X.prog X.w) X.A (eval e X.env) (EP X pins σ Q) X.xe s
def wT (X : Cx) (e : Expr) : TT := fun σ H Q => ∀ (pins : List (Addr × Obj)) (s : Shared), Inv X pins σ H s → wpAny (model X.prog X.w) X.A (isTrue e X.env (eval e X.env)) (TP X pins σ Q) X.xe s
def wW (X : Cx) (e : Expr) : TT := fun σ H Q => ∀ (whole : Sem Value) (pins : List (Addr × Obj)) (s : Shared), Inv X pins σ H s → wpAny (model X.prog X.w) X.A (isTrue e X.env whole) (TP X pins σ Q) X.xe s
def wA (X : Cx) (es : List Expr) : TA := fun σ H Q => ∀ (pos : Pos) (pins : List (Addr × Obj)) (s : Shared), Inv X pins σ H s → wpAny (model X.prog X.w) X.A (spliced (backTo pos (starEach es X.env))) (AP X pins σ Q) X.xe s
def wS (X : Cx) (st : Stmt) : TS := fun D σ H => ∀ (pins : List (Addr × Obj)) (s : Shared), Inv X pins σ H s → wpAny (model X.prog X.w) X.A (exec st X.env) (SP X pins D) X.xe s
def wSs (X : Cx) (st : List Stmt) : TS := fun D σ H => ∀ (pins : List (Addr × Obj)) (s : Shared), Inv X pins σ H s → wpAny (model X.prog X.w) X.A (execs st X.env) (SP X pins D) X.xe s
def wO (X : Cx) (f : Value → Value → Sem Value) : R2 := fun x y H Q => ∀ (pins : List (Addr × Obj)) (s : Shared) (σ : L2.St) (v u : Value), Inv X pins σ H s → RelV x v → RelV y u → wpAny (model X.prog X.w) X.A (f v u) (EP X pins σ Q) X.xe s
def wU (X : Cx) (f : Value → Sem Value) : V → Hp → VK → Prop := fun x H Q => ∀ (pins : List (Addr × Obj)) (s : Shared) (σ : L2.St) (v : Value), Inv X pins σ H s → RelV x v → wpAny (model X.prog X.w) X.A (f v) (EP X pins σ Q) X.xe s
def wC (X : Cx) (f : Value) : List V → Hp → VK → Prop := fun xs H Q => ∀ (pins : List (Addr × Obj)) (s : Shared) (σ : L2.St) (us : List Value), Inv X pins σ H s → Vals xs us → wpAny (model X.prog X.w) X.A (call f us) (EP X pins σ Q) X.xe s
def wIx (X : Cx) : R2 := fun x y H Q => ∀ (value slice : Expr) (pins : List (Addr × Obj)) (s : Shared) (σ : L2.St) (v u : Value), Inv X pins σ H s → RelV x v → RelV y u →
  subscripted slice false v u = operate [v, u] (getItem v u) → wpAny (model X.prog X.w) X.A (subscriptTail value slice v u) (EP X pins σ Q) X.xe s
def wM (X : Cx) (id : String) : V → List V → Hp → VK → Prop := fun x xs H Q => ∀ (pins : List (Addr × Obj)) (s : Shared) (σ : L2.St) (v : Value) (us : List Value), Inv X pins σ H s → RelV x v → Vals xs us →
  wpAny (model X.prog X.w) X.A (call (.builtin id) (v :: us)) (EP X pins σ Q) X.xe s
def wG (X : Cx) (tg : Expr) : TG := fun x σ H Q => ∀ (pins : List (Addr × Obj)) (s : Shared) (u : Value), Inv X pins σ H s → RelV x u → wpAny (model X.prog X.w) X.A (assign tg X.env u) (fun _ s' => ∃ σ' H', Inv X pins σ' H' s' ∧ Q σ' H') X.xe s

theorem pe_w {X : Cx} {e : Expr} : PE X e (wE X e) := ⟨fun pins s σ H Q I h => h pins s I⟩
theorem pt_w {X : Cx} {e : Expr} : PT X e (wT X e) := ⟨fun pins s σ H Q I h => h pins s I⟩
theorem pw_w {X : Cx} {e : Expr} : PW X e (wW X e) := ⟨fun wh pins s σ H Q I h => h wh pins s I⟩
theorem pa_w {X : Cx} {es : List Expr} : PA X es (wA X es) := ⟨fun pos pins s σ H Q I h => h pos pins s I⟩
theorem ps_w {X : Cx} {st : Stmt} : PS X st (wS X st) := ⟨fun pins s σ H D I h => h pins s I⟩
theorem pss_w {X : Cx} {st : List Stmt} : PSs X st (wSs X st) := ⟨fun pins s σ H D I h => h pins s I⟩
theorem or_w {X : Cx} {f : Value → Value → Sem Value} : OpR X f (wO X f) := fun pins s σ H x y v u Q I rx ry h => h pins s σ v u I rx ry
theorem ur_w {X : Cx} {f : Value → Sem Value} : UnR X f (wU X f) := fun pins s σ H x v Q I rx h => h pins s σ v I rx
theorem cr_w {X : Cx} {f : Value} : CallR X f (wC X f) := fun pins s σ H xs us Q I r h => h pins s σ us I r
theorem ix_w {X : Cx} : IxR X (wIx X) := fun value slice pins s σ H x y v u Q I rx ry h hs => h value slice pins s σ v u I rx ry hs
theorem mt_w {X : Cx} {id : String} : MtR X id (wM X id) := fun pins s σ H x xs v us Q I rx r h => h pins s σ v us I rx r
theorem w_pe {X : Cx} {e : Expr} {t : TE} (h : PE X e t) {σ : L2.St} {H : Hp} {Q : VK} (q : t σ H Q) : wE X e σ H Q := fun pins s I => h.run pins s σ H Q I q
theorem w_pt {X : Cx} {e : Expr} {t : TT} (h : PT X e t) {σ : L2.St} {H : Hp} {Q : Bool → Hp → Prop} (q : t σ H Q) : wT X e σ H Q := fun pins s I => h.run pins s σ H Q I q
theorem w_pw {X : Cx} {e : Expr} {t : TT} (h : PW X e t) {σ : L2.St} {H : Hp} {Q : Bool → Hp → Prop} (q : t σ H Q) : wW X e σ H Q := fun wh pins s I => h.run wh pins s σ H Q I q
theorem w_pa {X : Cx} {es : List Expr} {t : TA} (h : PA X es t) {σ : L2.St} {H : Hp} {Q : List V → Hp → Prop} (q : t σ H Q) : wA X es σ H Q := fun pos pins s I => h.run pos pins s σ H Q I q
theorem w_ps {X : Cx} {st : Stmt} {t : TS} (h : PS X st t) {σ : L2.St} {H : Hp} {D : Ends} (q : t D σ H) : wS X st D σ H := fun pins s I => h.run pins s σ H D I q
theorem w_pss {X : Cx} {st : List Stmt} {t : TS} (h : PSs X st t) {σ : L2.St} {H : Hp} {D : Ends} (q : t D σ H) : wSs X st D σ H := fun pins s I => h.run pins s σ H D I q
theorem w_or {X : Cx} {f : Value → Value → Sem Value} {r : R2} (h : OpR X f r) {x y : V} {H : Hp} {Q : VK} (q : r x y H Q) : wO X f x y H Q := fun pins s σ v u I rx ry => h pins s σ H x y v u Q I rx ry q
theorem w_ur {X : Cx} {f : Value → Sem Value} {r : V → Hp → VK → Prop} (h : UnR X f r) {x : V} {H : Hp} {Q : VK} (q : r x H Q) : wU X f x H Q := fun pins s σ v I rx => h pins s σ H x v Q I rx q
theorem w_cr {X : Cx} {f : Value} {r : List V → Hp → VK → Prop} (h : CallR X f r) {xs : List V} {H : Hp} {Q : VK} (q : r xs H Q) : wC X f xs H Q := fun pins s σ us I rx => h pins s σ H xs us Q I rx q
theorem w_ix {X : Cx} {r : R2} (h : IxR X r) {x y : V} {H : Hp} {Q : VK} (q : r x y H Q) : wIx X x y H Q := fun value slice pins s σ v u I rx ry hs => h value slice pins s σ H x y v u Q I rx ry q hs
theorem w_mt {X : Cx} {id : String} {r : V → List V → Hp → VK → Prop} (h : MtR X id r) {x : V} {xs : List V} {H : Hp} {Q : VK} (q : r x xs H Q) : wM X id x xs H Q := fun pins s σ v us I rx rr => h pins s σ H x xs v us Q I rx rr q

theorem EP_mono {X : Cx} {pins : List (Addr × Obj)} {σ : L2.St} {Q Q' : VK} (h : ∀ v H, Q v H → Q' v H) {u : Value} {s : Shared} (x : EP X pins σ Q u s) : EP X pins σ Q' u s := let ⟨v, H, I, r, q⟩ := x; ⟨v, H, I, r, h v H q⟩
theorem wE_mono {X : Cx} {e : Expr} {σ : L2.St} {H : Hp} {Q Q' : VK} (q : wE X e σ H Q) (h : ∀ v H, Q v H → Q' v H) : wE X e σ H Q' := fun pins s I => thn (q pins s I) fun _ _ x => EP_mono h x
theorem wT_mono {X : Cx} {e : Expr} {σ : L2.St} {H : Hp} {Q Q' : Bool → Hp → Prop} (q : wT X e σ H Q) (h : ∀ v H, Q v H → Q' v H) : wT X e σ H Q' := fun pins s I => thn (q pins s I) fun _ _ ⟨H, I, x⟩ => ⟨H, I, h _ H x⟩
theorem wW_mono {X : Cx} {e : Expr} {σ : L2.St} {H : Hp} {Q Q' : Bool → Hp → Prop} (q : wW X e σ H Q) (h : ∀ v H, Q v H → Q' v H) : wW X e σ H Q' := fun wh pins s I => thn (q wh pins s I) fun _ _ ⟨H, I, x⟩ => ⟨H, I, h _ H x⟩
theorem wA_mono {X : Cx} {e : List Expr} {σ : L2.St} {H : Hp} {Q Q' : List V → Hp → Prop} (q : wA X e σ H Q) (h : ∀ v H, Q v H → Q' v H) : wA X e σ H Q' := fun pos pins s I => thn (q pos pins s I) fun _ _ ⟨v, H, I, r, x⟩ => ⟨v, H, I, r, h _ H x⟩
theorem wO_mono {X : Cx} {f : Value → Value → Sem Value} {x y : V} {H : Hp} {Q Q' : VK} (q : wO X f x y H Q) (h : ∀ v H, Q v H → Q' v H) : wO X f x y H Q' := fun pins s σ v u I rx ry => thn (q pins s σ v u I rx ry) fun _ _ x => EP_mono h x
theorem wG_mono {X : Cx} {tg : Expr} {x : V} {σ : L2.St} {H : Hp} {Q Q' : L2.St → Hp → Prop} (q : wG X tg x σ H Q) (h : ∀ v H, Q v H → Q' v H) : wG X tg x σ H Q' := fun pins s u I rx => thn (q pins s u I rx) fun _ _ ⟨σ', H', I', x⟩ => ⟨σ', H', I', h _ _ x⟩
structure EndsLe (D D' : Ends) : Prop where
  nx : ∀ σ H, D.nx σ H → D'.nx σ H
  rt : ∀ v H, D.rt v H → D'.rt v H
  bk : ∀ σ H, D.bk σ H → D'.bk σ H
  ct : ∀ σ H, D.ct σ H → D'.ct σ H
theorem SP_mono {X : Cx} {pins : List (Addr × Obj)} {D D' : Ends} (h : EndsLe D D') {f : Flow} {s : Shared} (x : SP X pins D f s) : SP X pins D' f s := by
  cases f with
  | next => obtain ⟨σ, H, I, q⟩ := x; exact ⟨σ, H, I, h.nx _ _ q⟩
  | brk => obtain ⟨σ, H, I, q⟩ := x; exact ⟨σ, H, I, h.bk _ _ q⟩
  | cont => obtain ⟨σ, H, I, q⟩ := x; exact ⟨σ, H, I, h.ct _ _ q⟩
  | ret u => obtain ⟨v, σ, H, I, r, q⟩ := x; exact ⟨v, σ, H, I, r, h.rt _ _ q⟩
theorem wS_mono {X : Cx} {st : Stmt} {σ : L2.St} {H : Hp} {D D' : Ends} (q : wS X st D σ H) (h : EndsLe D D') : wS X st D' σ H := fun pins s I => thn (q pins s I) fun _ _ x => SP_mono h x
theorem wSs_mono {X : Cx} {st : List Stmt} {σ : L2.St} {H : Hp} {D D' : Ends} (q : wSs X st D σ H) (h : EndsLe D D') : wSs X st D' σ H := fun pins s I => thn (q pins s I) fun _ _ x => SP_mono h x

/-! ### contexts -/
structure EnvR where
  P : Program
  w : World
  K : PySem.W.Frag
  mg : Str → Option Value
  base : Heap

def ER (K : PySem.W.Frag) (F0 : Hp) (R : Addr → W → Prop) : XK := fun cls d H => ∃ (C : Addr) (F : Hp) (w : W), cls = Value.ref C ∧ d = none ∧ Ex F0 F ∧ SW K F H w ∧ R C w

/-- how a body runs: calm (not within an except suite), own (the cells of its names are its own) -/
structure Md where
  calm : Bool
  own : Bool
abbrev mF : Md := ⟨true, true⟩
abbrev mB : Md := ⟨true, false⟩
abbrev mH : Md := ⟨false, true⟩

structure VC (E : EnvR) (N : List Str) (sc : Scope) (k : Nat) (b : Md) where
  X : Cx
  F0 : Hp
  R : Addr → W → Prop
  hP : X.prog = E.P
  hw : X.w = E.w
  hK : X.K = E.K
  hmg : X.mg = E.mg
  hbase : X.base = E.base
  hN : X.N = N
  nd : N.Nodup
  hsc : X.env.scope = sc
  roomH : L2H.RoomH k X.A
  room : b.calm = true → Room k X.A
  calm : X.calm = b.calm
  po : PassesOwn (model X.prog X.w) X.A X.env X.xe
  tk : Takes X (fun cls d _ H => ER E.K F0 R cls d H)
  fn : b.own = true → ∀ x, X.fn x = true
  hot : b.calm = false → L2H.HotC X

section
variable {E : EnvR} {N : List Str} {sc : Scope} {k : Nat} {b : Md}
theorem VC.pass (c : VC E N sc k b) : Passes (L2.CX c.X.prog c.X.w) c.X (ER E.K c.F0 c.R) := passes_call c.tk fun _ _ _ _ h => h

/-- what an expression leaves: its value, the frozen part grown, the mutable objects -/
def Res (K : PySem.W.Frag) (F : Hp) (P : D → W → Prop) (v : V) (H' : Hp) : Prop := ∃ (F' : Hp) (d : D) (w' : W), Ex F F' ∧ SW K F' H' w' ∧ Rep K F' v d ∧ P d w'
def ResT (K : PySem.W.Frag) (F : Hp) (P : Bool → W → Prop) (b : Bool) (H' : Hp) : Prop := ∃ (F' : Hp) (w' : W), Ex F F' ∧ SW K F' H' w' ∧ P b w'
def ResA (K : PySem.W.Frag) (F : Hp) (P : List D → W → Prop) (vs : List V) (H' : Hp) : Prop := ∃ (F' : Hp) (ds : List D) (w' : W), Ex F F' ∧ SW K F' H' w' ∧ Reps K F' vs ds ∧ P ds w'
def ResG (K : PySem.W.Frag) (F : Hp) (P : G → W → Prop) (σ' : L2.St) (H' : Hp) : Prop := ∃ (F' : Hp) (Γ' : G) (w' : W), Ex F F' ∧ SW K F' H' w' ∧ SL K F' σ' Γ' ∧ P Γ' w'
theorem Res.mono {K : PySem.W.Frag} {F F1 : Hp} {P P' : D → W → Prop} {v : V} {H : Hp} (e : Ex F F1) (h : ∀ d w, P d w → P' d w) (r : Res K F1 P v H) : Res K F P' v H :=
  let ⟨F', d, w', e', s, q, p⟩ := r; ⟨F', d, w', e.trans e', s, q, h d w' p⟩
theorem ResT.mono {K : PySem.W.Frag} {F F1 : Hp} {P P' : Bool → W → Prop} {v : Bool} {H : Hp} (e : Ex F F1) (h : ∀ d w, P d w → P' d w) (r : ResT K F1 P v H) : ResT K F P' v H :=
  let ⟨F', w', e', s, p⟩ := r; ⟨F', w', e.trans e', s, h _ w' p⟩
theorem ResA.mono {K : PySem.W.Frag} {F F1 : Hp} {P P' : List D → W → Prop} {v : List V} {H : Hp} (e : Ex F F1) (h : ∀ d w, P d w → P' d w) (r : ResA K F1 P v H) : ResA K F P' v H :=
  let ⟨F', d, w', e', s, q, p⟩ := r; ⟨F', d, w', e.trans e', s, q, h d w' p⟩
theorem ResG.mono {K : PySem.W.Frag} {F F1 : Hp} {P P' : G → W → Prop} {σ : L2.St} {H : Hp} (e : Ex F F1) (h : ∀ d w, P d w → P' d w) (r : ResG K F1 P σ H) : ResG K F P' σ H :=
  let ⟨F', d, w', e', s, q, p⟩ := r; ⟨F', d, w', e.trans e', s, q, h d w' p⟩

def VE (c : VC E N sc k b) (e : Expr) (Γ : G) (w : W) (P : D → W → Prop) : Prop :=
  ∀ (F H : Hp) (σ : L2.St), Ex c.F0 F → SW c.X.K F H w → SL c.X.K F σ Γ → wE c.X e σ H (Res c.X.K F P)
def VT (c : VC E N sc k b) (e : Expr) (Γ : G) (w : W) (P : Bool → W → Prop) : Prop :=
  ∀ (F H : Hp) (σ : L2.St), Ex c.F0 F → SW c.X.K F H w → SL c.X.K F σ Γ → wT c.X e σ H (ResT c.X.K F P)
def VW (c : VC E N sc k b) (e : Expr) (Γ : G) (w : W) (P : Bool → W → Prop) : Prop :=
  ∀ (F H : Hp) (σ : L2.St), Ex c.F0 F → SW c.X.K F H w → SL c.X.K F σ Γ → wW c.X e σ H (ResT c.X.K F P)
def VA (c : VC E N sc k b) (es : List Expr) (Γ : G) (w : W) (P : List D → W → Prop) : Prop :=
  ∀ (F H : Hp) (σ : L2.St), Ex c.F0 F → SW c.X.K F H w → SL c.X.K F σ Γ → wA c.X es σ H (ResA c.X.K F P)
/-- operations on values: two-place, one-place, calls of builtins, subscripts, methods of builtins -/
def VO (c : VC E N sc k b) (f : Value → Value → Sem Value) (x y : D) (w : W) (P : D → W → Prop) : Prop :=
  ∀ (F H : Hp) (vx vy : V), Ex c.F0 F → SW c.X.K F H w → Rep c.X.K F vx x → Rep c.X.K F vy y → wO c.X f vx vy H (Res c.X.K F P)
def VU (c : VC E N sc k b) (f : Value → Sem Value) (x : D) (w : W) (P : D → W → Prop) : Prop :=
  ∀ (F H : Hp) (vx : V), Ex c.F0 F → SW c.X.K F H w → Rep c.X.K F vx x → wU c.X f vx H (Res c.X.K F P)
def VCl (c : VC E N sc k b) (f : Value) (ds : List D) (w : W) (P : D → W → Prop) : Prop :=
  ∀ (F H : Hp) (vs : List V), Ex c.F0 F → SW c.X.K F H w → Reps c.X.K F vs ds → wC c.X f vs H (Res c.X.K F P)
def VX (c : VC E N sc k b) (x y : D) (w : W) (P : D → W → Prop) : Prop :=
  ∀ (F H : Hp) (vx vy : V), Ex c.F0 F → SW c.X.K F H w → Rep c.X.K F vx x → Rep c.X.K F vy y → wIx c.X vx vy H (Res c.X.K F P)
def VM (c : VC E N sc k b) (id : String) (x : D) (ds : List D) (w : W) (P : D → W → Prop) : Prop :=
  ∀ (F H : Hp) (vx : V) (vs : List V), Ex c.F0 F → SW c.X.K F H w → Rep c.X.K F vx x → Reps c.X.K F vs ds → wM c.X id vx vs H (Res c.X.K F P)
/-- a target takes a value; L: the slots that change -/
def VG (c : VC E N sc k b) (tg : Expr) (L : List Nat) (d : D) (Γ : G) (w : W) (P : G → W → Prop) : Prop :=
  ∀ (F H : Hp) (σ : L2.St) (v : V), Ex c.F0 F → SW c.X.K F H w → SL c.X.K F σ Γ → Rep c.X.K F v d → wG c.X tg v σ H (fun σ' H' => (σ'.length = σ.length ∧ ∀ j, j ∉ L → σ'[j]? = σ[j]?) ∧ ResG c.X.K F P σ' H')

structure DE where
  nx : G → W → Prop
  rt : D → W → Prop
  bk : G → W → Prop := fun _ _ => False
  ct : G → W → Prop := fun _ _ => False
def toEnds (K : PySem.W.Frag) (F : Hp) (D : DE) : Ends := { nx := ResG K F D.nx, rt := Res K F D.rt, bk := ResG K F D.bk, ct := ResG K F D.ct }
structure DELe (D D' : DE) : Prop where
  nx : ∀ Γ w, D.nx Γ w → D'.nx Γ w
  rt : ∀ v w, D.rt v w → D'.rt v w
  bk : ∀ Γ w, D.bk Γ w → D'.bk Γ w
  ct : ∀ Γ w, D.ct Γ w → D'.ct Γ w
theorem toEnds_mono {K : PySem.W.Frag} {F F1 : Hp} {D D' : DE} (e : Ex F F1) (h : DELe D D') : EndsLe (toEnds K F1 D) (toEnds K F D') :=
  ⟨fun _ _ q => q.mono e h.nx, fun _ _ q => q.mono e h.rt, fun _ _ q => q.mono e h.bk, fun _ _ q => q.mono e h.ct⟩
theorem DELe.refl (D : DE) : DELe D D := ⟨fun _ _ h => h, fun _ _ h => h, fun _ _ h => h, fun _ _ h => h⟩
def VS (c : VC E N sc k b) (st : Stmt) (Γ : G) (w : W) (D : DE) : Prop :=
  ∀ (F H : Hp) (σ : L2.St), Ex c.F0 F → SW c.X.K F H w → SL c.X.K F σ Γ → wS c.X st (toEnds c.X.K F D) σ H
def VSs (c : VC E N sc k b) (st : List Stmt) (Γ : G) (w : W) (D : DE) : Prop :=
  ∀ (F H : Hp) (σ : L2.St), Ex c.F0 F → SW c.X.K F H w → SL c.X.K F σ Γ → wSs c.X st (toEnds c.X.K F D) σ H

variable {c : VC E N sc k b} {Γ : G} {w : W} {P P' : D → W → Prop} {PB : Bool → W → Prop}

theorem VE.imp {e : Expr} (h : VE c e Γ w P) (i : ∀ d w, P d w → P' d w) : VE c e Γ w P' := fun F H σ e0 s l => wE_mono (h F H σ e0 s l) fun _ _ q => q.mono (Same.refl F) i
theorem VT.imp {e : Expr} {PB' : Bool → W → Prop} (h : VT c e Γ w PB) (i : ∀ d w, PB d w → PB' d w) : VT c e Γ w PB' := fun F H σ e0 s l => wT_mono (h F H σ e0 s l) fun _ _ q => q.mono (Same.refl F) i
theorem VSs.imp {st : List Stmt} {D D' : DE} (h : VSs c st Γ w D) (i : DELe D D') : VSs c st Γ w D' := fun F H σ e0 s l => wSs_mono (h F H σ e0 s l) (toEnds_mono (Same.refl F) i)
/-- two steps: a value, then what is done with it, from a grown frozen part -/
theorem res_bind {K : PySem.W.Frag} {F : Hp} {Q : D → W → Prop} {v : V} {H : Hp} {A : Prop} (r : Res K F Q v H) (f : ∀ F1 d w1, Ex F F1 → SW K F1 H w1 → Rep K F1 v d → Q d w1 → A) : A :=
  let ⟨F1, d, w1, e, s, q, p⟩ := r; f F1 d w1 e s q p

/-! ### expressions -/
theorem ve_int {i : Int} {j : Nat} {pos : Pos} (h : P (.int i) w) : VE c (.Constant (.int i) j pos) Γ w P := fun F H σ e0 s l => w_pe pe_int ⟨F, .int i, w, Same.refl F, s, .int i, h⟩
theorem ve_str {x : Str} {j : Nat} {pos : Pos} (h : P (.str x) w) : VE c (.Constant (.str x) j pos) Γ w P := fun F H σ e0 s l => w_pe pe_str ⟨F, .str x, w, Same.refl F, s, .str x, h⟩
theorem ve_bl {x : Bool} {j : Nat} {pos : Pos} (h : P (.bl x) w) : VE c (.Constant (.bool x) j pos) Γ w P := fun F H σ e0 s l => w_pe pe_bl ⟨F, .bl x, w, Same.refl F, s, .bl x, h⟩
theorem ve_non {j : Nat} {pos : Pos} (h : P .non w) : VE c (.Constant .none j pos) Γ w P := fun F H σ e0 s l => w_pe pe_non ⟨F, .non, w, Same.refl F, s, .non, h⟩
theorem ve_var (i : Nat) {x : Str} {d : D} {pos : Pos} (hN : N[i]? = some x) (hv : Vis sc x) (hΓ : Γ[i]? = some (some d)) (h : P d w)
    (hd : (x == ("__debug__" : Str)) = false := by decide) (hcd : (x == ("__classdict__" : Str)) = false := by decide) : VE c (.Name x pos) Γ w P := fun F H σ e0 s l => by
  obtain ⟨v, h1, h2⟩ := l.at_ i d hΓ
  exact w_pe (pe_var (i := i) (by rw [c.hN]; exact hN) (by rw [c.hsc]; exact hv) hd hcd) ⟨v, h1, F, d, w, Same.refl F, s, h2, h⟩
/-- a name of the module that holds a plain value -/
theorem ve_glob {x : Str} {v : V} {u : Value} {d : D} {pos : Pos} (hg : sc.names.lookup x = some .globalImplicit) (hm : E.mg x = some u) (r : RelV v u) (q : ∀ F, Rep c.X.K F v d) (h : P d w)
    (hd : (x == ("__debug__" : Str)) = false := by decide) : VE c (.Name x pos) Γ w P := fun F H σ e0 s l =>
  w_pe (pe_glob (v := v) (u := u) (by show c.X.env.scope.names.lookup x = _; rw [c.hsc]; exact hg) (by rw [c.hmg]; exact hm) r hd) ⟨F, d, w, Same.refl F, s, q F, h⟩
theorem ve_bltn {x : Str} {v : V} {u : Value} {d : D} {pos : Pos} (hg : sc.names.lookup x = some .globalImplicit) (hm : E.mg x = none) (hv : bootBuiltins x = some u) (r : RelV v u) (q : ∀ F, Rep c.X.K F v d) (h : P d w)
    (hn : x ≠ "__name__" := by decide) (hd : (x == ("__debug__" : Str)) = false := by decide) : VE c (.Name x pos) Γ w P := fun F H σ e0 s l =>
  w_pe (pe_bltn (v := v) (u := u) (by show c.X.env.scope.names.lookup x = _; rw [c.hsc]; exact hg) (by rw [c.hmg]; exact hm) hv r hn hd) ⟨F, d, w, Same.refl F, s, q F, h⟩

theorem ve_bin {a e : Expr} {op : Operator} {pos : Pos} (h : VE c a Γ w fun x w1 => VE c e Γ w1 fun y w2 => VO c (binaryOp op) x y w2 P) : VE c (.BinOp a op e pos) Γ w P := fun F H σ e0 s l =>
  w_pe (pe_op or_w pe_w pe_w) (wE_mono (h F H σ e0 s l) fun v H1 r => res_bind r fun F1 x w1 e1 s1 r1 q1 =>
    wE_mono (q1 F1 H1 σ (e0.trans e1) s1 (l.mono e1)) fun u H2 r => res_bind r fun F2 y w2 e2 s2 r2 q2 =>
      wO_mono (q2 F2 H2 v u ((e0.trans e1).trans e2) s2 (r1.mono e2) r2) fun _ _ q => q.mono (e1.trans e2) fun _ _ z => z)
theorem ve_cmp {a e : Expr} {op : CmpOp} {pos : Pos} (hm : behindInMarks op e = false) (h : VE c a Γ w fun x w1 => VE c e Γ w1 fun y w2 => VO c (compareOp op) x y w2 P) : VE c (.Compare a [op] [e] pos) Γ w P := fun F H σ e0 s l =>
  w_pe (pe_cmpR or_w pe_w pe_w hm) (wE_mono (h F H σ e0 s l) fun v H1 r => res_bind r fun F1 x w1 e1 s1 r1 q1 =>
    wE_mono (q1 F1 H1 σ (e0.trans e1) s1 (l.mono e1)) fun u H2 r => res_bind r fun F2 y w2 e2 s2 r2 q2 =>
      wO_mono (q2 F2 H2 v u ((e0.trans e1).trans e2) s2 (r1.mono e2) r2) fun _ _ q => q.mono (e1.trans e2) fun _ _ z => z)
/-- a value that is to be True or False -/
def asB (x : D) (k : Bool → Prop) : Prop := match x with | .bl b => k b | _ => False
theorem asB_rep {K : PySem.W.Frag} {F : Hp} {v : V} {x : D} {k : Bool → Prop} (r : Rep K F v x) (h : asB x k) : ∃ b, v = .bl b ∧ x = .bl b ∧ k b := by
  cases r <;> first | exact ⟨_, rfl, rfl, h⟩ | exact h.elim
theorem vt_cmp {a e : Expr} {op : CmpOp} {pos : Pos} (hm : behindInMarks op e = false) (h : VE c a Γ w fun x w1 => VE c e Γ w1 fun y w2 => VO c (compareOp op) x y w2 fun d w3 => asB d fun t => PB t w3) : VT c (.Compare a [op] [e] pos) Γ w PB := fun F H σ e0 s l =>
  w_pt (pt_cmpR or_w pe_w pe_w hm) (wE_mono (h F H σ e0 s l) fun v H1 r => res_bind r fun F1 x w1 e1 s1 r1 q1 =>
    wE_mono (q1 F1 H1 σ (e0.trans e1) s1 (l.mono e1)) fun u H2 r => res_bind r fun F2 y w2 e2 s2 r2 q2 =>
      wO_mono (q2 F2 H2 v u ((e0.trans e1).trans e2) s2 (r1.mono e2) r2) fun v' H' q => res_bind q fun F3 d w3 e3 s3 r3 q3 => by
        obtain ⟨t, h1, h2, h3⟩ := asB_rep r3 q3
        exact ⟨t, h1, F3, w3, (e1.trans e2).trans e3, s3, h3⟩)
theorem ve_chain {a e f : Expr} {op op' : CmpOp} {pos : Pos} (h : VE c a Γ w fun x w1 => VE c e Γ w1 fun y w2 => VO c (compareOp op) x y w2 fun d w3 => asB d fun t => if t = true then VE c f Γ w3 fun z w4 => VO c (compareOp op') y z w4 P else P (.bl false) w3)
    (hm : lastMarks [op, op'] [e, f] = false := by with_unfolding_all rfl) : VE c (.Compare a [op, op'] [e, f] pos) Γ w P := fun F H σ e0 s l =>
  w_pe (pe_chain or_w or_w pe_w pe_w pe_w hm) (wE_mono (h F H σ e0 s l) fun v H1 r => res_bind r fun F1 x w1 e1 s1 r1 q1 =>
    wE_mono (q1 F1 H1 σ (e0.trans e1) s1 (l.mono e1)) fun u H2 r => res_bind r fun F2 y w2 e2 s2 r2 q2 =>
      wO_mono (q2 F2 H2 v u ((e0.trans e1).trans e2) s2 (r1.mono e2) r2) fun v' H3 q => res_bind q fun F3 d w3 e3 s3 r3 q3 => by
        obtain ⟨t, h1, h2, h3⟩ := asB_rep r3 q3
        refine ⟨t, h1, ?_⟩
        have e03 := ((e0.trans e1).trans e2).trans e3
        cases t with
        | true =>
          rw [if_pos rfl] at h3 ⊢
          exact wE_mono (h3 F3 H3 σ e03 s3 (((l.mono e1).mono e2).mono e3)) fun u' H4 r => res_bind r fun F4 z w4 e4 s4 r4 q4 =>
            wO_mono (q4 F4 H4 u u' (e03.trans e4) s4 ((r2.mono e3).mono e4) r4) fun _ _ q => q.mono (((e1.trans e2).trans e3).trans e4) fun _ _ z => z
        | false =>
          rw [if_neg Bool.false_ne_true] at h3 ⊢
          exact ⟨F3, .bl false, w3, (e1.trans e2).trans e3, s3, .bl false, h3⟩)
theorem vt_chain {a e f : Expr} {op op' : CmpOp} {pos : Pos} (h : VE c a Γ w fun x w1 => VE c e Γ w1 fun y w2 => VO c (compareOp op) x y w2 fun d w3 => asB d fun t => if t = true then VE c f Γ w3 fun z w4 => VO c (compareOp op') y z w4 (fun d w5 => asB d fun t => PB t w5) else PB false w3)
    (hm : lastMarks [op, op'] [e, f] = false := by with_unfolding_all rfl) : VT c (.Compare a [op, op'] [e, f] pos) Γ w PB := fun F H σ e0 s l =>
  w_pt (pt_chain or_w or_w pe_w pe_w pe_w hm) (wE_mono (h F H σ e0 s l) fun v H1 r => res_bind r fun F1 x w1 e1 s1 r1 q1 =>
    wE_mono (q1 F1 H1 σ (e0.trans e1) s1 (l.mono e1)) fun u H2 r => res_bind r fun F2 y w2 e2 s2 r2 q2 =>
      wO_mono (q2 F2 H2 v u ((e0.trans e1).trans e2) s2 (r1.mono e2) r2) fun v' H3 q => res_bind q fun F3 d w3 e3 s3 r3 q3 => by
        obtain ⟨t, h1, h2, h3⟩ := asB_rep r3 q3
        refine ⟨t, h1, ?_⟩
        have e03 := ((e0.trans e1).trans e2).trans e3
        cases t with
        | true =>
          rw [if_pos rfl] at h3 ⊢
          exact wE_mono (h3 F3 H3 σ e03 s3 (((l.mono e1).mono e2).mono e3)) fun u' H4 r => res_bind r fun F4 z w4 e4 s4 r4 q4 =>
            wO_mono (q4 F4 H4 u u' (e03.trans e4) s4 ((r2.mono e3).mono e4) r4) fun v5 H5 q => res_bind q fun F5 d5 w5 e5 s5 r5 q5 => by
              obtain ⟨t', h1', h2', h3'⟩ := asB_rep r5 q5
              exact ⟨t', h1', F5, w5, (((e1.trans e2).trans e3).trans e4).trans e5, s5, h3'⟩
        | false =>
          rw [if_neg Bool.false_ne_true] at h3 ⊢
          exact ⟨false, rfl, F3, w3, (e1.trans e2).trans e3, s3, h3⟩)
theorem ve_un {a : Expr} {op : UnaryOp} {pos : Pos} (h : VE c a Γ w fun x w1 => VU c (unaryOp op) x w1 P) : VE c (.UnaryOp op a pos) Γ w P := fun F H σ e0 s l =>
  w_pe (pe_un ur_w pe_w) (wE_mono (h F H σ e0 s l) fun v H1 r => res_bind r fun F1 x w1 e1 s1 r1 q1 =>
    fun pins s' σ' u I rx => thn (q1 F1 H1 v (e0.trans e1) s1 r1 pins s' σ' u I rx) fun _ _ q => EP_mono (fun _ _ q => q.mono e1 fun _ _ z => z) q)
theorem ve_not {a : Expr} {pos : Pos} (h : VE c a Γ w fun x w1 => asB x fun t => P (.bl (!t)) w1) : VE c (.UnaryOp .Not a pos) Γ w P := fun F H σ e0 s l =>
  w_pe (pe_not pe_w) (wE_mono (h F H σ e0 s l) fun v H1 r => res_bind r fun F1 x w1 e1 s1 r1 q1 => by
    obtain ⟨t, h1, h2, h3⟩ := asB_rep r1 q1
    exact ⟨t, h1, F1, .bl (!t), w1, e1, s1, .bl _, h3⟩)
theorem vt_not {a : Expr} {pos : Pos} (h : VT c a Γ w fun t w1 => PB (!t) w1) : VT c (.UnaryOp .Not a pos) Γ w PB := fun F H σ e0 s l =>
  w_pt (pt_not pt_w) (wT_mono (h F H σ e0 s l) fun _ _ ⟨F', w', e', s', q⟩ => ⟨F', w', e', s', q⟩)
theorem ve_and {a e : Expr} {rest : List Expr} {pos : Pos} (h : VE c a Γ w fun x w1 => asB x fun t => if t = true then VE c (.BoolOp .And (e :: rest) pos) Γ w1 P else P (.bl false) w1) : VE c (.BoolOp .And (a :: e :: rest) pos) Γ w P := fun F H σ e0 s l =>
  w_pe (pe_and pe_w pe_w) (wE_mono (h F H σ e0 s l) fun v H1 r => res_bind r fun F1 x w1 e1 s1 r1 q1 => by
    obtain ⟨t, h1, h2, h3⟩ := asB_rep r1 q1
    refine ⟨t, h1, ?_⟩
    cases t with
    | true => rw [if_pos rfl] at h3 ⊢; exact wE_mono (h3 F1 H1 σ (e0.trans e1) s1 (l.mono e1)) fun _ _ q => q.mono e1 fun _ _ z => z
    | false => rw [if_neg Bool.false_ne_true] at h3 ⊢; exact ⟨F1, .bl false, w1, e1, s1, .bl _, h3⟩)
theorem ve_or {a e : Expr} {rest : List Expr} {pos : Pos} (h : VE c a Γ w fun x w1 => asB x fun t => if t = true then P (.bl true) w1 else VE c (.BoolOp .Or (e :: rest) pos) Γ w1 P) : VE c (.BoolOp .Or (a :: e :: rest) pos) Γ w P := fun F H σ e0 s l =>
  w_pe (pe_or pe_w pe_w) (wE_mono (h F H σ e0 s l) fun v H1 r => res_bind r fun F1 x w1 e1 s1 r1 q1 => by
    obtain ⟨t, h1, h2, h3⟩ := asB_rep r1 q1
    refine ⟨t, h1, ?_⟩
    cases t with
    | false => rw [if_neg Bool.false_ne_true] at h3 ⊢; exact wE_mono (h3 F1 H1 σ (e0.trans e1) s1 (l.mono e1)) fun _ _ q => q.mono e1 fun _ _ z => z
    | true => rw [if_pos rfl] at h3 ⊢; exact ⟨F1, .bl true, w1, e1, s1, .bl _, h3⟩)
theorem ve_one {a : Expr} {op : BoolOp} {pos : Pos} (h : VE c a Γ w P) : VE c (.BoolOp op [a] pos) Γ w P := fun F H σ e0 s l => w_pe (pe_one pe_w) (h F H σ e0 s l)
theorem vt_w {a : Expr} (h : VW c a Γ w PB) : VT c a Γ w PB := fun F H σ e0 s l => w_pt pw_w.pt (h F H σ e0 s l)
theorem vw_and1 {a : Expr} {pos : Pos} (h : VT c a Γ w PB) : VW c (.BoolOp .And [a] pos) Γ w PB := fun F H σ e0 s l => w_pw (pw_and1 pt_w) (h F H σ e0 s l)
theorem vw_or1 {a : Expr} {pos : Pos} (h : VT c a Γ w PB) : VW c (.BoolOp .Or [a] pos) Γ w PB := fun F H σ e0 s l => w_pw (pw_or1 pt_w) (h F H σ e0 s l)
theorem vw_and {a e : Expr} {rest : List Expr} {pos : Pos} (h : VT c a Γ w fun t w1 => if t = true then VW c (.BoolOp .And (e :: rest) pos) Γ w1 PB else PB false w1) : VW c (.BoolOp .And (a :: e :: rest) pos) Γ w PB := fun F H σ e0 s l =>
  w_pw (pw_and pt_w pw_w) (wT_mono (h F H σ e0 s l) fun t H1 ⟨F1, w1, e1, s1, q1⟩ => by
    cases t with
    | true => rw [if_pos rfl] at q1 ⊢; exact wW_mono (q1 F1 H1 σ (e0.trans e1) s1 (l.mono e1)) fun _ _ q => q.mono e1 fun _ _ z => z
    | false => rw [if_neg Bool.false_ne_true] at q1 ⊢; exact ⟨F1, w1, e1, s1, q1⟩)
theorem vw_or {a e : Expr} {rest : List Expr} {pos : Pos} (h : VT c a Γ w fun t w1 => if t = true then PB true w1 else VW c (.BoolOp .Or (e :: rest) pos) Γ w1 PB) : VW c (.BoolOp .Or (a :: e :: rest) pos) Γ w PB := fun F H σ e0 s l =>
  w_pw (pw_or pt_w pw_w) (wT_mono (h F H σ e0 s l) fun t H1 ⟨F1, w1, e1, s1, q1⟩ => by
    cases t with
    | false => rw [if_neg Bool.false_ne_true] at q1 ⊢; exact wW_mono (q1 F1 H1 σ (e0.trans e1) s1 (l.mono e1)) fun _ _ q => q.mono e1 fun _ _ z => z
    | true => rw [if_pos rfl] at q1 ⊢; exact ⟨F1, w1, e1, s1, q1⟩)
theorem ve_if {t a e : Expr} {pos : Pos} (h : VT c t Γ w fun z w1 => if z = true then VE c a Γ w1 P else VE c e Γ w1 P) : VE c (.IfExp t a e pos) Γ w P := fun F H σ e0 s l =>
  w_pe (pe_ifExp pt_w pe_w pe_w) (wT_mono (h F H σ e0 s l) fun z H1 ⟨F1, w1, e1, s1, q1⟩ => by
    cases z with
    | true => rw [if_pos rfl] at q1 ⊢; exact wE_mono (q1 F1 H1 σ (e0.trans e1) s1 (l.mono e1)) fun _ _ q => q.mono e1 fun _ _ z => z
    | false => rw [if_neg Bool.false_ne_true] at q1 ⊢; exact wE_mono (q1 F1 H1 σ (e0.trans e1) s1 (l.mono e1)) fun _ _ q => q.mono e1 fun _ _ z => z)
/-- a test by a value's truth -/
def TruD (x : D) (w : W) (t : Bool) : Prop := match x with
  | .non => t = false
  | .bl b => t = b
  | .int i => t = (i != 0)
  | .str y => y.length ≤ sizeLine ∧ t = ((y.length : Int) != 0)
  | .tup ds => t = !ds.isEmpty
  | .lst ds => t = !ds.isEmpty
  | .scr ds => t = !ds.isEmpty
  | .obj a => match w a with | some (.lst ds) => t = !ds.isEmpty | some (.dK kvs) => t = !kvs.isEmpty | _ => False
  | _ => False
theorem reps_empty {K : PySem.W.Frag} {F : Hp} {vs : List V} {ds : List D} (r : Reps K F vs ds) : vs.isEmpty = ds.isEmpty := by cases r <;> rfl
theorem TruD.ok {K : PySem.W.Frag} {F H : Hp} {v : V} {x : D} {t : Bool} (s : SW K F H w) (r : Rep K F v x) (h : TruD x w t) : TruV K v H t := by
  cases r with
  | non => exact h
  | bl b => exact h
  | int i => exact h
  | str y => exact h
  | ty n => exact h.elim
  | tup hq rs => exact .inr (.inl ⟨_, Ex.sqT s.ex hq, by rw [reps_empty rs]; exact h⟩)
  | lst hq rs => exact .inl ⟨_, .inl (.inl (s.ex _ _ hq)), by rw [reps_empty rs]; exact h⟩
  | scr hq => exact .inl ⟨_, Same.seq s.ex hq, by rw [List.isEmpty_map]; exact h⟩
  | ins _ _ => exact h.elim
  | obj a =>
    unfold TruD at h
    simp only at h
    cases e : w a with
    | none => rw [e] at h; exact h.elim
    | some m =>
      rw [e] at h
      cases m with
      | lst ds => obtain ⟨vs, h1, r⟩ := (s.mo a _ e).2; exact .inl ⟨vs, .inl (.inl h1), by rw [reps_empty r]; exact h⟩
      | dK kvs => obtain ⟨vs, h1, r⟩ := (s.mo a _ e).2; exact .inr (.inr ⟨vs, h1, by cases r <;> exact h⟩)
      | ins C fs => exact h.elim
      | dT kvs => exact h.elim
theorem vt_tru {a : Expr} (h : VE c a Γ w fun x w1 => ∃ t, TruD x w1 t ∧ PB t w1) (he : ∀ whole, isTrue a c.X.env whole = (do let v ← whole; standAt a.pos; holding [v] (truthy v)) := by intro _; rfl) : VT c a Γ w PB := fun F H σ e0 s l =>
  w_pt (pt_truth pe_w he) (wE_mono (h F H σ e0 s l) fun v H1 r => res_bind r fun F1 x w1 e1 s1 r1 q1 => by
    obtain ⟨t, h1, h2⟩ := q1
    exact ⟨t, h1.ok s1 r1, F1, w1, e1, s1, h2⟩)
/-- .. that is True or False -/
theorem vt_val {a : Expr} (h : VE c a Γ w fun x w1 => asB x fun t => PB t w1) (he : ∀ whole, isTrue a c.X.env whole = (do let v ← whole; standAt a.pos; holding [v] (truthy v)) := by intro _; rfl) : VT c a Γ w PB := fun F H σ e0 s l =>
  w_pt (pt_val pe_w he) (wE_mono (h F H σ e0 s l) fun v H1 r => res_bind r fun F1 x w1 e1 s1 r1 q1 => by
    obtain ⟨t, h1, h2, h3⟩ := asB_rep r1 q1
    exact ⟨t, h1, F1, w1, e1, s1, h3⟩)
theorem va_nil {PA' : List D → W → Prop} (h : PA' [] w) : VA c [] Γ w PA' := fun F H σ e0 s l => w_pa pa_nil ⟨F, [], w, Same.refl F, s, .nil, h⟩
theorem va_cons {e : Expr} {es : List Expr} {PA' : List D → W → Prop} (h : VE c e Γ w fun x w1 => VA c es Γ w1 fun xs w2 => PA' (x :: xs) w2) (hs : starEach (e :: es) c.X.env = (false, eval e c.X.env) :: starEach es c.X.env := by rfl) : VA c (e :: es) Γ w PA' := fun F H σ e0 s l =>
  w_pa (pa_cons pe_w pa_w hs) (wE_mono (h F H σ e0 s l) fun v H1 r => res_bind r fun F1 x w1 e1 s1 r1 q1 =>
    wA_mono (q1 F1 H1 σ (e0.trans e1) s1 (l.mono e1)) fun vs H2 ⟨F2, ds, w2, e2, s2, r2, q2⟩ => ⟨F2, x :: ds, w2, e1.trans e2, s2, .cons (r1.mono e2) r2, q2⟩)
theorem ve_tup {es : List Expr} {x1 : Nat} {pos : Pos} (h : VA c es Γ w fun ds w1 => ds.length ≤ sizeLine ∧ P (.tup ds) w1) (hu : PE c.X (.Tuple es x1 pos) (tTup (wA c.X es)) := by exact pe_tup pa_w) : VE c (.Tuple es x1 pos) Γ w P := fun F H σ e0 s l =>
  w_pe hu (wA_mono (h F H σ e0 s l) fun vs H1 ⟨F1, ds, w1, e1, s1, r1, q1, q2⟩ => ⟨by rw [r1.len]; exact q1, fun p hp =>
    ⟨upd F1 p (.tup vs), .tup ds, w1, e1.trans (Ex.new (s1.fnone hp)), s1.new hp, .tup (.inl (.inl upd_same)) (r1.mono (Ex.new (s1.fnone hp))), q2⟩⟩)
/-- a new list that is never changed | a mutable one -/
theorem ve_lst {es : List Expr} {pos : Pos} (h : VA c es Γ w fun ds w1 => ds.length ≤ sizeLine ∧ P (.lst ds) w1) : VE c (.List es pos) Γ w P := fun F H σ e0 s l =>
  w_pe (pe_lst pa_w) (wA_mono (h F H σ e0 s l) fun vs H1 ⟨F1, ds, w1, e1, s1, r1, q1, q2⟩ => ⟨by rw [r1.len]; exact q1, fun p hp =>
    ⟨upd F1 p (.lst vs), .lst ds, w1, e1.trans (Ex.new (s1.fnone hp)), s1.new hp, .lst upd_same (r1.mono (Ex.new (s1.fnone hp))), q2⟩⟩)
theorem ve_lstM {es : List Expr} {pos : Pos} (h : VA c es Γ w fun ds w1 => ds.length ≤ sizeLine ∧ ∀ a, w1 a = none → P (.obj a) (w1.up a (.lst ds))) : VE c (.List es pos) Γ w P := fun F H σ e0 s l =>
  w_pe (pe_lst pa_w) (wA_mono (h F H σ e0 s l) fun vs H1 ⟨F1, ds, w1, e1, s1, r1, q1, q2⟩ => ⟨by rw [r1.len]; exact q1, fun p hp =>
    ⟨F1, .obj p, w1.up p (.lst ds), e1, s1.newM hp ⟨vs, upd_same, r1⟩, .obj p, q2 p (s1.wnone hp)⟩⟩)
theorem ve_ix {a i : Expr} {pos : Pos} (h : VE c a Γ w fun x w1 => VE c i Γ w1 fun y w2 => VX c x y w2 P) (hs : PlainIx i := by exact fun _ _ => rfl) : VE c (.Subscript a i pos) Γ w P := fun F H σ e0 s l =>
  w_pe (pe_ix ix_w pe_w pe_w hs) (wE_mono (h F H σ e0 s l) fun v H1 r => res_bind r fun F1 x w1 e1 s1 r1 q1 =>
    wE_mono (q1 F1 H1 σ (e0.trans e1) s1 (l.mono e1)) fun u H2 r => res_bind r fun F2 y w2 e2 s2 r2 q2 =>
      fun value slice pins s' σ' v' u' I rx ry hq => thn (q2 F2 H2 v u ((e0.trans e1).trans e2) s2 (r1.mono e2) r2 value slice pins s' σ' v' u' I rx ry hq) fun _ _ q => EP_mono (fun _ _ q => q.mono (e1.trans e2) fun _ _ z => z) q)
/-- a builtin function | a builtin class, called -/
theorem ve_callB {x : Str} {id : String} {p pos : Pos} {e : Expr} {es : List Expr} (hg : sc.names.lookup x = some .globalImplicit) (hm : E.mg x = none) (hv : bootBuiltins x = some (.builtin id)) (h : VA c (e :: es) Γ w fun ds w1 => VCl c (.builtin id) ds w1 P)
    (hn : x ≠ "__name__" := by decide) (hdb : (x == ("__debug__" : Str)) = false := by decide) (he : starEach (e :: es) c.X.env = (false, eval e c.X.env) :: starEach es c.X.env := by rfl) (hpl : (backTo pos (starEach es c.X.env)).any (·.1) = false := by rfl) :
    VE c (.Call (.Name x p) (e :: es) [] pos) Γ w P := fun F H σ e0 s l =>
  w_pe (pe_callB cr_w (by show c.X.env.scope.names.lookup x = _; rw [c.hsc]; exact hg) (by rw [c.hmg]; exact hm) hv pa_w hn hdb he hpl) (wA_mono (h F H σ e0 s l) fun vs H1 ⟨F1, ds, w1, e1, s1, r1, q1⟩ =>
    fun pins s' σ' us I rx => thn (q1 F1 H1 vs (e0.trans e1) s1 r1 pins s' σ' us I rx) fun _ _ q => EP_mono (fun _ _ q => q.mono e1 fun _ _ z => z) q)
theorem ve_callTy {x : Str} {T : String} {p pos : Pos} {e : Expr} {es : List Expr} (hg : sc.names.lookup x = some .globalImplicit) (hm : E.mg x = none) (hv : bootBuiltins x = some (.type T)) (h : VA c (e :: es) Γ w fun ds w1 => VCl c (.type T) ds w1 P)
    (hn : x ≠ "__name__" := by decide) (hdb : (x == ("__debug__" : Str)) = false := by decide) (he : starEach (e :: es) c.X.env = (false, eval e c.X.env) :: starEach es c.X.env := by rfl) (hpl : (backTo pos (starEach es c.X.env)).any (·.1) = false := by rfl) :
    VE c (.Call (.Name x p) (e :: es) [] pos) Γ w P := fun F H σ e0 s l =>
  w_pe (pe_callTy cr_w (by show c.X.env.scope.names.lookup x = _; rw [c.hsc]; exact hg) (by rw [c.hmg]; exact hm) hv pa_w hn hdb he hpl) (wA_mono (h F H σ e0 s l) fun vs H1 ⟨F1, ds, w1, e1, s1, r1, q1⟩ =>
    fun pins s' σ' us I rx => thn (q1 F1 H1 vs (e0.trans e1) s1 r1 pins s' σ' us I rx) fun _ _ q => EP_mono (fun _ _ q => q.mono e1 fun _ _ z => z) q)
end
end VL

end

section
set_option maxRecDepth 100000
set_option maxHeartbeats 4000000
namespace VL
open PySem PySem.Spec PyProof.Rows L2

section
variable {E : EnvR} {N : List Str} {sc : Scope} {k : Nat} {b : Md} {c : VC E N sc k b} {Γ : G} {w : W} {P : D → W → Prop}
theorem res_val {K : PySem.W.Frag} {F H : Hp} {v : V} {d : D} (s : SW K F H w) (r : Rep K F v d) (h : P d w) : Res K F P v H := ⟨F, d, w, Same.refl F, s, r, h⟩
/-- a new frozen object as the value -/
theorem res_new {K : PySem.W.Frag} {F H : Hp} {p : Addr} {o : HO} {d : D} (s : SW K F H w) (hp : H p = none) (r : Rep K (upd F p o) (.ref p) d) (h : P d w) : Res K F P (.ref p) (upd H p o) :=
  ⟨upd F p o, d, w, Ex.new (s.fnone hp), s.new hp, r, h⟩
/-- a new list, frozen or mutable -/
theorem res_lst {K : PySem.W.Frag} {F H : Hp} {p : Addr} {vs : List V} {ds : List D} (s : SW K F H w) (hp : H p = none) (r : Reps K F vs ds) (h : P (.lst ds) w) : Res K F P (.ref p) (upd H p (.lst vs)) :=
  res_new s hp (.lst upd_same (r.mono (Ex.new (s.fnone hp)))) h
theorem res_lstM {K : PySem.W.Frag} {F H : Hp} {p : Addr} {vs : List V} {ds : List D} (s : SW K F H w) (hp : H p = none) (r : Reps K F vs ds) (h : ∀ a, w a = none → P (.obj a) (w.up a (.lst ds))) : Res K F P (.ref p) (upd H p (.lst vs)) :=
  ⟨F, .obj p, w.up p (.lst ds), Same.refl F, s.newM hp ⟨vs, upd_same, r⟩, .obj p, h p (s.wnone hp)⟩
theorem res_tup {K : PySem.W.Frag} {F H : Hp} {p : Addr} {vs : List V} {ds : List D} (s : SW K F H w) (hp : H p = none) (r : Reps K F vs ds) (h : P (.tup ds) w) : Res K F P (.ref p) (upd H p (.tup vs)) :=
  res_new s hp (.tup (.inl (.inl upd_same)) (r.mono (Ex.new (s.fnone hp)))) h

theorem vo_of {f : Value → Value → Sem Value} {r : R2} {x y : D} (o : OpR c.X f r)
    (h : ∀ (F H : Hp) (vx vy : V), SW c.X.K F H w → Rep c.X.K F vx x → Rep c.X.K F vy y → r vx vy H (Res c.X.K F P)) : VO c f x y w P := fun F H vx vy _ s rx ry => w_or o (h F H vx vy s rx ry)
theorem vu_of {f : Value → Sem Value} {r : V → Hp → VK → Prop} {x : D} (o : UnR c.X f r) (h : ∀ (F H : Hp) (vx : V), SW c.X.K F H w → Rep c.X.K F vx x → r vx H (Res c.X.K F P)) : VU c f x w P := fun F H vx _ s rx => w_ur o (h F H vx s rx)
theorem vcl_of {f : Value} {r : List V → Hp → VK → Prop} {ds : List D} (o : CallR c.X f r) (h : ∀ (F H : Hp) (vs : List V), SW c.X.K F H w → Reps c.X.K F vs ds → r vs H (Res c.X.K F P)) : VCl c f ds w P := fun F H vs _ s rs => w_cr o (h F H vs s rs)
theorem vx_of {r : R2} {x y : D} (o : IxR c.X r) (h : ∀ (F H : Hp) (vx vy : V), SW c.X.K F H w → Rep c.X.K F vx x → Rep c.X.K F vy y → r vx vy H (Res c.X.K F P)) : VX c x y w P := fun F H vx vy _ s rx ry => w_ix o (h F H vx vy s rx ry)

section
variable {i j : Int}
theorem vo_I0 {f : Value → Value → Sem Value} {g : Int → Int → V} {d : D} (o : OpR c.X f (rI0 g)) (r : ∀ F, Rep c.X.K F (g i j) d) (h : P d w) : VO c f (.int i) (.int j) w P :=
  vo_of o fun F H vx vy s rx ry => ⟨i, j, rx.int_inv, ry.int_inv, res_val s (r F) h⟩
theorem vo_I {f : Value → Value → Sem Value} {C : Int → Int → Prop} {g : Int → Int → V} {d : D} (o : OpR c.X f (rI C g)) (r : ∀ F, Rep c.X.K F (g i j) d) (hc : C i j) (h : P d w) : VO c f (.int i) (.int j) w P :=
  vo_of o fun F H vx vy s rx ry => ⟨i, j, rx.int_inv, ry.int_inv, hc, res_val s (r F) h⟩
theorem vo_add (h : P (.int (i + j)) w) : VO c (binaryOp .Add) (.int i) (.int j) w P := vo_I0 op_add (fun _ => .int _) h
theorem vo_sub (h : P (.int (i - j)) w) : VO c (binaryOp .Sub) (.int i) (.int j) w P := vo_I0 op_sub (fun _ => .int _) h
theorem vo_mul (hc : CMul i j) (h : P (.int (i * j)) w) : VO c (binaryOp .Mult) (.int i) (.int j) w P := vo_I op_mul (fun _ => .int _) hc h
theorem vo_mulW (hc : CMulW i j) (h : P (.int (i * j)) w) : VO c (binaryOp .Mult) (.int i) (.int j) w P := vo_I op_mulW (fun _ => .int _) hc h
theorem vo_fdiv (hc : CDiv i j) (h : P (.int (i / j)) w) : VO c (binaryOp .FloorDiv) (.int i) (.int j) w P := vo_I op_fdiv (fun _ => .int _) hc h
theorem vo_fdivW (hc : CDivW i j) (h : P (.int (i / j)) w) : VO c (binaryOp .FloorDiv) (.int i) (.int j) w P := vo_I op_fdivW (fun _ => .int _) hc h
theorem vo_mod (hc : 0 < j) (h : P (.int (i % j)) w) : VO c (binaryOp .Mod) (.int i) (.int j) w P := vo_I op_mod (fun _ => .int _) hc h
theorem vo_pow (hc : CPow i j) (h : P (.int (i ^ j.toNat)) w) : VO c (binaryOp .Pow) (.int i) (.int j) w P := vo_I op_pow (fun _ => .int _) hc h
theorem vo_shl (hc : CPow i j) (h : P (.int (i * 2 ^ j.toNat)) w) : VO c (binaryOp .LShift) (.int i) (.int j) w P := vo_I op_shl (fun _ => .int _) hc h
theorem vo_shlW (hc : CShl i j) (h : P (.int (i * 2 ^ j.toNat)) w) : VO c (binaryOp .LShift) (.int i) (.int j) w P := vo_I op_shlW (fun _ => .int _) hc h
theorem vo_shr (hc : 0 ≤ j) (h : P (.int (i / 2 ^ j.toNat)) w) : VO c (binaryOp .RShift) (.int i) (.int j) w P := vo_I op_shr (fun _ => .int _) hc h
theorem vo_lt (h : P (.bl (decide (i < j))) w) : VO c (compareOp .Lt) (.int i) (.int j) w P := vo_I0 op_lt (fun _ => .bl _) h
theorem vo_le (h : P (.bl (decide (i ≤ j))) w) : VO c (compareOp .LtE) (.int i) (.int j) w P := vo_I0 op_le (fun _ => .bl _) h
theorem vo_gt (h : P (.bl (decide (j < i))) w) : VO c (compareOp .Gt) (.int i) (.int j) w P := vo_I0 op_gt (fun _ => .bl _) h
theorem vo_ge (h : P (.bl (decide (j ≤ i))) w) : VO c (compareOp .GtE) (.int i) (.int j) w P := vo_I0 op_ge (fun _ => .bl _) h
theorem vo_eq (h : P (.bl (decide (i = j))) w) : VO c (compareOp .Eq) (.int i) (.int j) w P := vo_of op_eq fun F H vx vy s rx ry => by
  rw [rx.int_inv, ry.int_inv]
  refine ⟨rfl, ?_⟩
  have e : decide (V.int i = V.int j) = decide (i = j) := by rw [Bool.eq_iff_iff]; simp
  rw [e]; exact res_val s (.bl _) h
theorem vo_ne (h : P (.bl (!decide (i = j))) w) : VO c (compareOp .NotEq) (.int i) (.int j) w P := vo_of op_ne fun F H vx vy s rx ry => by
  rw [rx.int_inv, ry.int_inv]
  refine ⟨rfl, ?_⟩
  have e : decide (V.int i = V.int j) = decide (i = j) := by rw [Bool.eq_iff_iff]; simp
  rw [e]; exact res_val s (.bl _) h
theorem vu_neg (h : P (.int (-i)) w) : VU c (unaryOp .USub) (.int i) w P := vu_of un_neg fun F H vx s rx => ⟨i, rx.int_inv, res_val s (.int _) h⟩
end
section
variable {i j : Str}
theorem vo_eqS (h : P (.bl (decide (i = j))) w) : VO c (compareOp .Eq) (.str i) (.str j) w P := vo_of op_eq fun F H vx vy s rx ry => by
  rw [rx.str_inv, ry.str_inv]
  refine ⟨rfl, ?_⟩
  have e : decide (V.str i = V.str j) = decide (i = j) := by rw [Bool.eq_iff_iff]; simp
  rw [e]; exact res_val s (.bl _) h
theorem vo_neS (h : P (.bl (!decide (i = j))) w) : VO c (compareOp .NotEq) (.str i) (.str j) w P := vo_of op_ne fun F H vx vy s rx ry => by
  rw [rx.str_inv, ry.str_inv]
  refine ⟨rfl, ?_⟩
  have e : decide (V.str i = V.str j) = decide (i = j) := by rw [Bool.eq_iff_iff]; simp
  rw [e]; exact res_val s (.bl _) h
theorem vo_addS (hz : i.length + j.length ≤ sizeLine) (h : P (.str (i ++ j)) w) : VO c (binaryOp .Add) (.str i) (.str j) w P :=
  vo_of op_add_str fun F H vx vy s rx ry => ⟨i, j, rx.str_inv, ry.str_inv, hz, res_val s (.str _) h⟩
end
theorem vo_eqB {i j : Bool} (h : P (.bl (decide (i = j))) w) : VO c (compareOp .Eq) (.bl i) (.bl j) w P := vo_of op_eq fun F H vx vy s rx ry => by
  rw [rx.bl_inv, ry.bl_inv]
  refine ⟨rfl, ?_⟩
  have e : decide (V.bl i = V.bl j) = decide (i = j) := by rw [Bool.eq_iff_iff]; simp
  rw [e]; exact res_val s (.bl _) h
/-- x is None -/
def noneD : D → Bool
  | .non => true
  | _ => false
theorem noneD_rep {K : PySem.W.Frag} {F : Hp} {v : V} {x : D} (r : Rep K F v x) : decide (v = .non) = noneD x := by cases r <;> rfl
theorem vo_is {x : D} (h : P (.bl (noneD x)) w) : VO c (compareOp .Is) x .non w P := vo_of op_isN fun F H vx vy s rx ry => ⟨ry.non_inv, by rw [noneD_rep rx]; exact res_val s (.bl _) h⟩
theorem vo_isnot {x : D} (h : P (.bl (!noneD x)) w) : VO c (compareOp .IsNot) x .non w P := vo_of op_notN fun F H vx vy s rx ry => ⟨ry.non_inv, by rw [noneD_rep rx]; exact res_val s (.bl _) h⟩
/-- list + list, a new one (frozen | mutable); list * int; tuple + tuple -/
theorem vo_cat {x y : D} {ds es : List D} (hx : lstD w x = some ds) (hy : lstD w y = some es) (hz : ds.length + es.length ≤ sizeLine) (h : P (.lst (ds ++ es)) w) : VO c (binaryOp .Add) x y w P := vo_of op_cat fun F H vx vy s rx ry => by
  obtain ⟨a, vs, e1, h1, r1⟩ := s.lst rx hx
  obtain ⟨b, us, e2, h2, r2⟩ := s.lst ry hy
  exact ⟨a, b, vs, us, e1, e2, h1, h2, by rw [r1.len, r2.len]; exact hz, fun p hp => res_lst s hp (r1.append r2) h⟩
theorem vo_catM {x y : D} {ds es : List D} (hx : lstD w x = some ds) (hy : lstD w y = some es) (hz : ds.length + es.length ≤ sizeLine) (h : ∀ a, w a = none → P (.obj a) (w.up a (.lst (ds ++ es)))) : VO c (binaryOp .Add) x y w P := vo_of op_cat fun F H vx vy s rx ry => by
  obtain ⟨a, vs, e1, h1, r1⟩ := s.lst rx hx
  obtain ⟨b, us, e2, h2, r2⟩ := s.lst ry hy
  exact ⟨a, b, vs, us, e1, e2, h1, h2, by rw [r1.len, r2.len]; exact hz, fun p hp => res_lstM s hp (r1.append r2) h⟩
theorem Reps.flat {K : PySem.W.Frag} {F : Hp} {vs : List V} {ds : List D} (r : Reps K F vs ds) : ∀ n : Nat, Reps K F (List.replicate n vs).flatten (List.replicate n ds).flatten
  | 0 => .nil
  | n + 1 => by rw [List.replicate_succ, List.replicate_succ, List.flatten_cons, List.flatten_cons]; exact r.append (r.flat n)
theorem vo_rep {x : D} {ds : List D} {n : Int} (hx : lstD w x = some ds) (h1 : -(2 ^ 63) ≤ n) (h2 : n < 2 ^ 63) (hz : ds.length * n.toNat ≤ sizeLine) (h : P (.lst (List.replicate n.toNat ds).flatten) w) : VO c (binaryOp .Mult) x (.int n) w P :=
  vo_of op_rep fun F H vx vy s rx ry => by
    obtain ⟨a, vs, e1, q1, r1⟩ := s.lst rx hx
    exact ⟨a, n, vs, e1, ry.int_inv, q1, h1, h2, by rw [r1.len]; exact hz, fun p hp => res_lst s hp (r1.flat _) h⟩
/-- membership among flat items -/
def flatD : D → Bool
  | .non => true
  | .bl _ => true
  | .int _ => true
  | .str _ => true
  | _ => false
def eqFD : D → D → Bool
  | .non, .non => true
  | .bl a, .bl b => a == b
  | .bl a, .int b => (if a then 1 else 0) == b
  | .int a, .bl b => a == (if b then 1 else 0)
  | .int a, .int b => a == b
  | .str a, .str b => a == b
  | _, _ => false
def inD (x : D) (ds : List D) : Bool := ds.any fun y => eqFD y x
theorem flatD_rep {K : PySem.W.Frag} {F : Hp} {v : V} {x : D} (r : Rep K F v x) : flatV v = flatD x ∨ flatD x = false := by cases r <;> first | exact .inl rfl | exact .inr rfl
theorem flatV_of {K : PySem.W.Frag} {F : Hp} {v : V} {x : D} (r : Rep K F v x) (h : flatD x = true) : flatV v = true := by cases r <;> first | rfl | cases h
theorem eqFD_rep {K : PySem.W.Frag} {F : Hp} {v u : V} {x y : D} (rx : Rep K F v x) (ry : Rep K F u y) (hx : flatD x = true) (hy : flatD y = true) : eqV u v = eqFD y x := by
  cases rx <;> first | (cases hx; done) | (cases ry <;> first | rfl | cases hy)
theorem flat_all {K : PySem.W.Frag} {F : Hp} : ∀ {vs : List V} {ds : List D}, Reps K F vs ds → ds.all flatD = true → vs.all flatV = true
  | _, _, .nil, _ => rfl
  | _, _, .cons h r, e => by
    rw [List.all_cons, Bool.and_eq_true] at e ⊢
    exact ⟨flatV_of h e.1, flat_all r e.2⟩
theorem inD_rep {K : PySem.W.Frag} {F : Hp} {v : V} {x : D} (rx : Rep K F v x) (hx : flatD x = true) : ∀ {vs : List V} {ds : List D}, Reps K F vs ds → ds.all flatD = true → inV v vs = inD x ds
  | _, _, .nil, _ => rfl
  | _, _, .cons h r, e => by
    rw [List.all_cons, Bool.and_eq_true] at e
    have ih := inD_rep rx hx r e.2
    unfold inV inD at ih ⊢
    rw [List.any_cons, List.any_cons, ih, eqFD_rep rx h hx e.1]
/-- the items of a list or a tuple -/
def itemsD (w : W) : D → Option (List D)
  | .tup ds => some ds
  | x => seqD w x
theorem items_rep {K : PySem.W.Frag} {F H : Hp} {v : V} {x : D} {ds : List D} (s : SW K F H w) (r : Rep K F v x) (h : itemsD w x = some ds) : ∃ a vs, v = .ref a ∧ (SqL K H a vs ∨ SqT K H a vs) ∧ Reps K F vs ds := by
  cases r with
  | tup q rs => cases h; exact ⟨_, _, rfl, .inr (Ex.sqT s.ex q), rs⟩
  | lst q rs => obtain ⟨a, vs, h1, h2, h3⟩ := s.seq (.lst q rs) h; exact ⟨a, vs, h1, .inl h2, h3⟩
  | scr q => obtain ⟨a, vs, h1, h2, h3⟩ := s.seq (.scr q) h; exact ⟨a, vs, h1, .inl h2, h3⟩
  | obj a => obtain ⟨a, vs, h1, h2, h3⟩ := s.seq (.obj a) h; exact ⟨a, vs, h1, .inl h2, h3⟩
  | _ => cases h
theorem vo_in {x y : D} {ds : List D} (hy : itemsD w y = some ds) (hx : flatD x = true) (hd : ds.all flatD = true) (h : P (.bl (inD x ds)) w) : VO c (compareOp .In) x y w P := vo_of op_in_seq fun F H vx vy s rx ry => by
  obtain ⟨a, vs, e1, h1, r1⟩ := items_rep s ry hy
  exact ⟨a, vs, e1, h1, flatV_of rx hx, flat_all r1 hd, by rw [inD_rep rx hx r1 hd]; exact res_val s (.bl _) h⟩
theorem vo_notin {x y : D} {ds : List D} (hy : itemsD w y = some ds) (hx : flatD x = true) (hd : ds.all flatD = true) (h : P (.bl (!inD x ds)) w) : VO c (compareOp .NotIn) x y w P := vo_of op_notIn_seq fun F H vx vy s rx ry => by
  obtain ⟨a, vs, e1, h1, r1⟩ := items_rep s ry hy
  exact ⟨a, vs, e1, h1, flatV_of rx hx, flat_all r1 hd, by rw [inD_rep rx hx r1 hd]; exact res_val s (.bl _) h⟩

/-! ### subscripts -/
theorem atI_reps {K : PySem.W.Frag} {F : Hp} {vs : List V} {ds : List D} {i : Int} {d : D} (r : Reps K F vs ds) (h : atI ds i = some d) : ∃ v, atI vs i = some v ∧ Rep K F v d := by
  unfold atI at h ⊢
  rw [r.len]
  cases e : ixN ds.length i with
  | none => rw [e] at h; cases h
  | some j =>
    rw [e] at h
    obtain ⟨v, h1, h2⟩ := r.get (i := j) (d := d) h
    exact ⟨v, h1, h2⟩
theorem vx_seq {x : D} {ds : List D} {i : Int} {d : D} (hx : seqD w x = some ds) (hi : atI ds i = some d) (h : P d w) : VX c x (.int i) w P := vx_of ix_list fun F H vx vy s rx ry => by
  obtain ⟨a, vs, e1, h1, r1⟩ := s.seq rx hx
  obtain ⟨v, h2, r2⟩ := atI_reps r1 hi
  exact ⟨a, vs, i, v, e1, ry.int_inv, h1, h2, res_val s r2 h⟩
theorem vx_tup {ds : List D} {i : Int} {d : D} (hi : atI ds i = some d) (h : P d w) : VX c (.tup ds) (.int i) w P := vx_of ix_tup fun F H vx vy s rx ry => by
  obtain ⟨a, vs, e1, h1, r1⟩ := rx.tup_inv
  obtain ⟨v, h2, r2⟩ := atI_reps r1 hi
  exact ⟨a, vs, i, v, e1, ry.int_inv, Ex.sqT s.ex h1, h2, res_val s r2 h⟩
theorem vx_str {x : Str} {i : Int} {n : Nat} (hz : x.length ≤ sizeLine) (hi : atI x.cps.toList i = some n) (h : P (.str ⟨#[n]⟩) w) : VX c (.str x) (.int i) w P := vx_of ix_str fun F H vx vy s rx ry =>
  ⟨x, i, n, rx.str_inv, ry.int_inv, hz, hi, res_val s (.str _) h⟩
/-! ### slices: a part left out, or an int -/
def VP (c : VC E N sc k b) (e : Option Expr) (Γ : G) (w : W) (Q : Option Int → W → Prop) : Prop := match e with
  | none => Q none w
  | some e => VE c e Γ w fun x w1 => match x with | .int i => Q (some i) w1 | _ => False
def cutD (ds : List D) (lo hi : Option Int) : List D := (ds.drop (HT.sIx ds.length 0 lo)).take (HT.sIx ds.length ds.length hi - HT.sIx ds.length 0 lo)
theorem cut_reps {K : PySem.W.Frag} {F : Hp} {vs : List V} {ds : List D} {lo hi : Option Int} (r : Reps K F vs ds) : Reps K F (cutV vs lo hi) (cutD ds lo hi) := by
  unfold cutV cutD; rw [r.len]; exact (r.drop _).take _
theorem vp_run {e : Option Expr} {Q : Option Int → W → Prop} (h : VP c e Γ w Q) {F H : Hp} {σ : L2.St} (e0 : Ex c.F0 F) (s : SW c.X.K F H w) (l : SL c.X.K F σ Γ) {R : Option Int → Hp → Prop}
    (q : ∀ o F1 H1 w1, Ex F F1 → SW c.X.K F1 H1 w1 → Q o w1 → R o H1) : ∃ t, PO c.X e t ∧ t σ H R := by
  cases e with
  | none => exact ⟨_, po_none, q none F H w (Same.refl F) s h⟩
  | some e =>
    refine ⟨_, po_some pe_w, ?_⟩
    refine wE_mono (h F H σ e0 s l) fun v H1 r => res_bind r fun F1 x w1 e1 s1 r1 q1 => ?_
    cases r1 with
    | int i => exact ⟨i, rfl, q _ _ _ _ e1 s1 q1⟩
    | _ => exact q1.elim
def wP (X : Cx) (e : Option Expr) : TO := fun σ H Q => ∀ (pins : List (Addr × Obj)) (s : Shared), Inv X pins σ H s → wpAny (model X.prog X.w) X.A (evalPart e X.env) (fun u s' => ∃ o H', Inv X pins σ H' s' ∧ IsPart u o ∧ Q o H') X.xe s
theorem po_w {X : Cx} {e : Option Expr} : PO X e (wP X e) := ⟨fun pins s σ H Q I h => h pins s I⟩
theorem vp_w {e : Option Expr} {Q : Option Int → W → Prop} (h : VP c e Γ w Q) {F H : Hp} {σ : L2.St} (e0 : Ex c.F0 F) (s : SW c.X.K F H w) (l : SL c.X.K F σ Γ) {R : Option Int → Hp → Prop}
    (q : ∀ o F1 H1 w1, Ex F F1 → SW c.X.K F1 H1 w1 → Q o w1 → R o H1) : wP c.X e σ H R := fun pins s' I => by
  obtain ⟨t, ht, hq⟩ := vp_run h e0 s l q
  exact ht.run pins s' σ H R I hq
/-- xs[lo:hi], a new list -/
theorem ve_slice {e : Expr} {lo hi : Option Expr} {p2 pos : Pos} (h : VE c e Γ w fun x w1 => VP c lo Γ w1 fun l w2 => VP c hi Γ w2 fun u w3 => ∃ ds, seqD w3 x = some ds ∧ P (.lst (cutD ds l u)) w3) : VE c (.Subscript e (.Slice lo hi none p2) pos) Γ w P := fun F H σ e0 s l =>
  w_pe (pe_slice sl_list pe_w po_w po_w) (wE_mono (h F H σ e0 s l) fun v H1 r => res_bind r fun F1 x w1 e1 s1 r1 q1 =>
    vp_w q1 (e0.trans e1) s1 (l.mono e1) fun lo' F2 H2 w2 e2 s2 q2 => vp_w q2 ((e0.trans e1).trans e2) s2 ((l.mono e1).mono e2) fun hi' F3 H3 w3 e3 s3 ⟨ds, q3, q4⟩ => by
      obtain ⟨a, vs, ea, ha, ra⟩ := s3.seq ((r1.mono e2).mono e3) q3
      exact ⟨a, vs, ea, ha, fun p hp => (res_lst s3 hp (cut_reps ra) q4).mono ((e1.trans e2).trans e3) fun _ _ z => z⟩)
theorem ve_sliceM {e : Expr} {lo hi : Option Expr} {p2 pos : Pos} (h : VE c e Γ w fun x w1 => VP c lo Γ w1 fun l w2 => VP c hi Γ w2 fun u w3 => ∃ ds, seqD w3 x = some ds ∧ ∀ a, w3 a = none → P (.obj a) (w3.up a (.lst (cutD ds l u)))) : VE c (.Subscript e (.Slice lo hi none p2) pos) Γ w P := fun F H σ e0 s l =>
  w_pe (pe_slice sl_list pe_w po_w po_w) (wE_mono (h F H σ e0 s l) fun v H1 r => res_bind r fun F1 x w1 e1 s1 r1 q1 =>
    vp_w q1 (e0.trans e1) s1 (l.mono e1) fun lo' F2 H2 w2 e2 s2 q2 => vp_w q2 ((e0.trans e1).trans e2) s2 ((l.mono e1).mono e2) fun hi' F3 H3 w3 e3 s3 ⟨ds, q3, q4⟩ => by
      obtain ⟨a, vs, ea, ha, ra⟩ := s3.seq ((r1.mono e2).mono e3) q3
      exact ⟨a, vs, ea, ha, fun p hp => (res_lstM s3 hp (cut_reps ra) q4).mono ((e1.trans e2).trans e3) fun _ _ z => z⟩)

/-! ### builtins called -/
theorem vcl_len {x : D} {ds : List D} (hx : itemsD w x = some ds) (h : P (.int ds.length) w) : VCl c (.builtin "len") [x] w P := vcl_of call_len_seq fun F H vs s rs => by
  obtain ⟨v, rfl, r⟩ := rs.one_inv
  obtain ⟨a, us, rfl, q, r2⟩ := items_rep s r hx
  exact ⟨a, us, rfl, q, by rw [r2.len]; exact res_val s (.int _) h⟩
theorem vcl_lenS {x : Str} (hz : x.length ≤ sizeLine) (h : P (.int x.length) w) : VCl c (.builtin "len") [.str x] w P := vcl_of call_len_str fun F H vs s rs => by
  obtain ⟨v, rfl, r⟩ := rs.one_inv
  exact ⟨x, by rw [r.str_inv], hz, res_val s (.int _) h⟩
theorem vcl_int {i : Int} (h : P (.int i) w) : VCl c (.type "int") [.int i] w P := vcl_of call_int1 fun F H vs s rs => by
  obtain ⟨v, rfl, r⟩ := rs.one_inv
  exact .inl ⟨i, by rw [r.int_inv], res_val s (.int _) h⟩
theorem vcl_intB {i : Bool} (h : P (.int (if i then 1 else 0)) w) : VCl c (.type "int") [.bl i] w P := vcl_of call_int1 fun F H vs s rs => by
  obtain ⟨v, rfl, r⟩ := rs.one_inv
  exact .inr ⟨i, by rw [r.bl_inv], res_val s (.int _) h⟩
theorem vcl_abs {i : Int} (h : P (.int (if i < 0 then -i else i)) w) : VCl c (.builtin "abs") [.int i] w P := vcl_of call_abs fun F H vs s rs => by
  obtain ⟨v, rfl, r⟩ := rs.one_inv
  exact ⟨i, by rw [r.int_inv], res_val s (.int _) h⟩
theorem vcl_max2 {i j : Int} (hb : b.calm = true) (h : P (.int (if j > i then j else i)) w) : VCl c (.builtin "max") [.int i, .int j] w P := vcl_of (call_max2 (by rw [c.calm]; exact hb)) fun F H vs s rs => by
  obtain ⟨v, u, rfl, r, r2⟩ := rs.two_inv
  exact ⟨i, j, by rw [r.int_inv, r2.int_inv], res_val s (.int _) h⟩
theorem vcl_min2 {i j : Int} (hb : b.calm = true) (h : P (.int (if j < i then j else i)) w) : VCl c (.builtin "min") [.int i, .int j] w P := vcl_of (call_min2 (by rw [c.calm]; exact hb)) fun F H vs s rs => by
  obtain ⟨v, u, rfl, r, r2⟩ := rs.two_inv
  exact ⟨i, j, by rw [r.int_inv, r2.int_inv], res_val s (.int _) h⟩
theorem vcl_max {x : D} {ns : List Int} (hb : b.calm = true) (hx : seqD w x = some (ns.map D.int)) (hz : 0 < ns.length) (h : ∀ m, m ∈ ns → (∀ y, y ∈ ns → y ≤ m) → P (.int m) w) : VCl c (.builtin "max") [x] w P := vcl_of (cr_max (by rw [c.calm]; exact hb)) fun F H vs s rs => by
  obtain ⟨v, rfl, r⟩ := rs.one_inv
  obtain ⟨a, us, rfl, q, r2⟩ := s.seq r hx
  rw [r2.of_ints] at q
  exact ⟨a, ns, rfl, q, hz, fun m h1 h2 => res_val s (.int _) (h m h1 h2)⟩
theorem vcl_min {x : D} {ns : List Int} (hb : b.calm = true) (hx : seqD w x = some (ns.map D.int)) (hz : 0 < ns.length) (h : ∀ m, m ∈ ns → (∀ y, y ∈ ns → m ≤ y) → P (.int m) w) : VCl c (.builtin "min") [x] w P := vcl_of (cr_min (by rw [c.calm]; exact hb)) fun F H vs s rs => by
  obtain ⟨v, rfl, r⟩ := rs.one_inv
  obtain ⟨a, us, rfl, q, r2⟩ := s.seq r hx
  rw [r2.of_ints] at q
  exact ⟨a, ns, rfl, q, hz, fun m h1 h2 => res_val s (.int _) (h m h1 h2)⟩
theorem vcl_sum {x : D} {ns : List Int} (hb : b.calm = true) (hx : seqD w x = some (ns.map D.int)) (h : P (.int ns.sum) w) : VCl c (.builtin "sum") [x] w P := vcl_of (cr_sum (by rw [c.calm]; exact hb)) fun F H vs s rs => by
  obtain ⟨v, rfl, r⟩ := rs.one_inv
  obtain ⟨a, us, rfl, q, r2⟩ := s.seq r hx
  rw [r2.of_ints] at q
  exact ⟨a, ns, rfl, q, res_val s (.int _) h⟩
theorem vcl_any {x : D} {bs : List Bool} (hb : b.calm = true) (hx : seqD w x = some (bs.map D.bl)) (h : P (.bl (bs.any id)) w) : VCl c (.builtin "any") [x] w P := vcl_of (cr_any (by rw [c.calm]; exact hb)) fun F H vs s rs => by
  obtain ⟨v, rfl, r⟩ := rs.one_inv
  obtain ⟨a, us, rfl, q, r2⟩ := s.seq r hx
  rw [r2.of_bls] at q
  exact ⟨a, bs, rfl, q, res_val s (.bl _) h⟩
theorem vcl_all {x : D} {bs : List Bool} (hb : b.calm = true) (hx : seqD w x = some (bs.map D.bl)) (h : P (.bl (bs.all id)) w) : VCl c (.builtin "all") [x] w P := vcl_of (cr_all (by rw [c.calm]; exact hb)) fun F H vs s rs => by
  obtain ⟨v, rfl, r⟩ := rs.one_inv
  obtain ⟨a, us, rfl, q, r2⟩ := s.seq r hx
  rw [r2.of_bls] at q
  exact ⟨a, bs, rfl, q, res_val s (.bl _) h⟩
theorem vcl_list {x : D} {ds : List D} (hx : itemsD w x = some ds) (h : P (.lst ds) w) : VCl c (.type "list") [x] w P := vcl_of call_list_of fun F H vs s rs => by
  obtain ⟨v, rfl, r⟩ := rs.one_inv
  obtain ⟨a, us, rfl, q, r2⟩ := items_rep s r hx
  exact ⟨a, us, rfl, q, fun l hl => res_lst s hl r2 h⟩
theorem vcl_listM {x : D} {ds : List D} (hx : itemsD w x = some ds) (h : ∀ a, w a = none → P (.obj a) (w.up a (.lst ds))) : VCl c (.type "list") [x] w P := vcl_of call_list_of fun F H vs s rs => by
  obtain ⟨v, rfl, r⟩ := rs.one_inv
  obtain ⟨a, us, rfl, q, r2⟩ := items_rep s r hx
  exact ⟨a, us, rfl, q, fun l hl => res_lstM s hl r2 h⟩
theorem vcl_tuple {x : D} {ds : List D} (hx : itemsD w x = some ds) (h : P (.tup ds) w) : VCl c (.type "tuple") [x] w P := vcl_of call_tuple_of fun F H vs s rs => by
  obtain ⟨v, rfl, r⟩ := rs.one_inv
  cases r with
  | tup q rs' => cases hx; exact ⟨_, _, rfl, .inr ⟨Ex.sqT s.ex q, res_val s (.tup q rs') h⟩⟩
  | lst q rs' =>
    obtain ⟨a, us, e, q, r2⟩ := s.seq (.lst q rs') hx
    exact ⟨a, us, by rw [e], .inl ⟨q, fun l hl => res_tup s hl r2 h⟩⟩
  | scr q =>
    obtain ⟨a, us, e, q, r2⟩ := s.seq (.scr q) hx
    exact ⟨a, us, by rw [e], .inl ⟨q, fun l hl => res_tup s hl r2 h⟩⟩
  | obj a =>
    obtain ⟨a, us, e, q, r2⟩ := s.seq (.obj a) hx
    exact ⟨a, us, by rw [e], .inl ⟨q, fun l hl => res_tup s hl r2 h⟩⟩
  | _ => cases hx
theorem vcl_strI {i : Int} (hz : i.natAbs.log2 < 1920) (h : P (.str (toString i)) w) : VCl c (.type "str") [.int i] w P := vcl_of call_str_int fun F H vs s rs => by
  obtain ⟨v, rfl, r⟩ := rs.one_inv
  exact ⟨i, by rw [r.int_inv], hz, res_val s (.str _) h⟩
end
end VL

end

section
set_option maxRecDepth 100000
set_option maxHeartbeats 4000000
namespace VL
open PySem PySem.Spec PyProof.Rows L2

/-! ### attributes -/
/-- the class and the attribute f of an instance, by value or by address -/
def fieldD (w : W) (x : D) (f : Str) (k : Addr → D → Prop) : Prop := match x with
  | .ins C fs => ∃ d, fs.lookup f = some d ∧ k C d
  | .obj a => ∃ C fs d, w a = some (.ins C fs) ∧ fs.lookup f = some d ∧ k C d
  | _ => False
/-- x is an instance of the class at C without an own attribute m -/
def InsD (w : W) (x : D) (C : Addr) (m : Str) : Prop := match x with
  | .ins C' fs => C' = C ∧ fs.lookup m = none
  | .obj a => ∃ fs, w a = some (.ins C fs) ∧ fs.lookup m = none
  | _ => False
theorem fieldD_rep {K : PySem.W.Frag} {F H : Hp} {w : W} {v : V} {x : D} {f : Str} {k : Addr → D → Prop} (s : SW K F H w) (r : Rep K F v x) (h : fieldD w x f k) :
    ∃ a C dx vs u d, v = .ref a ∧ H a = some (.ins C dx vs) ∧ vs.lookup f = some u ∧ Rep K F u d ∧ k C d := by
  cases r with
  | ins q rs =>
    obtain ⟨d, hl, hk⟩ := h
    obtain ⟨u, h1, h2⟩ := rs.look hl
    exact ⟨_, _, _, _, u, d, rfl, s.ex _ _ q, h1, h2, hk⟩
  | obj a =>
    obtain ⟨C, fs, d, hw, hl, hk⟩ := h
    obtain ⟨dx, vs, h1, rs⟩ := (s.mo a _ hw).2
    obtain ⟨u, h2, h3⟩ := rs.look hl
    exact ⟨a, C, dx, vs, u, d, rfl, h1, h2, h3, hk⟩
  | _ => exact h.elim
theorem insD_rep {K : PySem.W.Frag} {F H : Hp} {w : W} {v : V} {x : D} {C : Addr} {m : Str} (s : SW K F H w) (r : Rep K F v x) (h : InsD w x C m) :
    ∃ a dx vs, v = .ref a ∧ H a = some (.ins C dx vs) ∧ vs.lookup m = none := by
  cases r with
  | ins q rs =>
    obtain ⟨rfl, hl⟩ := h
    exact ⟨_, _, _, rfl, s.ex _ _ q, rs.look_none hl⟩
  | obj a =>
    obtain ⟨fs, hw, hl⟩ := h
    obtain ⟨dx, vs, h1, rs⟩ := (s.mo a _ hw).2
    exact ⟨a, dx, vs, rfl, h1, rs.look_none hl⟩
  | _ => exact h.elim

abbrev SpV := List D → W → (D → W → Prop) → (Addr → W → Prop) → Prop
/-- a promise at the level of data: from the arguments and the mutable objects; what is wanted of the value (P), what of an exception's class (R) -/
def spV (K : PySem.W.Frag) (S : SpV) : Sp := fun vs H Q E => ∃ (F : Hp) (ds : List D) (w : W) (P : D → W → Prop) (R : Addr → W → Prop), SW K F H w ∧ Reps K F vs ds ∧ S ds w P R ∧
  (∀ d w', P d w' → ∀ (v : V) (F' H' : Hp), Ex F F' → SW K F' H' w' → Rep K F' v d → Q v H') ∧ (∀ C w', R C w' → ∀ (F' H' : Hp), Ex F F' → SW K F' H' w' → E (.ref C) none H')

section
variable {E : EnvR} {N : List Str} {sc : Scope} {k : Nat} {b : Md} {c : VC E N sc k b} {Γ : G} {w : W} {P : D → W → Prop}

theorem ve_fld {o : Expr} {f : Str} {pos : Pos} (h : VE c o Γ w fun x w1 => fieldD w1 x f fun C d => Cls E.K C ∧ NoAttr E.K C f ∧ P d w1) (hb : attributeBase o f c.X.env (eval o c.X.env) = eval o c.X.env := by rfl) : VE c (.Attribute o f pos) Γ w P := fun F H σ e0 s l =>
  w_pe (pe_fld pe_w hb) (wE_mono (h F H σ e0 s l) fun v H1 r => res_bind r fun F1 x w1 e1 s1 r1 q1 => by
    obtain ⟨a, C, dx, vs, u, d, h1, h2, h3, h4, h5, h6, h7⟩ := fieldD_rep s1 r1 q1
    exact ⟨a, C, dx, vs, u, h1, h2, by rw [c.hK]; exact h5, by rw [c.hK]; exact h6, h3, F1, d, w1, e1, s1, h4, h7⟩)

/-! ### calls of defs of the text -/
/-- what a call of the def at f does, by values -/
def FnV (E : EnvR) (k : Nat) (f : Addr) (fd : FuncData) (ps : List Str) (S : SpV) : Prop := FnOk E.P E.w E.K E.mg E.base (L2.CX E.P E.w) k f fd ps (spV E.K S)
/-- from S at the values to the promise wanted by a rule of the hand layer -/
theorem sp_of {S : SpV} {F H : Hp} {vs : List V} {ds : List D} (e0 : Ex c.F0 F) (s : SW c.X.K F H w) (r : Reps c.X.K F vs ds) (h : S ds w P c.R) : spV c.X.K S vs H (Res c.X.K F P) (ER E.K c.F0 c.R) :=
  ⟨F, ds, w, P, c.R, s, r, h, fun d w' p v F' H' e s' r' => ⟨F', d, w', e, s', r', p⟩, fun C w' q F' H' e s' => ⟨C, F', w', rfl, rfl, e0.trans e, by rw [← c.hK]; exact s', q⟩⟩
theorem FnV.at (c : VC E N sc k b) {j : Nat} {f : Addr} {fd : FuncData} {ps : List Str} {S : SpV} (h : FnV E j f fd ps S) : FnOk c.X.prog c.X.w c.X.K c.X.mg c.X.base (L2.CX c.X.prog c.X.w) j f fd ps (spV c.X.K S) := by
  rw [c.hP, c.hw, c.hK, c.hmg, c.hbase]; exact h
theorem VC.gl (c : VC E N sc k b) {x : Str} (h : sc.names.lookup x = some .globalImplicit) : Gl c.X x := by show c.X.env.scope.names.lookup x = _; rw [c.hsc]; exact h

/-- the module's name x, called with n arguments -/
structure Callable (E : EnvR) (x : Str) (k n : Nat) (S : SpV) : Prop where
  run : ∀ {N : List Str} {sc : Scope} {k' : Nat} {b : Md} (c : VC E N sc k' b), b.calm = true → k ≤ k' → ∀ {e : Expr} {es : List Expr} {p pos : Pos} {Γ : G} {w : W} {P : D → W → Prop},
  sc.names.lookup x = some .globalImplicit → (e :: es).length = n → starEach (e :: es) c.X.env = (false, eval e c.X.env) :: starEach es c.X.env → (backTo pos (starEach es c.X.env)).any (·.1) = false →
  VA c (e :: es) Γ w (fun ds w1 => S ds w1 P c.R) → VE c (.Call (.Name x p) (e :: es) [] pos) Γ w P
structure Callable0 (E : EnvR) (x : Str) (k : Nat) (S : SpV) : Prop where
  run : ∀ {N : List Str} {sc : Scope} {k' : Nat} {b : Md} (c : VC E N sc k' b), b.calm = true → k ≤ k' → ∀ {p pos : Pos} {Γ : G} {w : W} {P : D → W → Prop},
  sc.names.lookup x = some .globalImplicit → S [] w P c.R → VE c (.Call (.Name x p) [] [] pos) Γ w P

theorem reps_app {K : PySem.W.Frag} {F : Hp} {vs us : List V} {ds es : List D} (r : Reps K F vs ds) (q : ∀ F, Reps K F us es) : Reps K F (vs ++ us) (ds ++ es) := r.append (q F)
/-- a def of the text; dds: the defaults that fill up -/
theorem callable_fn {x : Str} {j n : Nat} {f : Addr} {fd : FuncData} {ps : List Str} {S : SpV} {dus : List Value} {dvs : List V} {dds : List D} (h : FnV E j f fd ps S) (hm : E.mg x = some (.ref f)) (hk : PySem.W.keepIn E.K (.ref f) = true) (hb : Binds E.K fd ps dus)
    (hd : Vals dvs dus) (hr : ∀ F, Reps E.K F dvs dds) (hx : (x == ("__debug__" : Str)) = false) : Callable E x j n (fun ds w P R => S (ds ++ dds) w P R) := by
  constructor
  intro N sc k' b c hc hjk e es p pos Γ w P hg hn he hpl hA F H σ e0 s l
  refine w_pe (pe_call (h.at c) ((c.room hc).mono hjk) (c.gl hg) (by rw [c.hmg]; exact hm) (by rw [c.hK]; exact hk) (by rw [c.hK]; exact hb) hd c.pass pa_w hx he hpl) ?_
  refine wA_mono (hA F H σ e0 s l) fun vs H1 ⟨F1, ds, w1, e1, s1, r1, q1⟩ => ?_
  obtain ⟨F', ds', w', P', R', s', r', q', hP, hR⟩ := sp_of (c := c) (P := P) (S := S) (e0.trans e1) s1 (reps_app r1 fun F => by rw [c.hK]; exact hr F) q1
  exact ⟨F', ds', w', P', R', s', r', q', fun d w'' p v F2 H2 e2 s2 r2 => (hP d w'' p v F2 H2 e2 s2 r2).mono e1 fun _ _ z => z, hR⟩
theorem callable_fn0 {x : Str} {j : Nat} {f : Addr} {fd : FuncData} {ps : List Str} {S : SpV} {dus : List Value} {dvs : List V} {dds : List D} (h : FnV E j f fd ps S) (hm : E.mg x = some (.ref f)) (hk : PySem.W.keepIn E.K (.ref f) = true) (hb : Binds E.K fd ps dus)
    (hd : Vals dvs dus) (hr : ∀ F, Reps E.K F dvs dds) (hx : (x == ("__debug__" : Str)) = false) : Callable0 E x j (fun ds w P R => S (ds ++ dds) w P R) := by
  constructor
  intro N sc k' b c hc hjk p pos Γ w P hg hA F H σ e0 s l
  refine w_pe (pe_call0 (h.at c) ((c.room hc).mono hjk) (c.gl hg) (by rw [c.hmg]; exact hm) (by rw [c.hK]; exact hk) (by rw [c.hK]; exact hb) hd c.pass hx) ?_
  exact sp_of (c := c) (P := P) (S := S) e0 s (reps_app .nil fun F => by rw [c.hK]; exact hr F) hA
/-- a class of the text: a new instance (mutable), its __init__ -/
def mkSpec (C : Addr) (S : SpV) : SpV := fun ds w P R => ∀ x, w x = none → S (.obj x :: ds) (w.up x (.ins C [])) (fun d w' => d = .non ∧ P (.obj x) w') R
theorem made_rep {K : PySem.W.Frag} {F H : Hp} {w : W} {x dx C : Addr} (s : SW K F H w) (hx : H x = none) (hd : H dx = none) (ne : dx ≠ x) : SW K F (upd (upd H dx (.own x)) x (.ins C dx [])) (w.up x (.ins C [])) := by
  have h1 : (upd H dx (.own x)) x = none := by rw [upd_ne (Ne.symm ne)]; exact hx
  exact (s.newU hd).newM h1 ⟨dx, [], upd_same, .nil⟩
theorem callable_mk {x : Str} {j n : Nat} {C f : Addr} {fd : FuncData} {ps : List Str} {S : SpV} {dus : List Value} {dvs : List V} {dds : List D} (M : Mk E.K C f) (h : FnV E j f fd ps S) (hm : E.mg x = some (.ref C)) (hb : Binds E.K fd ps dus)
    (hd : Vals dvs dus) (hr : ∀ F, Reps E.K F dvs dds) (hx : (x == ("__debug__" : Str)) = false) : Callable E x (j + 1) n (fun ds w P R => mkSpec C S (ds ++ dds) w P R) := by
  constructor
  intro N sc k' b c hc hjk e es p pos Γ w P hg hn he hpl hA F H σ e0 s l
  refine w_pe (pe_make (by rw [c.hK]; exact M) (h.at c) ((c.room hc).mono hjk) (c.gl hg) (by rw [c.hmg]; exact hm) (by rw [c.hK]; exact hb) hd c.pass pa_w hx he hpl) ?_
  refine wA_mono (hA F H σ e0 s l) fun vs H1 ⟨F1, ds, w1, e1, s1, r1, q1⟩ => ?_
  intro a dx ha hdx hne
  obtain ⟨F', ds', w', P', R', s', r', q', hP, hR⟩ := sp_of (c := c) (P := fun d w' => d = .non ∧ P (.obj a) w') (S := S) (e0.trans e1) (made_rep s1 ha hdx hne) (.cons (.obj a) (reps_app r1 fun F => by rw [c.hK]; exact hr F)) (q1 a (s1.wnone ha))
  refine ⟨F', ds', w', P', R', s', r', q', fun d w'' p v F2 H2 e2 s2 r2 => ?_, hR⟩
  obtain ⟨F3, d3, w3, e3, s3, r3, hd3, p3⟩ := hP d w'' p v F2 H2 e2 s2 r2
  subst hd3
  exact ⟨r3.non_inv, F3, .obj a, w3, e1.trans e3, s3, .obj a, p3⟩
theorem callable_mk0 {x : Str} {j : Nat} {C f : Addr} {fd : FuncData} {ps : List Str} {S : SpV} {dus : List Value} {dvs : List V} {dds : List D} (M : Mk E.K C f) (h : FnV E j f fd ps S) (hm : E.mg x = some (.ref C)) (hb : Binds E.K fd ps dus)
    (hd : Vals dvs dus) (hr : ∀ F, Reps E.K F dvs dds) (hx : (x == ("__debug__" : Str)) = false) : Callable0 E x (j + 1) (fun ds w P R => mkSpec C S (ds ++ dds) w P R) := by
  constructor
  intro N sc k' b c hc hjk p pos Γ w P hg hA F H σ e0 s l
  refine w_pe (pe_make0 (by rw [c.hK]; exact M) (h.at c) ((c.room hc).mono hjk) (c.gl hg) (by rw [c.hmg]; exact hm) (by rw [c.hK]; exact hb) hd c.pass hx) ?_
  intro a dx ha hdx hne
  obtain ⟨F', ds', w', P', R', s', r', q', hP, hR⟩ := sp_of (c := c) (P := fun d w' => d = .non ∧ P (.obj a) w') (S := S) e0 (made_rep s ha hdx hne) (.cons (.obj a) (reps_app .nil fun F => by rw [c.hK]; exact hr F)) (hA a (s.wnone ha))
  refine ⟨F', ds', w', P', R', s', r', q', fun d w'' p v F2 H2 e2 s2 r2 => ?_, hR⟩
  obtain ⟨F3, d3, w3, e3, s3, r3, hd3, p3⟩ := hP d w'' p v F2 H2 e2 s2 r2
  subst hd3
  exact ⟨r3.non_inv, F3, .obj a, w3, e3, s3, .obj a, p3⟩

/-- a method m of the class at C -/
def MethV (E : EnvR) (C : Addr) (m : Str) (k : Nat) (S : SpV) : Prop := ∃ (f : Addr) (fd : FuncData) (ps : List Str) (dus : List Value) (dvs : List V) (dds : List D) (S0 : SpV), Cls E.K C ∧ Meth E.K C m f ∧ FnV E k f fd ps S0 ∧ Binds E.K fd ps dus ∧ Vals dvs dus ∧ (∀ F, Reps E.K F dvs dds) ∧
  ∀ ds w P R, S ds w P R → S0 (ds ++ dds) w P R
theorem ve_meth {C : Addr} {m : Str} {j : Nat} {S : SpV} {o e : Expr} {es : List Expr} {apos pos : Pos} {pl : Sem Bool} (M : MethV E C m j S) (hc : b.calm = true) (hj : j ≤ k)
    (h : VE c o Γ w fun x w1 => InsD w1 x C m ∧ VA c (e :: es) Γ w1 fun ds w2 => S (x :: ds) w2 P c.R)
    (hst : starEach (e :: es) c.X.env = (false, eval e c.X.env) :: starEach es c.X.env := by rfl) (hpl : (backTo pos (starEach es c.X.env)).any (·.1) = false := by rfl)
    (ht : eval (.Call (.Attribute o m apos) (e :: es) [] pos) c.X.env = (do
      let ov ← eval o c.X.env
      standAt apos.atName
      let (f, first) ← holding [ov] (getMethod ov m pl)
      callWith pos f first (backTo pos (starEach (e :: es) c.X.env)) (backToKw pos (keywordEach [] c.X.env))) := by rfl) : VE c (.Call (.Attribute o m apos) (e :: es) [] pos) Γ w P := fun F H σ e0 s l => by
  obtain ⟨f, fd, ps, dus, dvs, dds, S0, hC, hM, hF, hB, hd, hr, imp⟩ := M
  refine w_pe (pe_meth (pl := pl) pe_w (by rw [c.hK]; exact hC) (by rw [c.hK]; exact hM) (hF.at c) ((c.room hc).mono hj) (by rw [c.hK]; exact hB) hd c.pass pa_w hst hpl ht) ?_
  refine wE_mono (h F H σ e0 s l) fun v H1 r => res_bind r fun F1 x w1 e1 s1 r1 q1 => ?_
  obtain ⟨q1, q2⟩ := q1
  obtain ⟨a, dx, vs, rfl, h2, h3⟩ := insD_rep s1 r1 q1
  refine ⟨a, dx, vs, rfl, h2, h3, wA_mono (q2 F1 H1 σ (e0.trans e1) s1 (l.mono e1)) fun us H2 ⟨F2, ds, w2, e2, s2, r2, q3⟩ => ?_⟩
  obtain ⟨F', ds', w', P', R', s', r', q', hP, hR⟩ := sp_of (c := c) (P := P) (S := S0) ((e0.trans e1).trans e2) s2 (.cons (r1.mono e2) (reps_app r2 fun F => by rw [c.hK]; exact hr F)) (imp _ _ _ _ q3)
  exact ⟨F', ds', w', P', R', s', r', q', fun d w'' p v F2 H2 e3 s3 r3 => (hP d w'' p v F2 H2 e3 s3 r3).mono (e1.trans e2) fun _ _ z => z, hR⟩
theorem ve_meth0 {C : Addr} {m : Str} {j : Nat} {S : SpV} {o : Expr} {apos pos : Pos} {pl : Sem Bool} (M : MethV E C m j S) (hc : b.calm = true) (hj : j ≤ k)
    (h : VE c o Γ w fun x w1 => InsD w1 x C m ∧ S [x] w1 P c.R)
    (ht : eval (.Call (.Attribute o m apos) [] [] pos) c.X.env = (do
      let ov ← eval o c.X.env
      standAt apos.atName
      let (f, first) ← holding [ov] (getMethod ov m pl)
      callWith pos f first (backTo pos (starEach [] c.X.env)) (backToKw pos (keywordEach [] c.X.env))) := by rfl) : VE c (.Call (.Attribute o m apos) [] [] pos) Γ w P := fun F H σ e0 s l => by
  obtain ⟨f, fd, ps, dus, dvs, dds, S0, hC, hM, hF, hB, hd, hr, imp⟩ := M
  refine w_pe (pe_meth0 (pl := pl) pe_w (by rw [c.hK]; exact hC) (by rw [c.hK]; exact hM) (hF.at c) ((c.room hc).mono hj) (by rw [c.hK]; exact hB) hd c.pass ht) ?_
  refine wE_mono (h F H σ e0 s l) fun v H1 r => res_bind r fun F1 x w1 e1 s1 r1 q1 => ?_
  obtain ⟨q1, q2⟩ := q1
  obtain ⟨a, dx, vs, rfl, h2, h3⟩ := insD_rep s1 r1 q1
  refine ⟨a, dx, vs, rfl, h2, h3, ?_⟩
  obtain ⟨F', ds', w', P', R', s', r', q', hP, hR⟩ := sp_of (c := c) (P := P) (S := S0) (e0.trans e1) s1 (.cons r1 (reps_app .nil fun F => by rw [c.hK]; exact hr F)) (imp _ _ _ _ q2)
  exact ⟨F', ds', w', P', R', s', r', q', fun d w'' p v F2 H2 e3 s3 r3 => (hP d w'' p v F2 H2 e3 s3 r3).mono e1 fun _ _ z => z, hR⟩
/-- a property f of the class at C: its getter's promise at [x]; it lets no exception out -/
def PropV (E : EnvR) (C : Addr) (f : Str) (k : Nat) (S : SpV) : Prop := ∃ (p g : Addr) (fd : FuncData) (ps : List Str), Cls E.K C ∧ PropOf E.K C f p g ∧ FnV E k g fd ps S ∧ Binds E.K fd ps []
theorem ve_prop {C : Addr} {f : Str} {j : Nat} {S : SpV} {o : Expr} {pos : Pos} (M : PropV E C f j S) (hc : b.calm = true) (hj : j + 1 ≤ k)
    (h : VE c o Γ w fun x w1 => (∃ m, InsD w1 x C m) ∧ S [x] w1 P fun _ _ => False) (hab : attributeBase o f c.X.env (eval o c.X.env) = eval o c.X.env := by rfl) : VE c (.Attribute o f pos) Γ w P := fun F H σ e0 s l => by
  obtain ⟨p, g, fd, ps, hC, hP, hF, hB⟩ := M
  refine w_pe (pe_prop pe_w (by rw [c.hK]; exact hC) (by rw [c.hK]; exact hP) (hF.at c) ((c.room hc).mono hj) (by rw [c.hK]; exact hB) .nil passL hab) ?_
  refine wE_mono (h F H σ e0 s l) fun v H1 r => res_bind r fun F1 x w1 e1 s1 r1 q1 => ?_
  obtain ⟨⟨m, q1⟩, q2⟩ := q1
  obtain ⟨a, dx, vs, rfl, h2, h3⟩ := insD_rep s1 r1 q1
  exact ⟨a, dx, vs, rfl, h2, F1, [x], w1, P, fun _ _ => False, s1, .one r1, q2, fun d w' p v F' H' e s' r' => ⟨F', d, w', e1.trans e, s', r', p⟩, fun _ _ z => z.elim⟩

/-! ### operators of the text's own classes -/
theorem vo_own {op : Operator} {C : Addr} {j : Nat} {S : SpV} {x y : D} {m1 m2 : Str} {f : Addr} {fd : FuncData} {ps : List Str} (hF : FnV E j f fd ps S) (hB : Binds E.K fd ps []) (hself : PySem.W.selfFirst E.K C = true) (hs : PySem.W.findIn E.K (.ref C) (PySem.dunder op.info.2) = some (some (.ref f)))
    (hf : PySem.W.isFn E.K (.ref f) = true) (hc : b.calm = true) (hj : j ≤ k) (hx : InsD w x C m1) (hy : InsD w y C m2) (hne : ∀ d w', P d w' → match d with | .ins _ _ => True | .int _ => True | .bl _ => True | .tup _ => True | .obj _ => True | _ => False)
    (h : S [x, y] w P c.R) : VO c (binaryOp op) x y w P := by
  intro F H vx vy e0 s rx ry pins s' σ v u I rv ru
  obtain ⟨a, dx, vs, rfl, h2, h3⟩ := insD_rep s rx hx
  obtain ⟨a', dx', vs', rfl, h2', h3'⟩ := insD_rep s ry hy
  obtain rfl : v = Value.ref a := rv
  obtain rfl : u = Value.ref a' := ru
  obtain ⟨mA, J, _⟩ := ins_get I.hok h2
  obtain ⟨mB, J', _⟩ := ins_get I.hok h2'
  obtain ⟨od, J, _⟩ := J.look
  obtain ⟨od', J', _⟩ := J'.look
  obtain ⟨m, hFr⟩ := I.fr
  refine PySem.W.binop_K hFr I.ok.mod.kin J J'.type (by rw [c.hK]; exact hself) (by rw [c.hK]; exact hs) (by rw [c.hK]; exact hf) ?_
  refine thn (run_fn (us := [.ref a, .ref a']) (vs := [.ref a, .ref a']) (dvs := []) (ds := []) (hF.at c) ((c.room hc).mono hj) (by rw [c.hK]; exact hB) .nil c.pass I (.cons rfl (.cons rfl .nil)) (sp_of (c := c) (P := P) (S := S) e0 s (.cons rx (.cons ry .nil)) h)) fun r s2 hq => ?_
  obtain ⟨v2, H2, I2, r2, F2, d2, w2, e2, s2', rd, p2⟩ := hq
  have q := hne _ _ p2
  have done : EP c.X pins σ (Res c.X.K F P) r s2 := ⟨v2, H2, I2, r2, F2, d2, w2, e2, s2', rd, p2⟩
  cases rd <;> first | exact q.elim | (cases r2; exact done) | (obtain ⟨t, rfl⟩ := r2; exact done)
theorem vu_own {C : Addr} {j : Nat} {S : SpV} {x : D} {m1 : Str} {f : Addr} {fd : FuncData} {ps : List Str} (hF : FnV E j f fd ps S) (hB : Binds E.K fd ps []) (hs : PySem.W.findIn E.K (.ref C) "__neg__" = some (some (.ref f)))
    (hf : PySem.W.isFn E.K (.ref f) = true) (hc : b.calm = true) (hj : j ≤ k) (hx : InsD w x C m1) (h : S [x] w P c.R) : VU c (unaryOp .USub) x w P := by
  intro F H vx e0 s rx pins s' σ v I rv
  obtain ⟨a, dx, vs, rfl, h2, h3⟩ := insD_rep s rx hx
  obtain rfl : v = Value.ref a := rv
  obtain ⟨mA, J, _⟩ := ins_get I.hok h2
  obtain ⟨od, J, _⟩ := J.look
  obtain ⟨m, hFr⟩ := I.fr
  refine PySem.W.ksp_neg hFr I.ok.mod.kin J (by rw [c.hK]; exact hs) (by rw [c.hK]; exact hf) ?_
  exact run_fn (us := [.ref a]) (vs := [.ref a]) (dvs := []) (ds := []) (hF.at c) ((c.room hc).mono hj) (by rw [c.hK]; exact hB) .nil c.pass I (.cons rfl .nil) (sp_of (c := c) (P := P) (S := S) e0 s (.cons rx .nil) h)

/-! ### isinstance -/
/-- what is asked of a class for isinstance -/
structure ClsI (K : PySem.W.Frag) (C : Addr) : Prop where
  cl : Cls K C
  ha : PySem.W.findIn K (.ref C) "__class__" = some (some (.builtin "object.__class__"))
  hm : PySem.W.mroIn K C (.type "object") = some true
structure ClsG (K : PySem.W.Frag) : Prop where
  hn : PySem.W.specialIn K (.builtin "object.__class__") "__get__" = some (some (.builtin "getset_descriptor.__get__"))
  htk : PySem.W.takesIn K (.builtin "object.__class__") = some true
/-- the type of a value -/
def TyD (K : PySem.W.Frag) (w : W) (x : D) (t : Value) : Prop := match x with
  | .non => t = .type "NoneType"
  | .bl _ => t = .type "bool"
  | .int _ => t = .type "int"
  | .str _ => t = .type "str"
  | .tup _ => t = .type "tuple"
  | .lst _ => t = .type "list"
  | .ins C _ => t = .ref C ∧ ClsI K C
  | .obj a => match w a with
    | some (.lst _) => t = .type "list"
    | some (.ins C _) => t = .ref C ∧ ClsI K C
    | some (.dK _) => t = .type "dict"
    | some (.dT _) => t = .type "dict"
    | none => False
  | _ => False
theorem TyD.rep {K : PySem.W.Frag} {F H : Hp} {w : W} {x : D} {t : Value} {v : V} (g : ClsG K) (s : SW K F H w) (r : Rep K F v x) (h : TyD K w x t) : TyX K H v t := by
  cases r with
  | non => cases h; exact .base .non
  | bl b => cases h; exact .base (.bl b)
  | int i => cases h; exact .base (.int i)
  | str y => cases h; exact .base (.str y)
  | tup q rs =>
    cases h
    rcases q with (q | ⟨o, q⟩) | ⟨o, its, n, q, hc, _⟩
    · exact .base (.tup (s.ex _ _ q))
    · exact .fTuple (s.ex _ _ q)
    · exact .kTuple q hc
  | lst q rs => cases h; exact .base (.lst (s.ex _ _ q))
  | ins q rs => obtain ⟨rfl, ci⟩ := h; exact .base (.ins (s.ex _ _ q) ci.cl ci.ha g.hn g.htk ci.hm)
  | scr q => exact h.elim
  | ty n => exact h.elim
  | obj a =>
    unfold TyD at h
    simp only at h
    cases e : w a with
    | none => rw [e] at h; exact h.elim
    | some m =>
      rw [e] at h
      have q := (s.mo a _ e).2
      cases m with
      | lst ds => cases h; obtain ⟨vs, h1, _⟩ := q; exact .base (.lst h1)
      | ins C fs => obtain ⟨rfl, ci⟩ := h; obtain ⟨dx, vs, h1, _⟩ := q; exact .base (.ins h1 ci.cl ci.ha g.hn g.htk ci.hm)
      | dK kvs => cases h; obtain ⟨vs, h1, _⟩ := q; exact .base (.dK h1)
      | dT kvs => cases h; obtain ⟨vs, h1, _⟩ := q; exact .base (.dT h1)
/-- a class as a value -/
def clsOf : D → Option Value
  | .ty n => some (.type n)
  | .obj C => some (.ref C)
  | _ => none
theorem vcl_isi {x y : D} {t u : Value} {r : Bool} (g : ClsG E.K) (hx : TyD E.K w x t) (hy : clsOf y = some u) (hk : PySem.W.kitOne E.K t u = some r) (h : P (.bl r) w) : VCl c (.builtin "isinstance") [x, y] w P := vcl_of call_isi fun F H vs s rs => by
  obtain ⟨v, v', rfl, r1, r2⟩ := rs.two_inv
  have hx' : TyX c.X.K H v t := by rw [c.hK] at s r1 ⊢; exact hx.rep g s r1
  cases r2 with
  | ty n => cases hy; exact ⟨v, .ty n, t, _, r, rfl, .ty n, hx', by rw [c.hK]; exact hk, res_val s (.bl _) h⟩
  | obj a => cases hy; exact ⟨v, .ref a, t, _, r, rfl, .own a, hx', by rw [c.hK]; exact hk, res_val s (.bl _) h⟩
  | _ => cases hy
end
end VL

end

section
set_option maxRecDepth 100000
set_option maxHeartbeats 4000000
namespace VL
open PySem PySem.Spec PyProof.Rows L2

theorem res_mono' {K : PySem.W.Frag} {F F1 : Hp} {P : D → W → Prop} {v : V} {H : Hp} (e : Ex F F1) (r : Res K F1 P v H) : Res K F P v H := r.mono e fun _ _ z => z
def asObj (x : D) (k : Addr → Prop) : Prop := match x with | .obj a => k a | _ => False
def asInt (x : D) (k : Int → Prop) : Prop := match x with | .int a => k a | _ => False
theorem asObj_inv {K : PySem.W.Frag} {F : Hp} {v : V} {x : D} {k : Addr → Prop} (r : Rep K F v x) (h : asObj x k) : ∃ a, v = .ref a ∧ x = .obj a ∧ k a := by
  cases r <;> first | exact ⟨_, rfl, rfl, h⟩ | exact h.elim
theorem asInt_inv {K : PySem.W.Frag} {F : Hp} {v : V} {x : D} {k : Int → Prop} (r : Rep K F v x) (h : asInt x k) : ∃ a, v = .int a ∧ x = .int a ∧ k a := by
  cases r <;> first | exact ⟨_, rfl, rfl, h⟩ | exact h.elim

section
variable {E : EnvR} {N : List Str} {sc : Scope} {k : Nat} {b : Md} {c : VC E N sc k b} {Γ : G} {w : W} {P : D → W → Prop} {D : DE}

/-! ### statements -/
theorem vss_nil (h : D.nx Γ w) : VSs c [] Γ w D := fun F H σ e0 s l => w_pss pss_nil ⟨F, Γ, w, Same.refl F, s, l, h⟩
theorem vss_cons {st : Stmt} {rest : List Stmt} (h : VS c st Γ w { D with nx := fun Γ1 w1 => VSs c rest Γ1 w1 D }) : VSs c (st :: rest) Γ w D := fun F H σ e0 s l =>
  w_pss (pss_cons ps_w pss_w) (wS_mono (h F H σ e0 s l) ⟨fun σ1 H1 ⟨F1, Γ1, w1, e1, s1, l1, q⟩ => wSs_mono (q F1 H1 σ1 (e0.trans e1) s1 l1) (toEnds_mono e1 (DELe.refl D)), fun _ _ q => q, fun _ _ q => q, fun _ _ q => q⟩)
theorem vss_one {st : Stmt} (h : VS c st Γ w D) : VSs c [st] Γ w D := fun F H σ e0 s l => w_pss (pss_one ps_w) (h F H σ e0 s l)
theorem vs_expr {e : Expr} {pos : Pos} (h : VE c e Γ w fun _ w1 => D.nx Γ w1) (hs : swapsWith e none pos.line c.X.env = pure false := by rfl) : VS c (.Expr e pos) Γ w D := fun F H σ e0 s l =>
  w_ps (ps_expr pe_w hs) (wE_mono (h F H σ e0 s l) fun v H1 r => res_bind r fun F1 x w1 e1 s1 r1 q1 => ⟨F1, Γ, w1, e1, s1, l.mono e1, q1⟩)
theorem vs_ret {e : Expr} {pos : Pos} (h : VE c e Γ w D.rt) : VS c (.Return (some e) pos) Γ w D := fun F H σ e0 s l => w_ps (ps_ret pe_w) (h F H σ e0 s l)
theorem vs_retN {pos : Pos} (h : D.rt .non w) : VS c (.Return none pos) Γ w D := fun F H σ e0 s l => w_ps ps_retN ⟨F, .non, w, Same.refl F, s, .non, h⟩
theorem vs_pass {pos : Pos} (h : D.nx Γ w) : VS c (.Pass pos) Γ w D := fun F H σ e0 s l => w_ps ps_pass ⟨F, Γ, w, Same.refl F, s, l, h⟩
theorem vs_break {pos : Pos} (h : D.bk Γ w) : VS c (.Break pos) Γ w D := fun F H σ e0 s l => w_ps ps_break ⟨F, Γ, w, Same.refl F, s, l, h⟩
theorem vs_cont {pos : Pos} (h : D.ct Γ w) : VS c (.Continue pos) Γ w D := fun F H σ e0 s l => w_ps ps_continue ⟨F, Γ, w, Same.refl F, s, l, h⟩
theorem vs_doc {x : Str} {j : Nat} {p pos : Pos} (h : D.nx Γ w) : VS c (.Expr (.Constant (.str x) j p) pos) Γ w D := fun F H σ e0 s l => w_ps ps_doc ⟨F, Γ, w, Same.refl F, s, l, h⟩
theorem vs_if {t : Expr} {a e : List Stmt} {pos : Pos} (h : VT c t Γ w fun z w1 => if z = true then VSs c a Γ w1 D else VSs c e Γ w1 D) : VS c (.If t a e pos) Γ w D := fun F H σ e0 s l =>
  w_ps (ps_if pt_w pss_w pss_w) (wT_mono (h F H σ e0 s l) fun z H1 ⟨F1, w1, e1, s1, q1⟩ => by
    cases z with
    | true => rw [if_pos rfl] at q1 ⊢; exact wSs_mono (q1 F1 H1 σ (e0.trans e1) s1 (l.mono e1)) (toEnds_mono e1 (DELe.refl D))
    | false => rw [if_neg Bool.false_ne_true] at q1 ⊢; exact wSs_mono (q1 F1 H1 σ (e0.trans e1) s1 (l.mono e1)) (toEnds_mono e1 (DELe.refl D)))
/-- may the name be stored -/
def Sto (sc : Scope) (b : Md) (x : Str) : Prop := sc.names.lookup x = some .local ∨ (sc.names.lookup x = some .cell ∧ b.own = true)
theorem Sto.loc (h : Sto sc b x) : Loc c.X.env.scope x := by rw [c.hsc]; exact h.elim (fun z => .inl z) fun z => .inr z.1
theorem Sto.fn {x : Str} (h : Sto sc b x) : c.X.fn x = true ∨ c.X.env.scope.names.lookup x = some .local := by rw [c.hsc]; exact h.elim (fun z => .inr z) fun z => .inl (c.fn z.2 x)
theorem VC.nd' (c : VC E N sc k b) : c.X.N.Nodup := by rw [c.hN]; exact c.nd
theorem vs_set (i : Nat) {x : Str} {e : Expr} {pos pos' : Pos} (hi : N[i]? = some x) (hx : Sto sc b x) (h : VE c e Γ w fun d w1 => D.nx (Γ.set i (some d)) w1) (hs : swapsWith e (some (.Name x pos')) pos.line c.X.env = pure false := by rfl) : VS c (.Assign [.Name x pos'] e pos) Γ w D := fun F H σ e0 s l =>
  w_ps (ps_set (i := i) c.nd' (by rw [c.hN]; exact hi) (Sto.loc (c := c) hx) pe_w hs (Sto.fn (c := c) hx)) (wE_mono (h F H σ e0 s l) fun v H1 r => res_bind r fun F1 x w1 e1 s1 r1 q1 => ⟨F1, _, w1, e1, s1, (l.mono e1).set r1, q1⟩)
/-- a target -/
theorem pg_w {X : Cx} {tg : Expr} : PG X tg (wG X tg) := ⟨fun pins s σ H v u Q I r h => h pins s u I r⟩
theorem w_pg {X : Cx} {tg : Expr} {t : TG} (h : PG X tg t) {x : V} {σ : L2.St} {H : Hp} {Q : L2.St → Hp → Prop} (q : t x σ H Q) : wG X tg x σ H Q := fun pins s u I r => h.run pins s σ H x u Q I r q
theorem vs_asg {tg e : Expr} {pos : Pos} (L : List Nat) (h : VE c e Γ w fun d w1 => VG c tg L d Γ w1 D.nx) (hs : swapsWithSole [tg] e pos.line c.X.env = pure false := by rfl) (hw : swappedStores [tg] e c.X.env = pure none := by rfl)
    (h1 : (assignEach [tg] c.X.env).map (·.2) = [assign tg c.X.env] := by rfl) : VS c (.Assign [tg] e pos) Γ w D := fun F H σ e0 s l =>
  w_ps (ps_asg pe_w pg_w hs hw h1) (wE_mono (h F H σ e0 s l) fun v H1 r => res_bind r fun F1 x w1 e1 s1 r1 q1 =>
    wG_mono (q1 F1 H1 σ v (e0.trans e1) s1 (l.mono e1) r1) fun _ _ q => q.2.mono e1 fun _ _ z => z)
theorem vg_name (i : Nat) {x : Str} {pos : Pos} {d : VL.D} {Q : G → W → Prop} (hi : N[i]? = some x) (hx : Sto sc b x) (h : Q (Γ.set i (some d)) w) : VG c (.Name x pos) [i] d Γ w Q := fun F H σ v e0 s l r =>
  w_pg (pg_name (i := i) c.nd' (by rw [c.hN]; exact hi) (Sto.loc (c := c) hx) (Sto.fn (c := c) hx)) ⟨⟨by rw [List.length_set], fun j hj => List.getElem?_set_ne (fun e => hj (by rw [e]; exact List.mem_singleton_self _))⟩, F, _, w, Same.refl F, s, l.set r, h⟩
/-- targets one by one -/
def VGs (c : VC E N sc k b) (ts : List Expr) (L : List Nat) (ds : List VL.D) (Γ : G) (w : W) (Q : G → W → Prop) : Prop :=
  ∀ (F H : Hp) (σ : L2.St) (vs : List V), Ex c.F0 F → SW c.X.K F H w → SL c.X.K F σ Γ → Reps c.X.K F vs ds → ∃ t, PGs c.X ts t ∧ t vs σ H fun σ' H' => (σ'.length = σ.length ∧ ∀ j, j ∉ L → σ'[j]? = σ[j]?) ∧ ResG c.X.K F Q σ' H'
def wGs (X : Cx) (ts : List Expr) : TGs := fun xs σ H Q => ∀ (pins : List (Addr × Obj)) (s : Shared) (us : List Value), Inv X pins σ H s → Vals xs us → wpAny (model X.prog X.w) X.A (assignInOrder ((assignEach ts X.env).map (·.2)) us) (fun _ s' => ∃ σ' H', Inv X pins σ' H' s' ∧ Q σ' H') X.xe s
theorem pgs_w {X : Cx} {ts : List Expr} : PGs X ts (wGs X ts) := ⟨fun pins s σ H vs us Q I r h => h pins s us I r⟩
theorem vgs_nil {Q : G → W → Prop} (h : Q Γ w) : VGs c [] [] [] Γ w Q := fun F H σ vs e0 s l r => ⟨_, pgs_nil, r.nil_inv, ⟨rfl, fun _ _ => rfl⟩, F, Γ, w, Same.refl F, s, l, h⟩
theorem vgs_cons {t : Expr} {ts : List Expr} {L L' : List Nat} {d : VL.D} {ds : List VL.D} {Q : G → W → Prop} (h : VG c t L d Γ w fun Γ1 w1 => VGs c ts L' ds Γ1 w1 Q) (hs : (assignEach (t :: ts) c.X.env).map (·.2) = assign t c.X.env :: (assignEach ts c.X.env).map (·.2) := by rfl) : VGs c (t :: ts) (L ++ L') (d :: ds) Γ w Q := by
  intro F H σ vs e0 s l r
  cases r with
  | cons r rs =>
    refine ⟨_, pgs_cons pg_w pgs_w hs, _, _, rfl, wG_mono (h F H σ _ e0 s l r) fun σ1 H1 ⟨⟨hl, hj⟩, F1, Γ1, w1, e1, s1, l1, q1⟩ => ?_⟩
    obtain ⟨t, ht, hq⟩ := q1 F1 H1 σ1 _ (e0.trans e1) s1 l1 (rs.mono e1)
    intro pins s' us I rr
    refine wpAny_mono (ht.run pins s' σ1 H1 _ us _ I rr hq) (fun _ s2 ⟨σ2, H2, I2, ⟨hl2, hj2⟩, q2⟩ => ⟨σ2, H2, I2, ⟨hl2.trans hl, fun j hn => ?_⟩, q2.mono e1 fun _ _ z => z⟩) fun _ _ z => z
    rw [List.mem_append, not_or] at hn
    rw [hj2 j hn.2, hj j hn.1]
theorem vg_tup {es : List Expr} {j : Nat} {pos : Pos} {L : List Nat} {ds : List VL.D} {Q : G → W → Prop} (hc : b.calm = true) (hl : ds.length = es.length) (h : VGs c es L ds Γ w Q)
    (hn : (assignEach es c.X.env).length = es.length := by rfl) (hst : (assignEach es c.X.env).findIdx? (·.1) = none := by rfl) : VG c (.Tuple es j pos) L (.tup ds) Γ w Q := by
  intro F H σ v e0 s l r
  obtain ⟨a, vs, rfl, q, rs⟩ := r.tup_inv
  obtain ⟨t, ht, hq⟩ := h F H σ vs e0 s l rs
  exact w_pg (pg_tup (by rw [c.calm]; exact hc) ht hn hst) ⟨a, vs, rfl, Ex.sqT s.ex q, by rw [rs.len]; exact hl, hq⟩
def wSet (X : Cx) : TSet := fun o i v H Q => ∀ (pins : List (Addr × Obj)) (s : Shared) (σ : L2.St) (ov iv u : Value), Inv X pins σ H s → RelV o ov → RelV i iv → RelV v u → wpAny (model X.prog X.w) X.A (setItem ov iv u) (fun _ s' => ∃ H', Inv X pins σ H' s' ∧ Q H') X.xe s
/-- xs[i] = .. of a mutable list -/
theorem vg_sub {o i : Expr} {pos : Pos} {d : VL.D} {Q : G → W → Prop} (h : VE c o Γ w fun x w1 => VE c i Γ w1 fun y w2 => asObj x fun a => asInt y fun n => ∃ ds j, w2 a = some (.lst ds) ∧ ixN ds.length n = some j ∧ Q Γ (w2.up a (.lst (ds.set j d))))
    (ha : ∀ v, assign (.Subscript o i pos) c.X.env v = (do
      let ov ← holding [v] (eval o c.X.env)
      let iv ← holding [v, ov] (eval i c.X.env)
      standAt pos
      holding [v, ov, iv] (setItem ov iv v)
      release [v, ov, iv] []) := by intro _; rfl) : VG c (.Subscript o i pos) [] d Γ w Q := fun F H σ v e0 s l r =>
  w_pg (pg_sub pe_w pe_w set_list ha) (wE_mono (h F H σ e0 s l) fun v1 H1 r' => res_bind r' fun F1 x w1 e1 s1 r1 q1 =>
    wE_mono (q1 F1 H1 σ (e0.trans e1) s1 (l.mono e1)) fun u H2 r' => res_bind r' fun F2 y w2 e2 s2 r2 q2 => by
      obtain ⟨a, rfl, rfl, q3⟩ := asObj_inv r1 q2
      obtain ⟨n, rfl, rfl, ds, j, hw, hj, q4⟩ := asInt_inv r2 q3
      obtain ⟨vs, h1, rs⟩ := (s2.mo a _ hw).2
      refine ⟨a, vs, n, j, rfl, rfl, h1, by rw [rs.len]; exact hj, ⟨rfl, fun _ _ => rfl⟩, F2, Γ, _, e1.trans e2, s2.put (m := .lst (ds.set j d)) hw ⟨_, upd_same, rs.set j ((r.mono e1).mono e2)⟩, (l.mono e1).mono e2, q4⟩)
/-- o.f = e of a mutable instance -/
theorem vs_fld {o e : Expr} {f : Str} {pos pos' : Pos} (h : VE c e Γ w fun d w1 => VE c o Γ w1 fun x w2 => asObj x fun a => ∃ C fs, w2 a = some (.ins C fs) ∧ Cls E.K C ∧ NoAttr E.K C f ∧ fs.length < 1000 ∧ D.nx Γ (w2.up a (.ins C (putD f d fs))))
    (hs : swapsWith e (some (.Attribute o f pos')) pos.line c.X.env = pure false := by rfl) : VS c (.Assign [.Attribute o f pos'] e pos) Γ w D := fun F H σ e0 s l =>
  w_ps (ps_fld pe_w pe_w hs) (wE_mono (h F H σ e0 s l) fun v H1 r => res_bind r fun F1 d w1 e1 s1 r1 q1 =>
    wE_mono (q1 F1 H1 σ (e0.trans e1) s1 (l.mono e1)) fun u H2 r => res_bind r fun F2 x w2 e2 s2 r2 q2 => by
      obtain ⟨a, rfl, rfl, C, fs, hw, hC, hn, hl, q3⟩ := asObj_inv r2 q2
      obtain ⟨dx, vs, h1, rs⟩ := (s2.mo a _ hw).2
      exact ⟨a, C, dx, vs, rfl, h1, by rw [c.hK]; exact hC, by rw [c.hK]; exact hn, by rw [rs.len]; exact hl, F2, Γ, _, e1.trans e2, s2.put (m := .ins C (putD f d fs)) hw ⟨dx, _, upd_same, rs.put (r1.mono e2)⟩, (l.mono e1).mono e2, q3⟩)

/-! ### what is known less of, what is frozen -/
theorem vss_sub {st : List Stmt} {w' : W} {Γ' : G} (hw : W.Sub w' w) (hl : Γ'.length = Γ.length) (hΓ : ∀ (i : Nat) (d : VL.D), Γ'[i]? = some (some d) → Γ[i]? = some (some d)) (h : VSs c st Γ' w' D) : VSs c st Γ w D := fun F H σ e0 s l => h F H σ e0 (s.sub hw) (l.sub hl hΓ)
theorem vss_subW {st : List Stmt} {w' : W} (hw : W.Sub w' w) (h : VSs c st Γ w' D) : VSs c st Γ w D := fun F H σ e0 s l => h F H σ e0 (s.sub hw) l
/-- a mutable object as data, once it is never changed again -/
def frzD : MO → Option VL.D
  | .lst ds => some (.lst ds)
  | .ins C fs => some (.ins C fs)
  | _ => none
theorem SW.freeze {K : PySem.W.Frag} {F H : Hp} {w : W} {a : Addr} {m : MO} {d : VL.D} (s : SW K F H w) (h : w a = some m) (hd : frzD m = some d) : ∃ F', Ex F F' ∧ SW K F' H (w.del a) ∧ Rep K F' (.ref a) d := by
  obtain ⟨hf, hm⟩ := s.mo a m h
  cases m with
  | lst ds =>
    cases hd
    obtain ⟨vs, h1, r⟩ := hm
    obtain ⟨s', e⟩ := s.frz h h1
    exact ⟨_, e, s', .lst upd_same (r.mono e)⟩
  | ins C fs =>
    cases hd
    obtain ⟨dx, vs, h1, r⟩ := hm
    obtain ⟨s', e⟩ := s.frz h h1
    exact ⟨_, e, s', .ins upd_same (r.mono e)⟩
  | dK kvs => cases hd
  | dT kvs => cases hd
/-- the value is frozen -/
def Frz (d : VL.D) (w : W) (P : VL.D → W → Prop) : Prop := asObj d fun a => ∃ m d', w a = some m ∧ frzD m = some d' ∧ P d' (w.del a)
theorem ve_frz {e : Expr} (h : VE c e Γ w fun d w1 => Frz d w1 P) : VE c e Γ w P := fun F H σ e0 s l =>
  wE_mono (h F H σ e0 s l) fun v H1 r => res_bind r fun F1 d w1 e1 s1 r1 q1 => by
    obtain ⟨a, rfl, rfl, m, d', hw, hd, p⟩ := asObj_inv r1 q1
    obtain ⟨F2, e2, s2, r2⟩ := s1.freeze hw hd
    exact ⟨F2, d', _, e1.trans e2, s2, r2, p⟩
/-- less of the objects is told -/
theorem ve_sub {e : Expr} (h : VE c e Γ w fun d w1 => ∃ w2, W.Sub w2 w1 ∧ P d w2) : VE c e Γ w P := fun F H σ e0 s l =>
  wE_mono (h F H σ e0 s l) fun v H1 r => res_bind r fun F1 d w1 e1 s1 r1 ⟨w2, hs, p⟩ => ⟨F1, d, w2, e1, s1.sub hs, r1, p⟩
theorem SL.set1 {K : PySem.W.Frag} {F : Hp} {σ : L2.St} {Γ : G} {i : Nat} {v : V} {d : VL.D} (s : SL K F σ Γ) (hv : σ[i]? = some (some v)) (r : Rep K F v d) : SL K F σ (Γ.set i (some d)) := by
  refine ⟨by rw [List.length_set]; exact s.len, fun j e h => ?_⟩
  by_cases q : i = j
  · subst q
    by_cases hl : i < Γ.length
    · rw [List.getElem?_set_self hl] at h
      cases h
      exact ⟨v, hv, r⟩
    · rw [List.getElem?_eq_none (by rw [List.length_set]; omega)] at h; cases h
  · rw [List.getElem?_set_ne q] at h
    exact s.at_ j e h
/-- the object that slot i holds is frozen -/
theorem vss_frz {st : List Stmt} (i : Nat) {a : Addr} {m : MO} {d : VL.D} (hΓ : Γ[i]? = some (some (.obj a))) (hw : w a = some m) (hd : frzD m = some d) (h : VSs c st (Γ.set i (some d)) (w.del a) D) : VSs c st Γ w D := fun F H σ e0 s l => by
  obtain ⟨v, hv, r⟩ := l.at_ i _ hΓ
  obtain ⟨F2, e2, s2, r2⟩ := s.freeze hw hd
  have ev : v = .ref a := by cases r; rfl
  subst ev
  exact wSs_mono (h F2 H σ (e0.trans e2) s2 ((l.mono e2).set1 hv r2)) (toEnds_mono e2 (DELe.refl D))

/-! ### while -/
theorem vs_while {t : Expr} {body : List Stmt} {pos : Pos} (I : G → W → Prop) (μ : G → W → Nat) (h0 : I Γ w)
    (hs : ∀ Γ w, I Γ w → VT c t Γ w fun z w1 => if z = true then VSs c body Γ w1 { nx := fun Γ' w' => I Γ' w' ∧ μ Γ' w' < μ Γ w, rt := D.rt, bk := D.nx, ct := fun Γ' w' => I Γ' w' ∧ μ Γ' w' < μ Γ w } else D.nx Γ w1) : VS c (.While t body [] pos) Γ w D := fun F H σ e0 s l => by
  refine w_ps (ps_while c.po pt_w pss_w) ⟨fun m σ' H' => ∃ F' Γ' w', Ex F F' ∧ SW c.X.K F' H' w' ∧ SL c.X.K F' σ' Γ' ∧ I Γ' w' ∧ m = μ Γ' w', ⟨_, F, Γ, w, Same.refl F, s, l, h0, rfl⟩, ?_⟩
  rintro m σ1 H1 ⟨F1, Γ1, w1, e1, s1, l1, i1, rfl⟩
  refine wT_mono (hs Γ1 w1 i1 F1 H1 σ1 (e0.trans e1) s1 l1) fun z H2 ⟨F2, w2, e2, s2, q2⟩ => ?_
  cases z with
  | true =>
    rw [if_pos rfl] at q2 ⊢
    refine ⟨fun σ' H' => ∃ F' Γ' w', Ex F F' ∧ SW c.X.K F' H' w' ∧ SL c.X.K F' σ' Γ' ∧ I Γ' w' ∧ μ Γ' w' < μ Γ1 w1, fun σ' H' ⟨F', Γ', w', e', s', l', i', hm⟩ => ⟨_, hm, F', Γ', w', e', s', l', i', rfl⟩, ?_⟩
    refine wSs_mono (q2 F2 H2 σ1 ((e0.trans e1).trans e2) s2 (l1.mono e2)) ⟨?_, fun _ _ q => q.mono (e1.trans e2) fun _ _ z => z, fun _ _ q => q.mono (e1.trans e2) fun _ _ z => z, ?_⟩
    · rintro σ' H' ⟨F', Γ', w', e', s', l', i', hm⟩
      exact ⟨F', Γ', w', (e1.trans e2).trans e', s', l', i', hm⟩
    · rintro σ' H' ⟨F', Γ', w', e', s', l', i', hm⟩
      exact ⟨F', Γ', w', (e1.trans e2).trans e', s', l', i', hm⟩
  | false =>
    rw [if_neg Bool.false_ne_true] at q2 ⊢
    exact ⟨F2, Γ1, w2, e1.trans e2, s2, l1.mono e2, q2⟩

/-! ### what is walked -/
def wI (X : Cx) (tg iter : Expr) : TI := fun σ H R => ∀ (pins : List (Addr × Obj)) (s : Shared), Inv X pins σ H s → wpAny (model X.prog X.w) X.A (eval iter X.env) (fun v s1 => wpAny (model X.prog X.w) X.A (pyIter v) (PIE X pins σ tg R) X.xe s1) X.xe s
theorem pi_w {X : Cx} {tg iter : Expr} : PI X tg iter (wI X tg iter) := ⟨fun pins s σ H R I h => h pins s I⟩
theorem w_pi {X : Cx} {tg iter : Expr} {t : TI} (h : PI X tg iter t) {σ : L2.St} {H : Hp} {R : It → Hp → Prop} (q : t σ H R) : wI X tg iter σ H R := fun pins s I => h.run pins s σ H R I q
/-- J yields the items ds, one a turn, as long as kp holds -/
def Steps (K : PySem.W.Frag) (J : It) (F1 : Hp) (ds : List VL.D) (kp : W → Prop) : Prop := ∀ F H w, Ex F1 F → SW K F H w → kp w →
  J.stop ds.length H ∧ ∀ i d, ds[i]? = some d → J.go i H ∧ ∀ x H', J.yld i H x H' → ∃ F', Ex F F' ∧ SW K F' H' w ∧ Rep K F' x d
def VI (c : VC E N sc k b) (tg iter : Expr) (Γ : G) (w : W) (Q : List VL.D → (W → Prop) → W → Prop) : Prop :=
  ∀ (F H : Hp) (σ : L2.St), Ex c.F0 F → SW c.X.K F H w → SL c.X.K F σ Γ → wI c.X tg iter σ H fun J H1 => ∃ (F1 : Hp) (ds : List VL.D) (kp : W → Prop) (w1 : W), Ex F F1 ∧ SW c.X.K F1 H1 w1 ∧ Steps c.X.K J F1 ds kp ∧ kp w1 ∧ Q ds kp w1
theorem vs_for {tg iter : Expr} {body : List Stmt} {pos : Pos} (L : List Nat) (hc : b.calm = true)
    (h : VI c tg iter Γ w fun ds kp w1 => ∃ I : Nat → G → W → Prop, I 0 Γ w1 ∧ (∀ i Γ w, i ≤ ds.length → I i Γ w → kp w) ∧
      (∀ i d Γ w, ds[i]? = some d → I i Γ w → VG c tg L d Γ w fun Γ2 w2 => VSs c body Γ2 w2 { nx := I (i + 1), rt := D.rt, bk := D.nx, ct := I (i + 1) }) ∧ ∀ Γ w, I ds.length Γ w → D.nx Γ w)
    (hs : ∀ x, foldedSetIterable iter c.X.env x = pure x := by intro _; rfl) : VS c (.For tg iter body [] pos) Γ w D := fun F H σ e0 s l => by
  refine w_ps (ps_for c.po (by rw [c.calm]; exact hc) pi_w pg_w pss_w hs) ?_
  have hI := h F H σ e0 s l
  intro pins s' Inv0
  refine thn (hI pins s' Inv0) fun v s1 h1 => thn h1 fun itv s2 ⟨it, fp, tn, J, H', a1, a2, a3, a4, a5, F1, ds, kp, w1, e1, sw1, stp, k1, I, i0, ik, turn, fin⟩ => ?_
  refine ⟨it, fp, tn, J, H', a1, a2, a3, a4, a5, fun i m σ' H' => m = ds.length - i ∧ i ≤ ds.length ∧ ∃ F' Γ' w', Ex F1 F' ∧ SW c.X.K F' H' w' ∧ SL c.X.K F' σ' Γ' ∧ I i Γ' w', ⟨_, rfl, Nat.zero_le _, F1, Γ, w1, Same.refl _, sw1, l.mono e1, i0⟩, ?_⟩
  rintro i m σ2 H2 ⟨rfl, hi, F2, Γ2, w2, e2, s2, l2, i2⟩
  obtain ⟨st, gy⟩ := stp F2 H2 w2 e2 s2 (ik i Γ2 w2 hi i2)
  by_cases hlt : i < ds.length
  · obtain ⟨hg, hy⟩ := gy i ds[i] (by simp [hlt])
    refine .inr ⟨hg, fun σ' H' => i + 1 ≤ ds.length ∧ ∃ F' Γ' w', Ex F1 F' ∧ SW c.X.K F' H' w' ∧ SL c.X.K F' σ' Γ' ∧ I (i + 1) Γ' w', fun σ' H' q => ⟨ds.length - (i + 1), by omega, rfl, q.1, q.2⟩, fun x H3 y => ?_⟩
    obtain ⟨F3, e3, s3, r3⟩ := hy x H3 y
    refine wG_mono (turn i ds[i] Γ2 w2 (by simp [hlt]) i2 F3 H3 σ2 x (((e0.trans e1).trans e2).trans e3) s3 (l2.mono e3) r3) fun σ4 H4 ⟨_, F4, Γ4, w4, e4, s4, l4, q4⟩ => ?_
    have eA := (e2.trans e3).trans e4
    refine wSs_mono (q4 F4 H4 σ4 ((((e0.trans e1).trans e2).trans e3).trans e4) s4 l4) ⟨?_, fun _ _ q => q.mono (e1.trans eA) fun _ _ z => z, fun _ _ q => q.mono (e1.trans eA) fun _ _ z => z, ?_⟩
    · rintro σ' H' ⟨F', Γ', w', e', s', l', i'⟩
      exact ⟨hlt, F', Γ', w', eA.trans e', s', l', i'⟩
    · rintro σ' H' ⟨F', Γ', w', e', s', l', i'⟩
      exact ⟨hlt, F', Γ', w', eA.trans e', s', l', i'⟩
  · have e : i = ds.length := by omega
    subst e
    exact .inl ⟨st, F2, Γ2, w2, e1.trans e2, s2, l2, fin Γ2 w2 i2⟩

end
end VL

end

section
set_option maxRecDepth 100000
set_option maxHeartbeats 4000000
namespace VL
open PySem PySem.Spec PyProof.Rows L2

section
variable {E : EnvR} {N : List Str} {sc : Scope} {k : Nat} {b : Md} {c : VC E N sc k b} {Γ : G} {w : W} {P : D → W → Prop}
/-- what keeps a list's items as they are -/
def kpD (x : D) (ds : List D) : W → Prop := match x with
  | .obj a => fun w => w a = some (.lst ds)
  | _ => fun _ => True
theorem steps_list {K : PySem.W.Frag} {F1 H1 : Hp} {a : Addr} {x : D} {ds : List D} {w1 : W} (s : SW K F1 H1 w1) (r : Rep K F1 (.ref a) x) (hx : seqD w1 x = some ds) : Steps K (Itl K a) F1 ds (kpD x ds) ∧ kpD x ds w1 := by
  have main : ∀ (kp : W → Prop), kp w1 → (∀ F H w, Ex F1 F → SW K F H w → kp w → ∃ vs, SqL K H a vs ∧ Reps K F vs ds) → Steps K (Itl K a) F1 ds kp ∧ kp w1 := fun kp k1 hq => by
    refine ⟨fun F H w e s' hk => ?_, k1⟩
    obtain ⟨vs, h1, rs⟩ := hq F H w e s' hk
    refine ⟨⟨vs, h1, by rw [rs.len]; exact Nat.le_refl _⟩, fun i d hd => ?_⟩
    obtain ⟨v, hv, rv⟩ := rs.get hd
    refine ⟨⟨vs, v, h1, hv⟩, fun x' H' y => ?_⟩
    obtain ⟨rfl, y⟩ := y
    have e1 := y vs h1
    rw [hv] at e1
    cases e1
    exact ⟨F, Same.refl F, s', rv⟩
  cases r with
  | lst q rs => cases hx; exact main _ True.intro fun F H w e s' _ => ⟨_, .inl (.inl (s'.ex _ _ (e _ _ q))), rs.mono e⟩
  | scr q => cases hx; exact main _ True.intro fun F H w e s' _ => ⟨_, Same.seq s'.ex (Same.seq e q), Reps.ints _⟩
  | obj a =>
    have hw : w1 a = some (.lst ds) := by
      unfold seqD at hx
      simp only at hx
      cases e : w1 a with
      | none => rw [e] at hx; cases hx
      | some m =>
        rw [e] at hx
        cases m with
        | lst es => cases hx; rfl
        | _ => cases hx
    refine main _ hw fun F H w e s' hk => ?_
    obtain ⟨vs, h1, rs⟩ := (s'.mo a _ hk).2
    exact ⟨vs, .inl (.inl h1), rs⟩
  | _ => cases hx
theorem vi_list {tg iter : Expr} {Q : List D → (W → Prop) → W → Prop} (h : VE c iter Γ w fun x w1 => ∃ ds, seqD w1 x = some ds ∧ Q ds (kpD x ds) w1) : VI c tg iter Γ w Q := fun F H σ e0 s l =>
  w_pi (pi_list pe_w) (wE_mono (h F H σ e0 s l) fun v H1 r => res_bind r fun F1 x w1 e1 s1 r1 ⟨ds, hx, q⟩ => by
    obtain ⟨a, vs, rfl, h1, rs⟩ := s1.seq r1 hx
    obtain ⟨st, k1⟩ := steps_list s1 r1 hx
    exact ⟨a, rfl, ⟨vs, h1⟩, F1, ds, _, w1, e1, s1, st, k1, q⟩)
theorem vi_tup {tg iter : Expr} {Q : List D → (W → Prop) → W → Prop} (h : VE c iter Γ w fun x w1 => ∃ ds, x = .tup ds ∧ Q ds (fun _ => True) w1) : VI c tg iter Γ w Q := fun F H σ e0 s l =>
  w_pi (pi_tup pe_w) (wE_mono (h F H σ e0 s l) fun v H1 r => res_bind r fun F1 x w1 e1 s1 r1 ⟨ds, hx, q⟩ => by
    subst hx
    obtain ⟨a, vs, rfl, h1, rs⟩ := r1.tup_inv
    refine ⟨a, rfl, ⟨vs, Ex.sqT s1.ex h1⟩, F1, ds, _, w1, e1, s1, ?_, True.intro, q⟩
    intro F' H' w' e' s' _
    have h2 := Ex.sqT s'.ex (Ex.sqT e' h1)
    have rs' := rs.mono e'
    refine ⟨⟨vs, h2, by rw [rs'.len]; exact Nat.le_refl _⟩, fun i d hd => ?_⟩
    obtain ⟨v, hv, rv⟩ := rs'.get hd
    refine ⟨⟨vs, v, h2, hv⟩, fun x' H'' y => ?_⟩
    obtain ⟨rfl, y⟩ := y
    have e1 := y vs h2
    rw [hv] at e1
    cases e1
    exact ⟨F', Same.refl F', s', rv⟩)
/-- lo, lo + 1, .. -/
def rngD (lo : Int) (n : Nat) : List D := (List.range n).map fun (i : Nat) => D.int (lo + (i : Int))
theorem rngD_len (lo : Int) (n : Nat) : (rngD lo n).length = n := by unfold rngD; simp
theorem rngD_get {lo : Int} {n i : Nat} {d : D} (h : (rngD lo n)[i]? = some d) : i < n ∧ d = .int (lo + (i : Int)) := by
  unfold rngD at h
  rw [List.getElem?_map] at h
  cases e : (List.range n)[i]? with
  | none => rw [e] at h; cases h
  | some j =>
    rw [e] at h
    cases h
    obtain ⟨h1, h2⟩ := List.getElem?_eq_some_iff.mp e
    simp at h1 h2
    exact ⟨h1, by rw [h2]⟩
theorem steps_range {K : PySem.W.Frag} {F1 : Hp} {lo : Int} {n : Nat} : Steps K (Itr lo n) F1 (rngD lo n) fun _ => True := fun F H w e s _ => by
  refine ⟨by rw [rngD_len]; exact Nat.le_refl _, fun i d hd => ?_⟩
  obtain ⟨h1, rfl⟩ := rngD_get hd
  refine ⟨h1, fun x H' y => ?_⟩
  obtain ⟨rfl, rfl⟩ := y
  exact ⟨F, Same.refl F, s, .int _⟩
theorem vi_range1 {tg a : Expr} {p pos : Pos} {Q : List D → (W → Prop) → W → Prop} (hg : sc.names.lookup ("range" : Str) = some .globalImplicit) (hm : E.mg "range" = none)
    (h : VA c [a] Γ w fun ds w1 => ∃ j : Int, ds = [.int j] ∧ -(2 ^ 62) ≤ j ∧ j < 2 ^ 62 ∧ Q (rngD 0 j.toNat) (fun _ => True) w1) (hs : starEach [a] c.X.env = [(false, eval a c.X.env)] := by rfl) :
    VI c tg (.Call (.Name "range" p) [a] [] pos) Γ w Q := fun F H σ e0 s l =>
  w_pi (pi_range1 (c.gl hg) (by rw [c.hmg]; exact hm) pa_w hs) (wA_mono (h F H σ e0 s l) fun vs H1 ⟨F1, ds, w1, e1, s1, r1, j, hd, h1, h2, q⟩ => by
    subst hd
    obtain ⟨v, rfl, rv⟩ := r1.one_inv
    exact ⟨j, by rw [rv.int_inv], h1, h2, F1, _, _, w1, e1, s1, steps_range, True.intro, q⟩)
theorem vi_range2 {tg a e : Expr} {p pos : Pos} {Q : List D → (W → Prop) → W → Prop} (hg : sc.names.lookup ("range" : Str) = some .globalImplicit) (hm : E.mg "range" = none)
    (h : VA c [a, e] Γ w fun ds w1 => ∃ i j : Int, ds = [.int i, .int j] ∧ (-(2 ^ 62) ≤ i ∧ i < 2 ^ 62 ∧ -(2 ^ 62) ≤ j ∧ j < 2 ^ 62) ∧ Q (rngD i (j - i).toNat) (fun _ => True) w1)
    (hs : starEach [a, e] c.X.env = [(false, eval a c.X.env), (false, eval e c.X.env)] := by rfl) (hs2 : starEach [e] c.X.env = [(false, eval e c.X.env)] := by rfl) :
    VI c tg (.Call (.Name "range" p) [a, e] [] pos) Γ w Q := fun F H σ e0 s l =>
  w_pi (pi_range2 (c.gl hg) (by rw [c.hmg]; exact hm) pa_w hs hs2) (wA_mono (h F H σ e0 s l) fun vs H1 ⟨F1, ds, w1, e1, s1, r1, i, j, hd, h1, q⟩ => by
    subst hd
    obtain ⟨v, u, rfl, rv, ru⟩ := r1.two_inv
    exact ⟨i, j, by rw [rv.int_inv, ru.int_inv], h1, F1, _, _, w1, e1, s1, steps_range, True.intro, q⟩)
/-- range with a step -/
def rngC (lo st : Int) (n : Nat) : List D := (List.range n).map fun (i : Nat) => D.int (lo + (i : Int) * st)
theorem rngC_len (lo st : Int) (n : Nat) : (rngC lo st n).length = n := by unfold rngC; simp
theorem rngC_get {lo st : Int} {n i : Nat} {d : D} (h : (rngC lo st n)[i]? = some d) : i < n ∧ d = .int (lo + (i : Int) * st) := by
  unfold rngC at h
  rw [List.getElem?_map] at h
  cases e : (List.range n)[i]? with
  | none => rw [e] at h; cases h
  | some j =>
    rw [e] at h
    cases h
    obtain ⟨h1, h2⟩ := List.getElem?_eq_some_iff.mp e
    simp at h1 h2
    exact ⟨h1, by rw [h2]⟩
theorem vi_range3 {tg a e f : Expr} {p pos : Pos} {Q : List D → (W → Prop) → W → Prop} (hg : sc.names.lookup ("range" : Str) = some .globalImplicit) (hm : E.mg "range" = none)
    (h : VA c [a, e, f] Γ w fun ds w1 => ∃ (i j st : Int) (n : Nat), ds = [.int i, .int j, .int st] ∧ RgC i j st n ∧ Q (rngC i st n) (fun _ => True) w1)
    (hs : starEach [a, e, f] c.X.env = (false, eval a c.X.env) :: starEach [e, f] c.X.env := by rfl) (hpl : (backTo pos (starEach [e, f] c.X.env)).any (·.1) = false := by rfl) :
    VI c tg (.Call (.Name "range" p) [a, e, f] [] pos) Γ w Q := fun F H σ e0 s l =>
  w_pi (pi_range3 (c.gl hg) (by rw [c.hmg]; exact hm) pa_w hs hpl) (wA_mono (h F H σ e0 s l) fun vs H1 ⟨F1, ds, w1, e1, s1, r1, i, j, st, n, hd, h1, q⟩ => by
    subst hd
    cases r1 with
    | cons ra r1 =>
      obtain ⟨v, u, rfl, rv, ru⟩ := r1.two_inv
      refine ⟨i, j, st, n, by rw [ra.int_inv, rv.int_inv, ru.int_inv], h1, F1, _, _, w1, e1, s1, ?_, True.intro, q⟩
      intro F' H' w' e' s' _
      refine ⟨by rw [rngC_len]; exact Nat.le_refl _, fun i d hd => ?_⟩
      obtain ⟨h1, rfl⟩ := rngC_get hd
      refine ⟨h1, fun x H'' y => ?_⟩
      obtain ⟨rfl, rfl⟩ := y
      exact ⟨F', Same.refl F', s', .int _⟩)
/-- enumerate of a list -/
def enumD (ds : List D) : List D := ds.mapIdx fun i d => .tup [.int (i : Int), d]
theorem enumD_len (ds : List D) : (enumD ds).length = ds.length := by unfold enumD; simp
theorem enumD_get {ds : List D} {i : Nat} {d : D} (h : (enumD ds)[i]? = some d) : ∃ e, ds[i]? = some e ∧ d = .tup [.int (i : Int), e] := by
  unfold enumD at h
  rw [List.getElem?_mapIdx] at h
  cases e : ds[i]? with
  | none => rw [e] at h; cases h
  | some j => rw [e] at h; cases h; exact ⟨j, rfl, rfl⟩
theorem vi_enum {a : Expr} {p pos tpos : Pos} {elts : List Expr} {kk : Nat} {Q : List D → (W → Prop) → W → Prop} (hg : sc.names.lookup ("enumerate" : Str) = some .globalImplicit) (hm : E.mg "enumerate" = none)
    (h : VA c [a] Γ w fun xs w1 => ∃ x ds, xs = [x] ∧ seqD w1 x = some ds ∧ Q (enumD ds) (kpD x ds) w1) (hs : starEach [a] c.X.env = [(false, eval a c.X.env)] := by rfl) :
    VI c (.Tuple elts kk tpos) (.Call (.Name "enumerate" p) [a] [] pos) Γ w Q := fun F H σ e0 s l =>
  w_pi (pi_enum (c.gl hg) (by rw [c.hmg]; exact hm) pa_w hs) (wA_mono (h F H σ e0 s l) fun vs H1 ⟨F1, xs, w1, e1, s1, r1, x, ds, hd, hx, q⟩ => by
    subst hd
    obtain ⟨v, rfl, rv⟩ := r1.one_inv
    obtain ⟨a, us, rfl, h1, rs⟩ := s1.seq rv hx
    obtain ⟨st, k1⟩ := steps_list s1 rv hx
    refine ⟨a, us, rfl, h1, F1, _, _, w1, e1, s1, ?_, k1, q⟩
    intro F' H' w' e' s' hk
    obtain ⟨⟨vs', hv', hl'⟩, gy⟩ := st F' H' w' e' s' hk
    refine ⟨⟨vs', hv', by rw [enumD_len]; exact hl'⟩, fun i d hd => ?_⟩
    obtain ⟨d0, hd0, rfl⟩ := enumD_get hd
    obtain ⟨g, y⟩ := gy i d0 hd0
    refine ⟨g, fun z H'' yy => ?_⟩
    obtain ⟨T, x0, rfl, hT, rfl, hx0⟩ := yy
    obtain ⟨F'', e'', s'', r''⟩ := y x0 H' ⟨rfl, hx0⟩
    refine ⟨upd F'' T (.tup [.int (i : Nat), x0]), e''.trans (Ex.new (s''.fnone hT)), s''.new hT, .tup (.inl (.inl upd_same)) (.cons (.int _) (.one (r''.mono (Ex.new (s''.fnone hT)))))⟩)
/-- a text, sign by sign -/
def signsD (x : Str) : List D := x.cps.toList.map fun n => .str ⟨#[n]⟩
theorem vi_str {tg iter : Expr} {Q : List D → (W → Prop) → W → Prop} (h : VE c iter Γ w fun x w1 => ∃ y, x = .str y ∧ Q (signsD y) (fun _ => True) w1) : VI c tg iter Γ w Q := fun F H σ e0 s l =>
  w_pi (pi_str pe_w) (wE_mono (h F H σ e0 s l) fun v H1 r => res_bind r fun F1 x w1 e1 s1 r1 ⟨y, hx, q⟩ => by
    subst hx
    refine ⟨y, r1.str_inv, F1, _, _, w1, e1, s1, ?_, True.intro, q⟩
    intro F' H' w' e' s' _
    have hl : (signsD y).length = y.cps.size := by unfold signsD; simp
    refine ⟨by rw [hl]; exact Nat.le_refl _, fun i d hd => ?_⟩
    unfold signsD at hd
    rw [List.getElem?_map] at hd
    cases e : y.cps.toList[i]? with
    | none => rw [e] at hd; cases hd
    | some n =>
      rw [e] at hd
      cases hd
      have hi : i < y.cps.size := by
        obtain ⟨h1, _⟩ := List.getElem?_eq_some_iff.mp e
        simpa using h1
      refine ⟨hi, fun x' H'' yy => ?_⟩
      obtain ⟨rfl, n', hn, rfl⟩ := yy
      have en : y.cps[i]? = some n := by rw [← e, Array.getElem?_toList]
      rw [en] at hn
      cases hn
      exact ⟨F', Same.refl F', s', .str _⟩)

/-! ### comprehensions -/
def VC.blk (c : VC E N sc k b) (hb : b.calm = true) (s : Shared) (H : Hp) (scope : Scope) (C : Addr) (cl : List (Str × Addr)) (fp : List Addr) : VC E N (relS scope sc) k mB where
  X := c.X.blk s H scope (compEnvC scope cl C c.X.env) fp
  F0 := c.F0
  R := fun _ _ => False
  hP := c.hP
  hw := c.hw
  hK := c.hK
  hmg := c.hmg
  hbase := c.hbase
  hN := c.hN
  nd := c.nd
  hsc := congrArg (relS scope) c.hsc
  roomH := c.roomH
  room := fun _ => c.room hb
  calm := by show c.X.calm = _; rw [c.calm]; exact hb
  po := PassesOwn.never
  tk := fun u s' x => by
    obtain ⟨_, _, _, _, _, _, _, _, _, _, _, _, _, _, _, _, _, _, _, _, _, _, _, z⟩ := x
    exact z.elim
  fn := fun z => by cases z
  hot := fun z => by cases z
def wipeG (Γ : G) : List Nat → G
  | [] => Γ
  | v :: vs => (wipeG Γ vs).set v none
theorem SL.wipe {K : PySem.W.Frag} {F : Hp} {σ : L2.St} {Γ : G} (s : SL K F σ Γ) : ∀ vs : List Nat, SL K F (L2.wipe σ vs) (wipeG Γ vs)
  | [] => s
  | v :: vs => by
    have ih := s.wipe vs
    refine ⟨by unfold L2.wipe wipeG; rw [List.length_set, List.length_set]; exact ih.len, fun i d h => ?_⟩
    unfold wipeG at h
    by_cases q : v = i
    · subst q
      by_cases hl : v < (wipeG Γ vs).length
      · rw [List.getElem?_set_self hl] at h; cases h
      · rw [List.getElem?_eq_none (by rw [List.length_set]; omega)] at h; cases h
    · rw [List.getElem?_set_ne q] at h
      obtain ⟨u, h1, h2⟩ := ih.at_ i d h
      exact ⟨u, by unfold L2.wipe; rw [List.getElem?_set_ne q]; exact h1, h2⟩
theorem wipe_len (σ : L2.St) : ∀ vs : List Nat, (L2.wipe σ vs).length = σ.length
  | [] => rfl
  | v :: vs => by unfold L2.wipe; rw [List.length_set, wipe_len σ vs]
theorem wipe_at (σ : L2.St) (j : Nat) : ∀ vs : List Nat, (L2.wipe σ vs)[j]? = if j ∈ vs ∧ j < σ.length then some none else σ[j]?
  | [] => by simp [L2.wipe]
  | v :: vs => by
    unfold L2.wipe
    by_cases q : v = j
    · subst q
      by_cases hl : v < σ.length
      · rw [List.getElem?_set_self (by rw [wipe_len]; exact hl), if_pos ⟨List.mem_cons_self, hl⟩]
      · rw [List.getElem?_eq_none (by rw [List.length_set, wipe_len]; omega), if_neg (fun z => hl z.2), List.getElem?_eq_none (by omega)]
    · rw [List.getElem?_set_ne q, wipe_at σ j vs]
      have : (j ∈ v :: vs) ↔ j ∈ vs := by
        rw [List.mem_cons]
        exact ⟨fun z => z.elim (fun e => absurd e.symm q) id, .inr⟩
      simp only [this]
theorem wipe_eq {σ σ' : L2.St} {vs : List Nat} (hl : σ'.length = (L2.wipe σ vs).length) (h : ∀ j, j ∉ vs → σ'[j]? = (L2.wipe σ vs)[j]?) : L2.wipe σ' vs = L2.wipe σ vs := by
  apply List.ext_getElem?
  intro j
  rw [wipe_at σ' j vs, wipe_at σ j vs]
  rw [wipe_len] at hl
  by_cases hj : j ∈ vs
  · by_cases hs : j < σ.length
    · rw [if_pos ⟨hj, by omega⟩, if_pos ⟨hj, hs⟩]
    · rw [if_neg (fun z => hs (by omega)), if_neg (fun z => hs z.2), List.getElem?_eq_none (by omega), List.getElem?_eq_none (by omega)]
  · rw [if_neg (fun z => hj z.1), if_neg (fun z => hj z.1), h j hj, wipe_at σ j vs, if_neg (fun z => hj z.1)]
/-- a clause's tests -/
def VIf (c : VC E N sc k b) (ifs : List Expr) (Γ : G) (w : W) (Q : Bool → W → Prop) : Prop := match ifs with
  | [] => Q true w
  | [t] => VT c t Γ w Q
  | _ => False
def wTs (X : Cx) (ifs : List Expr) : TT := fun σ H Q => ∀ (pins : List (Addr × Obj)) (s : Shared), Inv X pins σ H s →
    wpAny (model X.prog X.w) X.A (forIn ifs true fun c r => if r = true then do let ok ← isTrue c X.env (eval c X.env); pure (ForInStep.yield ok) else pure (ForInStep.yield r)) (TP X pins σ Q) X.xe s
theorem vif_w {ifs : List Expr} {Q : Bool → W → Prop} (h : VIf c ifs Γ w Q) {F H : Hp} {σ : L2.St} (e0 : Ex c.F0 F) (s : SW c.X.K F H w) (l : SL c.X.K F σ Γ) : wTs c.X ifs σ H (ResT c.X.K F Q) := by
  intro pins s' I
  cases ifs with
  | nil => exact pts_nil.run pins s' σ H _ I ⟨F, w, Same.refl F, s, h⟩
  | cons t ts =>
    cases ts with
    | nil => exact (pts_one pt_w).run pins s' σ H _ I (h F H σ e0 s l)
    | cons _ _ => exact h.elim
/-- what a turn of a comprehension asks -/
def LcTurn (E : EnvR) (N : List Str) (sc' : Scope) (k : Nat) (L : List Nat) (tg : Expr) (ifs : List Expr) (elt : Expr) (Γ : G) (Dn : Addr) (d : D) (acc : List D) (w : W) (Nx : List D → W → Prop) : Prop :=
  ∀ c1 : VC E N sc' k mB, VG c1 tg L d (wipeG Γ L) (w.up Dn (.lst acc)) fun Γ2 w3 => ∀ c2 : VC E N sc' k mB, VIf c2 ifs Γ2 w3 fun t w4 =>
    if t = true then ∀ c3 : VC E N sc' k mB, VE c3 elt Γ2 w4 fun y w5 => acc.length < sizeLine ∧ w5 Dn = some (.lst acc) ∧ Nx (acc ++ [y]) (w5.del Dn) else w4 Dn = some (.lst acc) ∧ Nx acc (w4.del Dn)
theorem W.up_del {w : W} {a : Addr} {m : MO} (h : w a = some m) : (w.del a).up a m = w := by
  funext x; unfold W.up W.del; split
  · rename_i e; rw [e, h]
  · rfl
theorem lc_run {elt tg : Expr} {ifs : List Expr} {scope : Scope} {own : List (Str × Nat)} (hb : b.calm = true) {F : Hp} {σ : L2.St} (e0 : Ex c.F0 F) (l : SL c.X.K F σ Γ) {Q : VK}
    {J : It} {F1 H1 : Hp} {ds : List D} {kp : W → Prop} {w1 : W} (e1 : Ex F F1) (s1 : SW c.X.K F1 H1 w1) (st : Steps c.X.K J F1 ds kp) (D0 : Addr) (hD : H1 D0 = none)
    (I : Nat → List D → W → Prop) (i0 : I 0 [] w1) (ik : ∀ i acc w2, i ≤ ds.length → I i acc w2 → kp w2 ∧ (∀ m, kp (w2.up D0 m)) ∧ w2 D0 = none)
    (turn : ∀ i d acc w2, ds[i]? = some d → I i acc w2 → LcTurn E N (relS scope sc) k (own.map (·.2)) tg ifs elt Γ D0 d acc w2 (I (i + 1)))
    (fin : ∀ (F2 H2 : Hp) (w2 : W) (acc : List D), Ex F1 F2 → SW c.X.K F2 H2 (w2.up D0 (.lst acc)) → w2 D0 = none → I ds.length acc w2 → Q (.ref D0) H2) :
    ∃ W' : Nat → Nat → Hp → Prop, (∃ m, W' 0 m (upd H1 D0 (.lst []))) ∧ ∀ i m H, W' i m H →
      (J.stop i H ∧ Q (.ref D0) H) ∨ (J.go i H ∧ ∃ Nx : Hp → Prop, (∀ H', Nx H' → ∃ m', m' < m ∧ W' (i + 1) m' H') ∧ ∀ x H', J.yld i H x H' →
        (fun (v : V) (σ : L2.St) (H : Hp) (Q : L2.St → Hp → Prop) => ∀ (s : Shared) (H' : Hp) (C : Addr) (cl : List (Str × Addr)) (fp : List Addr), wG (c.X.blk s H' scope (compEnvC scope cl C c.X.env) fp) tg v σ H Q) x (L2.wipe σ (own.map (·.2))) H' fun σ2 H2 => L2.wipe σ2 (own.map (·.2)) = L2.wipe σ (own.map (·.2)) ∧
          (fun (σ : L2.St) (H : Hp) (Q : Bool → Hp → Prop) => ∀ (s : Shared) (H' : Hp) (C : Addr) (cl : List (Str × Addr)) (fp : List Addr), wTs (c.X.blk s H' scope (compEnvC scope cl C c.X.env) fp) ifs σ H Q) σ2 H2 fun b H3 =>
            if b = true then (fun (σ : L2.St) (H : Hp) (Q : VK) => ∀ (s : Shared) (H' : Hp) (C : Addr) (cl : List (Str × Addr)) (fp : List Addr), wE (c.X.blk s H' scope (compEnvC scope cl C c.X.env) fp) elt σ H Q) σ2 H3 fun y H4 => ∃ acc, H4 D0 = some (.lst acc) ∧ acc.length < sizeLine ∧ Nx (upd H4 D0 (.lst (acc ++ [y]))) else Nx H3) := by
  refine ⟨fun i m H' => m = ds.length - i ∧ i ≤ ds.length ∧ ∃ F' w' acc, Ex F1 F' ∧ SW c.X.K F' H' (w'.up D0 (.lst acc)) ∧ I i acc w', ⟨_, rfl, Nat.zero_le _, F1, w1, [], Same.refl _, s1.newM (m := .lst []) hD ⟨[], upd_same, .nil⟩, i0⟩, ?_⟩
  rintro i m H2 ⟨rfl, hi, F2, w2, acc, e2, s2, i2⟩
  obtain ⟨k2, k3, n2⟩ := ik i acc w2 hi i2
  obtain ⟨stp, gy⟩ := st F2 H2 _ e2 s2 (k3 _)
  by_cases hlt : i < ds.length
  · obtain ⟨hg, hy⟩ := gy i ds[i] (by simp [hlt])
    refine .inr ⟨hg, fun H' => i + 1 ≤ ds.length ∧ ∃ F' w' acc, Ex F1 F' ∧ SW c.X.K F' H' (w'.up D0 (.lst acc)) ∧ I (i + 1) acc w', fun H' q => ⟨ds.length - (i + 1), by omega, rfl, q.1, q.2⟩, fun x H3 y => ?_⟩
    obtain ⟨F3, e3, s3, r3⟩ := hy x H3 y
    intro sb Hb C cl fp
    have t := turn i ds[i] acc w2 (by simp [hlt]) i2 (c.blk hb sb Hb scope C cl fp)
    have eB := ((e0.trans e1).trans e2).trans e3
    have lw : SL c.X.K F3 (L2.wipe σ (own.map (·.2))) (wipeG Γ (own.map (·.2))) := (((l.mono e1).mono e2).mono e3).wipe _
    refine wG_mono (t F3 H3 _ x eB s3 lw r3) fun σ4 H4 ⟨⟨hl4, hj4⟩, F4, Γ4, w4, e4, s4, l4, q4⟩ => ?_
    refine ⟨wipe_eq hl4 hj4, ?_⟩
    intro sb2 Hb2 C2 cl2 fp2 pins5 s5 I5
    refine thn (vif_w (q4 (c.blk hb sb2 Hb2 scope C2 cl2 fp2)) (eB.trans e4) s4 l4 pins5 s5 I5) fun tb s6 ⟨H6, I6, F6, w6, e6, sw6, q6⟩ => ⟨H6, I6, ?_⟩
    have eC := ((e2.trans e3).trans e4).trans e6
    cases tb with
    | true =>
      rw [if_pos rfl] at q6
      refine iteT ?_
      intro sb3 Hb3 C3 cl3 fp3 pins7 s7 I7
      refine thn (q6 (c.blk hb sb3 Hb3 scope C3 cl3 fp3) F6 H6 σ4 ((eB.trans e4).trans e6) sw6 (l4.mono e6) pins7 s7 I7) fun u s8 ⟨v8, H8, I8, r8, F8, d8, w8, e8, sw8, rd8, hz, hD8, q8⟩ => ⟨v8, H8, I8, r8, ?_⟩
      obtain ⟨vs, h9, r9⟩ := (sw8.mo D0 _ hD8).2
      refine ⟨vs, h9, by rw [r9.len]; exact hz, hlt, F8, w8.del D0, acc ++ [d8], eC.trans e8, ?_, q8⟩
      have : (w8.del D0).up D0 (.lst (acc ++ [d8])) = w8.up D0 (.lst (acc ++ [d8])) := by
        funext x; unfold W.up W.del; split <;> rfl
      rw [this]
      exact sw8.put (m := .lst (acc ++ [d8])) hD8 ⟨_, upd_same, r9.append (.one rd8)⟩
    | false =>
      rw [if_neg Bool.false_ne_true] at q6
      refine iteF ?_
      refine ⟨hlt, F6, w6.del D0, acc, eC, ?_, q6.2⟩
      rw [W.up_del q6.1]; exact sw6
  · have e : i = ds.length := by omega
    subst e
    exact .inl ⟨stp, fin F2 H2 w2 acc e2 s2 n2 i2⟩

/-- [elt for tg in iter if ..], the general rule: I by the turn, the items so far, the objects (without the new list) -/
theorem ve_lc {elt tg iter : Expr} {ifs : List Expr} {scope : Scope} {pos : Pos} (own : List (Str × Nat)) (hb : b.calm = true) (ok : BlkOk N sc scope own)
    (h : VI c tg iter Γ w fun ds kp w1 => ∃ I : Nat → List D → W → Prop, I 0 [] w1 ∧ ∀ D0, w1 D0 = none → (∀ i acc w2, i ≤ ds.length → I i acc w2 → kp w2 ∧ (∀ m, kp (w2.up D0 m)) ∧ w2 D0 = none) ∧
      (∀ i d acc w2, ds[i]? = some d → I i acc w2 → LcTurn E N (relS scope sc) k (own.map (·.2)) tg ifs elt Γ D0 d acc w2 (I (i + 1))) ∧ ∀ acc w2, w2 D0 = none → I ds.length acc w2 → P (.lst acc) w2)
    (hs : ∀ x, foldedSetIterable iter c.X.env x = pure x := by intro _; rfl) : VE c (.ListComp elt [⟨tg, iter, ifs, 0⟩] scope pos) Γ w P := fun F H σ e0 s l => by
  refine w_pe (pe_lc (by rw [c.calm]; exact hb) c.nd' pi_w (by rw [c.hN, c.hsc]; exact ok)
    (g := fun (v : V) (σ : L2.St) (H : Hp) (Q : L2.St → Hp → Prop) => ∀ (s : Shared) (H' : Hp) (C : Addr) (cl : List (Str × Addr)) (fp : List Addr), wG (c.X.blk s H' scope (compEnvC scope cl C c.X.env) fp) tg v σ H Q)
    (tt := fun (σ : L2.St) (H : Hp) (Q : Bool → Hp → Prop) => ∀ (s : Shared) (H' : Hp) (C : Addr) (cl : List (Str × Addr)) (fp : List Addr), wTs (c.X.blk s H' scope (compEnvC scope cl C c.X.env) fp) ifs σ H Q)
    (te := fun (σ : L2.St) (H : Hp) (Q : VK) => ∀ (s : Shared) (H' : Hp) (C : Addr) (cl : List (Str × Addr)) (fp : List Addr), wE (c.X.blk s H' scope (compEnvC scope cl C c.X.env) fp) elt σ H Q)
    (fun s' H' C cl fp => ⟨fun pins s σ H v u Q I r h => h s' H' C cl fp pins s u I r⟩) (fun s' H' C cl fp => ⟨fun pins s σ H Q I h => h s' H' C cl fp pins s I⟩) (fun s' H' C cl fp => ⟨fun pins s σ H Q I h => h s' H' C cl fp pins s I⟩) hs) ?_
  have hI := h F H σ e0 s l
  intro pins s' Inv0
  refine thn (hI pins s' Inv0) fun v s1 h1 => thn h1 fun itv s2 ⟨it, fp, tn, J, H', a1, a2, a3, a4, a5, F1, ds, kp, w1, e1, sw1, stp, k1, I, i0, rest⟩ => ?_
  refine ⟨it, fp, tn, J, H', a1, a2, a3, a4, a5, fun D0 hD => ?_⟩
  obtain ⟨ik, turn, fin⟩ := rest D0 (sw1.wnone hD)
  refine lc_run hb e0 l e1 sw1 stp D0 hD I i0 ik turn fun F2 H2 w2 acc e2 s2 n2 i2 => ?_
  obtain ⟨F3, e3, s3, r3⟩ := s2.freeze W.up_same rfl
  rw [W.del_up_id n2] at s3
  exact ⟨F3, .lst acc, w2, (e1.trans e2).trans e3, s3, r3, fin acc w2 n2 i2⟩
/-- y = [..] on one line, y a local -/
theorem vs_setLc (i : Nat) {y : Str} {py : Pos} {elt tg iter : Expr} {ifs : List Expr} {scope : Scope} {pos spos : Pos} {DD : DE} (own : List (Str × Nat)) (hb : b.calm = true) (hk : sc.kind = .function) (ok : BlkOk N sc scope own) (hi : N[i]? = some y) (hy : sc.names.lookup y = some .local)
    (hl : (py.line == pos.line) = true) (ha : (scope.names.any fun (n, k) => n == y && (k == .local || k == .cell)) = false)
    (h : VI c tg iter Γ w fun ds kp w1 => ∃ I : Nat → List D → W → Prop, I 0 [] w1 ∧ ∀ D0, w1 D0 = none → (∀ i acc w2, i ≤ ds.length → I i acc w2 → kp w2 ∧ (∀ m, kp (w2.up D0 m)) ∧ w2 D0 = none) ∧
      (∀ i d acc w2, ds[i]? = some d → I i acc w2 → LcTurn E N (relS scope sc) k (own.map (·.2)) tg ifs elt Γ D0 d acc w2 (I (i + 1))) ∧ ∀ acc w2, w2 D0 = none → I ds.length acc w2 → DD.nx (Γ.set i (some (.lst acc))) w2)
    (hs : ∀ x, foldedSetIterable iter c.X.env x = pure x := by intro _; rfl) : VS c (.Assign [.Name y py] (.ListComp elt [⟨tg, iter, ifs, 0⟩] scope pos) spos) Γ w DD := fun F H σ e0 s l => by
  refine w_ps (ps_setLc (i := i) (by rw [c.calm]; exact hb) c.nd' (by rw [c.hN]; exact hi) (by rw [c.hsc]; exact hy) (sw_true (by rw [c.hsc]; exact hk) (by rw [c.hsc]; exact hy) hl ha) pi_w (by rw [c.hN, c.hsc]; exact ok)
    (g := fun (v : V) (σ : L2.St) (H : Hp) (Q : L2.St → Hp → Prop) => ∀ (s : Shared) (H' : Hp) (C : Addr) (cl : List (Str × Addr)) (fp : List Addr), wG (c.X.blk s H' scope (compEnvC scope cl C c.X.env) fp) tg v σ H Q)
    (tt := fun (σ : L2.St) (H : Hp) (Q : Bool → Hp → Prop) => ∀ (s : Shared) (H' : Hp) (C : Addr) (cl : List (Str × Addr)) (fp : List Addr), wTs (c.X.blk s H' scope (compEnvC scope cl C c.X.env) fp) ifs σ H Q)
    (te := fun (σ : L2.St) (H : Hp) (Q : VK) => ∀ (s : Shared) (H' : Hp) (C : Addr) (cl : List (Str × Addr)) (fp : List Addr), wE (c.X.blk s H' scope (compEnvC scope cl C c.X.env) fp) elt σ H Q)
    (fun s' H' C cl fp => ⟨fun pins s σ H v u Q I r h => h s' H' C cl fp pins s u I r⟩) (fun s' H' C cl fp => ⟨fun pins s σ H Q I h => h s' H' C cl fp pins s I⟩) (fun s' H' C cl fp => ⟨fun pins s σ H Q I h => h s' H' C cl fp pins s I⟩) hs) ?_
  have hI := h F H σ e0 s l
  intro pins s' Inv0
  refine thn (hI pins s' Inv0) fun v s1 h1 => thn h1 fun itv s2 ⟨it, fp, tn, J, H', a1, a2, a3, a4, a5, F1, ds, kp, w1, e1, sw1, stp, k1, I, i0, rest⟩ => ?_
  refine ⟨it, fp, tn, J, H', a1, a2, a3, a4, a5, fun D0 hD => ?_⟩
  obtain ⟨ik, turn, fin⟩ := rest D0 (sw1.wnone hD)
  refine lc_run (Q := fun x H1 => gName i x σ H1 (toEnds c.X.K F DD).nx) hb e0 l e1 sw1 stp D0 hD I i0 ik turn fun F2 H2 w2 acc e2 s2 n2 i2 => ?_
  obtain ⟨F3, e3, s3, r3⟩ := s2.freeze W.up_same rfl
  rw [W.del_up_id n2] at s3
  exact ⟨F3, _, w2, (e1.trans e2).trans e3, s3, (((l.mono e1).mono e2).mono e3).set r3, fin acc w2 n2 i2⟩
end
end VL

end

section
set_option maxRecDepth 100000
set_option maxHeartbeats 4000000
namespace VL
open PySem PySem.Spec PyProof.Rows L2

section
variable {E : EnvR} {N : List Str} {sc : Scope} {k : Nat} {b : Md} {c : VC E N sc k b} {Γ : G} {w : W} {P : D → W → Prop}
/-! ### methods of mutable lists -/
theorem ve_append {o e : Expr} {apos cpos : Pos} (h : VE c o Γ w fun x w1 => asObj x fun a => (∃ ds, w1 a = some (.lst ds)) ∧ VE c e Γ w1 fun y w2 => ∃ ds, w2 a = some (.lst ds) ∧ ds.length < sizeLine ∧ P .non (w2.up a (.lst (ds ++ [y]))))
    (hbase : attributeBase o "append" c.X.env (eval o c.X.env) = eval o c.X.env := by rfl)
    (hfew : ((backTo cpos (starEach [e] c.X.env)).all (fun x => !x.1) && (backToKw cpos (keywordEach [] c.X.env)).all (fun x => x.1.isSome)
      && decide (([e] : List Expr).length + ([] : List Keyword).length + (if ([] : List Keyword).isEmpty then 0 else 1) < 30)) = true := by rfl)
    (hline : (apos.endLine == cpos.line) = true := by rfl) (hs : starEach [e] c.X.env = (false, eval e c.X.env) :: starEach [] c.X.env := by rfl) (hplain : (backTo cpos (starEach [] c.X.env)).any (·.1) = false := by rfl) :
    VE c (.Call (.Attribute o "append" apos) [e] [] cpos) Γ w P := fun F H σ e0 s l =>
  w_pe (pe_bm PySem.F.plainAttrs_list PySem.F.slot_list_append PySem.F.type_list_append mt_append pe_w (pa_cons pe_w pa_nil hs) hbase hfew hline hs hplain) (wE_mono (h F H σ e0 s l) fun v H1 r => res_bind r fun F1 x w1 e1 s1 r1 q1 => by
    obtain ⟨a, rfl, rfl, ⟨ds0, h0⟩, q2⟩ := asObj_inv r1 q1
    obtain ⟨vs0, hv0, _⟩ := (s1.mo a _ h0).2
    refine ⟨.inl ⟨rfl, vs0, .inl (.inl hv0)⟩, wE_mono (q2 F1 H1 σ (e0.trans e1) s1 (l.mono e1)) fun u H2 r => res_bind r fun F2 y w2 e2 s2 r2 ⟨ds, hw, hz, p⟩ => ?_⟩
    obtain ⟨vs, hv, rs⟩ := (s2.mo a _ hw).2
    exact ⟨a, vs, u, rfl, rfl, hv, by rw [rs.len]; exact hz, F2, .non, _, e1.trans e2, s2.put (m := .lst (ds ++ [y])) hw ⟨_, upd_same, rs.append (.one r2)⟩, .non, p⟩)
theorem ve_extend {o e : Expr} {apos cpos : Pos} (h : VE c o Γ w fun x w1 => asObj x fun a => (∃ ds, w1 a = some (.lst ds)) ∧ VE c e Γ w1 fun y w2 => ∃ ds es, w2 a = some (.lst ds) ∧ lstD w2 y = some es ∧ ds.length + es.length ≤ sizeLine ∧ P .non (w2.up a (.lst (ds ++ es))))
    (hbase : attributeBase o "extend" c.X.env (eval o c.X.env) = eval o c.X.env := by rfl)
    (hfew : ((backTo cpos (starEach [e] c.X.env)).all (fun x => !x.1) && (backToKw cpos (keywordEach [] c.X.env)).all (fun x => x.1.isSome)
      && decide (([e] : List Expr).length + ([] : List Keyword).length + (if ([] : List Keyword).isEmpty then 0 else 1) < 30)) = true := by rfl)
    (hline : (apos.endLine == cpos.line) = true := by rfl) (hs : starEach [e] c.X.env = (false, eval e c.X.env) :: starEach [] c.X.env := by rfl) (hplain : (backTo cpos (starEach [] c.X.env)).any (·.1) = false := by rfl) :
    VE c (.Call (.Attribute o "extend" apos) [e] [] cpos) Γ w P := fun F H σ e0 s l =>
  w_pe (pe_bm PySem.F.plainAttrs_list PySem.F.slot_list_extend PySem.F.type_list_extend mt_extend pe_w (pa_cons pe_w pa_nil hs) hbase hfew hline hs hplain) (wE_mono (h F H σ e0 s l) fun v H1 r => res_bind r fun F1 x w1 e1 s1 r1 q1 => by
    obtain ⟨a, rfl, rfl, ⟨ds0, h0⟩, q2⟩ := asObj_inv r1 q1
    obtain ⟨vs0, hv0, _⟩ := (s1.mo a _ h0).2
    refine ⟨.inl ⟨rfl, vs0, .inl (.inl hv0)⟩, wE_mono (q2 F1 H1 σ (e0.trans e1) s1 (l.mono e1)) fun u H2 r => res_bind r fun F2 y w2 e2 s2 r2 ⟨ds, es, hw, hy, hz, p⟩ => ?_⟩
    obtain ⟨vs, hv, rs⟩ := (s2.mo a _ hw).2
    obtain ⟨b', us, rfl, hb, rt⟩ := s2.lst r2 hy
    exact ⟨a, b', vs, us, rfl, rfl, hv, hb, by rw [rs.len, rt.len]; exact hz, F2, .non, _, e1.trans e2, s2.put (m := .lst (ds ++ es)) hw ⟨_, upd_same, rs.append rt⟩, .non, p⟩)
theorem ve_reverse {o : Expr} {apos cpos : Pos} (h : VE c o Γ w fun x w1 => asObj x fun a => ∃ ds, w1 a = some (.lst ds) ∧ P .non (w1.up a (.lst ds.reverse)))
    (hbase : attributeBase o "reverse" c.X.env (eval o c.X.env) = eval o c.X.env := by rfl) (hline : (apos.endLine == cpos.line) = true := by rfl) : VE c (.Call (.Attribute o "reverse" apos) [] [] cpos) Γ w P := fun F H σ e0 s l =>
  w_pe (pe_bm0 PySem.F.plainAttrs_list PySem.F.slot_list_reverse PySem.F.type_list_reverse mt_reverse pe_w hbase hline) (wE_mono (h F H σ e0 s l) fun v H1 r => res_bind r fun F1 x w1 e1 s1 r1 q1 => by
    obtain ⟨a, rfl, rfl, ds, hw, p⟩ := asObj_inv r1 q1
    obtain ⟨vs, hv, rs⟩ := (s1.mo a _ hw).2
    exact ⟨.inl ⟨rfl, vs, .inl (.inl hv)⟩, a, vs, rfl, rfl, hv, F1, .non, _, e1, s1.put (m := .lst ds.reverse) hw ⟨_, upd_same, rs.rev⟩, .non, p⟩)
theorem ve_pop {o : Expr} {apos cpos : Pos} (h : VE c o Γ w fun x w1 => asObj x fun a => ∃ ds d, w1 a = some (.lst (ds ++ [d])) ∧ P d (w1.up a (.lst ds)))
    (hbase : attributeBase o "pop" c.X.env (eval o c.X.env) = eval o c.X.env := by rfl) (hline : (apos.endLine == cpos.line) = true := by rfl) : VE c (.Call (.Attribute o "pop" apos) [] [] cpos) Γ w P := fun F H σ e0 s l =>
  w_pe (pe_bm0 PySem.F.plainAttrs_list PySem.F.slot_list_pop PySem.F.type_list_pop mt_pop pe_w hbase hline) (wE_mono (h F H σ e0 s l) fun v H1 r => res_bind r fun F1 x w1 e1 s1 r1 q1 => by
    obtain ⟨a, rfl, rfl, ds, d, hw, p⟩ := asObj_inv r1 q1
    obtain ⟨vs, hv, rs⟩ := (s1.mo a _ hw).2
    have hl : vs.length = ds.length + 1 := by rw [rs.len]; simp
    have hd : (ds ++ [d])[vs.length - 1]? = some d := by rw [hl]; simp
    obtain ⟨u, hu, ru⟩ := rs.get hd
    have rs' := rs.dropLast
    rw [List.dropLast_concat] at rs'
    exact ⟨.inl ⟨rfl, vs, .inl (.inl hv)⟩, a, vs, u, rfl, rfl, hv, hu, F1, d, _, e1, s1.put (m := .lst ds) hw ⟨_, upd_same, rs'⟩, ru, p⟩)

/-! ### a def by its body -/
def startG (N : List Str) (ds : List D) : G := ds.map some ++ List.replicate (N.length - ds.length) none
theorem reps_get_map {K : PySem.W.Frag} {F : Hp} {vs : List V} {ds : List D} {n : Nat} (r : Reps K F vs ds) : SL K F (vs.map some ++ List.replicate n none) (ds.map some ++ List.replicate n none) := by
  refine ⟨by rw [List.length_append, List.length_append, List.length_map, List.length_map, r.len]; simp, fun i d h => ?_⟩
  by_cases hi : i < ds.length
  · rw [List.getElem?_append_left (by simpa using hi), List.getElem?_map] at h
    cases e : ds[i]? with
    | none => rw [e] at h; cases h
    | some d' =>
      rw [e] at h
      cases h
      obtain ⟨v, h1, h2⟩ := r.get e
      refine ⟨v, ?_, h2⟩
      rw [List.getElem?_append_left (by rw [List.length_map, r.len]; exact hi), List.getElem?_map, h1]
      rfl
  · rw [List.getElem?_append_right (by simpa using Nat.le_of_not_lt hi), List.getElem?_replicate] at h
    split at h <;> cases h
theorem start_SL {K : PySem.W.Frag} {F : Hp} {N : List Str} {vs : List V} {ds : List D} (r : Reps K F vs ds) : SL K F (L2.start N vs) (startG N ds) := by
  unfold L2.start startG
  rw [r.len]
  exact reps_get_map r
/-- THE RULE for a def -/
theorem fnV {x qual : Str} {st : Stmt} {f : Addr} {fd : FuncData} {N ps : List Str} {k : Nat} {S : SpV} (F : Fun E.K x qual st f fd) (Sc : FnScope N ps (defScope st)) (len : ∀ ds w P R, S ds w P R → ds.length = ps.length)
    (body : ∀ (c : VC E N (defScope st) k mF) (ds : List D) (w : W) (P : D → W → Prop), S ds w P c.R → VSs c (defBody st) (startG N ds) w { nx := fun _ w' => P .non w', rt := P }) : FnV E (k + 1) f fd ps S := by
  refine F.okX Sc (fun vs H Q X ⟨F0, ds, w, P, R, s, r, h, _⟩ => by rw [r.len]; exact len ds w P R h) (fun cdv A outer s0 H vs Q X hr h => ?_)
  obtain ⟨F0, ds, w, P, R, s, r, h, hP, hR⟩ := h
  let c : VC E N (defScope st) k mF := {
    X := cxOf (L2.CX E.P E.w) E.P E.w E.K E.mg E.base N qual (defScope st) f cdv A outer s0 H X
    F0 := F0
    R := R
    hP := rfl
    hw := rfl
    hK := rfl
    hmg := rfl
    hbase := rfl
    hN := rfl
    nd := Sc.nd
    hsc := rfl
    roomH := L2H.roomH_of hr
    room := fun _ => hr
    calm := rfl
    po := passes_of rfl
    tk := (takes_of (E := X) rfl rfl rfl rfl).imp fun cls d _ H' q => by
      obtain ⟨C, F', w', rfl, rfl, e, s', q⟩ := q
      exact hR C w' q F' H' e s'
    fn := fun _ _ => rfl
    hot := fun z => by cases z }
  have hb := body c ds w P h F0 H (L2.start N vs) (Same.refl F0) s (start_SL r)
  refine ⟨wSs c.X (defBody st), pss_w, wSs_mono hb ⟨?_, ?_, fun _ _ q => ?_, fun _ _ q => ?_⟩⟩
  · rintro σ' H' ⟨F', Γ', w', e, s', l', p⟩
    exact hP .non w' p .non F' H' e s' .non
  · rintro v H' ⟨F', d, w', e, s', r', p⟩
    exact hP d w' p v F' H' e s' r'
  · obtain ⟨_, _, _, _, _, _, z⟩ := q
    exact z.elim
  · obtain ⟨_, _, _, _, _, _, z⟩ := q
    exact z.elim

/-! ### raise X('..') of an own class without __init__ -/
/-- what the text's own exception class at C has -/
structure ExcF (E : EnvR) (x : Str) (C : Addr) : Prop where
  gP : E.mg x = some (.ref C)
  xP : PySem.W.excIn E.K C [.type "ValueError", .type "Exception", .type "BaseException", .type "object"] "ValueError.__new__" = true
  kP : PySem.W.keepIn E.K (.ref C) = true
  bP : PySem.W.subIn E.K (.ref C) (.type "BaseException") = some true
  tP : PySem.W.typeIn E.K (.ref C) = some (.type "type")
theorem vs_raise {x m : Str} {C : Addr} {j : Nat} {p p2 pos pos' : Pos} {DD : DE} (X : ExcF E x C) (hc : b.calm = true) (hg : sc.names.lookup x = some .globalImplicit) (h : c.R C w) (hdb : (x == ("__debug__" : Str)) = false := by decide) :
    VS c (.Raise (some (.Call (.Name x p) [.Constant (.str m) j p2] [] pos)) none pos') Γ w DD := fun F H σ e0 s l =>
  w_ps (ps_raise (by rw [c.calm]; exact hc) c.tk (pmk_own PySem.F.excBase_ValueError (by rw [c.hK]; exact X.xP) (by rw [c.hmg]; exact X.gP) (by rw [c.hK]; exact X.kP) (raises_own (by rw [c.hK]; exact X.bP) (by rw [c.hK]; exact X.tP)) (c.gl hg) hdb))
    ⟨C, F, w, rfl, rfl, e0, by rw [← c.hK]; exact s, h⟩
end

/-! ### the law -/
def SLaw : SpV := fun ds _ P _ => ∃ ns : List Int, ds = [.scr ns] ∧ ns.length ≤ 63 ∧ ∀ w', P (.bl true) w'
theorem law_walk {l : PySem.W.OpenLaw} {k : Nat} {q : Program} {loose : List Str} {XP : (Str → Option Value) → Heap → Prop} {YP : World → Heap → Prop} {d : DefRec} {K : Params → PySem.W.Frag} {x : Str} (hn : l.most = some 63) (hdf : d.params.defaults = []) (hr : Room k callerA)
    (hY : ∀ (w : World) (h : Heap), YP w h → (K w.params).In h)
    (F : ∀ (w : World) (mg : Str → Option Value) (fa : Addr) (h : Heap), (K w.params).In h → h.Ns mainGlobals mg → mg d.name = some (.ref fa) →
      ∃ fd : FuncData, (∀ (s : Shared) (u : Value), BindsTo s fd ⟨[u], []⟩ [(x, u)]) ∧ ∀ base : Heap, (K w.params).In base → base.Ns mainGlobals mg → FnV ⟨l.prog, w, K w.params, mg, base⟩ k fa fd [x] SLaw) :
    PySem.W.WalkO q loose XP YP l.row.toRowW d [] (fun f vs => PySem.call f vs) :=
  L2.walk_of (n := 63) (k := k) (x := x) (CX := fun w => L2.CX l.prog w) (sp := fun w => spV (K w.params) SLaw) hn (by decide) hdf hr hY F
    (fun w H a ns hl _ hS => ⟨H, [.scr ns], fun _ => none, fun d _ => d = .bl true, fun _ _ => False, ⟨Same.refl H, fun _ _ z => by cases z⟩, .one (.scr hS), ⟨ns, rfl, hl, fun _ => rfl⟩, fun d w' p v F' H' _ _ r => by subst p; exact r.bl_inv, fun _ _ z => z.elim⟩)
    (fun w H s e s' z => by obtain ⟨_, _, _, _, _, _, _, _, _, _, _, _, z⟩ := z; exact z)

/-! ### names by their places -/
inductive IxOf : List Str → Str → Nat → Prop where
  | here {x : Str} {r : List Str} : IxOf (x :: r) x 0
  | there {x y : Str} {r : List Str} {i : Nat} (h : IxOf r x i) : IxOf (y :: r) x (i + 1)
theorem IxOf.get : ∀ {N : List Str} {x : Str} {i : Nat}, IxOf N x i → N[i]? = some x
  | _, _, _, .here => rfl
  | _, _, _, .there h => by rw [List.getElem?_cons_succ]; exact h.get
theorem ix0 {a : Str} {r : List Str} : IxOf (a :: r) a 0 := .here
theorem ix1 {a x0 : Str} {r : List Str} : IxOf (x0 :: a :: r) a 1 := .there ix0
theorem ix2 {a x0 x1 : Str} {r : List Str} : IxOf (x0 :: x1 :: a :: r) a 2 := .there ix1
theorem ix3 {a x0 x1 x2 : Str} {r : List Str} : IxOf (x0 :: x1 :: x2 :: a :: r) a 3 := .there ix2
theorem ix4 {a x0 x1 x2 x3 : Str} {r : List Str} : IxOf (x0 :: x1 :: x2 :: x3 :: a :: r) a 4 := .there ix3
theorem ix5 {a x0 x1 x2 x3 x4 : Str} {r : List Str} : IxOf (x0 :: x1 :: x2 :: x3 :: x4 :: a :: r) a 5 := .there ix4
theorem ix6 {a x0 x1 x2 x3 x4 x5 : Str} {r : List Str} : IxOf (x0 :: x1 :: x2 :: x3 :: x4 :: x5 :: a :: r) a 6 := .there ix5
theorem ix7 {a x0 x1 x2 x3 x4 x5 x6 : Str} {r : List Str} : IxOf (x0 :: x1 :: x2 :: x3 :: x4 :: x5 :: x6 :: a :: r) a 7 := .there ix6
theorem ix8 {a x0 x1 x2 x3 x4 x5 x6 x7 : Str} {r : List Str} : IxOf (x0 :: x1 :: x2 :: x3 :: x4 :: x5 :: x6 :: x7 :: a :: r) a 8 := .there ix7
theorem ix9 {a x0 x1 x2 x3 x4 x5 x6 x7 x8 : Str} {r : List Str} : IxOf (x0 :: x1 :: x2 :: x3 :: x4 :: x5 :: x6 :: x7 :: x8 :: a :: r) a 9 := .there ix8
theorem ix10 {a x0 x1 x2 x3 x4 x5 x6 x7 x8 x9 : Str} {r : List Str} : IxOf (x0 :: x1 :: x2 :: x3 :: x4 :: x5 :: x6 :: x7 :: x8 :: x9 :: a :: r) a 10 := .there ix9
theorem ix11 {a x0 x1 x2 x3 x4 x5 x6 x7 x8 x9 x10 : Str} {r : List Str} : IxOf (x0 :: x1 :: x2 :: x3 :: x4 :: x5 :: x6 :: x7 :: x8 :: x9 :: x10 :: a :: r) a 11 := .there ix10
theorem ix12 {a x0 x1 x2 x3 x4 x5 x6 x7 x8 x9 x10 x11 : Str} {r : List Str} : IxOf (x0 :: x1 :: x2 :: x3 :: x4 :: x5 :: x6 :: x7 :: x8 :: x9 :: x10 :: x11 :: a :: r) a 12 := .there ix11
theorem ix13 {a x0 x1 x2 x3 x4 x5 x6 x7 x8 x9 x10 x11 x12 : Str} {r : List Str} : IxOf (x0 :: x1 :: x2 :: x3 :: x4 :: x5 :: x6 :: x7 :: x8 :: x9 :: x10 :: x11 :: x12 :: a :: r) a 13 := .there ix12
theorem ix14 {a x0 x1 x2 x3 x4 x5 x6 x7 x8 x9 x10 x11 x12 x13 : Str} {r : List Str} : IxOf (x0 :: x1 :: x2 :: x3 :: x4 :: x5 :: x6 :: x7 :: x8 :: x9 :: x10 :: x11 :: x12 :: x13 :: a :: r) a 14 := .there ix13
theorem ix15 {a x0 x1 x2 x3 x4 x5 x6 x7 x8 x9 x10 x11 x12 x13 x14 : Str} {r : List Str} : IxOf (x0 :: x1 :: x2 :: x3 :: x4 :: x5 :: x6 :: x7 :: x8 :: x9 :: x10 :: x11 :: x12 :: x13 :: x14 :: a :: r) a 15 := .there ix14
theorem ix16 {a x0 x1 x2 x3 x4 x5 x6 x7 x8 x9 x10 x11 x12 x13 x14 x15 : Str} {r : List Str} : IxOf (x0 :: x1 :: x2 :: x3 :: x4 :: x5 :: x6 :: x7 :: x8 :: x9 :: x10 :: x11 :: x12 :: x13 :: x14 :: x15 :: a :: r) a 16 := .there ix15
section
variable {E : EnvR} {N : List Str} {sc : Scope} {k : Nat} {b : Md} {c : VC E N sc k b} {Γ : G} {w : W} {P : D → W → Prop}
theorem ve_name {i : Nat} {x : Str} {d : D} {pos : Pos} (hN : IxOf N x i) (hv : Vis sc x) (hΓ : Γ[i]? = some (some d)) (h : P d w)
    (hd : (x == ("__debug__" : Str)) = false := by decide) (hcd : (x == ("__classdict__" : Str)) = false := by decide) : VE c (.Name x pos) Γ w P := ve_var i hN.get hv hΓ h hd hcd
theorem vs_let {i : Nat} {x : Str} {e : Expr} {pos pos' : Pos} {DD : DE} (hi : IxOf N x i) (hx : Sto sc b x) (h : VE c e Γ w fun d w1 => DD.nx (Γ.set i (some d)) w1) (hs : swapsWith e (some (.Name x pos')) pos.line c.X.env = pure false := by rfl) : VS c (.Assign [.Name x pos'] e pos) Γ w DD :=
  vs_set i hi.get hx h hs
theorem vg_to {i : Nat} {x : Str} {pos : Pos} {d : D} {Q : G → W → Prop} (hi : IxOf N x i) (hx : Sto sc b x) (h : Q (Γ.set i (some d)) w) : VG c (.Name x pos) [i] d Γ w Q := vg_name i hi.get hx h
end
end VL

end

section
set_option maxRecDepth 100000
set_option maxHeartbeats 4000000
namespace VL
open PySem PySem.Spec PyProof.Rows L2

theorem ite_dec {p A B : Prop} [Decidable p] (h1 : p → A) (h2 : ¬ p → B) : if decide p = true then A else B := by
  by_cases h : p
  · rw [if_pos (decide_eq_true h)]; exact h1 h
  · rw [if_neg (fun z => h (of_decide_eq_true z))]; exact h2 h
theorem ite_ndec {p A B : Prop} [Decidable p] (h1 : ¬ p → A) (h2 : p → B) : if (!decide p) = true then A else B := by
  by_cases h : p
  · rw [decide_eq_true h]; exact iteF (h2 h)
  · rw [decide_eq_false h]; exact iteT (h1 h)
theorem ite_b {x : Bool} {A B : Prop} (h1 : x = true → A) (h2 : x = false → B) : if x = true then A else B := by
  cases x with
  | true => exact iteT (h1 rfl)
  | false => exact iteF (h2 rfl)
theorem ite_nb {x : Bool} {A B : Prop} (h1 : x = false → A) (h2 : x = true → B) : if (!x) = true then A else B := by
  cases x with
  | true => exact iteF (h2 rfl)
  | false => exact iteT (h1 rfl)

/-! ### what is looked up in a scope, as Bools for the kernel -/
def visB (sc : Scope) (x : Str) : Bool := (match sc.names.lookup x with | some .local => true | some .cell => true | some .free => true | _ => false) && !(x == ("__debug__" : Str)) && !(x == ("__classdict__" : Str))
def stoB (sc : Scope) (b : Md) (x : Str) : Bool := match sc.names.lookup x with | some .local => true | some .cell => b.own | _ => false
def glB (sc : Scope) (x : Str) : Bool := (match sc.names.lookup x with | some .globalImplicit => true | _ => false) && !(x == ("__debug__" : Str)) && !(x == ("__name__" : Str))
theorem visB_vis {sc : Scope} {x : Str} (h : visB sc x = true) : Vis sc x ∧ (x == ("__debug__" : Str)) = false ∧ (x == ("__classdict__" : Str)) = false := by
  unfold visB at h
  simp only [Bool.and_eq_true, Bool.not_eq_true'] at h
  obtain ⟨⟨h1, h2⟩, h3⟩ := h
  refine ⟨?_, h2, h3⟩
  split at h1
  · rename_i e; exact .inl e
  · rename_i e; exact .inr (.inl e)
  · rename_i e; exact .inr (.inr e)
  · cases h1
theorem stoB_sto {sc : Scope} {b : Md} {x : Str} (h : stoB sc b x = true) : Sto sc b x := by
  unfold stoB at h
  split at h
  · rename_i e; exact .inl e
  · rename_i e; exact .inr ⟨e, h⟩
  · cases h
theorem glB_gl {sc : Scope} {x : Str} (h : glB sc x = true) : sc.names.lookup x = some .globalImplicit ∧ (x == ("__debug__" : Str)) = false ∧ x ≠ "__name__" := by
  unfold glB at h
  simp only [Bool.and_eq_true, Bool.not_eq_true'] at h
  obtain ⟨⟨h1, h2⟩, h3⟩ := h
  refine ⟨?_, h2, fun e => ?_⟩
  · split at h1
    · rename_i e; exact e
    · cases h1
  · subst e; simp at h3
theorem bt_isi : bootBuiltins "isinstance" = some (.builtin "isinstance") := by kernel_rfl
theorem bt_len : bootBuiltins "len" = some (.builtin "len") := by kernel_rfl
theorem bt_max : bootBuiltins "max" = some (.builtin "max") := by kernel_rfl
theorem bt_min : bootBuiltins "min" = some (.builtin "min") := by kernel_rfl
theorem bt_sum : bootBuiltins "sum" = some (.builtin "sum") := by kernel_rfl
theorem bt_abs : bootBuiltins "abs" = some (.builtin "abs") := by kernel_rfl
theorem bt_all : bootBuiltins "all" = some (.builtin "all") := by kernel_rfl
theorem bt_any : bootBuiltins "any" = some (.builtin "any") := by kernel_rfl
theorem bt_sorted : bootBuiltins "sorted" = some (.builtin "sorted") := by kernel_rfl
theorem bt_int : bootBuiltins "int" = some (.type "int") := by kernel_rfl
theorem bt_str : bootBuiltins "str" = some (.type "str") := by kernel_rfl
theorem bt_bool : bootBuiltins "bool" = some (.type "bool") := by kernel_rfl
theorem bt_list : bootBuiltins "list" = some (.type "list") := by kernel_rfl
theorem bt_tuple : bootBuiltins "tuple" = some (.type "tuple") := by kernel_rfl

theorem asB_i {x : Bool} {k : Bool → Prop} (h : k x) : asB (.bl x) k := h
theorem asInt_i {x : Int} {k : Int → Prop} (h : k x) : asInt (.int x) k := h
theorem asObj_i {x : Addr} {k : Addr → Prop} (h : k x) : asObj (.obj x) k := h
theorem if_t {A B : Prop} (h : A) : if true = true then A else B := iteT h
theorem if_f {A B : Prop} (h : B) : if false = true then A else B := iteF h
def TruE (x : D) (w : W) (Q : Bool → Prop) : Prop := ∃ t, TruD x w t ∧ Q t
theorem tr_bl {b : Bool} {w : W} {Q : Bool → Prop} (h : Q b) : TruE (.bl b) w Q := ⟨b, rfl, h⟩
theorem tr_int {i : Int} {w : W} {Q : Bool → Prop} (h : Q (i != 0)) : TruE (.int i) w Q := ⟨_, rfl, h⟩
theorem tr_non {w : W} {Q : Bool → Prop} (h : Q false) : TruE .non w Q := ⟨_, rfl, h⟩
theorem tr_tup {ds : List D} {w : W} {Q : Bool → Prop} (h : Q (!ds.isEmpty)) : TruE (.tup ds) w Q := ⟨_, rfl, h⟩
theorem tr_lst {ds : List D} {w : W} {Q : Bool → Prop} (h : Q (!ds.isEmpty)) : TruE (.lst ds) w Q := ⟨_, rfl, h⟩
theorem tr_str {y : Str} {w : W} {Q : Bool → Prop} (hz : y.length ≤ sizeLine) (h : Q ((y.length : Int) != 0)) : TruE (.str y) w Q := ⟨_, ⟨hz, rfl⟩, h⟩
theorem tr_obj {a : Addr} {ds : List D} {w : W} {Q : Bool → Prop} (hw : w a = some (.lst ds)) (h : Q (!ds.isEmpty)) : TruE (.obj a) w Q := ⟨_, by unfold TruD; simp only [hw], h⟩
theorem if_nt {A B : Prop} (h : B) : if (!true) = true then A else B := h
theorem if_nf {A B : Prop} (h : A) : if (!false) = true then A else B := h
theorem if_dt {p A B : Prop} [Decidable p] (hp : p) (h : A) : if decide p = true then A else B := by rw [if_pos (decide_eq_true hp)]; exact h
theorem if_df {p A B : Prop} [Decidable p] (hp : ¬ p) (h : B) : if decide p = true then A else B := by rw [if_neg (fun z => hp (of_decide_eq_true z))]; exact h
theorem if_ndt {p A B : Prop} [Decidable p] (hp : ¬ p) (h : A) : if (!decide p) = true then A else B := by rw [decide_eq_false hp]; exact if_nf h
theorem if_ndf {p A B : Prop} [Decidable p] (hp : p) (h : B) : if (!decide p) = true then A else B := by rw [decide_eq_true hp]; exact if_nt h
theorem len_small {ds : List D} (h : Nat.ble ds.length 100 = true) : ds.length ≤ sizeLine := Nat.le_trans (Nat.le_of_ble_eq_true h) (by decide)
theorem and_len {ds : List D} {Q : Prop} (h : ds.length ≤ sizeLine) (q : Q) : ds.length ≤ sizeLine ∧ Q := ⟨h, q⟩
/-- the built-in names that stand as they are -/
structure Blt (E : EnvR) : Prop where
  len : E.mg "len" = none
  int : E.mg "int" = none
  isi : E.mg "isinstance" = none
  range : E.mg "range" = none
  max : E.mg "max" = none
  min : E.mg "min" = none
  sorted : E.mg "sorted" = none
  list : E.mg "list" = none
  tuple : E.mg "tuple" = none
  sum : E.mg "sum" = none
  abs : E.mg "abs" = none
  str : E.mg "str" = none
  all : E.mg "all" = none
  any : E.mg "any" = none
  enum : E.mg "enumerate" = none
  bool : E.mg "bool" = none
  clsG : ClsG E.K

section
variable {E : EnvR} {N : List Str} {sc : Scope} {k : Nat} {b : Md} {c : VC E N sc k b} {Γ : G} {w : W} {P : D → W → Prop}
theorem vt_tr {a : Expr} {PB : Bool → W → Prop} (h : VE c a Γ w fun x w1 => TruE x w1 fun t => PB t w1) (he : ∀ whole, isTrue a c.X.env whole = (do let v ← whole; standAt a.pos; holding [v] (truthy v))) : VT c a Γ w PB := vt_tru h he
theorem ve_nm {i : Nat} {x : Str} {d : D} {pos : Pos} (hN : IxOf N x i) (hv : visB sc x = true) (hΓ : Γ[i]? = some (some d)) (h : P d w) : VE c (.Name x pos) Γ w P :=
  ve_var i hN.get (visB_vis hv).1 hΓ h (visB_vis hv).2.1 (visB_vis hv).2.2
theorem vs_lt {i : Nat} {x : Str} {e : Expr} {pos pos' : Pos} {DD : DE} (hi : IxOf N x i) (hx : stoB sc b x = true) (h : VE c e Γ w fun d w1 => DD.nx (Γ.set i (some d)) w1) (hs : swapsWith e (some (.Name x pos')) pos.line c.X.env = pure false) : VS c (.Assign [.Name x pos'] e pos) Γ w DD :=
  vs_set i hi.get (stoB_sto hx) h hs
theorem vg_nm {i : Nat} {x : Str} {pos : Pos} {d : D} {Q : G → W → Prop} (hi : IxOf N x i) (hx : stoB sc b x = true) (h : Q (Γ.set i (some d)) w) : VG c (.Name x pos) [i] d Γ w Q := vg_name i hi.get (stoB_sto hx) h
theorem ve_gO {x : Str} {a : Addr} {pos : Pos} (hg : glB sc x = true) (hm : E.mg x = some (.ref a)) (h : P (.obj a) w) : VE c (.Name x pos) Γ w P :=
  ve_glob (v := .ref a) (d := .obj a) (glB_gl hg).1 hm rfl (fun _ => .obj a) h (glB_gl hg).2.1
theorem ve_gI {x : Str} {n : Int} {t : Tok} {pos : Pos} (hg : glB sc x = true) (hm : E.mg x = some (.int n t)) (h : P (.int n) w) : VE c (.Name x pos) Γ w P :=
  ve_glob (v := .int n) (d := .int n) (glB_gl hg).1 hm ⟨t, rfl⟩ (fun _ => .int n) h (glB_gl hg).2.1
theorem ve_gS {x : Str} {n : Str} {t : Tok} {pos : Pos} (hg : glB sc x = true) (hm : E.mg x = some (.str n t)) (h : P (.str n) w) : VE c (.Name x pos) Γ w P :=
  ve_glob (v := .str n) (d := .str n) (glB_gl hg).1 hm ⟨t, rfl⟩ (fun _ => .str n) h (glB_gl hg).2.1
theorem ve_ty (x : Str) {n : String} {pos : Pos} (hg : glB sc x = true) (hm : E.mg x = none) (hv : bootBuiltins x = some (.type n)) (h : P (.ty n) w) : VE c (.Name x pos) Γ w P :=
  ve_bltn (v := .ty n) (d := .ty n) (glB_gl hg).1 hm hv rfl (fun _ => .ty n) h (glB_gl hg).2.2 (glB_gl hg).2.1
theorem blt1 (x : Str) {id : String} {p pos : Pos} {e : Expr} (hg : glB sc x = true) (hm : E.mg x = none) (hv : bootBuiltins x = some (.builtin id)) (h : VE c e Γ w fun d w1 => VCl c (.builtin id) [d] w1 P) (he : starEach [e] c.X.env = (false, eval e c.X.env) :: starEach [] c.X.env) : VE c (.Call (.Name x p) [e] [] pos) Γ w P :=
  ve_callB (glB_gl hg).1 hm hv (va_cons (h.imp fun _ _ z => va_nil z) he) (glB_gl hg).2.2 (glB_gl hg).2.1 he rfl
theorem blt2 (x : Str) {id : String} {p pos : Pos} {e f : Expr} (hg : glB sc x = true) (hm : E.mg x = none) (hv : bootBuiltins x = some (.builtin id)) (h : VE c e Γ w fun d w1 => VE c f Γ w1 fun d2 w2 => VCl c (.builtin id) [d, d2] w2 P)
    (he : starEach [e, f] c.X.env = (false, eval e c.X.env) :: starEach [f] c.X.env) (hf : starEach [f] c.X.env = (false, eval f c.X.env) :: starEach [] c.X.env) : VE c (.Call (.Name x p) [e, f] [] pos) Γ w P :=
  ve_callB (glB_gl hg).1 hm hv (va_cons (h.imp fun _ _ z => va_cons (z.imp fun _ _ z => va_nil z) hf) he) (glB_gl hg).2.2 (glB_gl hg).2.1 he (by rw [hf]; rfl)
theorem bty1 (x : Str) {T : String} {p pos : Pos} {e : Expr} (hg : glB sc x = true) (hm : E.mg x = none) (hv : bootBuiltins x = some (.type T)) (h : VE c e Γ w fun d w1 => VCl c (.type T) [d] w1 P) (he : starEach [e] c.X.env = (false, eval e c.X.env) :: starEach [] c.X.env) : VE c (.Call (.Name x p) [e] [] pos) Γ w P :=
  ve_callTy (glB_gl hg).1 hm hv (va_cons (h.imp fun _ _ z => va_nil z) he) (glB_gl hg).2.2 (glB_gl hg).2.1 he rfl
section
variable {x : Str} {j : Nat} {S : SpV} {p pos : Pos}
theorem call0 (h : Callable0 E x j S) (hc : b.calm = true) (hj : j ≤ k) (hg : glB sc x = true) (q : S [] w P c.R) : VE c (.Call (.Name x p) [] [] pos) Γ w P := h.run c hc hj (glB_gl hg).1 q
theorem call1 {a1 : Expr} (h : Callable E x j 1 S) (hc : b.calm = true) (hj : j ≤ k) (hg : glB sc x = true) (q : VE c a1 Γ w fun d1 w1 => S [d1] w1 P c.R) (h1 : starEach [a1] c.X.env = (false, eval a1 c.X.env) :: starEach [] c.X.env) : VE c (.Call (.Name x p) [a1] [] pos) Γ w P :=
  h.run c hc hj (glB_gl hg).1 rfl h1 rfl (va_cons (q.imp fun _ _ z => va_nil z) h1)
theorem call2 {a1 a2 : Expr} (h : Callable E x j 2 S) (hc : b.calm = true) (hj : j ≤ k) (hg : glB sc x = true) (q : VE c a1 Γ w fun d1 w1 => VE c a2 Γ w1 fun d2 w2 => S [d1, d2] w2 P c.R)
    (h1 : starEach [a1, a2] c.X.env = (false, eval a1 c.X.env) :: starEach [a2] c.X.env) (h2 : starEach [a2] c.X.env = (false, eval a2 c.X.env) :: starEach [] c.X.env) : VE c (.Call (.Name x p) [a1, a2] [] pos) Γ w P :=
  h.run c hc hj (glB_gl hg).1 rfl h1 (by rw [h2]; rfl) (va_cons (q.imp fun _ _ z => va_cons (z.imp fun _ _ z => va_nil z) h2) h1)
theorem call3 {a1 a2 a3 : Expr} (h : Callable E x j 3 S) (hc : b.calm = true) (hj : j ≤ k) (hg : glB sc x = true) (q : VE c a1 Γ w fun d1 w1 => VE c a2 Γ w1 fun d2 w2 => VE c a3 Γ w2 fun d3 w3 => S [d1, d2, d3] w3 P c.R)
    (h1 : starEach [a1, a2, a3] c.X.env = (false, eval a1 c.X.env) :: starEach [a2, a3] c.X.env) (h2 : starEach [a2, a3] c.X.env = (false, eval a2 c.X.env) :: starEach [a3] c.X.env) (h3 : starEach [a3] c.X.env = (false, eval a3 c.X.env) :: starEach [] c.X.env) : VE c (.Call (.Name x p) [a1, a2, a3] [] pos) Γ w P :=
  h.run c hc hj (glB_gl hg).1 rfl h1 (by rw [h2, h3]; rfl) (va_cons (q.imp fun _ _ z => va_cons (z.imp fun _ _ z => va_cons (z.imp fun _ _ z => va_nil z) h3) h2) h1)
theorem call4 {a1 a2 a3 a4 : Expr} (h : Callable E x j 4 S) (hc : b.calm = true) (hj : j ≤ k) (hg : glB sc x = true) (q : VE c a1 Γ w fun d1 w1 => VE c a2 Γ w1 fun d2 w2 => VE c a3 Γ w2 fun d3 w3 => VE c a4 Γ w3 fun d4 w4 => S [d1, d2, d3, d4] w4 P c.R)
    (h1 : starEach [a1, a2, a3, a4] c.X.env = (false, eval a1 c.X.env) :: starEach [a2, a3, a4] c.X.env) (h2 : starEach [a2, a3, a4] c.X.env = (false, eval a2 c.X.env) :: starEach [a3, a4] c.X.env) (h3 : starEach [a3, a4] c.X.env = (false, eval a3 c.X.env) :: starEach [a4] c.X.env) (h4 : starEach [a4] c.X.env = (false, eval a4 c.X.env) :: starEach [] c.X.env) : VE c (.Call (.Name x p) [a1, a2, a3, a4] [] pos) Γ w P :=
  h.run c hc hj (glB_gl hg).1 rfl h1 (by rw [h2, h3, h4]; rfl) (va_cons (q.imp fun _ _ z => va_cons (z.imp fun _ _ z => va_cons (z.imp fun _ _ z => va_cons (z.imp fun _ _ z => va_nil z) h4) h3) h2) h1)
end
/-- an operator of a class: its promise S, whose values are instances -/
def OwnBin (E : EnvR) (op : Operator) (C : Addr) (k : Nat) (S : SpV) : Prop := ∃ (f : Addr) (fd : FuncData) (ps : List Str), FnV E k f fd ps S ∧ Binds E.K fd ps [] ∧ PySem.W.selfFirst E.K C = true ∧ PySem.W.findIn E.K (.ref C) (PySem.dunder op.info.2) = some (some (.ref f)) ∧
  PySem.W.isFn E.K (.ref f) = true ∧ ∀ ds w P R, S ds w P R → S ds w (fun d w' => (match d with | .ins _ _ => True | _ => False) ∧ P d w') R
theorem vo_ownB {op : Operator} {C : Addr} {j : Nat} {S : SpV} {x y : D} {m1 m2 : Str} (h : OwnBin E op C j S) (hc : b.calm = true) (hj : j ≤ k) (hx : InsD w x C m1) (hy : InsD w y C m2) (q : S [x, y] w P c.R) : VO c (binaryOp op) x y w P := by
  obtain ⟨f, fd, ps, hF, hB, hs, hf, hi, hv⟩ := h
  intro F H vx vy e0 s rx ry
  refine wO_mono (vo_own hF hB hs hf hi hc hj hx hy (fun d w' z => ?_) (hv _ _ _ _ q) F H vx vy e0 s rx ry) fun v H' r => r.mono (Same.refl F) fun d w' z => z.2
  obtain ⟨z, _⟩ := z
  cases d <;> first | exact True.intro | exact z.elim
def OwnNeg (E : EnvR) (C : Addr) (k : Nat) (S : SpV) : Prop := ∃ (f : Addr) (fd : FuncData) (ps : List Str), FnV E k f fd ps S ∧ Binds E.K fd ps [] ∧ PySem.W.findIn E.K (.ref C) "__neg__" = some (some (.ref f)) ∧ PySem.W.isFn E.K (.ref f) = true
theorem vu_ownN {C : Addr} {j : Nat} {S : SpV} {x : D} {m1 : Str} (h : OwnNeg E C j S) (hc : b.calm = true) (hj : j ≤ k) (hx : InsD w x C m1) (q : S [x] w P c.R) : VU c (unaryOp .USub) x w P := by
  obtain ⟨f, fd, ps, hF, hB, hs, hf⟩ := h
  exact vu_own hF hB hs hf hc hj hx q
theorem tyd_int {i : Int} : TyD E.K w (.int i) (.type "int") := rfl
theorem tyd_bl {i : Bool} : TyD E.K w (.bl i) (.type "bool") := rfl
theorem tyd_str {i : Str} : TyD E.K w (.str i) (.type "str") := rfl
theorem tyd_non : TyD E.K w .non (.type "NoneType") := rfl
theorem tyd_tup {ds : List D} : TyD E.K w (.tup ds) (.type "tuple") := rfl
theorem tyd_lst {ds : List D} : TyD E.K w (.lst ds) (.type "list") := rfl
theorem tyd_ins {C : Addr} {fs : List (Str × D)} (h : ClsI E.K C) : TyD E.K w (.ins C fs) (.ref C) := by unfold TyD; exact And.intro (Eq.refl _) h
theorem tyd_oL {a : Addr} {ds : List D} (h : w a = some (.lst ds)) : TyD E.K w (.obj a) (.type "list") := by unfold TyD; simp only [h]
theorem tyd_oI {a C : Addr} {fs : List (Str × D)} (h : w a = some (.ins C fs)) (hc : ClsI E.K C) : TyD E.K w (.obj a) (.ref C) := by unfold TyD; simp only [h]; exact ⟨True.intro, hc⟩
/-- isinstance against a built-in class -/
theorem isi_ty {x : D} {t n : String} {r : Bool} (g : ClsG E.K) (hx : TyD E.K w x (.type t)) (hk : kitB t n = some r) (h : P (.bl r) w) : VCl c (.builtin "isinstance") [x, .ty n] w P := vcl_isi g hx rfl (kit_ty hk) h
/-- an attribute by its place in the list told -/
theorem fld_ins {C : Addr} {fs : List (Str × D)} {f : Str} {d : D} {q : Addr → D → Prop} (hl : fs.lookup f = some d) (h : q C d) : fieldD w (.ins C fs) f q := ⟨d, hl, h⟩
theorem fld_obj {a C : Addr} {fs : List (Str × D)} {f : Str} {d : D} {q : Addr → D → Prop} (hw : w a = some (.ins C fs)) (hl : fs.lookup f = some d) (h : q C d) : fieldD w (.obj a) f q := ⟨C, fs, d, hw, hl, h⟩
theorem lk_here {f : Str} {d : D} {r : List (Str × D)} : ((f, d) :: r).lookup f = some d := by simp [List.lookup]
theorem lk_there {f g : Str} {d e : D} {r : List (Str × D)} (hn : (f == g) = false) (h : r.lookup f = some d) : ((g, e) :: r).lookup f = some d := by simp only [List.lookup, hn]; exact h
theorem lk_none {f g : Str} {e : D} {r : List (Str × D)} (hn : (f == g) = false) (h : r.lookup f = none) : ((g, e) :: r).lookup f = none := by simp only [List.lookup, hn]; exact h
theorem put_here {f : Str} {d e : D} {r : List (Str × D)} : putD f d ((f, e) :: r) = (f, d) :: r := by unfold putD; rw [if_pos rfl]
theorem put_there {f g : Str} {d e : D} {r : List (Str × D)} (hn : ¬ g = f) : putD f d ((g, e) :: r) = (g, e) :: putD f d r := by rw [show putD f d ((g, e) :: r) = (if g = f then (g, d) :: r else (g, e) :: putD f d r) from rfl, if_neg hn]
theorem put_nil {f : Str} {d : D} : putD f d [] = [(f, d)] := rfl
end
end VL

end

section
set_option maxRecDepth 100000
set_option maxHeartbeats 4000000
namespace VL
open PySem PySem.Spec PyProof.Rows L2
/-! ### an instance's attribute that is frozen -/
theorem RepF.frz {K : PySem.W.Frag} {F : Hp} {f : Str} {a : Addr} {d : D} (h : Rep K F (.ref a) d) : ∀ {vs : List (Str × V)} {fs : List (Str × D)}, RepF K F vs fs → fs.lookup f = some (.obj a) → RepF K F vs (putD f d fs)
  | _, _, .nil, e => by simp [List.lookup] at e
  | _, _, .cons (x := x) (vs := vs) (ds := ds) q r, e => by
    unfold putD
    by_cases z : x = f
    · rw [if_pos z]
      subst z
      simp only [List.lookup, beq_self_eq_true] at e
      cases e
      cases q
      exact .cons h r
    · rw [if_neg z]
      have hb : (f == x) = false := beq_eq_false_iff_ne.mpr (Ne.symm z)
      simp only [List.lookup, hb] at e
      exact .cons q (RepF.frz h r e)
section
variable {E : EnvR} {N : List Str} {sc : Scope} {k : Nat} {b : Md} {c : VC E N sc k b} {Γ : G} {w : W} {P : D → W → Prop} {DD : DE}
theorem SW.frzF {K : PySem.W.Frag} {F H : Hp} {w : W} {x a C : Addr} {fs : List (Str × D)} {f : Str} {m : MO} {d : D} (s : SW K F H w) (hx : w x = some (.ins C fs)) (hf : fs.lookup f = some (.obj a)) (ha : w a = some m) (hne : a ≠ x) (hd : frzD m = some d) :
    ∃ F', Ex F F' ∧ SW K F' H ((w.del a).up x (.ins C (putD f d fs))) := by
  obtain ⟨F', e, s', r⟩ := s.freeze ha hd
  refine ⟨F', e, ⟨s'.ex, fun b n q => ?_⟩⟩
  by_cases hb : b = x
  · subst hb
    rw [W.up_same] at q
    cases q
    have hx' : (w.del a) b = some (.ins C fs) := by rw [W.del_ne (Ne.symm hne)]; exact hx
    obtain ⟨h1, dx, vs, h2, h3⟩ := s'.mo b _ hx'
    exact ⟨h1, dx, vs, h2, h3.frz r hf⟩
  · rw [W.up_ne hb] at q
    exact s'.mo b n q
theorem vss_frzF {st : List Stmt} {x a C : Addr} {fs : List (Str × D)} (f : Str) {m : MO} {d : D} (hx : w x = some (.ins C fs)) (hf : fs.lookup f = some (.obj a)) (ha : w a = some m) (hne : a ≠ x) (hd : frzD m = some d)
    (h : VSs c st Γ ((w.del a).up x (.ins C (putD f d fs))) DD) : VSs c st Γ w DD := fun F H σ e0 s l => by
  obtain ⟨F2, e2, s2⟩ := s.frzF hx hf ha hne hd
  exact wSs_mono (h F2 H σ (e0.trans e2) s2 (l.mono e2)) (toEnds_mono e2 (DELe.refl DD))

/-- an if, then what comes behind it, at what both ways leave -/
theorem vss_if {t : Expr} {a e rest : List Stmt} {pos : Pos} (J : G → W → Prop) (h : VT c t Γ w fun z w1 => if z = true then VSs c a Γ w1 { DD with nx := J } else VSs c e Γ w1 { DD with nx := J }) (hJ : ∀ Γ w, J Γ w → VSs c rest Γ w DD) : VSs c (.If t a e pos :: rest) Γ w DD :=
  vss_cons (vs_if (h.imp fun z w1 q => by
    cases z with
    | true => rw [if_pos rfl] at q ⊢; exact q.imp ⟨hJ, fun _ _ z => z, fun _ _ z => z, fun _ _ z => z⟩
    | false => rw [if_neg Bool.false_ne_true] at q ⊢; exact q.imp ⟨hJ, fun _ _ z => z, fun _ _ z => z, fun _ _ z => z⟩))
/-! ### dicts -/
def putKD {κ : Type} [DecidableEq κ] (kvs : List (κ × D)) (k : κ) (v : D) : List (κ × D) :=
  if (kvs.any fun kv => decide (kv.1 = k)) = true then kvs.map (fun kv => if kv.1 = k then (kv.1, v) else kv) else kvs ++ [(k, v)]
def valD {κ : Type} [DecidableEq κ] (kvs : List (κ × D)) (k : κ) : Option D := (kvs.find? fun kv => decide (kv.1 = k)).map (·.2)
theorem RepK.any {κ : Type} [DecidableEq κ] {K : PySem.W.Frag} {F : Hp} {vs : List (κ × V)} {kvs : List (κ × D)} (r : RepK K F vs kvs) (k : κ) : (vs.any fun kv => decide (kv.1 = k)) = kvs.any fun kv => decide (kv.1 = k) := by
  induction r with
  | nil => rfl
  | cons h t ih => rw [List.any_cons, List.any_cons, ih, h.1]
theorem RepK.repl {κ : Type} [DecidableEq κ] {K : PySem.W.Frag} {F : Hp} {vs : List (κ × V)} {kvs : List (κ × D)} {k : κ} {v : V} {d : D} (r : RepK K F vs kvs) (h : Rep K F v d) : RepK K F (vs.map fun kv => if kv.1 = k then (kv.1, v) else kv) (kvs.map fun kv => if kv.1 = k then (kv.1, d) else kv) := by
  induction r with
  | nil => exact .nil
  | cons q t ih =>
    rename_i a b l1 l2
    refine .cons ?_ ih
    show (if a.1 = k then (a.1, v) else a).1 = (if b.1 = k then (b.1, d) else b).1 ∧ Rep K F (if a.1 = k then (a.1, v) else a).2 (if b.1 = k then (b.1, d) else b).2
    by_cases e : b.1 = k
    · have e' : a.1 = k := by rw [q.1]; exact e
      rw [if_pos e, if_pos e']
      exact ⟨q.1, h⟩
    · have e' : ¬ a.1 = k := by rw [q.1]; exact e
      rw [if_neg e, if_neg e']
      exact q
theorem RepK.snoc {κ : Type} {K : PySem.W.Frag} {F : Hp} {vs : List (κ × V)} {kvs : List (κ × D)} {k : κ} {v : V} {d : D} (r : RepK K F vs kvs) (h : Rep K F v d) : RepK K F (vs ++ [(k, v)]) (kvs ++ [(k, d)]) := Paired.snoc r ⟨rfl, h⟩
theorem RepK.put {κ : Type} [DecidableEq κ] {K : PySem.W.Frag} {F : Hp} {vs : List (κ × V)} {kvs : List (κ × D)} {k : κ} {v : V} {d : D} (r : RepK K F vs kvs) (h : Rep K F v d) : RepK K F (putK vs k v) (putKD kvs k d) := by
  unfold putK putKD
  rw [r.any k]
  split
  · exact r.repl h
  · exact r.snoc h
theorem RepK.val {κ : Type} [DecidableEq κ] {K : PySem.W.Frag} {F : Hp} {vs : List (κ × V)} {kvs : List (κ × D)} {k : κ} (r : RepK K F vs kvs) : (valD kvs k = none ∧ valV vs k = none) ∨ ∃ d v, valD kvs k = some d ∧ valV vs k = some v ∧ Rep K F v d := by
  induction r with
  | nil => exact .inl ⟨rfl, rfl⟩
  | cons q t ih =>
    rename_i a b l1 l2
    by_cases e : b.1 = k
    · refine .inr ⟨b.2, a.2, by simp [valD, List.find?_cons, e], valV_pos (by rw [q.1]; exact e), q.2⟩
    · rw [valV_neg (by rw [q.1]; exact e)]
      have : valD (b :: l2) k = valD l2 k := by simp [valD, List.find?_cons, e]
      rw [this]
      exact ih
theorem RepK.len {κ : Type} {K : PySem.W.Frag} {F : Hp} {vs : List (κ × V)} {kvs : List (κ × D)} (r : RepK K F vs kvs) : vs.length = kvs.length := Paired.length r
theorem RepK.keys {κ : Type} {K : PySem.W.Frag} {F : Hp} {vs : List (κ × V)} {kvs : List (κ × D)} (r : RepK K F vs kvs) : vs.map (·.1) = kvs.map (·.1) := by
  induction r with
  | nil => rfl
  | cons h t ih => rw [List.map_cons, List.map_cons, ih, h.1]
def kD : Key → D
  | .inl i => .int i
  | .inr x => .str x
def keyD (x : D) (P : Key → Prop) : Prop := match x with
  | .int i => P (.inl i)
  | .str y => P (.inr y)
  | _ => False
theorem keyD_int {i : Int} {Q : Key → Prop} (h : Q (.inl i)) : keyD (.int i) Q := h
theorem keyD_str {i : Str} {Q : Key → Prop} (h : Q (.inr i)) : keyD (.str i) Q := h
theorem keyD_inv {K : PySem.W.Frag} {F : Hp} {v : V} {x : D} {Q : Key → Prop} (r : Rep K F v x) (h : keyD x Q) : ∃ k, v = kV k ∧ x = kD k ∧ Q k := by
  cases r with
  | int i => exact ⟨.inl i, rfl, rfl, h⟩
  | str i => exact ⟨.inr i, rfl, rfl, h⟩
  | _ => exact h.elim
theorem kD_rep {K : PySem.W.Frag} {F : Hp} (k : Key) : Rep K F (kV k) (kD k) := by cases k <;> constructor
theorem kDs_rep {K : PySem.W.Frag} {F : Hp} : ∀ (ks : List Key), Reps K F (ks.map kV) (ks.map kD)
  | [] => .nil
  | k :: ks => .cons (kD_rep k) (kDs_rep ks)
theorem VC.un (c : VC E N sc k b) : c.X.A.units + 1 < cLine := by have := c.roomH.un; omega
theorem ve_d0 {pos : Pos} (h : ∀ a, w a = none → P (.obj a) (w.up a (.dK []))) : VE c (.Dict [] [] pos) Γ w P := fun F H σ e0 s l =>
  w_pe pe_dnewK fun p hp => ⟨F, .obj p, w.up p (.dK []), Same.refl F, s.newM hp ⟨[], upd_same, .nil⟩, .obj p, h p (s.wnone hp)⟩
theorem ve_d0T {pos : Pos} (h : ∀ a, w a = none → P (.obj a) (w.up a (.dT []))) : VE c (.Dict [] [] pos) Γ w P := fun F H σ e0 s l =>
  w_pe pe_dnewT fun p hp => ⟨F, .obj p, w.up p (.dT []), Same.refl F, s.newM hp ⟨[], upd_same, .nil⟩, .obj p, h p (s.wnone hp)⟩
/-- d[k] = v -/
theorem vs_dput {o i e : Expr} {pos pos' : Pos} (h : VE c e Γ w fun d w1 => VE c o Γ w1 fun x w2 => asObj x fun a => VE c i Γ w2 fun y w3 => keyD y fun ky => ∃ kvs, w3 a = some (.dK kvs) ∧ kvs.length < sizeLine ∧ DD.nx Γ (w3.up a (.dK (putKD kvs ky d))))
    (hs : swapsWith e (some (.Subscript o i pos')) pos.line c.X.env = pure false := by rfl) : VS c (.Assign [.Subscript o i pos'] e pos) Γ w DD := fun F H σ e0 s l =>
  w_ps (ps_dput c.un pe_w pe_w pe_w hs) (wE_mono (h F H σ e0 s l) fun v H1 r => res_bind r fun F1 d w1 e1 s1 r1 q1 =>
    wE_mono (q1 F1 H1 σ (e0.trans e1) s1 (l.mono e1)) fun u H2 r => res_bind r fun F2 x w2 e2 s2 r2 q2 => by
      obtain ⟨a, rfl, rfl, q3⟩ := asObj_inv r2 q2
      refine wE_mono (q3 F2 H2 σ ((e0.trans e1).trans e2) s2 ((l.mono e1).mono e2)) fun u3 H3 r => res_bind r fun F3 y w3 e3 s3 r3 q4 => ?_
      obtain ⟨ky, rfl, rfl, kvs, hw, hl, q5⟩ := keyD_inv r3 q4
      obtain ⟨vs, h1, rs⟩ := (s3.mo a _ hw).2
      have r1' := (r1.mono e2).mono e3
      exact ⟨a, _, rfl, DPut.k h1 (by rw [rs.len]; exact hl), F3, Γ, _, (e1.trans e2).trans e3, s3.put (m := .dK (putKD kvs ky d)) hw ⟨_, upd_same, rs.put r1'⟩, ((l.mono e1).mono e2).mono e3, q5⟩)
/-- d[k] -/
theorem ve_dget {o i : Expr} {pos : Pos} (h : VE c o Γ w fun x w1 => asObj x fun a => VE c i Γ w1 fun y w2 => keyD y fun ky => ∃ kvs d, w2 a = some (.dK kvs) ∧ valD kvs ky = some d ∧ P d w2) (hs : NoSl i := by exact fun _ _ => rfl) : VE c (.Subscript o i pos) Γ w P := fun F H σ e0 s l =>
  w_pe (pe_dget c.un pe_w pe_w hs) (wE_mono (h F H σ e0 s l) fun v H1 r => res_bind r fun F1 x w1 e1 s1 r1 q1 => by
    obtain ⟨a, rfl, rfl, q2⟩ := asObj_inv r1 q1
    refine wE_mono (q2 F1 H1 σ (e0.trans e1) s1 (l.mono e1)) fun u H2 r => res_bind r fun F2 y w2 e2 s2 r2 q3 => ?_
    obtain ⟨ky, rfl, rfl, kvs, d, hw, hv, q4⟩ := keyD_inv r2 q3
    obtain ⟨vs, h1, rs⟩ := (s2.mo a _ hw).2
    rcases rs.val (k := ky) with ⟨z, _⟩ | ⟨d', v', z1, z2, r3⟩
    · rw [hv] at z; cases z
    · rw [hv] at z1; cases z1
      refine ⟨a, v', rfl, ?_, F2, d, w2, e1.trans e2, s2, r3, q4⟩
      rw [← z2]; exact DGet.k h1)
/-- k in d -/
theorem vo_inK {y : D} {a : Addr} {kvs : List (Key × D)} (hw : w a = some (.dK kvs)) (h : keyD y fun ky => P (.bl (valD kvs ky).isSome) w) : VO c (compareOp .In) y (.obj a) w P := fun F H vx vy e0 s rx ry pins s' σ v u I rv ru => by
  obtain ⟨ky, rfl, rfl, q⟩ := keyD_inv rx h
  cases ry
  obtain rfl : u = Value.ref a := ru
  obtain ⟨vs, h1, rs⟩ := (s.mo a _ hw).2
  refine d_in c.un I (DGet.k h1) rv fun s2 I2 => ⟨.bl (valV vs ky).isSome, H, I2, rfl, F, .bl (valD kvs ky).isSome, w, Same.refl F, s, ?_, q⟩
  rcases rs.val (k := ky) with ⟨z1, z2⟩ | ⟨d', v', z1, z2, r3⟩ <;> rw [z1, z2] <;> constructor
theorem vo_notinK {y : D} {a : Addr} {kvs : List (Key × D)} (hw : w a = some (.dK kvs)) (h : keyD y fun ky => P (.bl (!(valD kvs ky).isSome)) w) : VO c (compareOp .NotIn) y (.obj a) w P := fun F H vx vy e0 s rx ry pins s' σ v u I rv ru => by
  obtain ⟨ky, rfl, rfl, q⟩ := keyD_inv rx h
  cases ry
  obtain rfl : u = Value.ref a := ru
  obtain ⟨vs, h1, rs⟩ := (s.mo a _ hw).2
  refine d_notIn c.un I (DGet.k h1) rv fun s2 I2 => ⟨.bl (!(valV vs ky).isSome), H, I2, rfl, F, .bl (!(valD kvs ky).isSome), w, Same.refl F, s, ?_, q⟩
  rcases rs.val (k := ky) with ⟨z1, z2⟩ | ⟨d', v', z1, z2, r3⟩ <;> rw [z1, z2] <;> constructor
/-- list(d) -/
theorem vcl_listDK {a : Addr} {kvs : List (Key × D)} (hb : b.calm = true) (hw : w a = some (.dK kvs)) (h : P (.lst (kvs.map fun kv => kD kv.1)) w) : VCl c (.type "list") [.obj a] w P := vcl_of (call_list_dK (by rw [c.calm]; exact hb)) fun F H vs s rs => by
  obtain ⟨v, rfl, r⟩ := rs.one_inv
  cases r
  obtain ⟨us, h1, rk⟩ := (s.mo a _ hw).2
  refine ⟨a, us, rfl, h1, fun q hq => ?_⟩
  have e1 : (us.map fun kv => kV kv.1) = (kvs.map (·.1)).map kV := by rw [← rk.keys, List.map_map]; rfl
  have e2 : (kvs.map fun kv => kD kv.1) = (kvs.map (·.1)).map kD := by rw [List.map_map]; rfl
  rw [e2] at h
  rw [e1]
  exact res_lst s hq (kDs_rep _) h
theorem vcl_lenDK {a : Addr} {kvs : List (Key × D)} (hw : w a = some (.dK kvs)) (h : P (.int kvs.length) w) : VCl c (.builtin "len") [.obj a] w P := vcl_of call_lenD fun F H vs s rs => by
  obtain ⟨v, rfl, r⟩ := rs.one_inv
  cases r
  obtain ⟨us, h1, rk⟩ := (s.mo a _ hw).2
  refine ⟨a, us, rfl, h1, ?_⟩
  rw [rk.len]
  exact res_val s (.int _) h
/-- sorted(xs) of integers -/
theorem vcl_sortedI {x : D} {ns : List Int} (hx : seqD w x = some (ns.map D.int)) (h : ∀ ns' : List Int, ns'.Perm ns → ns'.Pairwise (· ≤ ·) → P (.lst (ns'.map D.int)) w) : VCl c (.builtin "sorted") [x] w P := vcl_of cr_sortedI fun F H vs s rs => by
  obtain ⟨v, rfl, r⟩ := rs.one_inv
  obtain ⟨a, us, rfl, h1, r2⟩ := s.seq r hx
  refine ⟨a, ns, rfl, by rw [← r2.of_ints]; exact h1, fun ns' p hp hs hq => ?_⟩
  exact res_lst s hq (Reps.ints ns') (h ns' hp hs)

/-! ### a comprehension that leaves the objects as they are -/
theorem ve_lcW {elt tg iter : Expr} {ifs : List Expr} {scope : Scope} {pos : Pos} (own : List (Str × Nat)) (hb : b.calm = true) (ok : BlkOk N sc scope own)
    (h : VI c tg iter Γ w fun ds kp w1 => (∀ D0 m, w1 D0 = none → kp (w1.up D0 m)) ∧ kp w1 ∧ ∃ I : Nat → List D → Prop, I 0 [] ∧
      (∀ i d acc D0, ds[i]? = some d → w1 D0 = none → I i acc → LcTurn E N (relS scope sc) k (own.map (·.2)) tg ifs elt Γ D0 d acc w1 fun acc' w' => w' = w1 ∧ I (i + 1) acc') ∧ ∀ acc, I ds.length acc → P (.lst acc) w1)
    (hs : ∀ x, foldedSetIterable iter c.X.env x = pure x := by intro _; rfl) : VE c (.ListComp elt [⟨tg, iter, ifs, 0⟩] scope pos) Γ w P :=
  ve_lc own hb ok (fun F H σ e0 s l => by
    have z := h F H σ e0 s l
    intro pins s' I
    refine thn (z pins s' I) fun v s1 h1 => thn h1 fun itv s2 h2 => ?_
    obtain ⟨it, fp, tn, J, H', a1, a2, a3, a4, a5, F1, ds, kp, w1, e1, sw1, stp, k1, kq, k2, I', i0, turn, fin⟩ := h2
    refine ⟨it, fp, tn, J, H', a1, a2, a3, a4, a5, F1, ds, kp, w1, e1, sw1, stp, k1, fun i acc w' => w' = w1 ∧ I' i acc, ⟨rfl, i0⟩, fun D0 hD => ⟨?_, ?_, ?_⟩⟩
    · rintro i acc w2 _ ⟨rfl, _⟩
      exact ⟨k2, fun m => kq D0 m hD, hD⟩
    · rintro i d acc w2 hd ⟨rfl, hi⟩
      exact turn i d acc D0 hd hD hi
    · rintro acc w2 _ ⟨rfl, hi⟩
      exact fin acc hi) hs
theorem vs_setLcW (i : Nat) {y : Str} {py : Pos} {elt tg iter : Expr} {ifs : List Expr} {scope : Scope} {pos spos : Pos} (own : List (Str × Nat)) (hb : b.calm = true) (hk : sc.kind = .function) (ok : BlkOk N sc scope own) (hi : N[i]? = some y) (hy : sc.names.lookup y = some .local)
    (hl : (py.line == pos.line) = true) (ha : (scope.names.any fun (n, k) => n == y && (k == .local || k == .cell)) = false)
    (h : VI c tg iter Γ w fun ds kp w1 => (∀ D0 m, w1 D0 = none → kp (w1.up D0 m)) ∧ kp w1 ∧ ∃ I : Nat → List D → Prop, I 0 [] ∧
      (∀ i d acc D0, ds[i]? = some d → w1 D0 = none → I i acc → LcTurn E N (relS scope sc) k (own.map (·.2)) tg ifs elt Γ D0 d acc w1 fun acc' w' => w' = w1 ∧ I (i + 1) acc') ∧ ∀ acc, I ds.length acc → DD.nx (Γ.set i (some (.lst acc))) w1)
    (hs : ∀ x, foldedSetIterable iter c.X.env x = pure x := by intro _; rfl) : VS c (.Assign [.Name y py] (.ListComp elt [⟨tg, iter, ifs, 0⟩] scope pos) spos) Γ w DD :=
  vs_setLc i own hb hk ok hi hy hl ha (fun F H σ e0 s l => by
    have z := h F H σ e0 s l
    intro pins s' I
    refine thn (z pins s' I) fun v s1 h1 => thn h1 fun itv s2 h2 => ?_
    obtain ⟨it, fp, tn, J, H', a1, a2, a3, a4, a5, F1, ds, kp, w1, e1, sw1, stp, k1, kq, k2, I', i0, turn, fin⟩ := h2
    refine ⟨it, fp, tn, J, H', a1, a2, a3, a4, a5, F1, ds, kp, w1, e1, sw1, stp, k1, fun i acc w' => w' = w1 ∧ I' i acc, ⟨rfl, i0⟩, fun D0 hD => ⟨?_, ?_, ?_⟩⟩
    · rintro i acc w2 _ ⟨rfl, _⟩
      exact ⟨k2, fun m => kq D0 m hD, hD⟩
    · rintro i d acc w2 hd ⟨rfl, hi⟩
      exact turn i d acc D0 hd hD hi
    · rintro acc w2 _ ⟨rfl, hi⟩
      exact fin acc hi) hs
theorem lct0 {sc' : Scope} {L : List Nat} {tg elt : Expr} {Dn : Addr} {d : D} {acc : List D} {Nx : List D → W → Prop}
    (h : ∀ c1 : VC E N sc' k mB, VG c1 tg L d (wipeG Γ L) (w.up Dn (.lst acc)) fun Γ2 w3 => ∀ c3 : VC E N sc' k mB, VE c3 elt Γ2 w3 fun y w5 => acc.length < sizeLine ∧ w5 Dn = some (.lst acc) ∧ Nx (acc ++ [y]) (w5.del Dn)) : LcTurn E N sc' k L tg [] elt Γ Dn d acc w Nx :=
  fun c1 F H σ v e0 s l r => wG_mono (h c1 F H σ v e0 s l r) fun _ _ q => ⟨q.1, q.2.mono (Same.refl F) fun Γ2 w3 z c2 => by
    simp only [VIf, if_true]
    exact z⟩
theorem lct1 {sc' : Scope} {L : List Nat} {tg elt t : Expr} {Dn : Addr} {d : D} {acc : List D} {Nx : List D → W → Prop}
    (h : ∀ c1 : VC E N sc' k mB, VG c1 tg L d (wipeG Γ L) (w.up Dn (.lst acc)) fun Γ2 w3 => ∀ c2 : VC E N sc' k mB, VT c2 t Γ2 w3 fun t w4 => if t = true then ∀ c3 : VC E N sc' k mB, VE c3 elt Γ2 w4 fun y w5 => acc.length < sizeLine ∧ w5 Dn = some (.lst acc) ∧ Nx (acc ++ [y]) (w5.del Dn)
      else w4 Dn = some (.lst acc) ∧ Nx acc (w4.del Dn)) : LcTurn E N sc' k L tg [t] elt Γ Dn d acc w Nx := h
/-- a list that is walked stays, whatever comes beside it -/
theorem kpD_up {x : D} {ds : List D} {w : W} (h : kpD x ds w) (D0 : Addr) (m : MO) (h0 : w D0 = none) : kpD x ds (w.up D0 m) := by
  cases x <;> first | exact True.intro | skip
  rename_i a
  show (w.up D0 m) a = _
  rw [W.up_ne (W.ne_of h h0)]
  exact h
end
end VL

end

section
set_option maxRecDepth 100000
set_option maxHeartbeats 4000000
namespace VL
open PySem PySem.Spec PyProof.Rows L2
/-! ### equality over nested data -/
mutual
inductive DpD (w : W) : D → PyData → Prop where
  | non : DpD w .non .none
  | bl (b : Bool) : DpD w (.bl b) (.bool b)
  | int (i : Int) : DpD w (.int i) (.int i)
  | str (x : Str) : DpD w (.str x) (.str x)
  | tup {xs : List D} {ds : List PyData} (h : DpDs w xs ds) : DpD w (.tup xs) (.tuple ds)
  | lst {xs : List D} {ds : List PyData} (h : DpDs w xs ds) : DpD w (.lst xs) (.list ds)
  | obj {a : Addr} {xs : List D} {ds : List PyData} (hw : w a = some (.lst xs)) (h : DpDs w xs ds) : DpD w (.obj a) (.list ds)
inductive DpDs (w : W) : List D → List PyData → Prop where
  | nil : DpDs w [] []
  | cons {x : D} {xs : List D} {d : PyData} {ds : List PyData} (h : DpD w x d) (r : DpDs w xs ds) : DpDs w (x :: xs) (d :: ds)
end
mutual
theorem DpD.dp {K : PySem.W.Frag} {F H : Hp} {w : W} (s : SW K F H w) : ∀ {x : D} {d : PyData} {v : V}, DpD w x d → Rep K F v x → Dp K H v d
  | _, _, _, .non, .non => .non
  | _, _, _, .bl b, .bl _ => .bl b
  | _, _, _, .int b, .int _ => .int b
  | _, _, _, .str b, .str _ => .str b
  | _, _, _, .tup h, .tup q r => .tup (Ex.sqT s.ex q) (DpDs.dp s h r)
  | _, _, _, .lst h, .lst q r => .lst (.inl (.inl (s.ex _ _ q))) (DpDs.dp s h r)
  | _, _, _, .obj (a := a) hw h, r => by
    cases r
    obtain ⟨vs, h1, r⟩ := (s.mo a _ hw).2
    exact .lst (.inl (.inl h1)) (DpDs.dp s h r)
theorem DpDs.dp {K : PySem.W.Frag} {F H : Hp} {w : W} (s : SW K F H w) : ∀ {xs : List D} {ds : List PyData} {vs : List V}, DpDs w xs ds → Reps K F vs xs → DpAll K H vs ds
  | _, _, _, .nil, .nil => .nil
  | _, _, _, .cons h r, .cons q t => .cons (DpD.dp s h q) (DpDs.dp s r t)
end
section
variable {E : EnvR} {N : List Str} {sc : Scope} {k : Nat} {b : Md} {c : VC E N sc k b} {Γ : G} {w : W} {P : D → W → Prop} {DD : DE}
theorem VC.un64 (c : VC E N sc k b) : c.X.A.units + 64 < cLine := by have := c.roomH.un; omega
theorem vo_eqD {x y : D} {d e : PyData} (hx : DpD w x d) (hy : DpD w y e) (sd : SeqAt.shaped d = true) (se : SeqAt.shaped e = true) (h : P (.bl (PyData.eqv d e)) w) : VO c (compareOp .Eq) x y w P := vo_of (op_eqD c.un64) fun F H vx vy s rx ry =>
  ⟨d, e, hx.dp s rx, hy.dp s ry, sd, se, res_val s (.bl _) h⟩
theorem vo_neD {x y : D} {d e : PyData} (hx : DpD w x d) (hy : DpD w y e) (sd : SeqAt.shaped d = true) (se : SeqAt.shaped e = true) (h : P (.bl (!PyData.eqv d e)) w) : VO c (compareOp .NotEq) x y w P := vo_of (op_neD c.un64) fun F H vx vy s rx ry =>
  ⟨d, e, hx.dp s rx, hy.dp s ry, sd, se, res_val s (.bl _) h⟩
theorem vo_eqT2 {i j x y : Int} (h : P (.bl (decide (i = x ∧ j = y))) w) : VO c (compareOp .Eq) (.tup [.int i, .int j]) (.tup [.int x, .int y]) w P :=
  vo_eqD (.tup (.cons (.int i) (.cons (.int j) .nil))) (.tup (.cons (.int x) (.cons (.int y) .nil))) (by rfl) (by rfl) (by
    have e : PyData.eqv (.tuple [.int i, .int j]) (.tuple [.int x, .int y]) = decide (i = x ∧ j = y) := by
      simp only [PyData.eqv, PyData.eqvAll, Bool.and_true]
      rw [Bool.eq_iff_iff]; simp
    rw [e]; exact h)
theorem rc_lens {prog : Program} {w : World} {A : Around} {s : Shared} {l b : Addr} {items items2 : Array Value} (hl : s.heap.IsList l items) (hb : s.heap.IsList b items2) (hsz : (items.size != items2.size) = true) (hu : A.units < cLine) (E Q : Value → Shared → Prop) (h : Q (.bool false) s) : wpAny (model prog w) A (richCompare .Eq (.ref l) (.ref b)) Q E s := by
  obtain ⟨⟨cls, dd, data, sl⟩, ho, hc, n, hd⟩ := id hl
  obtain ⟨⟨cls2, dd2, data2, sl2⟩, ho2, hc2, n2, hd2⟩ := id hb
  simp only at hc hd hc2 hd2
  subst hc hd hc2 hd2
  have ta : s.TypeIs (.ref l) "list" := ⟨_, ho, rfl⟩
  have tb : s.TypeIs (.ref b) "list" := ⟨_, ho2, rfl⟩
  exact wpAny_richCompare_same_room (op := .Eq) ta tb F.slot_list_eq (call_meets F.slot_list_eq ta F.entry_list_eq (F.args_list_eq_2 _ _) (SeqAt.list_eq_lengthsAt l b items items2 n n2 dd dd2 sl sl2 hsz)
    ⟨ho, ho2, show Value.bool false ≠ Value.notImplemented ∧ Q (.bool false) s from ⟨(fun x => nomatch x), h⟩⟩) hu
theorem rc_lensN {prog : Program} {w : World} {A : Around} {s : Shared} {l b : Addr} {items items2 : Array Value} (hl : s.heap.IsList l items) (hb : s.heap.IsList b items2) (hsz : (items.size != items2.size) = true) (hu : A.units < cLine) (E Q : Value → Shared → Prop) (h : Q (.bool true) s) : wpAny (model prog w) A (richCompare .NotEq (.ref l) (.ref b)) Q E s := by
  obtain ⟨⟨cls, dd, data, sl⟩, ho, hc, n, hd⟩ := id hl
  obtain ⟨⟨cls2, dd2, data2, sl2⟩, ho2, hc2, n2, hd2⟩ := id hb
  simp only at hc hd hc2 hd2
  subst hc hd hc2 hd2
  have ta : s.TypeIs (.ref l) "list" := ⟨_, ho, rfl⟩
  have tb : s.TypeIs (.ref b) "list" := ⟨_, ho2, rfl⟩
  exact wpAny_richCompare_same_room (op := .NotEq) ta tb F.slot_list_ne (call_meets F.slot_list_ne ta F.entry_list_ne (F.args_list_ne_2 _ _) (SeqAt.list_ne_lengthsAt l b items items2 n n2 dd dd2 sl sl2 hsz)
    ⟨ho, ho2, show Value.bool true ≠ Value.notImplemented ∧ Q (.bool true) s from ⟨(fun x => nomatch x), h⟩⟩) hu
/-- lists of unlike lengths -/
theorem vo_eqLen {x y : D} {ds es : List D} (hx : lstD w x = some ds) (hy : lstD w y = some es) (hn : ds.length ≠ es.length) (h : P (.bl false) w) : VO c (compareOp .Eq) x y w P := fun F H vx vy e0 s rx ry pins s' σ v u I rv ru => by
  obtain ⟨a, vs, rfl, h1, r1⟩ := s.lst rx hx
  obtain ⟨b, us, rfl, h2, r2⟩ := s.lst ry hy
  obtain ⟨ia, va, la, _⟩ := I.list (.inl (.inl h1))
  obtain ⟨ib, vb, lb, _⟩ := I.list (.inl (.inl h2))
  obtain rfl : v = Value.ref a := rv
  obtain rfl : u = Value.ref b := ru
  refine rc_lens la.isList lb.isList ?_ (by have := c.un64; omega) _ _ ⟨.bl false, H, I, rfl, res_val s (.bl _) h⟩
  rw [bne_iff_ne, List.size_toArray, List.size_toArray, ← va.length, ← vb.length, r1.len, r2.len]
  exact hn
theorem vo_neLen {x y : D} {ds es : List D} (hx : lstD w x = some ds) (hy : lstD w y = some es) (hn : ds.length ≠ es.length) (h : P (.bl true) w) : VO c (compareOp .NotEq) x y w P := fun F H vx vy e0 s rx ry pins s' σ v u I rv ru => by
  obtain ⟨a, vs, rfl, h1, r1⟩ := s.lst rx hx
  obtain ⟨b, us, rfl, h2, r2⟩ := s.lst ry hy
  obtain ⟨ia, va, la, _⟩ := I.list (.inl (.inl h1))
  obtain ⟨ib, vb, lb, _⟩ := I.list (.inl (.inl h2))
  obtain rfl : v = Value.ref a := rv
  obtain rfl : u = Value.ref b := ru
  refine rc_lensN la.isList lb.isList ?_ (by have := c.un64; omega) _ _ ⟨.bl true, H, I, rfl, res_val s (.bl _) h⟩
  rw [bne_iff_ne, List.size_toArray, List.size_toArray, ← va.length, ← vb.length, r1.len, r2.len]
  exact hn
/-- two empty lists -/
theorem vo_neNil {x y : D} (hx : lstD w x = some []) (hy : lstD w y = some []) (h : P (.bl false) w) : VO c (compareOp .NotEq) x y w P := by
  have key : ∀ {z : D}, lstD w z = some [] → DpD w z (.list []) := fun {z} hz => by
    cases z with
    | lst ds => cases hz; exact .lst .nil
    | obj a =>
      unfold lstD at hz
      simp only at hz
      cases e : w a with
      | none => rw [e] at hz; cases hz
      | some m => rw [e] at hz; cases m <;> first | (cases hz; exact .obj e .nil) | cases hz
    | _ => cases hz
  exact vo_neD (key hx) (key hy) rfl rfl h
/-- two lists within a tuple are frozen -/
theorem vss_frzT2 {st : List Stmt} (i : Nat) {a a' : Addr} {xs ys : List VL.D} (hΓ : Γ[i]? = some (some (.tup [.obj a, .obj a']))) (hw : w a = some (.lst xs)) (hw' : w a' = some (.lst ys)) (hne : a' ≠ a) (h : VSs c st (Γ.set i (some (.tup [.lst xs, .lst ys]))) ((w.del a).del a') DD) : VSs c st Γ w DD := fun F H σ e0 s l => by
  obtain ⟨v, hv, r⟩ := l.at_ i _ hΓ
  obtain ⟨p, vs, rfl, q, rs⟩ := r.tup_inv
  obtain ⟨v1, v2, rfl, r1, r2⟩ := rs.two_inv
  obtain ⟨F2, e2, s2, q2⟩ := s.freeze hw rfl
  obtain ⟨F3, e3, s3, q3⟩ := s2.freeze (a := a') (m := .lst ys) (by rw [W.del_ne hne]; exact hw') rfl
  cases r1
  cases r2
  exact wSs_mono (h F3 H σ ((e0.trans e2).trans e3) s3 (((l.mono e2).mono e3).set1 hv (.tup (Ex.sqT (e2.trans e3) q) (.cons (q2.mono e3) (.one q3))))) (toEnds_mono (e2.trans e3) (DELe.refl DD))
end
end VL

end

section
set_option maxRecDepth 100000
set_option maxHeartbeats 4000000
namespace VL
open PySem PySem.Spec PyProof.Rows L2
section
variable {E : EnvR} {N : List Str} {sc : Scope} {k : Nat} {b : Md} {c : VC E N sc k b} {Γ : G} {w : W} {P : D → W → Prop}
theorem vs_setLcM (i : Nat) {y : Str} {py : Pos} {elt tg iter : Expr} {ifs : List Expr} {scope : Scope} {pos spos : Pos} {DD : DE} (own : List (Str × Nat)) (hb : b.calm = true) (hk : sc.kind = .function) (ok : BlkOk N sc scope own) (hi : N[i]? = some y) (hy : sc.names.lookup y = some .local)
    (hl : (py.line == pos.line) = true) (ha : (scope.names.any fun (n, k) => n == y && (k == .local || k == .cell)) = false)
    (h : VI c tg iter Γ w fun ds kp w1 => ∃ I : Nat → List D → W → Prop, I 0 [] w1 ∧ ∀ D0, w1 D0 = none → (∀ i acc w2, i ≤ ds.length → I i acc w2 → kp w2 ∧ (∀ m, kp (w2.up D0 m)) ∧ w2 D0 = none) ∧
      (∀ i d acc w2, ds[i]? = some d → I i acc w2 → LcTurn E N (relS scope sc) k (own.map (·.2)) tg ifs elt Γ D0 d acc w2 (I (i + 1))) ∧ ∀ acc w2, w2 D0 = none → I ds.length acc w2 → DD.nx (Γ.set i (some (.obj D0))) (w2.up D0 (.lst acc)))
    (hs : ∀ x, foldedSetIterable iter c.X.env x = pure x := by intro _; rfl) : VS c (.Assign [.Name y py] (.ListComp elt [⟨tg, iter, ifs, 0⟩] scope pos) spos) Γ w DD := fun F H σ e0 s l => by
  refine w_ps (ps_setLc (i := i) (by rw [c.calm]; exact hb) c.nd' (by rw [c.hN]; exact hi) (by rw [c.hsc]; exact hy) (sw_true (by rw [c.hsc]; exact hk) (by rw [c.hsc]; exact hy) hl ha) pi_w (by rw [c.hN, c.hsc]; exact ok)
    (g := fun (v : V) (σ : L2.St) (H : Hp) (Q : L2.St → Hp → Prop) => ∀ (s : Shared) (H' : Hp) (C : Addr) (cl : List (Str × Addr)) (fp : List Addr), wG (c.X.blk s H' scope (compEnvC scope cl C c.X.env) fp) tg v σ H Q)
    (tt := fun (σ : L2.St) (H : Hp) (Q : Bool → Hp → Prop) => ∀ (s : Shared) (H' : Hp) (C : Addr) (cl : List (Str × Addr)) (fp : List Addr), wTs (c.X.blk s H' scope (compEnvC scope cl C c.X.env) fp) ifs σ H Q)
    (te := fun (σ : L2.St) (H : Hp) (Q : VK) => ∀ (s : Shared) (H' : Hp) (C : Addr) (cl : List (Str × Addr)) (fp : List Addr), wE (c.X.blk s H' scope (compEnvC scope cl C c.X.env) fp) elt σ H Q)
    (fun s' H' C cl fp => ⟨fun pins s σ H v u Q I r h => h s' H' C cl fp pins s u I r⟩) (fun s' H' C cl fp => ⟨fun pins s σ H Q I h => h s' H' C cl fp pins s I⟩) (fun s' H' C cl fp => ⟨fun pins s σ H Q I h => h s' H' C cl fp pins s I⟩) hs) ?_
  have hI := h F H σ e0 s l
  intro pins s' Inv0
  refine thn (hI pins s' Inv0) fun v s1 h1 => thn h1 fun itv s2 ⟨it, fp, tn, J, H', a1, a2, a3, a4, a5, F1, ds, kp, w1, e1, sw1, stp, k1, I, i0, rest⟩ => ?_
  refine ⟨it, fp, tn, J, H', a1, a2, a3, a4, a5, fun D0 hD => ?_⟩
  obtain ⟨ik, turn, fin⟩ := rest D0 (sw1.wnone hD)
  refine lc_run (Q := fun x H1 => gName i x σ H1 (toEnds c.X.K F DD).nx) hb e0 l e1 sw1 stp D0 hD I i0 ik turn fun F2 H2 w2 acc e2 s2 n2 i2 => ?_
  exact ⟨F2, _, _, e1.trans e2, s2, ((l.mono e1).mono e2).set (.obj D0), fin acc w2 n2 i2⟩
theorem vs_setLcWM (i : Nat) {y : Str} {py : Pos} {elt tg iter : Expr} {ifs : List Expr} {scope : Scope} {pos spos : Pos} {DD : DE} (own : List (Str × Nat)) (hb : b.calm = true) (hk : sc.kind = .function) (ok : BlkOk N sc scope own) (hi : N[i]? = some y) (hy : sc.names.lookup y = some .local)
    (hl : (py.line == pos.line) = true) (ha : (scope.names.any fun (n, k) => n == y && (k == .local || k == .cell)) = false)
    (h : VI c tg iter Γ w fun ds kp w1 => (∀ D0 m, w1 D0 = none → kp (w1.up D0 m)) ∧ kp w1 ∧ ∃ I : Nat → List D → Prop, I 0 [] ∧
      (∀ i d acc D0, ds[i]? = some d → w1 D0 = none → I i acc → LcTurn E N (relS scope sc) k (own.map (·.2)) tg ifs elt Γ D0 d acc w1 fun acc' w' => w' = w1 ∧ I (i + 1) acc') ∧ ∀ acc D0, w1 D0 = none → I ds.length acc → DD.nx (Γ.set i (some (.obj D0))) (w1.up D0 (.lst acc)))
    (hs : ∀ x, foldedSetIterable iter c.X.env x = pure x := by intro _; rfl) : VS c (.Assign [.Name y py] (.ListComp elt [⟨tg, iter, ifs, 0⟩] scope pos) spos) Γ w DD :=
  vs_setLcM i own hb hk ok hi hy hl ha (fun F H σ e0 s l => by
    have z := h F H σ e0 s l
    intro pins s' I
    refine thn (z pins s' I) fun v s1 h1 => thn h1 fun itv s2 h2 => ?_
    obtain ⟨it, fp, tn, J, H', a1, a2, a3, a4, a5, F1, ds, kp, w1, e1, sw1, stp, k1, kq, k2, I', i0, turn, fin⟩ := h2
    refine ⟨it, fp, tn, J, H', a1, a2, a3, a4, a5, F1, ds, kp, w1, e1, sw1, stp, k1, fun i acc w' => w' = w1 ∧ I' i acc, ⟨rfl, i0⟩, fun D0 hD => ⟨?_, ?_, ?_⟩⟩
    · rintro i acc w2 _ ⟨rfl, _⟩
      exact ⟨k2, fun m => kq D0 m hD, hD⟩
    · rintro i d acc w2 hd ⟨rfl, hi⟩
      exact turn i d acc D0 hd hD hi
    · rintro acc w2 _ ⟨rfl, hi⟩
      exact fin acc D0 hD hi) hs
end
end VL

end

section
set_option maxRecDepth 100000
set_option maxHeartbeats 4000000
namespace VL
open PySem PySem.Spec PyProof.Rows L2
section
variable {E : EnvR}
/-- THE RULE for a def with defaults -/
theorem fnVD {x qual : Str} {params : Arguments} {bd : List Stmt} {sc : Scope} {dvs : List V} {kws : List (Str × V)} {f : Addr} {fd : FuncData} {N ps : List Str} {k : Nat} {S : SpV} (F : FunD E.K x qual params bd sc dvs kws f fd) (Sc : FnScope N ps sc) (len : ∀ ds w P R, S ds w P R → ds.length = ps.length)
    (body : ∀ (c : VC E N sc k mF) (ds : List D) (w : W) (P : D → W → Prop), S ds w P c.R → VSs c bd (startG N ds) w { nx := fun _ w' => P .non w', rt := P }) : FnV E (k + 1) f fd ps S := by
  refine F.ok Sc (fun vs H Q X ⟨F0, ds, w, P, R, s, r, h, _⟩ => by rw [r.len]; exact len ds w P R h) (fun cdv A outer s0 H vs Q X hr h => ?_)
  obtain ⟨F0, ds, w, P, R, s, r, h, hP, hR⟩ := h
  let c : VC E N sc k mF := {
    X := cxOf (L2.CX E.P E.w) E.P E.w E.K E.mg E.base N qual sc f cdv A outer s0 H X
    F0 := F0
    R := R
    hP := rfl
    hw := rfl
    hK := rfl
    hmg := rfl
    hbase := rfl
    hN := rfl
    nd := Sc.nd
    hsc := rfl
    roomH := L2H.roomH_of hr
    room := fun _ => hr
    calm := rfl
    po := passes_of rfl
    tk := (takes_of (E := X) rfl rfl rfl rfl).imp fun cls d _ H' q => by
      obtain ⟨C, F', w', rfl, rfl, e, s', q⟩ := q
      exact hR C w' q F' H' e s'
    fn := fun _ _ => rfl
    hot := fun z => by cases z }
  have hb := body c ds w P h F0 H (L2.start N vs) (Same.refl F0) s (start_SL r)
  refine ⟨wSs c.X bd, pss_w, wSs_mono hb ⟨?_, ?_, fun _ _ q => ?_, fun _ _ q => ?_⟩⟩
  · rintro σ' H' ⟨F', Γ', w', e, s', l', p⟩
    exact hP .non w' p .non F' H' e s' .non
  · rintro v H' ⟨F', d, w', e, s', r', p⟩
    exact hP d w' p v F' H' e s' r'
  · obtain ⟨_, _, _, _, _, _, z⟩ := q
    exact z.elim
  · obtain ⟨_, _, _, _, _, _, z⟩ := q
    exact z.elim
end
end VL

end

section
/-! Dyadic numbers by one integer: n stands for n / 2 ^ 40; red is the plain form. -/
namespace Wm
def red : Int → Nat → Int × Nat
  | t, 0 => (t, 0)
  | t, p + 1 => if t % 2 = 0 then red (t / 2) p else (t, p + 1)
theorem red_le : ∀ (p : Nat) (t : Int), (red t p).2 ≤ p
  | 0, _ => Nat.le_refl _
  | p + 1, t => by
    unfold red; split
    · exact Nat.le_succ_of_le (red_le p _)
    · exact Nat.le_refl _
theorem red_val : ∀ (p : Nat) (t : Int), (red t p).1 * 2 ^ (p - (red t p).2) = t
  | 0, t => by simp [red]
  | p + 1, t => by
    unfold red; split
    · rename_i h
      have ih := red_val p (t / 2)
      have hl := red_le p (t / 2)
      rw [Nat.succ_sub hl, Int.pow_succ, ← Int.mul_assoc, ih]
      omega
    · simp
theorem red_odd : ∀ (p : Nat) (t : Int), (red t p).2 = 0 ∨ (red t p).1 % 2 ≠ 0
  | 0, t => .inl rfl
  | p + 1, t => by
    unfold red; split
    · exact red_odd p _
    · rename_i h; exact .inr h
theorem two_pos (k : Nat) : (0 : Int) < 2 ^ k := Int.pow_pos (by decide)
theorem red_uniq : ∀ (p : Nat) (t t' : Int) (p' : Nat), p' ≤ p → t' * 2 ^ (p - p') = t → (p' = 0 ∨ t' % 2 ≠ 0) → red t p = (t', p')
  | 0, t, t', p', h, e, _ => by
    have : p' = 0 := by omega
    subst this; simp at e; subst e; rfl
  | p + 1, t, t', p', h, e, o => by
    unfold red
    by_cases hp : p' = p + 1
    · subst hp
      simp at e; subst e
      rcases o with o | o
      · omega
      · rw [if_neg o]
    · have hl : p' ≤ p := by omega
      rw [Nat.succ_sub hl, Int.pow_succ, ← Int.mul_assoc] at e
      have h2 : t % 2 = 0 := by rw [← e]; omega
      rw [if_pos h2]
      exact red_uniq p (t / 2) t' p' hl (by omega) o
/-- the plain form at the scale 2 ^ 40 -/
def pt (n : Int) : Int := (red n 40).1
def pp (n : Int) : Nat := (red n 40).2
theorem pp_le (n : Int) : pp n ≤ 40 := red_le 40 n
theorem pt_val (n : Int) : pt n * 2 ^ (40 - pp n) = n := red_val 40 n
theorem pt_odd (n : Int) : pp n = 0 ∨ pt n % 2 ≠ 0 := red_odd 40 n
theorem pt_uniq {n t : Int} {p : Nat} (h : p ≤ 40) (e : t * 2 ^ (40 - p) = n) (o : p = 0 ∨ t % 2 ≠ 0) : pt n = t ∧ pp n = p := by
  unfold pt pp; rw [red_uniq 40 n t p h e o]; exact ⟨rfl, rfl⟩
theorem pow_split {a b : Nat} (h : a ≤ b) : (2 : Int) ^ b = 2 ^ a * 2 ^ (b - a) := by rw [← Int.pow_add]; congr 1; omega
/-- a reduced pair is the plain form of its number -/
theorem red_pt {t : Int} {p : Nat} (h : p ≤ 40) : red t p = (pt (t * 2 ^ (40 - p)), pp (t * 2 ^ (40 - p))) := by
  have h1 := red_le p t
  have h2 := red_val p t
  have h3 := red_odd p t
  obtain ⟨e1, e2⟩ := pt_uniq (n := t * 2 ^ (40 - p)) (t := (red t p).1) (p := (red t p).2) (by omega) (by
    have : (40 - (red t p).2) = (p - (red t p).2) + (40 - p) := by omega
    rw [this, Int.pow_add, ← Int.mul_assoc, h2]) h3
  rw [e1, e2]
theorem red_idem (n : Int) : red (pt n) (pp n) = (pt n, pp n) := by
  rw [red_pt (pp_le n), pt_val]
/-- tops are small if the number is small at some scale -/
theorem pt_bound {n m : Int} {j : Nat} (hj : j ≤ 40) (e : n = m * 2 ^ j) : (pt n).natAbs ≤ m.natAbs := by
  have h1 := pt_val n
  have h3 := pt_odd n
  by_cases hc : pp n ≤ 40 - j
  · have : 2 ^ (40 - pp n) = (2 : Int) ^ j * 2 ^ (40 - pp n - j) := pow_split (by omega)
    rw [this] at h1
    have hm : pt n * 2 ^ (40 - pp n - j) = m := by
      have h5 : (pt n * 2 ^ (40 - pp n - j)) * 2 ^ j = m * 2 ^ j := by rw [← e, Int.mul_assoc, Int.mul_comm (2 ^ (40 - pp n - j)) (2 ^ j)]; exact h1
      exact Int.eq_of_mul_eq_mul_right (Int.ne_of_gt (two_pos j)) h5
    rw [← hm, Int.natAbs_mul]
    have : 1 ≤ ((2 : Int) ^ (40 - pp n - j)).natAbs := by have := two_pos (40 - pp n - j); omega
    exact Nat.le_mul_of_pos_right _ this
  · exfalso
    have hpp := pp_le n
    have hs : (2 : Int) ^ j = 2 ^ (40 - pp n) * 2 ^ (j - (40 - pp n)) := pow_split (by omega)
    have hm : pt n = m * 2 ^ (j - (40 - pp n)) := by
      have h5 : pt n * 2 ^ (40 - pp n) = (m * 2 ^ (j - (40 - pp n))) * 2 ^ (40 - pp n) := by
        rw [h1]
        refine e.trans ?_
        rw [Int.mul_assoc, Int.mul_comm (2 ^ (j - (40 - pp n))) (2 ^ (40 - pp n)), ← hs]
      exact Int.eq_of_mul_eq_mul_right (Int.ne_of_gt (two_pos _)) h5
    have hev : pt n % 2 = 0 := by
      have : j - (40 - pp n) = (j - (40 - pp n) - 1) + 1 := by omega
      rw [hm, this, Int.pow_succ, ← Int.mul_assoc]; omega
    rcases h3 with h3 | h3
    · omega
    · exact h3 hev
/-- in range: what a Dyadic can be made of -/
def Okn (n : Int) : Prop := (pt n).natAbs ≤ 1000000000000
theorem okn_of {n m : Int} {j : Nat} (hj : j ≤ 40) (e : n = m * 2 ^ j) (h : m.natAbs ≤ 1000000000000) : Okn n := Nat.le_trans (pt_bound hj e) h
theorem add_pt (a b : Int) : red (pt a * 2 ^ (max (pp a) (pp b) - pp a) + pt b * 2 ^ (max (pp a) (pp b) - pp b)) (max (pp a) (pp b)) = (pt (a + b), pp (a + b)) := by
  have ha := pp_le a
  have hb := pp_le b
  rw [red_pt (by omega)]
  have : (pt a * 2 ^ (max (pp a) (pp b) - pp a) + pt b * 2 ^ (max (pp a) (pp b) - pp b)) * 2 ^ (40 - max (pp a) (pp b)) = a + b := by
    rw [Int.add_mul, Int.mul_assoc, Int.mul_assoc, ← Int.pow_add, ← Int.pow_add]
    have e1 : max (pp a) (pp b) - pp a + (40 - max (pp a) (pp b)) = 40 - pp a := by omega
    have e2 : max (pp a) (pp b) - pp b + (40 - max (pp a) (pp b)) = 40 - pp b := by omega
    rw [e1, e2, pt_val, pt_val]
  rw [this]
theorem neg_pt (a : Int) : pt (-a) = -pt a ∧ pp (-a) = pp a := by
  refine pt_uniq (pp_le a) (by rw [Int.neg_mul, pt_val]) ?_
  rcases pt_odd a with h | h
  · exact .inl h
  · exact .inr (by omega)
theorem less_pt (a b : Int) : pt a * 2 ^ pp b < pt b * 2 ^ pp a ↔ a < b := by
  have ha := pt_val a
  have hb := pt_val b
  have la := pp_le a
  have lb := pp_le b
  have e1 : a * 2 ^ (pp a + pp b) = pt a * 2 ^ pp b * 2 ^ 40 := by
    refine (congrArg (· * 2 ^ (pp a + pp b)) ha.symm).trans ?_
    show pt a * 2 ^ (40 - pp a) * 2 ^ (pp a + pp b) = _
    rw [Int.mul_assoc, Int.mul_assoc, ← Int.pow_add, ← Int.pow_add]
    have : 40 - pp a + (pp a + pp b) = pp b + 40 := by omega
    rw [this]
  have e2 : b * 2 ^ (pp a + pp b) = pt b * 2 ^ pp a * 2 ^ 40 := by
    refine (congrArg (· * 2 ^ (pp a + pp b)) hb.symm).trans ?_
    show pt b * 2 ^ (40 - pp b) * 2 ^ (pp a + pp b) = _
    rw [Int.mul_assoc, Int.mul_assoc, ← Int.pow_add, ← Int.pow_add]
    have : 40 - pp b + (pp a + pp b) = pp a + 40 := by omega
    rw [this]
  have p1 := two_pos (pp a + pp b)
  have p2 := two_pos 40
  constructor
  · intro h
    have h' : pt a * 2 ^ pp b * 2 ^ 40 < pt b * 2 ^ pp a * 2 ^ 40 := Int.mul_lt_mul_of_pos_right h p2
    rw [← e1, ← e2] at h'
    exact Int.lt_of_mul_lt_mul_right h' (Int.le_of_lt p1)
  · intro h
    have h' : a * 2 ^ (pp a + pp b) < b * 2 ^ (pp a + pp b) := Int.mul_lt_mul_of_pos_right h p1
    rw [e1, e2] at h'
    exact Int.lt_of_mul_lt_mul_right h' (Int.le_of_lt p2)
theorem same_pt (a b : Int) : (pt a = pt b ∧ pp a = pp b) ↔ a = b := by
  constructor
  · rintro ⟨h1, h2⟩; rw [← pt_val a, ← pt_val b, h1, h2]
  · rintro rfl; exact ⟨rfl, rfl⟩
theorem pt_zero : pt 0 = 0 ∧ pp 0 = 0 := pt_uniq (by omega) (by simp) (.inl rfl)
theorem pt_eq0 (a : Int) : pt a = 0 ↔ a = 0 := by
  constructor
  · intro h; rw [← pt_val a, h, Int.zero_mul]
  · rintro rfl; exact pt_zero.1
theorem pt_neg (a : Int) : pt a < 0 ↔ a < 0 := by
  have h := pt_val a
  have p := two_pos (40 - pp a)
  constructor
  · intro q; rw [← h]; exact Int.mul_neg_of_neg_of_pos q p
  · intro q
    rw [← h] at q
    rcases Int.lt_or_le (pt a) 0 with z | z
    · exact z
    · exact absurd q (Int.not_lt.mpr (Int.mul_nonneg z (Int.le_of_lt p)))
/-- half of an even number of units -/
theorem half_pt (a : Int) (h : a % 2 = 0) : red (pt a) (pp a + 1) = (pt (a / 2), pp (a / 2)) := by
  have h1 := pt_val a
  have h2 := pp_le a
  have h3 := pt_odd a
  by_cases hc : pp a = 40
  · exfalso
    rw [hc] at h1 h3
    simp at h1
    omega
  · rw [red_pt (by omega)]
    have : pt a * 2 ^ (40 - (pp a + 1)) = a / 2 := by
      have e : 40 - pp a = (40 - (pp a + 1)) + 1 := by omega
      rw [e, Int.pow_succ, ← Int.mul_assoc] at h1
      omega
    rw [this]
theorem okn_half {a : Int} (h : Okn a) (he : a % 2 = 0) : Okn (a / 2) := by
  have e := half_pt a he
  have h5 := red_val (pp a + 1) (pt a)
  rw [e] at h5
  unfold Okn at *
  have : (pt (a / 2)).natAbs ≤ (pt a).natAbs := by
    rw [← h5, Int.natAbs_mul]
    exact Nat.le_mul_of_pos_right _ (Int.natAbs_pos.mpr (Int.ne_of_gt (two_pos _)))
  omega
theorem scale_pt (a : Int) : pt a * 2 ^ (40 - pp a) = a := pt_val a
end Wm
namespace Wm
/-- small and a multiple of 2 ^ 22: then in range -/
theorem okn_R {n : Int} (h1 : n % 4194304 = 0) (h2 : -1152921504606846976 ≤ n) (h3 : n ≤ 1152921504606846976) : Okn n := by
  refine okn_of (j := 22) (m := n / 4194304) (by decide) ?_ ?_
  · rw [show (2 : Int) ^ 22 = 4194304 from by decide]; omega
  · omega
def sgn3 (s n : Int) : Int := if s < 0 then -n else if 0 < s then n else 0
/-- the slope of a piece, if it is -1, 0 or 1 -/
def slopeB (run rise : Int) : Option Int := if rise = -run then some (-1) else if rise = 0 then some 0 else if rise = run then some 1 else none
end Wm

end

section
/-! Broken lines: pieces (heat, place, slope). -/
namespace Wm
abbrev Pc := Int × Int × Int
/-- the piece that holds at x: the last one whose heat is not above x -/
def fpc (p : Pc) (r : List Pc) (x : Int) : Pc := r.foldl (fun p q => if q.1 ≤ x then q else p) p
def ln (p : Pc) (x : Int) : Int := p.2.1 + p.2.2 * (x - p.1)
def val (p : Pc) (r : List Pc) (x : Int) : Int := ln (fpc p r x) x
def slo (p : Pc) (r : List Pc) (x : Int) : Int := (fpc p r x).2.2
def s3 (s : Int) : Prop := s = -1 ∨ s = 0 ∨ s = 1
def Chn : Pc → List Pc → Prop
  | p, [] => s3 p.2.2
  | p, q :: r => s3 p.2.2 ∧ p.1 < q.1 ∧ q.2.1 = ln p q.1 ∧ Chn q r
/-- pieces side by side have other slopes -/
def Can : Pc → List Pc → Prop
  | _, [] => True
  | p, q :: r => q.2.2 ≠ p.2.2 ∧ Can q r
theorem fpc_nil (p : Pc) (x : Int) : fpc p [] x = p := rfl
theorem fpc_cons (p q : Pc) (r : List Pc) (x : Int) : fpc p (q :: r) x = fpc (if q.1 ≤ x then q else p) r x := rfl
theorem fpc_snoc (p q : Pc) (r : List Pc) (x : Int) : fpc p (r ++ [q]) x = if q.1 ≤ x then q else fpc p r x := by
  unfold fpc; rw [List.foldl_append]; rfl
theorem fpc_mem (p : Pc) : ∀ (r : List Pc) (x : Int), fpc p r x ∈ p :: r
  | [], x => List.mem_singleton_self _
  | q :: r, x => by
    rw [fpc_cons]
    split
    · exact List.mem_cons_of_mem _ (fpc_mem q r x)
    · rcases List.mem_cons.mp (fpc_mem p r x) with h | h
      · rw [h]; exact List.mem_cons_self
      · exact List.mem_cons_of_mem _ (List.mem_cons_of_mem _ h)
theorem Chn.head {p : Pc} : ∀ {r : List Pc}, Chn p r → s3 p.2.2
  | [], h => h
  | _ :: _, h => h.1
theorem Chn.gt {p : Pc} : ∀ {r : List Pc}, Chn p r → ∀ q ∈ r, p.1 < q.1
  | q :: r, h, u, hu => by
    rcases List.mem_cons.mp hu with e | e
    · rw [e]; exact h.2.1
    · have := Chn.gt h.2.2.2 u e; have := h.2.1; omega
/-- before the next point the first piece holds -/
theorem fpc_lt {p : Pc} : ∀ {r : List Pc} {x : Int}, (∀ q ∈ r, x < q.1) → fpc p r x = p
  | [], x, h => rfl
  | q :: r, x, h => by
    rw [fpc_cons, if_neg (by have := h q List.mem_cons_self; omega)]
    exact fpc_lt fun u hu => h u (List.mem_cons_of_mem _ hu)
theorem Chn.sl {p : Pc} : ∀ {r : List Pc}, Chn p r → ∀ q ∈ p :: r, s3 q.2.2
  | [], h, u, hu => by rw [List.mem_singleton.mp hu]; exact h
  | q :: r, h, u, hu => by
    rcases List.mem_cons.mp hu with e | e
    · rw [e]; exact h.1
    · exact Chn.sl h.2.2.2 u e
theorem slo_s3 {p : Pc} {r : List Pc} (h : Chn p r) (x : Int) : s3 (slo p r x) := h.sl _ (fpc_mem p r x)
/-- linear from a on, as far as no point comes -/
theorem lin {p : Pc} : ∀ {r : List Pc}, Chn p r → ∀ {a x : Int}, p.1 ≤ a → a ≤ x → (∀ q ∈ r, a < q.1 → x ≤ q.1) → val p r x = val p r a + slo p r a * (x - a)
  | [], h, a, x, h1, h2, _ => by
    show ln p x = ln p a + p.2.2 * (x - a)
    unfold ln
    have e : x - p.1 = (a - p.1) + (x - a) := by omega
    rw [e, Int.mul_add]; omega
  | q :: r, h, a, x, h1, h2, h3 => by
    by_cases ha : q.1 ≤ a
    · have e1 : val p (q :: r) x = val q r x := by unfold val; rw [fpc_cons, if_pos (by omega)]
      have e2 : val p (q :: r) a = val q r a := by unfold val; rw [fpc_cons, if_pos ha]
      have e3 : slo p (q :: r) a = slo q r a := by unfold slo; rw [fpc_cons, if_pos ha]
      rw [e1, e2, e3]
      exact lin h.2.2.2 ha h2 fun u hu => h3 u (List.mem_cons_of_mem _ hu)
    · have hx : x ≤ q.1 := h3 q List.mem_cons_self (by omega)
      have gt := h.gt
      have e2 : fpc p (q :: r) a = p := fpc_lt fun u hu => by
        rcases List.mem_cons.mp hu with e | e
        · rw [e]; omega
        · have := Chn.gt h.2.2.2 u e; omega
      have e4 : val p (q :: r) x = ln p x := by
        by_cases hq : x = q.1
        · subst hq
          unfold val
          rw [fpc_cons, if_pos (Int.le_refl _), fpc_lt (Chn.gt h.2.2.2)]
          unfold ln
          rw [h.2.2.1]; unfold ln; simp
        · unfold val
          rw [fpc_lt (p := p) fun u hu => by
            rcases List.mem_cons.mp hu with e | e
            · rw [e]; omega
            · have := Chn.gt h.2.2.2 u e; omega]
      rw [e4]
      unfold val slo
      rw [e2]
      unfold ln
      have e : x - p.1 = (a - p.1) + (x - a) := by omega
      rw [e, Int.mul_add]; omega
theorem slo_same {p : Pc} : ∀ {r : List Pc}, Chn p r → ∀ {a x : Int}, p.1 ≤ a → a ≤ x → (∀ q ∈ r, a < q.1 → x < q.1) → slo p r x = slo p r a
  | [], h, a, x, h1, h2, _ => rfl
  | q :: r, h, a, x, h1, h2, h3 => by
    by_cases ha : q.1 ≤ a
    · unfold slo
      rw [fpc_cons, fpc_cons, if_pos ha, if_pos (by omega)]
      exact slo_same h.2.2.2 ha h2 fun u hu => h3 u (List.mem_cons_of_mem _ hu)
    · have hx : x < q.1 := h3 q List.mem_cons_self (by omega)
      unfold slo
      rw [fpc_lt (p := p) (r := q :: r) (x := x), fpc_lt (p := p) (r := q :: r) (x := a)]
      · intro u hu
        rcases List.mem_cons.mp hu with e | e
        · rw [e]; omega
        · have := Chn.gt h.2.2.2 u e; omega
      · intro u hu
        rcases List.mem_cons.mp hu with e | e
        · rw [e]; omega
        · have := Chn.gt h.2.2.2 u e; omega
theorem val_head {p : Pc} {r : List Pc} (h : Chn p r) : val p r p.1 = p.2.1 := by
  unfold val; rw [fpc_lt h.gt]; unfold ln; simp
theorem slo_head {p : Pc} {r : List Pc} (h : Chn p r) : slo p r p.1 = p.2.2 := by
  unfold slo; rw [fpc_lt h.gt]
/-! ### joining pieces with the same slope -/
def mrg (p : Pc) : List Pc → List Pc
  | [] => []
  | q :: r => if q.2.2 ≠ p.2.2 then q :: mrg q r else mrg q r
theorem mrg_sub (p : Pc) : ∀ (r : List Pc), ∀ q ∈ mrg p r, q ∈ r := by
  intro r
  induction r generalizing p with
  | nil => intro q h; exact h
  | cons u r ih =>
    intro q h
    unfold mrg at h
    split at h
    · rcases List.mem_cons.mp h with e | e
      · rw [e]; exact List.mem_cons_self
      · exact List.mem_cons_of_mem _ (ih u q e)
    · exact List.mem_cons_of_mem _ (ih u q h)
theorem mrg_len (p : Pc) : ∀ (r : List Pc), (mrg p r).length ≤ r.length := by
  intro r
  induction r generalizing p with
  | nil => exact Nat.le_refl _
  | cons u r ih =>
    unfold mrg
    split
    · simp only [List.length_cons]; have := ih u; omega
    · simp only [List.length_cons]; have := ih u; omega
/-- two pieces on one line -/
def Col (p q : Pc) : Prop := q.2.2 = p.2.2 ∧ q.2.1 = ln p q.1
theorem Col.ln {p q : Pc} (h : Col p q) (x : Int) : ln q x = ln p x := by
  unfold Wm.ln
  rw [h.1, h.2]
  unfold Wm.ln
  have e : x - p.1 = (q.1 - p.1) + (x - q.1) := by omega
  rw [e, Int.mul_add]; omega
theorem Col.trans {p q u : Pc} (h : Col p q) (h' : Col q u) : Col p u := ⟨h'.1.trans h.1, by rw [h'.2, h.ln]⟩
/-- joining keeps the line: p stands for p', a piece further on with the same slope on the same line -/
theorem mrg_chn {p' : Pc} : ∀ {r : List Pc} {p : Pc}, Chn p' r → Col p p' → p.1 ≤ p'.1 → Chn p (mrg p' r) ∧ (∀ x, p'.1 ≤ x → ln (fpc p (mrg p' r) x) x = val p' r x ∧ (fpc p (mrg p' r) x).2.2 = slo p' r x)
  | [], p, h, hc, hl => ⟨by show s3 p.2.2; rw [← hc.1]; exact h, fun x _ => ⟨(hc.ln x).symm, hc.1.symm⟩⟩
  | q :: r, p, h, hc, hl => by
    unfold mrg
    split
    · rename_i hne
      obtain ⟨i1, i2⟩ := mrg_chn (p' := q) (p := q) h.2.2.2 ⟨rfl, by unfold ln; simp⟩ (Int.le_refl _)
      refine ⟨⟨by rw [← hc.1]; exact h.1, by have := h.2.1; omega, by rw [h.2.2.1, hc.ln], i1⟩, fun x hx => ?_⟩
      by_cases hq : q.1 ≤ x
      · rw [fpc_cons, if_pos hq]
        unfold val slo
        rw [fpc_cons, if_pos hq]
        exact i2 x hq
      · have e1 : fpc p (q :: mrg q r) x = p := fpc_lt fun u hu => by
          rcases List.mem_cons.mp hu with e | e
          · rw [e]; omega
          · have := Chn.gt h.2.2.2 u (mrg_sub q r u e); omega
        have e2 : fpc p' (q :: r) x = p' := fpc_lt fun u hu => by
          rcases List.mem_cons.mp hu with e | e
          · rw [e]; omega
          · have := Chn.gt h.2.2.2 u e; omega
        unfold val slo
        rw [e1, e2]
        exact ⟨(hc.ln x).symm, hc.1.symm⟩
    · rename_i hne
      have he : q.2.2 = p'.2.2 := by
        rcases Decidable.em (q.2.2 = p'.2.2) with e | e
        · exact e
        · exact absurd e hne
      obtain ⟨i1, i2⟩ := mrg_chn (p' := q) (p := p) h.2.2.2 (hc.trans ⟨he, h.2.2.1⟩) (by have := h.2.1; omega)
      refine ⟨i1, fun x hx => ?_⟩
      by_cases hq : q.1 ≤ x
      · obtain ⟨j1, j2⟩ := i2 x hq
        unfold val slo
        rw [fpc_cons, if_pos hq]
        exact ⟨j1, j2⟩
      · have e1 : fpc p (mrg q r) x = p := fpc_lt fun u hu => by have := Chn.gt h.2.2.2 u (mrg_sub q r u hu); omega
        have e2 : fpc p' (q :: r) x = p' := fpc_lt fun u hu => by
          rcases List.mem_cons.mp hu with e | e
          · rw [e]; omega
          · have := Chn.gt h.2.2.2 u e; omega
        unfold val slo
        rw [e1, e2]
        exact ⟨(hc.ln x).symm, hc.1.symm⟩
theorem mrg_can {p' : Pc} : ∀ {r : List Pc} {p : Pc}, p.2.2 = p'.2.2 → Can p (mrg p' r)
  | [], p, _ => True.intro
  | q :: r, p, h => by
    unfold mrg
    split
    · rename_i hne
      exact ⟨by rw [h]; exact hne, mrg_can rfl⟩
    · rename_i hne
      have he : q.2.2 = p'.2.2 := by
        rcases Decidable.em (q.2.2 = p'.2.2) with e | e
        · exact e
        · exact absurd e hne
      exact mrg_can (h.trans he.symm)
/-- lines: from heat 0 on -/
structure Lin (p : Pc) (r : List Pc) : Prop where
  z : p.1 = 0
  ch : Chn p r
theorem Lin.mrg {p : Pc} {r : List Pc} (h : Lin p r) : Lin p (mrg p r) ∧ Can p (Wm.mrg p r) ∧ ∀ x, 0 ≤ x → val p (Wm.mrg p r) x = val p r x ∧ slo p (Wm.mrg p r) x = slo p r x := by
  obtain ⟨h1, h2⟩ := mrg_chn (p := p) h.ch ⟨rfl, by unfold ln; simp⟩ (Int.le_refl _)
  exact ⟨⟨h.z, h1⟩, mrg_can rfl, fun x hx => h2 x (by rw [h.z]; exact hx)⟩
/-- a line whose pieces differ is told by its places -/
theorem uniq {p : Pc} : ∀ {r : List Pc} {q : Pc} {t : List Pc}, Chn p r → Can p r → Chn q t → Can q t → p.1 = q.1 → (∀ x, p.1 ≤ x → val p r x = val q t x) → p = q ∧ r = t := by
  have slope : ∀ {p : Pc} {r : List Pc}, Chn p r → val p r (p.1 + 1) = p.2.1 + p.2.2 := fun {p} {r} h => by
    have := lin h (a := p.1) (x := p.1 + 1) (Int.le_refl _) (by omega) fun q hq hl => by omega
    rw [this, val_head h, slo_head h]
    have : p.1 + 1 - p.1 = 1 := by omega
    rw [this]; omega
  intro r
  induction r generalizing p with
  | nil =>
    intro q t h hc h' hc' e f
    have f0 := f p.1 (Int.le_refl _)
    have f1 := f (p.1 + 1) (by omega)
    rw [val_head h, e, val_head h'] at f0
    rw [slope h, e, slope h'] at f1
    have ep : p = q := Prod.ext e (Prod.ext f0 (by show p.2.2 = q.2.2; omega))
    refine ⟨ep, ?_⟩
    cases t with
    | nil => rfl
    | cons u t =>
      exfalso
      have g0 := f u.1 (by have := h'.2.1; omega)
      have g1 := f (u.1 + 1) (by have := h'.2.1; omega)
      have hu : ∀ x, u.1 ≤ x → val q (u :: t) x = val u t x := fun x hx => by unfold val; rw [fpc_cons, if_pos hx]
      rw [hu _ (Int.le_refl _), val_head h'.2.2.2] at g0
      rw [hu _ (by omega), slope h'.2.2.2] at g1
      have e0 : val p [] u.1 = ln p u.1 := rfl
      have e1 : val p [] (u.1 + 1) = ln p u.1 + p.2.2 := by
        show p.2.1 + p.2.2 * (u.1 + 1 - p.1) = p.2.1 + p.2.2 * (u.1 - p.1) + p.2.2
        have : u.1 + 1 - p.1 = (u.1 - p.1) + 1 := by omega
        rw [this, Int.mul_add]; omega
      have := hc'.1
      rw [ep] at e0 e1 g0 g1
      omega
  | cons v r ih =>
    intro q t h hc h' hc' e f
    have f0 := f p.1 (Int.le_refl _)
    have f1 := f (p.1 + 1) (by omega)
    rw [val_head h, e, val_head h'] at f0
    rw [slope h, e, slope h'] at f1
    have ep : p = q := Prod.ext e (Prod.ext f0 (by show p.2.2 = q.2.2; omega))
    subst ep
    refine ⟨rfl, ?_⟩
    have hv : ∀ x, v.1 ≤ x → val p (v :: r) x = val v r x := fun x hx => by unfold val; rw [fpc_cons, if_pos hx]
    have early : ∀ {u : Pc} {t : List Pc} {x : Int}, Chn p (u :: t) → x < u.1 → val p (u :: t) x = ln p x := fun {u t x} hh hx => by
      unfold val
      rw [fpc_lt (p := p) fun y hy => by
        rcases List.mem_cons.mp hy with e | e
        · rw [e]; exact hx
        · have := Chn.gt hh.2.2.2 y e; omega]
    have lnstep : ∀ x, ln p (x + 1) = ln p x + p.2.2 := fun x => by
      show p.2.1 + p.2.2 * (x + 1 - p.1) = p.2.1 + p.2.2 * (x - p.1) + p.2.2
      have : x + 1 - p.1 = (x - p.1) + 1 := by omega
      rw [this, Int.mul_add]; omega
    cases t with
    | nil =>
      exfalso
      have g0 := f v.1 (by have := h.2.1; omega)
      have g1 := f (v.1 + 1) (by have := h.2.1; omega)
      rw [hv _ (Int.le_refl _), val_head h.2.2.2] at g0
      rw [hv _ (by omega), slope h.2.2.2] at g1
      have e0 : val p [] v.1 = ln p v.1 := rfl
      have e1 : val p [] (v.1 + 1) = ln p (v.1 + 1) := rfl
      have := lnstep v.1
      have := hc.1
      omega
    | cons u t =>
      have hu : ∀ x, u.1 ≤ x → val p (u :: t) x = val u t x := fun x hx => by unfold val; rw [fpc_cons, if_pos hx]
      have l1 := h.2.1
      have l2 := h'.2.1
      have c1 := hc.1
      have c2 := hc'.1
      have huv : v.1 = u.1 := by
        rcases Int.lt_trichotomy v.1 u.1 with z | z | z
        · exfalso
          have g0 := f v.1 (by omega)
          have g1 := f (v.1 + 1) (by omega)
          rw [hv _ (Int.le_refl _), val_head h.2.2.2, early h' z] at g0
          rw [hv _ (by omega), slope h.2.2.2] at g1
          have e1 : val p (u :: t) (v.1 + 1) = ln p (v.1 + 1) := by
            by_cases zz : v.1 + 1 < u.1
            · exact early h' zz
            · have : v.1 + 1 = u.1 := by omega
              rw [this, hu _ (Int.le_refl _), val_head h'.2.2.2, h'.2.2.1]
          have := lnstep v.1
          omega
        · exact z
        · exfalso
          have g0 := f u.1 (by omega)
          have g1 := f (u.1 + 1) (by omega)
          rw [hu _ (Int.le_refl _), val_head h'.2.2.2, early h z] at g0
          rw [hu _ (by omega), slope h'.2.2.2] at g1
          have e1 : val p (v :: r) (u.1 + 1) = ln p (u.1 + 1) := by
            by_cases zz : u.1 + 1 < v.1
            · exact early h zz
            · have : u.1 + 1 = v.1 := by omega
              rw [this, hv _ (Int.le_refl _), val_head h.2.2.2, h.2.2.1]
          have := lnstep u.1
          omega
      obtain ⟨e1, e2⟩ := ih h.2.2.2 hc.2 h'.2.2.2 hc'.2 huv fun x hx => by
        rw [← hv x hx, ← hu x (by omega)]
        exact f x (by omega)
      rw [e1, e2]
end Wm

end

section
/-! The highest of some broken lines. -/
namespace Wm
abbrev Wal := Pc × List Pc
def V (A : Wal) (x : Int) : Int := val A.1 A.2 x
def S (A : Wal) (x : Int) : Int := slo A.1 A.2 x
def LinW (A : Wal) : Prop := Lin A.1 A.2
def crX (g c s : Int) (e : Option Int) : Option Int :=
  if g = 0 ∨ c ≤ 0 then none else
  match e with
  | none => some (s + (if c = 2 then g / 2 else g))
  | some e => if s + (if c = 2 then g / 2 else g) < e then some (s + (if c = 2 then g / 2 else g)) else none
def cross (A B : Wal) (s : Int) (e : Option Int) : Option Int :=
  if V A s - V B s < 0 then crX (-(V A s - V B s)) (-(S B s - S A s)) s e else crX (V A s - V B s) (S B s - S A s) s e
theorem cross_comm (A B : Wal) (s : Int) (e : Option Int) : cross A B s e = cross B A s e := by
  unfold cross
  by_cases h : V A s - V B s < 0
  · have e1 : -(V A s - V B s) = V B s - V A s := by omega
    have e2 : -(S B s - S A s) = S A s - S B s := by omega
    rw [if_pos h, if_neg (by omega), e1, e2]
  · by_cases h0 : V A s - V B s = 0
    · have e1 : V B s - V A s = 0 := by omega
      rw [if_neg h, if_neg (by omega), h0, e1]
      unfold crX
      rw [if_pos (.inl rfl), if_pos (.inl rfl)]
    · have e1 : -(V B s - V A s) = V A s - V B s := by omega
      have e2 : -(S A s - S B s) = S B s - S A s := by omega
      rw [if_neg h, if_pos (by omega : V B s - V A s < 0), e1, e2]
theorem cross_self (A : Wal) (s : Int) (e : Option Int) : cross A A s e = none := by
  unfold cross crX
  have e1 : V A s - V A s = 0 := by omega
  rw [e1, if_neg (by omega), if_pos (.inl rfl)]
/-- the piece of an ascending list in which t lies -/
theorem seg {t : Int} : ∀ {H : List Int}, H.Pairwise (· < ·) → (∃ h ∈ H, h ≤ t) → ∃ i s, H[i]? = some s ∧ s ≤ t ∧ (∀ e, H[i + 1]? = some e → t < e) ∧ ∀ h ∈ H, h ≤ s ∨ ∃ e, H[i + 1]? = some e ∧ e ≤ h
  | [], _, ⟨h, hm, _⟩ => nomatch hm
  | [a], _, ⟨h, hm, hl⟩ => by
    have : h = a := List.mem_singleton.mp hm
    subst this
    exact ⟨0, h, rfl, hl, fun e z => by simp at z, fun h' hm' => .inl (by rw [List.mem_singleton.mp hm']; exact Int.le_refl _)⟩
  | a :: b :: H, hp, ⟨h, hm, hl⟩ => by
    have hp2 := (List.pairwise_cons.mp hp).2
    have hab := (List.pairwise_cons.mp hp).1 b List.mem_cons_self
    by_cases hb : b ≤ t
    · obtain ⟨i, s, h1, h2, h3, h4⟩ := seg hp2 ⟨b, List.mem_cons_self, hb⟩
      refine ⟨i + 1, s, h1, h2, h3, fun u hu => ?_⟩
      rcases List.mem_cons.mp hu with e | e
      · rcases h4 b List.mem_cons_self with z | ⟨z, _, q⟩
        · left; rw [e]; omega
        · exfalso; have := h3 z (by assumption); omega
      · exact h4 u e
    · have ha : a ≤ t := by
        rcases List.mem_cons.mp hm with e | e
        · rw [← e]; exact hl
        · rcases List.mem_cons.mp e with e | e
          · omega
          · have := (List.pairwise_cons.mp hp2).1 h e; omega
      refine ⟨0, a, rfl, ha, fun e z => ?_, fun u hu => ?_⟩
      · simp at z; omega
      · rcases List.mem_cons.mp hu with e | e
        · left; rw [e]; exact Int.le_refl _
        · right
          refine ⟨b, rfl, ?_⟩
          rcases List.mem_cons.mp e with e | e
          · rw [e]; exact Int.le_refl _
          · have := (List.pairwise_cons.mp hp2).1 u e; omega
theorem best {α : Type} (g : α → Int) : ∀ (Ws : List α), Ws ≠ [] → ∃ A ∈ Ws, ∀ B ∈ Ws, g B ≤ g A
  | [], h => absurd rfl h
  | [A], _ => ⟨A, List.mem_singleton_self _, fun B hB => by rw [List.mem_singleton.mp hB]; exact Int.le_refl _⟩
  | A :: B :: Ws, _ => by
    obtain ⟨C, hC, hm⟩ := best g (B :: Ws) (by simp)
    by_cases h : g C ≤ g A
    · exact ⟨A, List.mem_cons_self, fun D hD => by
        rcases List.mem_cons.mp hD with e | e
        · rw [e]; exact Int.le_refl _
        · have := hm D e; omega⟩
    · exact ⟨C, List.mem_cons_of_mem _ hC, fun D hD => by
        rcases List.mem_cons.mp hD with e | e
        · rw [e]; omega
        · exact hm D e⟩
/-- what is asked: H the heats of all points, T with all crossings -/
structure Tops (Ws : List Wal) (H T : List Int) : Prop where
  ne : Ws ≠ []
  li : ∀ A ∈ Ws, LinW A
  ev : ∀ A ∈ Ws, ∀ q ∈ A.1 :: A.2, q.1 % 2 = 0 ∧ q.2.1 % 2 = 0
  asc : H.Pairwise (· < ·)
  pts : ∀ A ∈ Ws, ∀ q ∈ A.1 :: A.2, q.1 ∈ H
  frm : ∀ h ∈ H, ∃ A ∈ Ws, ∃ q ∈ A.1 :: A.2, h = q.1
  sub : ∀ h ∈ H, h ∈ T
  crs : ∀ A ∈ Ws, ∀ B ∈ Ws, ∀ i s, H[i]? = some s → ∀ x, cross A B s H[i + 1]? = some x → x ∈ T
/-- A is the highest at t, and behind it -/
def Best (Ws : List Wal) (A : Wal) (t : Int) : Prop := A ∈ Ws ∧ ∀ B ∈ Ws, V B t < V A t ∨ (V B t = V A t ∧ S B t ≤ S A t)
theorem s3_of {A : Wal} (h : LinW A) (x : Int) : s3 (S A x) := slo_s3 h.ch x
theorem Tops.best {Ws : List Wal} {H T : List Int} (h : Tops Ws H T) (t : Int) : ∃ A, Best Ws A t := by
  obtain ⟨A, hA, hm⟩ := Wm.best (fun B => 4 * V B t + S B t) Ws h.ne
  refine ⟨A, hA, fun B hB => ?_⟩
  have := hm B hB
  have a := s3_of (h.li A hA) t
  have b := s3_of (h.li B hB) t
  rcases a with a | a | a <;> rcases b with b | b | b <;> rw [a, b] at this ⊢ <;> omega
theorem V_even {Ws : List Wal} {H T : List Int} (h : Tops Ws H T) {A : Wal} (hA : A ∈ Ws) {s : Int} (hs : s % 2 = 0) : V A s % 2 = 0 := by
  have hm := fpc_mem A.1 A.2 s
  have e := h.ev A hA _ hm
  have q := (h.li A hA).ch.sl _ hm
  unfold V val ln
  rcases q with q | q | q <;> rw [q] <;> omega
/-- from t to the next of T the best line stays the best -/
theorem Tops.step {Ws : List Wal} {H T : List Int} (h : Tops Ws H T) {A : Wal} {t x : Int} (h0 : 0 ≤ t) (hA : Best Ws A t) (hx : t ≤ x) (hn : ∀ y ∈ T, t < y → x ≤ y) :
    V A x = V A t + S A t * (x - t) ∧ ∀ B ∈ Ws, V B x ≤ V A x := by
  obtain ⟨A0, hA0⟩ := List.exists_mem_of_ne_nil Ws h.ne
  have z0 : (0 : Int) ∈ H := by
    have := h.pts A0 hA0 A0.1 List.mem_cons_self
    rw [(h.li A0 hA0).z] at this
    exact this
  obtain ⟨i, s, hi, hs, he, hh⟩ := seg h.asc ⟨0, z0, h0⟩ (t := t)
  have s0 : 0 ≤ s := by
    rcases hh 0 z0 with z | ⟨e, z1, z2⟩
    · exact z
    · have := he e z1; omega
  have xe : ∀ e, H[i + 1]? = some e → x ≤ e := fun e z => hn e (h.sub e (List.mem_of_getElem? z)) (he e z)
  have hp : ∀ B ∈ Ws, ∀ y, s ≤ y → y ≤ x → V B y = V B s + S B s * (y - s) := fun B hB y h1 h2 => by
    refine lin (h.li B hB).ch (by rw [(h.li B hB).z]; exact s0) h1 fun q hq hl => ?_
    rcases hh q.1 (h.pts B hB q (List.mem_cons_of_mem _ hq)) with z | ⟨e, z1, z2⟩
    · omega
    · have := xe e z1; omega
  have hsl : ∀ B ∈ Ws, S B t = S B s := fun B hB => by
    refine slo_same (h.li B hB).ch (by rw [(h.li B hB).z]; exact s0) hs fun q hq hl => ?_
    rcases hh q.1 (h.pts B hB q (List.mem_cons_of_mem _ hq)) with z | ⟨e, z1, z2⟩
    · omega
    · have := he e z1; omega
  have hAm := hA.1
  have vA := hp A hAm x (by omega) (Int.le_refl _)
  have vAt := hp A hAm t hs hx
  refine ⟨?_, fun B hB => ?_⟩
  · rw [vA, vAt, hsl A hAm]
    have e : x - s = (t - s) + (x - t) := by omega
    rw [e, Int.mul_add]; omega
  · rcases Int.lt_or_le (V A x) (V B x) with hlt | hle
    · exfalso
      have vB := hp B hB x (by omega) (Int.le_refl _)
      have vBt := hp B hB t hs hx
      have hb := hA.2 B hB
      rw [hsl A hAm, hsl B hB] at hb
      have a3 := s3_of (h.li A hAm) s
      have b3 := s3_of (h.li B hB) s
      have sev : s % 2 = 0 := by
        obtain ⟨C, hC, q, hq, e⟩ := h.frm s (List.mem_of_getElem? hi)
        rw [e]; exact (h.ev C hC q hq).1
      have eA := V_even h hAm sev
      have eB := V_even h hB sev
      have key : ∀ X : Int, X = s + (if S B s - S A s = 2 then (V A s - V B s) / 2 else V A s - V B s) → 0 < V A s - V B s → 0 < S B s - S A s → t < X → X < x → False := fun X eX g0 c0 tX Xx => by
        have hc : cross A B s H[i + 1]? = some X := by
          unfold cross
          rw [if_neg (by omega)]
          unfold crX
          rw [if_neg (by omega), ← eX]
          cases q : H[i + 1]? with
          | none => rfl
          | some e => have := xe e q; simp only; rw [if_pos (by omega)]
        have := hn X (h.crs A hAm B hB i s hi X hc) tX
        omega
      rw [vA, vB] at hlt
      rw [vAt, vBt] at hb
      rcases a3 with a | a | a <;> rcases b3 with b | b | b <;> rw [a, b] at hlt hb key <;> first
        | omega
        | exact key _ rfl (by omega) (by omega) (by simp; omega) (by simp; omega)
    · exact hle
/-- a line built along an ascending list -/
theorem build (M : Int → Int) (sl : Int) : ∀ (t : Int) (ts : List Int), (t :: ts).Pairwise (· < ·) →
    (∀ u ∈ t :: ts, (∀ y ∈ t :: ts, y ≤ u) → s3 sl ∧ ∀ x, u ≤ x → M x = M u + sl * (x - u)) →
    (∀ u ∈ t :: ts, ∃ s, s3 s ∧ ∀ x, u ≤ x → (∀ y ∈ t :: ts, u < y → x ≤ y) → M x = M u + s * (x - u)) →
    ∃ (p : Pc) (r : List Pc), Chn p r ∧ (p :: r).map (fun q => (q.1, q.2.1)) = (t :: ts).map (fun t => (t, M t)) ∧ (∀ x, t ≤ x → val p r x = M x) ∧ ((p :: r).getLast (List.cons_ne_nil _ _)).2.2 = sl
  | t, [], _, hl, _ => by
    obtain ⟨h3, hm⟩ := hl t List.mem_cons_self fun y hy => by rw [List.mem_singleton.mp hy]; exact Int.le_refl _
    exact ⟨(t, M t, sl), [], h3, rfl, fun x hx => (hm x hx).symm, rfl⟩
  | t, u :: ts, hp, hl, hs => by
    have hp2 := (List.pairwise_cons.mp hp).2
    have htu := (List.pairwise_cons.mp hp).1
    obtain ⟨p, r, h1, h2, h3, h4⟩ := build M sl u ts hp2
      (fun v hv hy => hl v (List.mem_cons_of_mem _ hv) fun y hy' => by
        rcases List.mem_cons.mp hy' with e | e
        · rw [e]; have := htu v hv; omega
        · exact hy y e)
      (fun v hv => by
        obtain ⟨s, a, b⟩ := hs v (List.mem_cons_of_mem _ hv)
        refine ⟨s, a, fun x hx hy => b x hx fun y hy' hlt => ?_⟩
        rcases List.mem_cons.mp hy' with e | e
        · have := htu v hv; omega
        · exact hy y e hlt)
    obtain ⟨s, s3s, hm⟩ := hs t List.mem_cons_self
    have hd : (p.1, p.2.1) = (u, M u) := by simp only [List.map_cons, List.cons.injEq] at h2; exact h2.1
    have hd1 : p.1 = u := congrArg Prod.fst hd
    have hd2 : p.2.1 = M u := congrArg Prod.snd hd
    have tu := htu u List.mem_cons_self
    have nx : ∀ x, t ≤ x → x ≤ u → M x = M t + s * (x - t) := fun x a b => hm x a fun y hy hlt => by
      rcases List.mem_cons.mp hy with e | e
      · omega
      · rcases List.mem_cons.mp e with e | e
        · omega
        · have := (List.pairwise_cons.mp hp2).1 y e; omega
    refine ⟨(t, M t, s), p :: r, ⟨s3s, by rw [hd1]; exact tu, by rw [hd1, hd2]; exact nx u (by omega) (Int.le_refl _), h1⟩, ?_, fun x hx => ?_, ?_⟩
    · rw [List.map_cons, h2]; rfl
    · by_cases hu : u ≤ x
      · unfold val
        rw [fpc_cons, if_pos (by rw [hd1]; exact hu)]
        exact h3 x hu
      · unfold val
        rw [fpc_lt fun q hq => by
          rcases List.mem_cons.mp hq with e | e
          · rw [e, hd1]; omega
          · have := h1.gt q e; omega]
        exact (nx x hx (by omega)).symm
    · rw [List.getLast_cons (List.cons_ne_nil _ _)]; exact h4
end Wm

end

section
/-! What a wall is made of its points and its last slope. -/
namespace Wm
def slps : Int × Int → List (Int × Int) → Int → Option Wal
  | a, [], s => some ((a.1, a.2, s), [])
  | a, b :: l, s => if a.1 < b.1 then match slopeB (b.1 - a.1) (b.2 - a.2) with
      | some t => (slps b l s).map fun A => ((a.1, a.2, t), A.1 :: A.2)
      | none => none
    else none
def mkW (pts : List (Int × Int)) (s : Int) : Option Wal := match pts with
  | [] => none
  | a :: l => if a.1 = 0 ∧ (s = -1 ∨ s = 0 ∨ s = 1) then (slps a l s).map fun A => (A.1, mrg A.1 A.2) else none
def pc3 (a : Int × Int) (t : Int) : Pc := (a.1, a.2, t)
theorem slps_run : ∀ (a : Int × Int) (l : List (Int × Int)) (s : Int) (ss : List Int), ss.length = l.length →
    (∀ j x y, (a :: l)[j]? = some x → (a :: l)[j + 1]? = some y → x.1 < y.1 ∧ ∃ t, slopeB (y.1 - x.1) (y.2 - x.2) = some t ∧ ss[j]? = some t) →
    ∃ A, slps a l s = some A ∧ A.1 :: A.2 = List.zipWith pc3 (a :: l) (ss ++ [s])
  | a, [], s, ss, h, _ => by
    have : ss = [] := List.eq_nil_of_length_eq_zero h
    subst this
    exact ⟨_, rfl, rfl⟩
  | a, b :: l, s, ss, h, hh => by
    obtain ⟨h1, t, h2, h3⟩ := hh 0 a b rfl rfl
    match ss, h, h3 with
    | u :: ss, h, h3 =>
      have hu : u = t := by simpa using h3
      subst hu
      obtain ⟨A, e1, e2⟩ := slps_run b l s ss (by simpa using h) fun j x y q1 q2 => by
        obtain ⟨z1, t, z2, z3⟩ := hh (j + 1) x y q1 q2
        exact ⟨z1, t, z2, by simpa using z3⟩
      refine ⟨((a.1, a.2, u), A.1 :: A.2), ?_, ?_⟩
      · unfold slps
        rw [if_pos h1, h2]
        simp only
        rw [e1]; rfl
      · show (a.1, a.2, u) :: A.1 :: A.2 = _
        rw [e2]; rfl
theorem slps_none : ∀ (a : Int × Int) (l : List (Int × Int)) (s : Int) (j : Nat) (x y : Int × Int), (a :: l)[j]? = some x → (a :: l)[j + 1]? = some y → (¬ x.1 < y.1 ∨ slopeB (y.1 - x.1) (y.2 - x.2) = none) → slps a l s = none
  | a, [], s, j, x, y, _, h2, _ => by simp at h2
  | a, b :: l, s, 0, x, y, h1, h2, h3 => by
    have e1 : a = x := by simpa using h1
    have e2 : b = y := by simpa using h2
    subst e1 e2
    unfold slps
    rcases h3 with h3 | h3
    · rw [if_neg h3]
    · rw [h3]; simp
  | a, b :: l, s, j + 1, x, y, h1, h2, h3 => by
    have ih := slps_none b l s j x y (by simpa using h1) (by simpa using h2) h3
    unfold slps
    rw [ih]
    split
    · split <;> rfl
    · rfl
theorem mrg_step (p : Pc) : ∀ (r : List Pc) (i : Nat) (q u : Pc), r[i]? = some q → (p :: r)[i]? = some u → mrg p (r.take (i + 1)) = mrg p (r.take i) ++ (if q.2.2 ≠ u.2.2 then [q] else []) := by
  intro r
  induction r generalizing p with
  | nil => intro i q u h; simp at h
  | cons v r ih =>
    intro i q u h1 h2
    cases i with
    | zero =>
      have e1 : v = q := by simpa using h1
      have e2 : p = u := by simpa using h2
      subst e1 e2
      rfl
    | succ i =>
      have := ih v i q u (by simpa using h1) (by simpa using h2)
      rw [List.take_succ_cons, List.take_succ_cons]
      unfold mrg
      split
      · rw [this]; rfl
      · exact this
/-- the pieces that a chain of points has -/
theorem slps_chn : ∀ (p : Pc) (r : List Pc), Chn p r → slps (p.1, p.2.1) (r.map fun q => (q.1, q.2.1)) ((p :: r).getLast (List.cons_ne_nil _ _)).2.2 = some (p, r)
  | p, [], h => rfl
  | p, q :: r, h => by
    have ih := slps_chn q r h.2.2.2
    rw [List.map_cons]
    unfold slps
    have e : slopeB (q.1 - p.1) (q.2.1 - p.2.1) = some p.2.2 := by
      have e1 := h.2.2.1
      have hp := h.2.1
      unfold ln at e1
      unfold slopeB
      rcases h.1 with e | e | e <;> rw [e] at e1 ⊢
      · rw [if_pos (by omega)]
      · rw [if_neg (by omega), if_pos (by omega)]
      · rw [if_neg (by omega), if_neg (by omega), if_pos (by omega)]
    simp only
    rw [if_pos h.2.1, e, List.getLast_cons (List.cons_ne_nil _ _)]
    simp only
    rw [ih]; rfl
theorem getLast_s3 {p : Pc} {r : List Pc} (h : Chn p r) : s3 ((p :: r).getLast (List.cons_ne_nil _ _)).2.2 := h.sl _ (List.getLast_mem _)
theorem mkW_lin {p : Pc} {r : List Pc} (h : Lin p r) : mkW ((p :: r).map fun q => (q.1, q.2.1)) ((p :: r).getLast (List.cons_ne_nil _ _)).2.2 = some (p, mrg p r) := by
  unfold mkW
  rw [List.map_cons]
  simp only
  rw [if_pos ⟨h.z, getLast_s3 h.ch⟩, slps_chn p r h.ch]; rfl
theorem slps_full : ∀ (a : Int × Int) (l : List (Int × Int)) (s : Int) (A : Wal), s3 s → slps a l s = some A → Chn A.1 A.2 ∧ A.1.1 = a.1 ∧ (A.1 :: A.2).map (fun q => (q.1, q.2.1)) = a :: l
  | a, [], s, A, h, e => by
    cases e; exact ⟨h, rfl, rfl⟩
  | a, b :: l, s, A, h, e => by
    unfold slps at e
    split at e
    · rename_i hl
      split at e
      · rename_i t ht
        cases q : slps b l s with
        | none => rw [q] at e; cases e
        | some B =>
          rw [q] at e
          cases e
          obtain ⟨h1, h2, h3⟩ := slps_full b l s B h q
          have hd : (B.1.1, B.1.2.1) = b := by simp only [List.map_cons, List.cons.injEq] at h3; exact h3.1
          have hd2 : B.1.2.1 = b.2 := congrArg Prod.snd hd
          refine ⟨⟨?_, by rw [h2]; exact hl, ?_, h1⟩, rfl, ?_⟩
          · unfold slopeB at ht
            split at ht
            · cases ht; exact .inl rfl
            · split at ht
              · cases ht; exact .inr (.inl rfl)
              · split at ht
                · cases ht; exact .inr (.inr rfl)
                · cases ht
          · rw [hd2, h2]
            show b.2 = a.2 + t * (b.1 - a.1)
            unfold slopeB at ht
            split at ht
            · cases ht; omega
            · split at ht
              · cases ht; omega
              · split at ht
                · cases ht; omega
                · cases ht
          · show (a.1, a.2) :: (B.1 :: B.2).map _ = _
            rw [h3]
      · cases e
    · cases e
/-- what a wall is, is a line whose pieces differ -/
theorem mkW_is {pts : List (Int × Int)} {s : Int} {A : Wal} (h : mkW pts s = some A) : LinW A ∧ Can A.1 A.2 := by
  unfold mkW at h
  split at h
  · cases h
  · rename_i a l
    split at h
    · rename_i hc
      cases q : slps a l s with
      | none => rw [q] at h; cases h
      | some B =>
        rw [q] at h
        cases h
        obtain ⟨h1, h2, h3⟩ := slps_full a l s B hc.2 q
        obtain ⟨k1, k2, k3⟩ := Lin.mrg (p := B.1) (r := B.2) ⟨by rw [h2]; exact hc.1, h1⟩
        exact ⟨k1, k2⟩
    · cases h
end Wm

end

section
namespace Wm
def Rn (B n : Int) : Prop := n % 4194304 = 0 ∧ -B ≤ n ∧ n ≤ B
/-- a line whose points are small -/
structure SmW (A : Wal) : Prop where
  li : LinW A
  bd : ∀ q ∈ A.1 :: A.2, Rn 144115188075855872 q.1 ∧ Rn 144115188075855872 q.2.1
theorem ln_bd {q : Pc} {x : Int} (h : s3 q.2.2) (h1 : Rn 144115188075855872 q.1) (h2 : Rn 144115188075855872 q.2.1) (h3 : Rn 144115188075855872 x) : Rn 432345564227567616 (ln q x) := by
  unfold ln Rn at *
  rcases h with e | e | e <;> rw [e] <;> omega
theorem V_bd {A : Wal} (h : SmW A) {x : Int} (hx : Rn 144115188075855872 x) : Rn 432345564227567616 (V A x) := by
  have hm := fpc_mem A.1 A.2 x
  exact ln_bd (h.li.ch.sl _ hm) (h.bd _ hm).1 (h.bd _ hm).2 hx
theorem fpc_get (p : Pc) (r : List Pc) (x : Int) : ∃ i : Nat, (p :: r)[i]? = some (fpc p r x) := List.getElem?_of_mem (fpc_mem p r x)
def ngP (q : Pc) : Pc := (q.1, -q.2.1, -q.2.2)
def ngW (A : Wal) : Wal := (ngP A.1, A.2.map ngP)
theorem ng_chn : ∀ {p : Pc} {r : List Pc}, Chn p r → Chn (ngP p) (r.map ngP)
  | p, [], h => by
    have h' : s3 p.2.2 := h
    show s3 (-p.2.2)
    rcases h' with e | e | e <;> rw [e]
    · exact .inr (.inr rfl)
    · exact .inr (.inl rfl)
    · exact .inl rfl
  | p, q :: r, h => by
    refine ⟨?_, h.2.1, ?_, ng_chn h.2.2.2⟩
    · show s3 (-p.2.2)
      rcases h.1 with e | e | e <;> rw [e]
      · exact .inr (.inr rfl)
      · exact .inr (.inl rfl)
      · exact .inl rfl
    · show -q.2.1 = -p.2.1 + -p.2.2 * (q.1 - p.1)
      rw [h.2.2.1]
      unfold ln
      rw [Int.neg_mul]; omega
theorem ng_can : ∀ {p : Pc} {r : List Pc}, Can p r → Can (ngP p) (r.map ngP)
  | p, [], _ => True.intro
  | p, q :: r, h => ⟨by show -q.2.2 ≠ -p.2.2; have := h.1; omega, ng_can h.2⟩
theorem mrg_id : ∀ {p : Pc} {r : List Pc}, Can p r → mrg p r = r
  | p, [], _ => rfl
  | p, q :: r, h => by unfold mrg; rw [if_pos h.1, mrg_id h.2]
theorem ng_fpc (p : Pc) (r : List Pc) (x : Int) : fpc (ngP p) (r.map ngP) x = ngP (fpc p r x) := by
  induction r generalizing p with
  | nil => rfl
  | cons q r ih =>
    rw [List.map_cons, fpc_cons, fpc_cons]
    by_cases h : q.1 ≤ x
    · rw [if_pos h, if_pos (show (ngP q).1 ≤ x from h), ih]
    · rw [if_neg h, if_neg (show ¬ (ngP q).1 ≤ x from h), ih]
theorem ng_V (A : Wal) (x : Int) : V (ngW A) x = -V A x := by
  show ln (fpc (ngP A.1) (A.2.map ngP) x) x = -ln (fpc A.1 A.2 x) x
  rw [ng_fpc]
  show -(fpc A.1 A.2 x).2.1 + -(fpc A.1 A.2 x).2.2 * (x - (fpc A.1 A.2 x).1) = -((fpc A.1 A.2 x).2.1 + (fpc A.1 A.2 x).2.2 * (x - (fpc A.1 A.2 x).1))
  rw [Int.neg_mul]; omega
theorem ng_S (A : Wal) (x : Int) : S (ngW A) x = -S A x := by
  show (fpc (ngP A.1) (A.2.map ngP) x).2.2 = -(fpc A.1 A.2 x).2.2
  rw [ng_fpc]; rfl
theorem ng_lin {A : Wal} (h : LinW A) : LinW (ngW A) := ⟨h.z, ng_chn h.ch⟩
theorem ng_sm {A : Wal} (h : SmW A) : SmW (ngW A) := by
  refine ⟨ng_lin h.li, fun q hq => ?_⟩
  have : q ∈ (A.1 :: A.2).map ngP := hq
  obtain ⟨u, hu, rfl⟩ := List.mem_map.mp this
  obtain ⟨b1, b2⟩ := h.bd u hu
  refine ⟨b1, ?_⟩
  show Rn _ (-u.2.1)
  unfold Rn at *; omega
def lastS (A : Wal) : Int := ((A.1 :: A.2).getLast (List.cons_ne_nil _ _)).2.2
def ptsW (A : Wal) : List (Int × Int) := (A.1 :: A.2).map fun q => (q.1, q.2.1)
theorem lastS_cons (p q : Pc) (r : List Pc) : lastS (p, q :: r) = lastS (q, r) := by unfold lastS; rw [List.getLast_cons (List.cons_ne_nil _ _)]
theorem ng_last (A : Wal) : lastS (ngW A) = -lastS A := by
  obtain ⟨p, r⟩ := A
  induction r generalizing p with
  | nil => rfl
  | cons q r ih =>
    rw [lastS_cons]
    show lastS (ngP p, ngP q :: r.map ngP) = _
    rw [lastS_cons]
    exact ih q
theorem mkW_W {A : Wal} (h : LinW A) (hc : Can A.1 A.2) : mkW (ptsW A) (lastS A) = some A := by
  have := mkW_lin (p := A.1) (r := A.2) h
  unfold ptsW lastS
  rw [this, mrg_id hc]
theorem sgn3_mul {s n : Int} (h : s3 s) : sgn3 s n = s * n := by
  unfold sgn3
  rcases h with e | e | e <;> subst e
  · rw [if_pos (by decide)]; omega
  · rw [if_neg (by decide), if_neg (by decide)]; omega
  · rw [if_neg (by decide), if_pos (by decide)]; omega
/-- behind the last point the last slope holds -/
theorem S_last {A : Wal} (h : LinW A) : ∀ x, (∀ q ∈ A.1 :: A.2, q.1 ≤ x) → S A x = lastS A := by
  obtain ⟨p, r⟩ := A
  intro x hx
  have key : ∀ (r : List Pc) (p : Pc), (∀ q ∈ p :: r, q.1 ≤ x) → (fpc p r x).2.2 = lastS (p, r) := by
    intro r
    induction r with
    | nil => intro p _; rfl
    | cons q r ih =>
      intro p hp
      rw [fpc_cons, if_pos (hp q (by simp)), lastS_cons]
      exact ih q fun u hu => hp u (List.mem_cons_of_mem _ hu)
  exact key r p hx
end Wm

end

section
namespace Wm
theorem okn_R21 {n : Int} (h1 : n % 2097152 = 0) (h2 : -1152921504606846976 ≤ n) (h3 : n ≤ 1152921504606846976) : Okn n := by
  refine okn_of (j := 21) (m := n / 2097152) (by decide) ?_ ?_
  · rw [show (2 : Int) ^ 21 = 2097152 from by decide]; omega
  · omega
/-- a line whose points are multiples of m, and at most B -/
structure BdW (m B : Int) (A : Wal) : Prop where
  li : LinW A
  bd : ∀ q ∈ A.1 :: A.2, m ∣ q.1 ∧ m ∣ q.2.1 ∧ 0 ≤ q.1 ∧ q.1 ≤ B ∧ -B ≤ q.2.1 ∧ q.2.1 ≤ B
theorem BdW.sm {m B : Int} {A : Wal} (h : BdW m B A) (hm : 4194304 ∣ m) (hB : B ≤ 144115188075855872) : SmW A := by
  refine ⟨h.li, fun q hq => ?_⟩
  obtain ⟨a, b, c, d, e, f⟩ := h.bd q hq
  exact ⟨⟨Int.emod_eq_zero_of_dvd (Int.dvd_trans hm a), by omega, by omega⟩, ⟨Int.emod_eq_zero_of_dvd (Int.dvd_trans hm b), by omega, by omega⟩⟩
theorem lin0 {A : Wal} (h : LinW A) : ∀ q ∈ A.1 :: A.2, 0 ≤ q.1 := fun q hq => by
  have z := h.z
  rcases List.mem_cons.mp hq with e | e
  · rw [e, z]; exact Int.le_refl _
  · have := h.ch.gt q e; omega
/-- the holding piece begins at or before x -/
theorem fpc_le {A : Wal} (h : LinW A) {x : Int} (hx : 0 ≤ x) : (fpc A.1 A.2 x).1 ≤ x := by
  have key : ∀ (r : List Pc) (p : Pc), p.1 ≤ x → (fpc p r x).1 ≤ x := by
    intro r
    induction r with
    | nil => intro p hp; exact hp
    | cons q r ih =>
      intro p hp
      rw [fpc_cons]
      by_cases e : q.1 ≤ x
      · rw [if_pos e]; exact ih q e
      · rw [if_neg e]; exact ih p hp
  exact key A.2 A.1 (by rw [h.z]; exact hx)
theorem BdW.V {m B : Int} {A : Wal} (h : BdW m B A) {x : Int} (hx : 0 ≤ x) : -(B + x) ≤ Wm.V A x ∧ Wm.V A x ≤ B + x ∧ (m ∣ x → m ∣ Wm.V A x) := by
  have hm := fpc_mem A.1 A.2 x
  have hl := fpc_le h.li hx
  have s := h.li.ch.sl _ hm
  obtain ⟨a, b, c, d, e, f⟩ := h.bd _ hm
  have e1 : Wm.V A x = (fpc A.1 A.2 x).2.1 + (fpc A.1 A.2 x).2.2 * (x - (fpc A.1 A.2 x).1) := rfl
  refine ⟨?_, ?_, fun hd => ?_⟩
  · rw [e1]; rcases s with s | s | s <;> rw [s] <;> omega
  · rw [e1]; rcases s with s | s | s <;> rw [s] <;> omega
  · rw [e1]; exact Int.dvd_add b (Int.dvd_trans (Int.dvd_sub hd a) (Int.dvd_mul_left _ _))
theorem half_dvd {m g : Int} (h : 2 * m ∣ g) : m ∣ g / 2 := by
  obtain ⟨k, rfl⟩ := h
  exact ⟨k, by rw [Int.mul_assoc]; omega⟩
theorem crX_bd {g c s x m : Int} {e : Option Int} (hg : 0 ≤ g) (h : crX g c s e = some x) : s ≤ x ∧ x ≤ s + g ∧ (2 * m ∣ s → 2 * m ∣ g → m ∣ x) := by
  have key : x = s + (if c = 2 then g / 2 else g) := by
    unfold crX at h
    split at h
    · cases h
    · cases e with
      | none => simp only at h; exact (Option.some.inj h).symm
      | some e =>
        simp only at h
        by_cases hq : s + (if c = 2 then g / 2 else g) < e
        · rw [if_pos hq] at h; exact (Option.some.inj h).symm
        · rw [if_neg hq] at h; cases h
  subst key
  refine ⟨?_, ?_, fun h1 h2 => ?_⟩
  · split <;> omega
  · split <;> omega
  · have h3 : m ∣ s := Int.dvd_trans ⟨2, by rw [Int.mul_comm]⟩ h1
    refine Int.dvd_add h3 ?_
    split
    · exact half_dvd h2
    · exact Int.dvd_trans ⟨2, by rw [Int.mul_comm]⟩ h2
theorem cross_bd {m B s x : Int} {A A' : Wal} {e : Option Int} (h : BdW (2 * m) B A) (h' : BdW (2 * m) B A') (hs : 0 ≤ s) (hc : cross A A' s e = some x) : s ≤ x ∧ x ≤ 2 * B + 3 * s ∧ (2 * m ∣ s → m ∣ x) := by
  obtain ⟨a1, a2, a3⟩ := h.V hs
  obtain ⟨b1, b2, b3⟩ := h'.V hs
  unfold cross at hc
  split at hc
  · obtain ⟨q1, q2, q3⟩ := crX_bd (m := m) (by omega) hc
    refine ⟨q1, by omega, fun hd => q3 hd ?_⟩
    have e1 : -(Wm.V A s - Wm.V A' s) = Wm.V A' s - Wm.V A s := by omega
    rw [e1]
    exact Int.dvd_sub (b3 hd) (a3 hd)
  · obtain ⟨q1, q2, q3⟩ := crX_bd (m := m) (by omega) hc
    exact ⟨q1, by omega, fun hd => q3 hd (Int.dvd_sub (a3 hd) (b3 hd))⟩
def topv (x : Int) : List Wal → Int
  | [] => 0
  | [A] => V A x
  | A :: B :: r => if V A x ≤ topv x (B :: r) then topv x (B :: r) else V A x
theorem topv_ok (x : Int) : ∀ {As : List Wal}, As ≠ [] → (∃ A ∈ As, topv x As = V A x) ∧ ∀ A ∈ As, V A x ≤ topv x As
  | [], h => absurd rfl h
  | [A], _ => ⟨⟨A, List.mem_singleton_self _, rfl⟩, fun B hB => by rw [List.mem_singleton.mp hB]; exact Int.le_refl _⟩
  | A :: B :: r, _ => by
    obtain ⟨⟨D, hD, e⟩, hm⟩ := topv_ok x (As := B :: r) (by simp)
    unfold topv
    split
    · exact ⟨⟨D, List.mem_cons_of_mem _ hD, e⟩, fun U hU => by
        rcases List.mem_cons.mp hU with z | z
        · rw [z]; assumption
        · exact hm U z⟩
    · exact ⟨⟨A, List.mem_cons_self, rfl⟩, fun U hU => by
        rcases List.mem_cons.mp hU with z | z
        · rw [z]; exact Int.le_refl _
        · have := hm U z; omega⟩
theorem topv_uniq {x m : Int} {As : List Wal} (h1 : ∃ A ∈ As, m = V A x) (h2 : ∀ A ∈ As, V A x ≤ m) : m = topv x As := by
  obtain ⟨A, hA, e⟩ := h1
  have hne : As ≠ [] := fun z => by rw [z] at hA; cases hA
  obtain ⟨⟨B, hB, e'⟩, hm⟩ := topv_ok x hne
  have := h2 B hB
  have := hm A hA
  omega
theorem topv_best {As : List Wal} {H T : List Int} (h : Tops As H T) {A : Wal} {t : Int} (hA : Best As A t) : topv t As = V A t :=
  (topv_uniq ⟨A, hA.1, rfl⟩ fun B hB => by rcases hA.2 B hB with z | z <;> omega).symm
/-- the highest line -/
theorem high_line {As : List Wal} {H T : List Int} (h : Tops As H T) (hT : T.Pairwise (· < ·)) (h0 : ∀ t ∈ T, 0 ≤ t) {tn sl : Int} (hn : tn ∈ T) (hn2 : ∀ y ∈ T, y ≤ tn) (hsl : ∃ A, Best As A tn ∧ sl = S A tn) :
    ∃ (p : Pc) (r : List Pc), Lin p r ∧ (p :: r).map (fun q => (q.1, q.2.1)) = T.map (fun t => (t, topv t As)) ∧ (∀ x, 0 ≤ x → val p r x = topv x As) ∧ lastS (p, r) = sl := by
  have z0 : (0 : Int) ∈ T := by
    obtain ⟨A0, hA0⟩ := List.exists_mem_of_ne_nil As h.ne
    have := h.pts A0 hA0 A0.1 List.mem_cons_self
    rw [(h.li A0 hA0).z] at this
    exact h.sub 0 this
  have stepM : ∀ {A : Wal} {t x : Int}, 0 ≤ t → Best As A t → t ≤ x → (∀ y ∈ T, t < y → x ≤ y) → topv x As = topv t As + S A t * (x - t) := fun {A t x} ht hA hx hy => by
    obtain ⟨e1, e2⟩ := h.step ht hA hx hy
    rw [topv_best h hA, ← e1]
    exact (topv_uniq ⟨A, hA.1, rfl⟩ e2).symm
  cases T with
  | nil => cases z0
  | cons t ts =>
    have ht0 : t = 0 := by
      have a := h0 t List.mem_cons_self
      rcases List.mem_cons.mp z0 with e | e
      · exact e.symm
      · have := (List.pairwise_cons.mp hT).1 0 e; omega
    obtain ⟨p, r, h1, h2, h3, h4⟩ := build (fun x => topv x As) sl t ts hT (fun u hu hy => by
        obtain ⟨A, hA, e⟩ := hsl
        have : u = tn := by have a := hn2 u hu; have b := hy tn hn; omega
        subst this
        refine ⟨by rw [e]; exact s3_of (h.li A hA.1) u, fun x hx => ?_⟩
        rw [e]
        exact stepM (h0 u hu) hA hx fun y hy' hlt => by have := hn2 y hy'; omega) (fun u hu => by
        obtain ⟨A, hA⟩ := h.best u
        exact ⟨S A u, s3_of (h.li A hA.1) u, fun x hx hy => stepM (h0 u hu) hA hx hy⟩)
    refine ⟨p, r, ⟨?_, h1⟩, h2, fun x hx => h3 x (by omega), h4⟩
    have hd : (p.1, p.2.1) = (t, topv t As) := by simp only [List.map_cons, List.cons.injEq] at h2; exact h2.1
    rw [← ht0]; exact congrArg Prod.fst hd
/-- how many pairs come in j turns -/
def trg (n : Nat) : Nat → Nat
  | 0 => 0
  | j + 1 => trg n j + (n - 1 - j)
end Wm

end

section
namespace Wm
def scP (q : Pc) : Pc := (q.1 * 1073741824, q.2.1 * 1073741824, q.2.2)
def scW (A : Wal) : Wal := (scP A.1, A.2.map scP)
def mrgW (A : Wal) : Wal := (A.1, mrg A.1 A.2)
theorem sc_chn : ∀ {p : Pc} {r : List Pc}, Chn p r → Chn (scP p) (r.map scP)
  | p, [], h => h
  | p, q :: r, h => by
    refine ⟨h.1, ?_, ?_, sc_chn h.2.2.2⟩
    · show p.1 * _ < q.1 * _; have := h.2.1; omega
    · show q.2.1 * 1073741824 = p.2.1 * 1073741824 + p.2.2 * (q.1 * 1073741824 - p.1 * 1073741824)
      have e := h.2.2.1
      unfold ln at e
      rw [e, ← Int.sub_mul, ← Int.mul_assoc]; omega
theorem sc_lin {A : Wal} (h : LinW A) : LinW (scW A) := ⟨by show A.1.1 * _ = 0; rw [h.z]; rfl, sc_chn h.ch⟩
theorem sc_mrg (p : Pc) : ∀ (r : List Pc), mrg (scP p) (r.map scP) = (mrg p r).map scP := by
  intro r
  induction r generalizing p with
  | nil => rfl
  | cons q r ih =>
    rw [List.map_cons]
    unfold mrg
    by_cases h : q.2.2 ≠ p.2.2
    · rw [if_pos h, if_pos (show (scP q).2.2 ≠ (scP p).2.2 from h), ih q]; rfl
    · rw [if_neg h, if_neg (show ¬ (scP q).2.2 ≠ (scP p).2.2 from h), ih q]
theorem sc_last (A : Wal) : lastS (scW A) = lastS A := by
  obtain ⟨p, r⟩ := A
  induction r generalizing p with
  | nil => rfl
  | cons q r ih =>
    rw [lastS_cons]
    show lastS (scP p, scP q :: r.map scP) = _
    rw [lastS_cons]
    exact ih q
theorem mrg_last (p : Pc) : ∀ (r : List Pc), lastS (p, mrg p r) = lastS (p, r) ∧ ∀ u : Pc, u.2.2 = p.2.2 → lastS (u, mrg p r) = lastS (p, r) := by
  intro r
  induction r generalizing p with
  | nil => exact ⟨rfl, fun u h => h⟩
  | cons q r ih =>
    obtain ⟨i1, i2⟩ := ih q
    unfold mrg
    by_cases h : q.2.2 ≠ p.2.2
    · rw [if_pos h, lastS_cons, lastS_cons]
      exact ⟨i1, fun u hu => by rw [lastS_cons]; exact i1⟩
    · rw [if_neg h, lastS_cons]
      have e : q.2.2 = p.2.2 := by
        rcases Decidable.em (q.2.2 = p.2.2) with e | e
        · exact e
        · exact absurd e h
      exact ⟨i2 p e.symm, fun u hu => i2 u (hu.trans e.symm)⟩
theorem sc_fpc (p : Pc) (r : List Pc) (x : Int) : fpc (scP p) (r.map scP) (x * 1073741824) = scP (fpc p r x) := by
  induction r generalizing p with
  | nil => rfl
  | cons q r ih =>
    rw [List.map_cons, fpc_cons, fpc_cons]
    by_cases h : q.1 ≤ x
    · rw [if_pos h, if_pos (by show q.1 * _ ≤ _; omega), ih]
    · rw [if_neg h, if_neg (by show ¬ q.1 * _ ≤ _; omega), ih]
theorem sc_V (A : Wal) (x : Int) : V (scW A) (x * 1073741824) = V A x * 1073741824 := by
  show ln (fpc (scP A.1) (A.2.map scP) (x * 1073741824)) _ = ln (fpc A.1 A.2 x) x * _
  rw [sc_fpc]
  unfold ln scP
  simp only
  rw [Int.add_mul, ← Int.sub_mul, ← Int.mul_assoc]
/-- the last piece that begins at or before x, by its place -/
theorem fpc_ix : ∀ {r : List Pc} {p : Pc} {x : Int} {j : Nat} {q : Pc}, Chn p r → p.1 ≤ x → (p :: r)[j]? = some q → q.1 ≤ x → (∀ j' q', (p :: r)[j']? = some q' → q'.1 ≤ x → j' ≤ j) → fpc p r x = q := by
  intro r
  induction r with
  | nil =>
    intro p x j q h hp hj hq hm
    cases j with
    | zero => rw [fpc_nil]; simpa using hj
    | succ j => simp at hj
  | cons u r ih =>
    intro p x j q h hp hj hq hm
    rw [fpc_cons]
    by_cases hu : u.1 ≤ x
    · rw [if_pos hu]
      cases j with
      | zero => have := hm 1 u rfl hu; omega
      | succ j => exact ih h.2.2.2 hu (by simpa using hj) hq fun j' q' h1 h2 => by have := hm (j' + 1) q' (by simpa using h1) h2; omega
    · rw [if_neg hu]
      have late : ∀ v ∈ u :: r, x < v.1 := fun v hv => by
        rcases List.mem_cons.mp hv with e | e
        · rw [e]; omega
        · have := h.2.2.2.gt v e; omega
      rw [fpc_lt fun v hv => late v (List.mem_cons_of_mem _ hv)]
      cases j with
      | zero => simpa using hj
      | succ j =>
        have : q ∈ u :: r := List.mem_of_getElem? (by simpa using hj : (u :: r)[j]? = some q)
        have := late q this
        omega
theorem slopeB_of {s run : Int} (h : s3 s) (hr : 0 < run) : slopeB run (s * run) = some s := by
  unfold slopeB
  rcases h with e | e | e <;> subst e
  · rw [if_pos (by omega)]
  · rw [if_neg (by omega), if_pos (by omega)]
  · rw [if_neg (by omega), if_neg (by omega), if_pos (by omega)]
/-- a line that the law has drawn -/
structure Dr (A : Wal) : Prop where
  li : LinW A
  bd : ∀ q ∈ A.1 :: A.2, q.1 % 4 = 0 ∧ q.2.1 % 4 = 0 ∧ 0 ≤ q.1 ∧ q.1 ≤ 20000 ∧ -20000 ≤ q.2.1 ∧ q.2.1 ≤ 20000
end Wm

end

section
namespace Wm
theorem sc_mrgW (A : Wal) : mrgW (scW A) = scW (mrgW A) := by
  show (scP A.1, mrg (scP A.1) (A.2.map scP)) = (scP A.1, (mrg A.1 A.2).map scP)
  rw [sc_mrg]
def dnP (q : Pc) : Pc := (q.1 / 1073741824, q.2.1 / 1073741824, q.2.2)
def dnW (A : Wal) : Wal := (dnP A.1, A.2.map dnP)
theorem dn_sc {A : Wal} (h : ∀ q ∈ A.1 :: A.2, 1073741824 ∣ q.1 ∧ 1073741824 ∣ q.2.1) : scW (dnW A) = A := by
  have key : ∀ q ∈ A.1 :: A.2, scP (dnP q) = q := fun q hq => by
    obtain ⟨h1, h2⟩ := h q hq
    refine Prod.ext ?_ (Prod.ext ?_ rfl)
    · show q.1 / 1073741824 * 1073741824 = q.1; omega
    · show q.2.1 / 1073741824 * 1073741824 = q.2.1; omega
  refine Prod.ext (key A.1 List.mem_cons_self) ?_
  show (A.2.map dnP).map scP = A.2
  rw [List.map_map]
  exact (List.map_congr_left fun q hq => key q (List.mem_cons_of_mem _ hq)).trans (List.map_id' _)
theorem sc_chn' : ∀ {p : Pc} {r : List Pc}, Chn (scP p) (r.map scP) → Chn p r
  | p, [], h => h
  | p, q :: r, h => by
    have h1 : s3 p.2.2 := h.1
    have h2 : p.1 * 1073741824 < q.1 * 1073741824 := h.2.1
    have h3 : q.2.1 * 1073741824 = p.2.1 * 1073741824 + p.2.2 * (q.1 * 1073741824 - p.1 * 1073741824) := h.2.2.1
    refine ⟨h1, by omega, ?_, sc_chn' h.2.2.2⟩
    unfold ln
    rcases h1 with e | e | e <;> rw [e] at h3 ⊢ <;> omega
theorem sc_can' : ∀ {p : Pc} {r : List Pc}, Can (scP p) (r.map scP) → Can p r
  | p, [], _ => True.intro
  | p, q :: r, h => ⟨h.1, sc_can' h.2⟩
theorem sc_can : ∀ {p : Pc} {r : List Pc}, Can p r → Can (scP p) (r.map scP)
  | p, [], _ => True.intro
  | p, q :: r, h => ⟨h.1, sc_can h.2⟩
/-- far out -/
theorem far {A : Wal} (h : LinW A) {B : Int} (hb : ∀ q ∈ A.1 :: A.2, q.1 ≤ B ∧ -B ≤ q.2.1 ∧ q.2.1 ≤ B) (hB : 0 ≤ B) (d : Int) (hd : 0 ≤ d) :
    ∃ v : Int, -(2 * B) ≤ v ∧ v ≤ 2 * B ∧ V A (B + d) = v + lastS A * d := by
  have b : BdW 1 B A := ⟨h, fun q hq => ⟨Int.one_dvd _, Int.one_dvd _, lin0 h q hq, (hb q hq).1, (hb q hq).2.1, (hb q hq).2.2⟩⟩
  obtain ⟨v1, v2, _⟩ := b.V hB
  refine ⟨V A B, by omega, by omega, ?_⟩
  have e := lin h.ch (a := B) (x := B + d) (by rw [h.z]; exact hB) (by omega) fun q hq hl => by have := (hb q (List.mem_cons_of_mem _ hq)).1; omega
  have s := S_last h B fun q hq => (hb q hq).1
  have e2 : V A (B + d) = V A B + S A B * (B + d - B) := e
  rw [e2, s, show B + d - B = d by omega]
/-- the last slopes, from the places -/
theorem last_of {X : Wal} {L : List Wal} {sg B : Int} (hg : sg = 1 ∨ sg = -1) (hB : 0 ≤ B) (hX : LinW X) (bX : ∀ q ∈ X.1 :: X.2, q.1 ≤ B ∧ -B ≤ q.2.1 ∧ q.2.1 ≤ B)
    (hL : ∀ A ∈ L, LinW A) (bL : ∀ A ∈ L, ∀ q ∈ A.1 :: A.2, q.1 ≤ B ∧ -B ≤ q.2.1 ∧ q.2.1 ≤ B) (v1 : ∀ x, 0 ≤ x → ∃ A ∈ L, sg * V A x = sg * V X x) (v2 : ∀ x, 0 ≤ x → ∀ A ∈ L, sg * V A x ≤ sg * V X x) :
    (∃ A ∈ L, sg * lastS A = sg * lastS X) ∧ ∀ A ∈ L, sg * lastS A ≤ sg * lastS X := by
  have hd : 0 ≤ 5 * B + 1 := by omega
  obtain ⟨vX, x1, x2, eX⟩ := far hX bX hB (5 * B + 1) hd
  have sX := s3_of hX
  have lX : s3 (lastS X) := getLast_s3 hX.ch
  constructor
  · obtain ⟨A, hA, e⟩ := v1 (B + (5 * B + 1)) (by omega)
    obtain ⟨vA, a1, a2, eA⟩ := far (hL A hA) (bL A hA) hB (5 * B + 1) hd
    refine ⟨A, hA, ?_⟩
    have lA : s3 (lastS A) := getLast_s3 (hL A hA).ch
    rw [eA, eX] at e
    rcases hg with g | g <;> rcases lA with l | l | l <;> rcases lX with m | m | m <;> rw [g, l, m] at e ⊢ <;> omega
  · intro A hA
    have e := v2 (B + (5 * B + 1)) (by omega) A hA
    obtain ⟨vA, a1, a2, eA⟩ := far (hL A hA) (bL A hA) hB (5 * B + 1) hd
    have lA : s3 (lastS A) := getLast_s3 (hL A hA).ch
    rw [eA, eX] at e
    rcases hg with g | g <;> rcases lA with l | l | l <;> rcases lX with m | m | m <;> rw [g, l, m] at e ⊢ <;> omega
theorem mrgW_V {A : Wal} (h : LinW A) {x : Int} (hx : 0 ≤ x) : V (mrgW A) x = V A x := (Lin.mrg (p := A.1) (r := A.2) h).2.2 x hx |>.1
theorem mrgW_ok {A : Wal} (h : LinW A) : LinW (mrgW A) ∧ Can (mrgW A).1 (mrgW A).2 := ⟨(Lin.mrg (p := A.1) (r := A.2) h).1, (Lin.mrg (p := A.1) (r := A.2) h).2.1⟩
theorem mrgW_mem {A : Wal} : ∀ q ∈ (mrgW A).1 :: (mrgW A).2, q ∈ A.1 :: A.2 := fun q hq => by
  rcases List.mem_cons.mp hq with z | z
  · rw [z]; exact List.mem_cons_self
  · exact List.mem_cons_of_mem _ (mrg_sub A.1 A.2 q z)
theorem uniqW {A B : Wal} (h1 : LinW A) (c1 : Can A.1 A.2) (h2 : LinW B) (c2 : Can B.1 B.2) (h : ∀ x, 0 ≤ x → V A x = V B x) : A = B := by
  obtain ⟨e1, e2⟩ := uniq (p := A.1) (r := A.2) (q := B.1) (t := B.2) h1.ch c1 h2.ch c2 (by rw [h1.z, h2.z]) fun x hx => h x (by rw [h1.z] at hx; exact hx)
  exact Prod.ext e1 e2
end Wm

end

section
set_option maxRecDepth 100000
set_option maxHeartbeats 4000000
open PySem PySem.Spec PyProof.Rows L2 VL
namespace Wl
def top (i : Nat) : Stmt := PySem.Challenge.pw_sumsplay_k48_highest_and_lowest.main.body.getD i (.Pass ⟨0, 0, 0, 0⟩)
abbrev s_is_integer : Stmt := top 7
abbrev n_is_integer : List Str := ["thing"]
abbrev p_is_integer : List Str := ["thing"]
theorem sc_is_integer : FnScope n_is_integer p_is_integer (defScope s_is_integer) := ⟨rfl, rfl, rfl, by decide +kernel, rfl, by decide +kernel, by decide +kernel⟩
abbrev s_reduced : Stmt := top 8
abbrev n_reduced : List Str := ["top", "power"]
abbrev p_reduced : List Str := ["top", "power"]
theorem sc_reduced : FnScope n_reduced p_reduced (defScope s_reduced) := ⟨rfl, rfl, rfl, by decide +kernel, rfl, by decide +kernel, by decide +kernel⟩
abbrev s_Dyadic___init__ : Stmt := inClass (top 9) 0
abbrev n_Dyadic___init__ : List Str := ["self", "top", "power", "plain"]
abbrev p_Dyadic___init__ : List Str := ["self", "top", "power"]
theorem sc_Dyadic___init__ : FnScope n_Dyadic___init__ p_Dyadic___init__ (defScope s_Dyadic___init__) := ⟨rfl, rfl, rfl, by decide +kernel, rfl, by decide +kernel, by decide +kernel⟩
abbrev s_Dyadic_top : Stmt := inClass (top 9) 1
abbrev n_Dyadic_top : List Str := ["self"]
abbrev p_Dyadic_top : List Str := ["self"]
theorem sc_Dyadic_top : FnScope n_Dyadic_top p_Dyadic_top (defScope s_Dyadic_top) := ⟨rfl, rfl, rfl, by decide +kernel, rfl, by decide +kernel, by decide +kernel⟩
abbrev s_Dyadic_power : Stmt := inClass (top 9) 2
abbrev n_Dyadic_power : List Str := ["self"]
abbrev p_Dyadic_power : List Str := ["self"]
theorem sc_Dyadic_power : FnScope n_Dyadic_power p_Dyadic_power (defScope s_Dyadic_power) := ⟨rfl, rfl, rfl, by decide +kernel, rfl, by decide +kernel, by decide +kernel⟩
abbrev s_Dyadic___add__ : Stmt := inClass (top 9) 3
abbrev n_Dyadic___add__ : List Str := ["self", "other", "power", "top", "plain"]
abbrev p_Dyadic___add__ : List Str := ["self", "other"]
theorem sc_Dyadic___add__ : FnScope n_Dyadic___add__ p_Dyadic___add__ (defScope s_Dyadic___add__) := ⟨rfl, rfl, rfl, by decide +kernel, rfl, by decide +kernel, by decide +kernel⟩
abbrev s_Dyadic___neg__ : Stmt := inClass (top 9) 4
abbrev n_Dyadic___neg__ : List Str := ["self"]
abbrev p_Dyadic___neg__ : List Str := ["self"]
theorem sc_Dyadic___neg__ : FnScope n_Dyadic___neg__ p_Dyadic___neg__ (defScope s_Dyadic___neg__) := ⟨rfl, rfl, rfl, by decide +kernel, rfl, by decide +kernel, by decide +kernel⟩
abbrev s_Dyadic___sub__ : Stmt := inClass (top 9) 5
abbrev n_Dyadic___sub__ : List Str := ["self", "other"]
abbrev p_Dyadic___sub__ : List Str := ["self", "other"]
theorem sc_Dyadic___sub__ : FnScope n_Dyadic___sub__ p_Dyadic___sub__ (defScope s_Dyadic___sub__) := ⟨rfl, rfl, rfl, by decide +kernel, rfl, by decide +kernel, by decide +kernel⟩
abbrev s_Dyadic_less : Stmt := inClass (top 9) 6
abbrev n_Dyadic_less : List Str := ["self", "other"]
abbrev p_Dyadic_less : List Str := ["self", "other"]
theorem sc_Dyadic_less : FnScope n_Dyadic_less p_Dyadic_less (defScope s_Dyadic_less) := ⟨rfl, rfl, rfl, by decide +kernel, rfl, by decide +kernel, by decide +kernel⟩
abbrev s_Dyadic_same : Stmt := inClass (top 9) 7
abbrev n_Dyadic_same : List Str := ["self", "other"]
abbrev p_Dyadic_same : List Str := ["self", "other"]
theorem sc_Dyadic_same : FnScope n_Dyadic_same p_Dyadic_same (defScope s_Dyadic_same) := ⟨rfl, rfl, rfl, by decide +kernel, rfl, by decide +kernel, by decide +kernel⟩
abbrev s_Dyadic_half : Stmt := inClass (top 9) 8
abbrev n_Dyadic_half : List Str := ["self", "plain"]
abbrev p_Dyadic_half : List Str := ["self"]
theorem sc_Dyadic_half : FnScope n_Dyadic_half p_Dyadic_half (defScope s_Dyadic_half) := ⟨rfl, rfl, rfl, by decide +kernel, rfl, by decide +kernel, by decide +kernel⟩
abbrev s_scaled : Stmt := top 12
abbrev n_scaled : List Str := ["number"]
abbrev p_scaled : List Str := ["number"]
theorem sc_scaled : FnScope n_scaled p_scaled (defScope s_scaled) := ⟨rfl, rfl, rfl, by decide +kernel, rfl, by decide +kernel, by decide +kernel⟩
abbrev s_slope_between : Stmt := top 13
abbrev n_slope_between : List Str := ["one", "other", "run", "rise", "slope"]
abbrev p_slope_between : List Str := ["one", "other"]
theorem sc_slope_between : FnScope n_slope_between p_slope_between (defScope s_slope_between) := ⟨rfl, rfl, rfl, by decide +kernel, rfl, by decide +kernel, by decide +kernel⟩
abbrev s_times : Stmt := top 14
abbrev n_times : List Str := ["number", "slope"]
abbrev p_times : List Str := ["number", "slope"]
theorem sc_times : FnScope n_times p_times (defScope s_times) := ⟨rfl, rfl, rfl, by decide +kernel, rfl, by decide +kernel, by decide +kernel⟩
abbrev s_Wall___init__ : Stmt := inClass (top 15) 0
abbrev n_Wall___init__ : List Str := ["self", "points", "slope", "slopes", "index"]
abbrev p_Wall___init__ : List Str := ["self", "points", "slope"]
theorem sc_Wall___init__ : FnScope n_Wall___init__ p_Wall___init__ (defScope s_Wall___init__) := ⟨rfl, rfl, rfl, by decide +kernel, rfl, by decide +kernel, by decide +kernel⟩
abbrev s_Wall_points : Stmt := inClass (top 15) 1
abbrev n_Wall_points : List Str := ["self"]
abbrev p_Wall_points : List Str := ["self"]
theorem sc_Wall_points : FnScope n_Wall_points p_Wall_points (defScope s_Wall_points) := ⟨rfl, rfl, rfl, by decide +kernel, rfl, by decide +kernel, by decide +kernel⟩
abbrev s_Wall_slope : Stmt := inClass (top 15) 2
abbrev n_Wall_slope : List Str := ["self"]
abbrev p_Wall_slope : List Str := ["self"]
theorem sc_Wall_slope : FnScope n_Wall_slope p_Wall_slope (defScope s_Wall_slope) := ⟨rfl, rfl, rfl, by decide +kernel, rfl, by decide +kernel, by decide +kernel⟩
abbrev s_Wall_at : Stmt := inClass (top 15) 3
abbrev n_Wall_at : List Str := ["self", "heat", "index", "point"]
abbrev p_Wall_at : List Str := ["self", "heat"]
theorem sc_Wall_at : FnScope n_Wall_at p_Wall_at (defScope s_Wall_at) := ⟨rfl, rfl, rfl, by decide +kernel, rfl, by decide +kernel, by decide +kernel⟩
abbrev s_Wall_slope_at : Stmt := inClass (top 15) 4
abbrev n_Wall_slope_at : List Str := ["self", "heat"]
abbrev p_Wall_slope_at : List Str := ["self", "heat"]
theorem sc_Wall_slope_at : FnScope n_Wall_slope_at p_Wall_slope_at (defScope s_Wall_slope_at) := ⟨rfl, rfl, rfl, by decide +kernel, rfl, by decide +kernel, by decide +kernel⟩
abbrev s_Wall_turned : Stmt := inClass (top 15) 6
abbrev n_Wall_turned : List Str := ["self", "heat", "place"]
abbrev p_Wall_turned : List Str := ["self"]
theorem sc_Wall_turned : FnScope n_Wall_turned p_Wall_turned (defScope s_Wall_turned) := ⟨rfl, rfl, rfl, by decide +kernel, rfl, by decide +kernel, by decide +kernel⟩
abbrev s_Wall__place : Stmt := inClass (top 15) 8
abbrev n_Wall__place : List Str := ["self", "heat", "found", "index", "point"]
abbrev p_Wall__place : List Str := ["self", "heat"]
theorem sc_Wall__place : FnScope n_Wall__place p_Wall__place (defScope s_Wall__place) := ⟨rfl, rfl, rfl, by decide +kernel, rfl, by decide +kernel, by decide +kernel⟩
abbrev s_all_heats : Stmt := top 16
abbrev n_all_heats : List Str := ["walls", "found", "wall", "point", "key"]
abbrev p_all_heats : List Str := ["walls"]
theorem sc_all_heats : FnScope n_all_heats p_all_heats (defScope s_all_heats) := ⟨rfl, rfl, rfl, by decide +kernel, rfl, by decide +kernel, by decide +kernel⟩
abbrev s_crossing : Stmt := top 17
abbrev n_crossing : List Str := ["one", "other", "start", "end", "gap", "closing", "heat"]
abbrev p_crossing : List Str := ["one", "other", "start", "end"]
theorem sc_crossing : FnScope n_crossing p_crossing (defScope s_crossing) := ⟨rfl, rfl, rfl, by decide +kernel, rfl, by decide +kernel, by decide +kernel⟩
abbrev s_crossings : Stmt := top 18
abbrev n_crossings : List Str := ["walls", "found", "heats", "index", "start", "end", "place", "one", "other", "heat", "key"]
abbrev p_crossings : List Str := ["walls"]
theorem sc_crossings : FnScope n_crossings p_crossings (defScope s_crossings) := ⟨rfl, rfl, rfl, by decide +kernel, rfl, by decide +kernel, by decide +kernel⟩
abbrev s_highest : Stmt := top 19
abbrev n_highest : List Str := ["walls", "found", "heat", "points", "key", "last", "wall"]
abbrev p_highest : List Str := ["walls"]
theorem sc_highest : FnScope n_highest p_highest (defScope s_highest) := ⟨rfl, rfl, rfl, by decide +kernel, rfl, by decide +kernel, by decide +kernel⟩
abbrev s_top_of : Stmt := top 20
abbrev n_top_of : List Str := ["walls", "heat", "found", "wall"]
abbrev p_top_of : List Str := ["walls", "heat"]
theorem sc_top_of : FnScope n_top_of p_top_of (defScope s_top_of) := ⟨rfl, rfl, rfl, by decide +kernel, rfl, by decide +kernel, by decide +kernel⟩
abbrev s_lowest : Stmt := top 21
abbrev n_lowest : List Str := ["walls", "wall"]
abbrev p_lowest : List Str := ["walls"]
theorem sc_lowest : FnScope n_lowest p_lowest (defScope s_lowest) := ⟨rfl, rfl, rfl, by decide +kernel, rfl, by decide +kernel, by decide +kernel⟩
abbrev s__law_cell : Stmt := top 23
abbrev n__law_cell : List Str := ["_law_script", "_law_k", "_law_mixed", "_law_cell_here"]
abbrev p__law_cell : List Str := ["_law_script", "_law_k"]
theorem sc__law_cell : FnScope n__law_cell p__law_cell (defScope s__law_cell) := ⟨rfl, rfl, rfl, by decide +kernel, rfl, by decide +kernel, by decide +kernel⟩
abbrev s__law_digits : Stmt := top 24
abbrev n__law_digits : List Str := ["_law_cell_here", "_law_count", "_law_digits_here", "_law_rest", "_law_seed", "_law_k"]
abbrev p__law_digits : List Str := ["_law_cell_here", "_law_count"]
theorem sc__law_digits : FnScope n__law_digits p__law_digits (defScope s__law_digits) := ⟨rfl, rfl, rfl, by decide +kernel, rfl, by decide +kernel, by decide +kernel⟩
abbrev s__law_is_integer : Stmt := top 25
abbrev n__law_is_integer : List Str := ["_law_thing"]
abbrev p__law_is_integer : List Str := ["_law_thing"]
theorem sc__law_is_integer : FnScope n__law_is_integer p__law_is_integer (defScope s__law_is_integer) := ⟨rfl, rfl, rfl, by decide +kernel, rfl, by decide +kernel, by decide +kernel⟩
abbrev s__law_plain : Stmt := top 26
abbrev n__law_plain : List Str := ["_law_top", "_law_power", "_law_k"]
abbrev p__law_plain : List Str := ["_law_top", "_law_power"]
theorem sc__law_plain : FnScope n__law_plain p__law_plain (defScope s__law_plain) := ⟨rfl, rfl, rfl, by decide +kernel, rfl, by decide +kernel, by decide +kernel⟩
abbrev s__law_pairs : Stmt := top 27
abbrev n__law_pairs : List Str := ["_law_points", "_law_heat", "_law_place_here"]
abbrev p__law_pairs : List Str := ["_law_points"]
theorem sc__law_pairs : FnScope n__law_pairs p__law_pairs (defScope s__law_pairs) := ⟨rfl, rfl, rfl, by decide +kernel, rfl, by decide +kernel, by decide +kernel⟩
abbrev s__law_shut : Stmt := top 28
abbrev n__law_shut : List Str := ["_law_line_here"]
abbrev p__law_shut : List Str := ["_law_line_here"]
theorem sc__law_shut : FnScope n__law_shut p__law_shut (defScope s__law_shut) := ⟨rfl, rfl, rfl, by decide +kernel, rfl, by decide +kernel, by decide +kernel⟩
abbrev s__law_is : Stmt := top 29
abbrev n__law_is : List Str := ["_law_number_here", "_law_due"]
abbrev p__law_is : List Str := ["_law_number_here", "_law_due"]
theorem sc__law_is : FnScope n__law_is p__law_is (defScope s__law_is) := ⟨rfl, rfl, rfl, by decide +kernel, rfl, by decide +kernel, by decide +kernel⟩
abbrev s__law_told : Stmt := top 30
abbrev n__law_told : List Str := ["_law_shut_here", "_law_line_here", "_law_kept", "_law_points", "_law_i", "_law_point", "_law_due", "_law_k"]
abbrev p__law_told : List Str := ["_law_shut_here", "_law_line_here"]
theorem sc__law_told : FnScope n__law_told p__law_told (defScope s__law_told) := ⟨rfl, rfl, rfl, by decide +kernel, rfl, by decide +kernel, by decide +kernel⟩
abbrev s__law_place : Stmt := top 31
abbrev n__law_place : List Str := ["_law_line_here", "_law_heat", "_law_k"]
abbrev p__law_place : List Str := ["_law_line_here", "_law_heat"]
theorem sc__law_place : FnScope n__law_place p__law_place (defScope s__law_place) := ⟨rfl, rfl, rfl, by decide +kernel, rfl, by decide +kernel, by decide +kernel⟩
abbrev s__law_at : Stmt := top 32
abbrev n__law_at : List Str := ["_law_line_here", "_law_heat", "_law_k"]
abbrev p__law_at : List Str := ["_law_line_here", "_law_heat"]
theorem sc__law_at : FnScope n__law_at p__law_at (defScope s__law_at) := ⟨rfl, rfl, rfl, by decide +kernel, rfl, by decide +kernel, by decide +kernel⟩
abbrev s__law_drawn : Stmt := top 33
abbrev n__law_drawn : List Str := ["_law_cell_here", "_law_base", "_law_most", "_law_digits_here", "_law_start", "_law_points", "_law_slopes", "_law_k", "_law_slope", "_law_run"]
abbrev p__law_drawn : List Str := ["_law_cell_here", "_law_base", "_law_most"]
theorem sc__law_drawn : FnScope n__law_drawn p__law_drawn (defScope s__law_drawn) := ⟨rfl, rfl, rfl, by decide +kernel, rfl, by decide +kernel, by decide +kernel⟩
abbrev s__law_number : Stmt := top 34
abbrev n__law_number : List Str := ["_law_number_here"]
abbrev p__law_number : List Str := ["_law_number_here"]
theorem sc__law_number : FnScope n__law_number p__law_number (defScope s__law_number) := ⟨rfl, rfl, rfl, by decide +kernel, rfl, by decide +kernel, by decide +kernel⟩
abbrev s__law_line : Stmt := top 35
abbrev n__law_line : List Str := ["_law_shut_here", "_law_points", "_law_line_here", "_law_point", "_law_heat", "_law_place_here", "_law_run", "_law_rise"]
abbrev p__law_line : List Str := ["_law_shut_here"]
theorem sc__law_line : FnScope n__law_line p__law_line (defScope s__law_line) := ⟨rfl, rfl, rfl, by decide +kernel, rfl, by decide +kernel, by decide +kernel⟩
abbrev s__law_stands : Stmt := top 36
abbrev n__law_stands : List Str := ["_law_shut_here", "_law_lines", "_law_sign", "_law_line_here", "_law_heats", "_law_each", "_law_k", "_law_after", "_law_heat", "_law_point"]
abbrev p__law_stands : List Str := ["_law_shut_here", "_law_lines", "_law_sign"]
theorem sc__law_stands : FnScope n__law_stands p__law_stands (defScope s__law_stands) := ⟨rfl, rfl, rfl, by decide +kernel, rfl, by decide +kernel, by decide +kernel⟩
abbrev s_law : Stmt := top 37
abbrev n_law : List Str := ["_law_script", "_law_cell_here", "_law_count", "_law_most", "_law_lines", "_law_shuts", "_law_high", "_law_low", "_law_k", "_law_again", "_law_line_here"]
abbrev p_law : List Str := ["_law_script"]
theorem sc_law : FnScope n_law p_law (defScope s_law) := ⟨rfl, rfl, rfl, by decide +kernel, rfl, by decide +kernel, by decide +kernel⟩
end Wl

end

section
set_option maxRecDepth 100000
set_option maxHeartbeats 4000000
open PySem PySem.Spec PyProof.Rows L2 VL
local macro_rules | `(tactic| walk_at "ix") => `(tactic| first | with_reducible exact ix0 | with_reducible exact ix1 | with_reducible exact ix2 | with_reducible exact ix3 | with_reducible exact ix4 | with_reducible exact ix5 | with_reducible exact ix6 | with_reducible exact ix7 | with_reducible exact ix8 | with_reducible exact ix9 | with_reducible exact ix10 | with_reducible exact ix11 | with_reducible exact ix12 | with_reducible exact ix13 | with_reducible exact ix14 | with_reducible exact ix15 | with_reducible exact ix16)
local macro_rules | `(tactic| walk_at "num") => `(tactic| first | assumption | decide | omega | exact ⟨by decide, by decide⟩ | exact .inr ⟨by decide, by decide⟩ | exact .inl ⟨by decide, by decide⟩ | exact ⟨by omega, by omega, by omega⟩)
/- a name -/
local macro_rules | `(tactic| walk_at "name") => `(tactic| ((with_reducible refine' ve_nm ?hN ?hv ?hG ?_); (case hN => walk_at "ix"); (case hv => decide +kernel); (case hG => rfl)))
local macro_rules | `(tactic| walk_at "glob") => `(tactic| first
  | ((with_reducible refine' ve_gO ?hg ?hm ?_); (case hm => with_reducible assumption); (case hg => decide +kernel))
  | ((with_reducible refine' ve_gI ?hg ?hm ?_); (case hm => with_reducible assumption); (case hg => decide +kernel)))
local macro_rules | `(tactic| walk_at "tyname") => `(tactic| first
  | ((with_reducible refine' ve_ty "int" ?hg ?hm ?hv ?_); (case hg => decide +kernel); (case hm => exact (‹Blt _›).int); (case hv => exact bt_int))
  | ((with_reducible refine' ve_ty "bool" ?hg ?hm ?hv ?_); (case hg => decide +kernel); (case hm => exact (‹Blt _›).bool); (case hv => exact bt_bool))
  | ((with_reducible refine' ve_ty "str" ?hg ?hm ?hv ?_); (case hg => decide +kernel); (case hm => exact (‹Blt _›).str); (case hv => exact bt_str))
  | ((with_reducible refine' ve_ty "list" ?hg ?hm ?hv ?_); (case hg => decide +kernel); (case hm => exact (‹Blt _›).list); (case hv => exact bt_list))
  | ((with_reducible refine' ve_ty "tuple" ?hg ?hm ?hv ?_); (case hg => decide +kernel); (case hm => exact (‹Blt _›).tuple); (case hv => exact bt_tuple)))
local macro_rules | `(tactic| walk_at "blt") => `(tactic| first
  | ((with_reducible refine' blt1 "len" ?hg ?hm ?hv ?_ ?he); (case hg => decide +kernel); (case hm => exact (‹Blt _›).len); (case hv => exact bt_len); (case he => rfl))
  | ((with_reducible refine' blt1 "sum" ?hg ?hm ?hv ?_ ?he); (case hg => decide +kernel); (case hm => exact (‹Blt _›).sum); (case hv => exact bt_sum); (case he => rfl))
  | ((with_reducible refine' blt1 "abs" ?hg ?hm ?hv ?_ ?he); (case hg => decide +kernel); (case hm => exact (‹Blt _›).abs); (case hv => exact bt_abs); (case he => rfl))
  | ((with_reducible refine' blt1 "sorted" ?hg ?hm ?hv ?_ ?he); (case hg => decide +kernel); (case hm => exact (‹Blt _›).sorted); (case hv => exact bt_sorted); (case he => rfl))
  | ((with_reducible refine' blt1 "all" ?hg ?hm ?hv ?_ ?he); (case hg => decide +kernel); (case hm => exact (‹Blt _›).all); (case hv => exact bt_all); (case he => rfl))
  | ((with_reducible refine' blt1 "any" ?hg ?hm ?hv ?_ ?he); (case hg => decide +kernel); (case hm => exact (‹Blt _›).any); (case hv => exact bt_any); (case he => rfl))
  | ((with_reducible refine' blt1 "max" ?hg ?hm ?hv ?_ ?he); (case hg => decide +kernel); (case hm => exact (‹Blt _›).max); (case hv => exact bt_max); (case he => rfl))
  | ((with_reducible refine' blt1 "min" ?hg ?hm ?hv ?_ ?he); (case hg => decide +kernel); (case hm => exact (‹Blt _›).min); (case hv => exact bt_min); (case he => rfl))
  | ((with_reducible refine' blt2 "isinstance" ?hg ?hm ?hv ?_ ?he ?hf); (case hg => decide +kernel); (case hm => exact (‹Blt _›).isi); (case hv => exact bt_isi); (case he => rfl); (case hf => rfl))
  | ((with_reducible refine' blt2 "max" ?hg ?hm ?hv ?_ ?he ?hf); (case hg => decide +kernel); (case hm => exact (‹Blt _›).max); (case hv => exact bt_max); (case he => rfl); (case hf => rfl))
  | ((with_reducible refine' blt2 "min" ?hg ?hm ?hv ?_ ?he ?hf); (case hg => decide +kernel); (case hm => exact (‹Blt _›).min); (case hv => exact bt_min); (case he => rfl); (case hf => rfl))
  | ((with_reducible refine' bty1 "int" ?hg ?hm ?hv ?_ ?he); (case hg => decide +kernel); (case hm => exact (‹Blt _›).int); (case hv => exact bt_int); (case he => rfl))
  | ((with_reducible refine' bty1 "list" ?hg ?hm ?hv ?_ ?he); (case hg => decide +kernel); (case hm => exact (‹Blt _›).list); (case hv => exact bt_list); (case he => rfl))
  | ((with_reducible refine' bty1 "tuple" ?hg ?hm ?hv ?_ ?he); (case hg => decide +kernel); (case hm => exact (‹Blt _›).tuple); (case hv => exact bt_tuple); (case he => rfl))
  | ((with_reducible refine' bty1 "str" ?hg ?hm ?hv ?_ ?he); (case hg => decide +kernel); (case hm => exact (‹Blt _›).str); (case hv => exact bt_str); (case he => rfl)))
/- a call of a def of the text, its Callable in the context -/
local macro_rules | `(tactic| walk_at "call") => `(tactic| first
  | ((with_reducible refine' call1 ?h ?hc ?hj ?hg ?_ ?h1); (case h => with_reducible assumption); (case hc => rfl); (case hg => decide +kernel); (case hj => first | decide | omega); (case h1 => rfl))
  | ((with_reducible refine' call2 ?h ?hc ?hj ?hg ?_ ?h1 ?h2); (case h => with_reducible assumption); (case hc => rfl); (case hg => decide +kernel); (case hj => first | decide | omega); (case h1 => rfl); (case h2 => rfl))
  | ((with_reducible refine' call3 ?h ?hc ?hj ?hg ?_ ?h1 ?h2 ?h3); (case h => with_reducible assumption); (case hc => rfl); (case hg => decide +kernel); (case hj => first | decide | omega); (case h1 => rfl); (case h2 => rfl); (case h3 => rfl))
  | ((with_reducible refine' call4 ?h ?hc ?hj ?hg ?_ ?h1 ?h2 ?h3 ?h4); (case h => with_reducible assumption); (case hc => rfl); (case hg => decide +kernel); (case hj => first | decide | omega); (case h1 => rfl); (case h2 => rfl); (case h3 => rfl); (case h4 => rfl))
  | ((with_reducible refine' call0 ?h ?hc ?hj ?hg ?_); (case h => with_reducible assumption); (case hc => rfl); (case hg => decide +kernel); (case hj => first | decide | omega)))
/- one step -/
local macro_rules | `(tactic| walk_at "v") => `(tactic| first
  | with_reducible refine' asB_i ?_
  | with_reducible refine' asInt_i ?_
  | with_reducible refine' asObj_i ?_
  | with_reducible refine' if_t ?_
  | with_reducible refine' if_f ?_
  | with_reducible refine' if_nt ?_
  | with_reducible refine' if_nf ?_
  | ((with_reducible refine' if_dt ?h ?_); (case h => first | assumption | omega))
  | ((with_reducible refine' if_df ?h ?_); (case h => first | assumption | omega))
  | ((with_reducible refine' if_ndt ?h ?_); (case h => first | assumption | omega))
  | ((with_reducible refine' if_ndf ?h ?_); (case h => first | assumption | omega))
  | with_reducible refine' ve_int ?_
  | with_reducible refine' ve_str ?_
  | with_reducible refine' ve_bl ?_
  | with_reducible refine' ve_non ?_
  | walk_at "name"
  | with_reducible refine' ve_bin ?_
  | with_reducible refine' ve_cmp rfl ?_
  | with_reducible refine' vt_cmp rfl ?_
  | with_reducible refine' ve_not ?_
  | with_reducible refine' vt_not ?_
  | with_reducible refine' ve_and ?_
  | with_reducible refine' ve_or ?_
  | with_reducible refine' ve_one ?_
  | with_reducible refine' vw_and ?_
  | with_reducible refine' vw_or ?_
  | with_reducible refine' vw_and1 ?_
  | with_reducible refine' vw_or1 ?_
  | with_reducible refine' va_nil ?_
  | with_reducible refine' va_cons ?_ rfl
  | with_reducible refine' vo_add ?_
  | with_reducible refine' vo_sub ?_
  | with_reducible refine' vo_lt ?_
  | with_reducible refine' vo_le ?_
  | with_reducible refine' vo_gt ?_
  | with_reducible refine' vo_ge ?_
  | with_reducible refine' vo_eq ?_
  | with_reducible refine' vo_ne ?_
  | with_reducible refine' vo_eqS ?_
  | with_reducible refine' vo_neS ?_
  | with_reducible refine' vo_eqB ?_
  | with_reducible refine' vo_is ?_
  | with_reducible refine' vo_isnot ?_
  | with_reducible refine' vu_neg ?_
  | ((with_reducible refine' vo_mod ?h ?_); (case h => walk_at "num"))
  | ((with_reducible refine' vo_fdiv ?h ?_); (case h => walk_at "num"))
  | ((with_reducible refine' vo_mul ?h ?_); (case h => walk_at "num"))
  | ((with_reducible refine' vo_pow ?h ?_); (case h => walk_at "num"))
  | ((with_reducible refine' vo_shl ?h ?_); (case h => walk_at "num"))
  | ((with_reducible refine' ve_chain ?_ ?h); (case h => rfl))
  | ((with_reducible refine' vt_chain ?_ ?h); (case h => rfl))
  | with_reducible refine' ve_un ?_
  | with_reducible refine' ve_if ?_
  | with_reducible refine' vt_w (vw_and ?_)
  | with_reducible refine' vt_w (vw_or ?_)
  | ((with_reducible refine' and_len ?h ?_); (case h => exact len_small rfl))
  | walk_at "spec"
  | walk_at "call"
  | walk_at "blt"
  | ((with_reducible refine' ve_ix ?_ ?h); (case h => exact fun _ _ => rfl))
  | ((with_reducible refine' ve_tup ?_ ?h); (case h => exact pe_tup pa_w))
  | with_reducible refine' ve_lst ?_
  | walk_at "glob"
  | ((with_reducible refine' vt_tr ?_ ?he); (case he => intro _; rfl))
  | with_reducible refine' tr_bl ?_
  | with_reducible refine' tr_int ?_
  | with_reducible refine' tr_non ?_
  | with_reducible refine' tr_tup ?_
  | with_reducible refine' tr_lst ?_
  | walk_at "tyname"
  | ((with_reducible refine' vx_tup ?h ?_); (case h => rfl))
  | with_reducible refine' vcl_int ?_)
local macro_rules | `(tactic| walk_at "go") => `(tactic| repeat walk_at "v")
/- one statement: a name stored -/
local macro_rules | `(tactic| walk_at "let") => `(tactic| (refine' vss_cons (vs_lt ?hi ?hx ?_ ?hs); (case hi => walk_at "ix"); (case hx => decide +kernel); (case hs => rfl)))
local macro_rules | `(tactic| walk_at "ret") => `(tactic| refine' vss_cons (vs_ret ?_))
local macro_rules | `(tactic| walk_at "fld") => `(tactic| (refine' vss_cons (vs_fld ?_ ?hs); (case hs => rfl)))
local macro_rules | `(tactic| walk_at "if") => `(tactic| refine' vss_cons (vs_if ?_))
local macro_rules | `(tactic| walk_at "expr") => `(tactic| (refine' vss_cons (vs_expr ?_ ?hs); (case hs => rfl)))
local macro_rules | `(tactic| walk_at "nil") => `(tactic| refine' vss_nil ?_)
namespace Wl
open Wm
/-! ### dyadic numbers -/
abbrev dyF (n : Int) : List (Str × D) := [("_top", .int (pt n)), ("_power", .int (pp n : Int))]
def dy (C : Addr) (n : Int) : D := .ins C (dyF n)
theorem len2 {a b : D} : [a, b].length ≤ sizeLine := by show 2 ≤ sizeLine; decide
theorem k_tp : ((("_power" : Str) == ("_top" : Str)) = false) := by decide +kernel
theorem k_tp' : ¬ (("_top" : Str) = ("_power" : Str)) := by decide +kernel
theorem dyF_top (n : Int) : (dyF n).lookup ("_top" : Str) = some (.int (pt n)) := lk_here
theorem dyF_power (n : Int) : (dyF n).lookup ("_power" : Str) = some (.int (pp n : Int)) := lk_there k_tp lk_here
theorem dyF_no {m : Str} (n : Int) (h1 : (m == ("_top" : Str)) = false) (h2 : (m == ("_power" : Str)) = false) : (dyF n).lookup m = none := lk_none h1 (lk_none h2 rfl)
def S_reduced : SpV := fun ds w P _ => match ds with
  | [.int t, .int p] => (0 ≤ p ∧ p ≤ 1000) ∧ P (.tup [.int (red t p.toNat).1, .int ((red t p.toNat).2 : Int)]) w
  | _ => False
def S_is_integer : SpV := fun ds w P _ => match ds with
  | [.int _] => P (.bl true) w
  | _ => False
theorem S_is_integer_i {i : Int} {w : W} {P : D → W → Prop} {R : Addr → W → Prop} (h : P (.bl true) w) : S_is_integer [.int i] w P R := h
theorem S_reduced_i {t p : Int} {w : W} {P : D → W → Prop} {R : Addr → W → Prop} (h1 : 0 ≤ p ∧ p ≤ 1000) (h : P (.tup [.int (red t p.toNat).1, .int ((red t p.toNat).2 : Int)]) w) : S_reduced [.int t, .int p] w P R := ⟨h1, h⟩
local macro_rules | `(tactic| walk_at "spec") => `(tactic| first
  | with_reducible refine' S_is_integer_i ?_
  | ((with_reducible refine' S_reduced_i ?h ?_); (case h => omega)))
/-- Dyadic(t, p) in range -/
def S_Dyadic (C : Addr) : SpV := fun ds w P _ => match ds with
  | [.int t, .int p] => (t.natAbs ≤ 1000000000000 ∧ 0 ≤ p ∧ p ≤ 40) ∧ P (dy C (t * 2 ^ (40 - p.toNat))) w
  | _ => False
def S_Dyinit (C : Addr) : SpV := fun ds w P _ => match ds with
  | [.obj x, .int t, .int p] => (t.natAbs ≤ 1000000000000 ∧ 0 ≤ p ∧ p ≤ 40) ∧ w x = some (.ins C []) ∧ P .non (w.up x (.ins C (dyF (t * 2 ^ (40 - p.toNat)))))
  | _ => False
variable {E : EnvR}
theorem ok_is_integer {f : Addr} {fd : FuncData} (B : Blt E) (F : Fun E.K "is_integer" "is_integer" s_is_integer f fd) : FnV E 1 f fd p_is_integer S_is_integer := by
  refine fnV F sc_is_integer (fun ds w P R h => ?_) (fun c ds w P h => ?_)
  · unfold S_is_integer at h; split at h <;> first | rfl | exact h.elim
  · unfold S_is_integer at h
    split at h
    · walk_at "ret"
      walk_at "go"
      refine isi_ty B.clsG tyd_int (by decide +kernel : kitB "int" "int" = some true) ?_
      walk_at "go"
      refine isi_ty B.clsG tyd_int (by decide +kernel : kitB "int" "bool" = some false) ?_
      exact h
    · exact h.elim
theorem ok_reduced {f : Addr} {fd : FuncData} (F : Fun E.K "reduced" "reduced" s_reduced f fd) : FnV E 1 f fd p_reduced S_reduced := by
  refine fnV F sc_reduced (fun ds w P R h => ?_) (fun c ds w P h => ?_)
  · unfold S_reduced at h; split at h <;> first | rfl | exact h.elim
  · unfold S_reduced at h
    split at h
    · rename_i t p
      refine vss_cons ?_
      refine vs_while (fun Γ w' => w' = w ∧ ∃ t' p' : Int, Γ = [some (.int t'), some (.int p')] ∧ 0 ≤ p' ∧ red t' p'.toNat = red t p.toNat) (fun Γ _ => match Γ with | [_, some (.int p')] => p'.toNat | _ => 0) ⟨rfl, t, p, rfl, h.1.1, rfl⟩ ?_
      rintro Γ w' ⟨rfl, t', p', rfl, hp, hr⟩
      walk_at "go"
      refine ite_dec (fun h1 => ?_) (fun h1 => ?_)
      · walk_at "go"
        have e : p'.toNat = (p' - 1).toNat + 1 := by omega
        refine ite_dec (fun h2 => ?_) (fun h2 => ?_)
        · walk_at "let"
          walk_at "go"
          walk_at "let"
          walk_at "go"
          refine vss_nil ⟨⟨rfl, t' / 2, p' - 1, rfl, by omega, ?_⟩, ?_⟩
          · rw [← hr, e, red, if_pos h2]
          · show (p' - 1).toNat < p'.toNat
            omega
        · have q : red t p.toNat = (t', p'.toNat) := by rw [← hr, e, red, if_neg h2]
          walk_at "ret"
          walk_at "go"
          have h3 := h.2
          rw [q] at h3
          have e2 : ((p'.toNat : Nat) : Int) = p' := by omega
          rw [e2] at h3
          exact h3
      · have q : red t p.toNat = (t', p'.toNat) := by
          have e : p'.toNat = 0 := by omega
          rw [← hr, e, red]
        walk_at "ret"
        walk_at "go"
        have h3 := h.2
        rw [q] at h3
        have e2 : ((p'.toNat : Nat) : Int) = p' := by omega
        rw [e2] at h3
        exact h3
    · exact h.elim
/-- what the class has, as the top has made it -/
structure DyT (E : EnvR) (C CB : Addr) : Prop where
  B : Blt E
  cl : Cls E.K C
  nT : NoAttr E.K C "_top"
  nP : NoAttr E.K C "_power"
  tm : ∃ t, E.mg "TOP_MOST" = some (.int 1000000000000 t)
  pm : ∃ t, E.mg "POWER_MOST" = some (.int 40 t)
theorem fld_T {C : Addr} {n : Int} {w : W} {q : Addr → D → Prop} (h : q C (.int (pt n))) : fieldD w (dy C n) "_top" q := ⟨_, dyF_top n, h⟩
theorem fld_P {C : Addr} {n : Int} {w : W} {q : Addr → D → Prop} (h : q C (.int (pp n : Int))) : fieldD w (dy C n) "_power" q := ⟨_, dyF_power n, h⟩
theorem ok_init {f C CB : Addr} {fd : FuncData} (T : DyT E C CB) (F : Fun E.K "__init__" "Dyadic.__init__" s_Dyadic___init__ f fd) (c1 : Callable E "is_integer" 1 1 S_is_integer) (c2 : Callable E "reduced" 1 2 S_reduced) : FnV E 2 f fd p_Dyadic___init__ (S_Dyinit C) := by
  refine fnV F sc_Dyadic___init__ (fun ds w P R h => ?_) (fun c ds w P h => ?_)
  · unfold S_Dyinit at h; split at h <;> first | rfl | exact h.elim
  · unfold S_Dyinit at h
    split at h
    · rename_i x t p
      obtain ⟨⟨h1, h2, h3⟩, hw, h4⟩ := h
      obtain ⟨tt, htm⟩ := T.tm
      obtain ⟨tp, hpm⟩ := T.pm
      have B := T.B
      walk_at "if"
      walk_at "go"
      walk_at "nil"
      walk_at "if"
      walk_at "go"
      walk_at "nil"
      walk_at "let"
      walk_at "go"
      walk_at "fld"
      walk_at "go"
      refine ⟨C, [], hw, T.cl, T.nT, by decide, ?_⟩
      walk_at "fld"
      walk_at "go"
      refine ⟨C, _, W.up_same, T.cl, T.nP, by show 1 < 1000; decide, ?_⟩
      walk_at "nil"
      show P .non _
      have e : putD "_power" (.int ((red t p.toNat).2 : Int)) (putD "_top" (.int (red t p.toNat).1) []) = dyF (t * 2 ^ (40 - p.toNat)) := by
        rw [put_nil, put_there k_tp', put_nil, red_pt (by omega)]
      rw [W.up_up, e]
      exact h4
    · exact h.elim
theorem S_Dy_of {C : Addr} {ds : List D} {w : W} {P : D → W → Prop} {R : Addr → W → Prop} (h : S_Dyadic C ds w P R) : mkSpec C (S_Dyinit C) ds w (fun d w' => Frz d w' P) R := by
  intro x hx
  unfold S_Dyadic at h
  split at h
  · exact ⟨h.1, W.up_same, rfl, _, _, W.up_same, rfl, by rw [W.up_up, W.del_up_id hx]; exact h.2⟩
  · exact h.elim
/-- a dyadic -/
def asDy (C : Addr) (x : D) (k : Int → Prop) : Prop := ∃ n, x = dy C n ∧ k n
theorem asDy_i {C : Addr} {n : Int} {k : Int → Prop} (h : k n) : asDy C (dy C n) k := ⟨n, rfl, h⟩
def S_Dytop (C : Addr) : SpV := fun ds w P _ => ∃ n, ds = [dy C n] ∧ P (.int (pt n)) w
def S_Dypower (C : Addr) : SpV := fun ds w P _ => ∃ n, ds = [dy C n] ∧ P (.int (pp n : Int)) w
theorem insD_dy {C : Addr} {n : Int} {w : W} {m : Str} (h1 : (m == ("_top" : Str)) = false) (h2 : (m == ("_power" : Str)) = false) : InsD w (dy C n) C m := ⟨rfl, dyF_no n h1 h2⟩
theorem insD_x {C : Addr} {n : Int} {w : W} : ∃ m, InsD w (dy C n) C m := ⟨"x", insD_dy (by decide +kernel) (by decide +kernel)⟩
theorem ok_top {f C CB : Addr} {fd : FuncData} (T : DyT E C CB) (F : Fun E.K "top" "Dyadic.top" s_Dyadic_top f fd) : FnV E 1 f fd p_Dyadic_top (S_Dytop C) := by
  refine fnV F sc_Dyadic_top (fun ds w P R h => ?_) (fun c ds w P h => ?_)
  · obtain ⟨n, rfl, _⟩ := h; rfl
  · obtain ⟨n, rfl, h⟩ := h
    walk_at "ret"
    refine ve_fld ?_
    walk_at "go"
    exact fld_T ⟨T.cl, T.nT, h⟩
theorem ok_power {f C CB : Addr} {fd : FuncData} (T : DyT E C CB) (F : Fun E.K "power" "Dyadic.power" s_Dyadic_power f fd) : FnV E 1 f fd p_Dyadic_power (S_Dypower C) := by
  refine fnV F sc_Dyadic_power (fun ds w P R h => ?_) (fun c ds w P h => ?_)
  · obtain ⟨n, rfl, _⟩ := h; rfl
  · obtain ⟨n, rfl, h⟩ := h
    walk_at "ret"
    refine ve_fld ?_
    walk_at "go"
    exact fld_P ⟨T.cl, T.nP, h⟩
/-- Dyadic's rules: the constructor with one and two arguments, its properties -/
structure Dy1 (E : EnvR) (C : Addr) : Prop where
  cl : Cls E.K C
  nT : NoAttr E.K C "_top"
  nP : NoAttr E.K C "_power"
  red : Callable E "reduced" 1 2 S_reduced
  mk1 : Callable E "Dyadic" 3 1 fun ds w P R => mkSpec C (S_Dyinit C) (ds ++ [.int 0]) w P R
  mk2 : Callable E "Dyadic" 3 2 fun ds w P R => mkSpec C (S_Dyinit C) (ds ++ []) w P R
  top : PropV E C "top" 1 (S_Dytop C)
  power : PropV E C "power" 1 (S_Dypower C)
section
variable {N : List Str} {sc : Scope} {k : Nat} {b : Md} {c : VC E N sc k b} {Γ : G} {w : W} {P : D → W → Prop} {C : Addr} {p pos : Pos}
theorem ve_mk2 {a1 a2 : Expr} (T : Dy1 E C) (hc : b.calm = true) (hj : 3 ≤ k) (hg : glB sc "Dyadic" = true) (q : VE c a1 Γ w fun d1 w1 => VE c a2 Γ w1 fun d2 w2 => asInt d1 fun t => asInt d2 fun p => (t.natAbs ≤ 1000000000000 ∧ 0 ≤ p ∧ p ≤ 40) ∧ P (dy C (t * 2 ^ (40 - p.toNat))) w2)
    (h1 : starEach [a1, a2] c.X.env = (false, eval a1 c.X.env) :: starEach [a2] c.X.env) (h2 : starEach [a2] c.X.env = (false, eval a2 c.X.env) :: starEach [] c.X.env) : VE c (.Call (.Name "Dyadic" p) [a1, a2] [] pos) Γ w P := by
  refine ve_frz (call2 T.mk2 hc hj hg (q.imp fun d1 w1 z => z.imp fun d2 w2 z => ?_) h1 h2)
  unfold asInt at z
  split at z
  · split at z
    · exact S_Dy_of (R := c.R) z
    · exact z.elim
  · exact z.elim
theorem ve_mk1 {a1 : Expr} (T : Dy1 E C) (hc : b.calm = true) (hj : 3 ≤ k) (hg : glB sc "Dyadic" = true) (q : VE c a1 Γ w fun d1 w1 => asInt d1 fun t => t.natAbs ≤ 1000000000000 ∧ P (dy C (t * 2 ^ 40)) w1)
    (h1 : starEach [a1] c.X.env = (false, eval a1 c.X.env) :: starEach [] c.X.env) : VE c (.Call (.Name "Dyadic" p) [a1] [] pos) Γ w P := by
  refine ve_frz (call1 T.mk1 hc hj hg (q.imp fun d1 w1 z => ?_) h1)
  unfold asInt at z
  split at z
  · exact S_Dy_of (R := c.R) ⟨⟨z.1, by omega, by omega⟩, z.2⟩
  · exact z.elim
theorem ve_dyT {o : Expr} (T : Dy1 E C) (hc : b.calm = true) (hj : 2 ≤ k) (h : VE c o Γ w fun x w1 => asDy C x fun n => P (.int (pt n)) w1) (hab : attributeBase o "top" c.X.env (eval o c.X.env) = eval o c.X.env) : VE c (.Attribute o "top" pos) Γ w P :=
  ve_prop T.top hc hj (h.imp fun d w1 z => by obtain ⟨n, rfl, q⟩ := z; exact ⟨insD_x, n, rfl, q⟩) hab
theorem ve_dyP {o : Expr} (T : Dy1 E C) (hc : b.calm = true) (hj : 2 ≤ k) (h : VE c o Γ w fun x w1 => asDy C x fun n => P (.int (pp n : Int)) w1) (hab : attributeBase o "power" c.X.env (eval o c.X.env) = eval o c.X.env) : VE c (.Attribute o "power" pos) Γ w P :=
  ve_prop T.power hc hj (h.imp fun d w1 z => by obtain ⟨n, rfl, q⟩ := z; exact ⟨insD_x, n, rfl, q⟩) hab
theorem ve_dyt {o : Expr} (T : Dy1 E C) (h : VE c o Γ w fun x w1 => asDy C x fun n => P (.int (pt n)) w1) (hab : attributeBase o "_top" c.X.env (eval o c.X.env) = eval o c.X.env) : VE c (.Attribute o "_top" pos) Γ w P :=
  ve_fld (h.imp fun d w1 z => by obtain ⟨n, rfl, q⟩ := z; exact fld_T ⟨T.cl, T.nT, q⟩) hab
theorem ve_dyp {o : Expr} (T : Dy1 E C) (h : VE c o Γ w fun x w1 => asDy C x fun n => P (.int (pp n : Int)) w1) (hab : attributeBase o "_power" c.X.env (eval o c.X.env) = eval o c.X.env) : VE c (.Attribute o "_power" pos) Γ w P :=
  ve_fld (h.imp fun d w1 z => by obtain ⟨n, rfl, q⟩ := z; exact fld_P ⟨T.cl, T.nP, q⟩) hab
end
end Wl

end

section
set_option maxRecDepth 100000
set_option maxHeartbeats 4000000
open PySem PySem.Spec PyProof.Rows L2 VL
local macro_rules | `(tactic| walk_at "ix") => `(tactic| first | with_reducible exact ix0 | with_reducible exact ix1 | with_reducible exact ix2 | with_reducible exact ix3 | with_reducible exact ix4 | with_reducible exact ix5 | with_reducible exact ix6 | with_reducible exact ix7 | with_reducible exact ix8 | with_reducible exact ix9 | with_reducible exact ix10 | with_reducible exact ix11 | with_reducible exact ix12 | with_reducible exact ix13 | with_reducible exact ix14 | with_reducible exact ix15 | with_reducible exact ix16)
local macro_rules | `(tactic| walk_at "num") => `(tactic| first | assumption | decide | omega | exact ⟨by decide, by decide⟩ | exact .inr ⟨by decide, by decide⟩ | exact .inl ⟨by decide, by decide⟩ | exact ⟨by omega, by omega, by omega⟩)
/- a name -/
local macro_rules | `(tactic| walk_at "name") => `(tactic| ((with_reducible refine' ve_nm ?hN ?hv ?hG ?_); (case hN => walk_at "ix"); (case hv => decide +kernel); (case hG => rfl)))
local macro_rules | `(tactic| walk_at "glob") => `(tactic| first
  | ((with_reducible refine' ve_gO ?hg ?hm ?_); (case hm => with_reducible assumption); (case hg => decide +kernel))
  | ((with_reducible refine' ve_gI ?hg ?hm ?_); (case hm => with_reducible assumption); (case hg => decide +kernel)))
local macro_rules | `(tactic| walk_at "tyname") => `(tactic| first
  | ((with_reducible refine' ve_ty "int" ?hg ?hm ?hv ?_); (case hg => decide +kernel); (case hm => exact (‹Blt _›).int); (case hv => exact bt_int))
  | ((with_reducible refine' ve_ty "bool" ?hg ?hm ?hv ?_); (case hg => decide +kernel); (case hm => exact (‹Blt _›).bool); (case hv => exact bt_bool))
  | ((with_reducible refine' ve_ty "str" ?hg ?hm ?hv ?_); (case hg => decide +kernel); (case hm => exact (‹Blt _›).str); (case hv => exact bt_str))
  | ((with_reducible refine' ve_ty "list" ?hg ?hm ?hv ?_); (case hg => decide +kernel); (case hm => exact (‹Blt _›).list); (case hv => exact bt_list))
  | ((with_reducible refine' ve_ty "tuple" ?hg ?hm ?hv ?_); (case hg => decide +kernel); (case hm => exact (‹Blt _›).tuple); (case hv => exact bt_tuple)))
local macro_rules | `(tactic| walk_at "blt") => `(tactic| first
  | ((with_reducible refine' blt1 "len" ?hg ?hm ?hv ?_ ?he); (case hg => decide +kernel); (case hm => exact (‹Blt _›).len); (case hv => exact bt_len); (case he => rfl))
  | ((with_reducible refine' blt1 "sum" ?hg ?hm ?hv ?_ ?he); (case hg => decide +kernel); (case hm => exact (‹Blt _›).sum); (case hv => exact bt_sum); (case he => rfl))
  | ((with_reducible refine' blt1 "abs" ?hg ?hm ?hv ?_ ?he); (case hg => decide +kernel); (case hm => exact (‹Blt _›).abs); (case hv => exact bt_abs); (case he => rfl))
  | ((with_reducible refine' blt1 "sorted" ?hg ?hm ?hv ?_ ?he); (case hg => decide +kernel); (case hm => exact (‹Blt _›).sorted); (case hv => exact bt_sorted); (case he => rfl))
  | ((with_reducible refine' blt1 "all" ?hg ?hm ?hv ?_ ?he); (case hg => decide +kernel); (case hm => exact (‹Blt _›).all); (case hv => exact bt_all); (case he => rfl))
  | ((with_reducible refine' blt1 "any" ?hg ?hm ?hv ?_ ?he); (case hg => decide +kernel); (case hm => exact (‹Blt _›).any); (case hv => exact bt_any); (case he => rfl))
  | ((with_reducible refine' blt1 "max" ?hg ?hm ?hv ?_ ?he); (case hg => decide +kernel); (case hm => exact (‹Blt _›).max); (case hv => exact bt_max); (case he => rfl))
  | ((with_reducible refine' blt1 "min" ?hg ?hm ?hv ?_ ?he); (case hg => decide +kernel); (case hm => exact (‹Blt _›).min); (case hv => exact bt_min); (case he => rfl))
  | ((with_reducible refine' blt2 "isinstance" ?hg ?hm ?hv ?_ ?he ?hf); (case hg => decide +kernel); (case hm => exact (‹Blt _›).isi); (case hv => exact bt_isi); (case he => rfl); (case hf => rfl))
  | ((with_reducible refine' blt2 "max" ?hg ?hm ?hv ?_ ?he ?hf); (case hg => decide +kernel); (case hm => exact (‹Blt _›).max); (case hv => exact bt_max); (case he => rfl); (case hf => rfl))
  | ((with_reducible refine' blt2 "min" ?hg ?hm ?hv ?_ ?he ?hf); (case hg => decide +kernel); (case hm => exact (‹Blt _›).min); (case hv => exact bt_min); (case he => rfl); (case hf => rfl))
  | ((with_reducible refine' bty1 "int" ?hg ?hm ?hv ?_ ?he); (case hg => decide +kernel); (case hm => exact (‹Blt _›).int); (case hv => exact bt_int); (case he => rfl))
  | ((with_reducible refine' bty1 "list" ?hg ?hm ?hv ?_ ?he); (case hg => decide +kernel); (case hm => exact (‹Blt _›).list); (case hv => exact bt_list); (case he => rfl))
  | ((with_reducible refine' bty1 "tuple" ?hg ?hm ?hv ?_ ?he); (case hg => decide +kernel); (case hm => exact (‹Blt _›).tuple); (case hv => exact bt_tuple); (case he => rfl))
  | ((with_reducible refine' bty1 "str" ?hg ?hm ?hv ?_ ?he); (case hg => decide +kernel); (case hm => exact (‹Blt _›).str); (case hv => exact bt_str); (case he => rfl)))
/- a call of a def of the text, its Callable in the context -/
local macro_rules | `(tactic| walk_at "call") => `(tactic| first
  | ((with_reducible refine' call1 ?h ?hc ?hj ?hg ?_ ?h1); (case h => with_reducible assumption); (case hc => rfl); (case hg => decide +kernel); (case hj => first | decide | omega); (case h1 => rfl))
  | ((with_reducible refine' call2 ?h ?hc ?hj ?hg ?_ ?h1 ?h2); (case h => with_reducible assumption); (case hc => rfl); (case hg => decide +kernel); (case hj => first | decide | omega); (case h1 => rfl); (case h2 => rfl))
  | ((with_reducible refine' call3 ?h ?hc ?hj ?hg ?_ ?h1 ?h2 ?h3); (case h => with_reducible assumption); (case hc => rfl); (case hg => decide +kernel); (case hj => first | decide | omega); (case h1 => rfl); (case h2 => rfl); (case h3 => rfl))
  | ((with_reducible refine' call4 ?h ?hc ?hj ?hg ?_ ?h1 ?h2 ?h3 ?h4); (case h => with_reducible assumption); (case hc => rfl); (case hg => decide +kernel); (case hj => first | decide | omega); (case h1 => rfl); (case h2 => rfl); (case h3 => rfl); (case h4 => rfl))
  | ((with_reducible refine' call0 ?h ?hc ?hj ?hg ?_); (case h => with_reducible assumption); (case hc => rfl); (case hg => decide +kernel); (case hj => first | decide | omega)))
/- one step -/
local macro_rules | `(tactic| walk_at "v") => `(tactic| first
  | with_reducible refine' asB_i ?_
  | with_reducible refine' asInt_i ?_
  | with_reducible refine' asObj_i ?_
  | with_reducible refine' if_t ?_
  | with_reducible refine' if_f ?_
  | with_reducible refine' if_nt ?_
  | with_reducible refine' if_nf ?_
  | ((with_reducible refine' if_dt ?h ?_); (case h => first | assumption | omega))
  | ((with_reducible refine' if_df ?h ?_); (case h => first | assumption | omega))
  | ((with_reducible refine' if_ndt ?h ?_); (case h => first | assumption | omega))
  | ((with_reducible refine' if_ndf ?h ?_); (case h => first | assumption | omega))
  | with_reducible refine' ve_int ?_
  | with_reducible refine' ve_str ?_
  | with_reducible refine' ve_bl ?_
  | with_reducible refine' ve_non ?_
  | walk_at "name"
  | with_reducible refine' ve_bin ?_
  | with_reducible refine' ve_cmp rfl ?_
  | with_reducible refine' vt_cmp rfl ?_
  | with_reducible refine' ve_not ?_
  | with_reducible refine' vt_not ?_
  | with_reducible refine' ve_and ?_
  | with_reducible refine' ve_or ?_
  | with_reducible refine' ve_one ?_
  | with_reducible refine' vw_and ?_
  | with_reducible refine' vw_or ?_
  | with_reducible refine' vw_and1 ?_
  | with_reducible refine' vw_or1 ?_
  | with_reducible refine' va_nil ?_
  | with_reducible refine' va_cons ?_ rfl
  | with_reducible refine' vo_add ?_
  | with_reducible refine' vo_sub ?_
  | with_reducible refine' vo_lt ?_
  | with_reducible refine' vo_le ?_
  | with_reducible refine' vo_gt ?_
  | with_reducible refine' vo_ge ?_
  | with_reducible refine' vo_eq ?_
  | with_reducible refine' vo_ne ?_
  | with_reducible refine' vo_eqS ?_
  | with_reducible refine' vo_neS ?_
  | with_reducible refine' vo_eqB ?_
  | with_reducible refine' vo_is ?_
  | with_reducible refine' vo_isnot ?_
  | with_reducible refine' vu_neg ?_
  | ((with_reducible refine' vo_mod ?h ?_); (case h => walk_at "num"))
  | ((with_reducible refine' vo_fdiv ?h ?_); (case h => walk_at "num"))
  | ((with_reducible refine' vo_mul ?h ?_); (case h => walk_at "num"))
  | ((with_reducible refine' vo_pow ?h ?_); (case h => walk_at "num"))
  | ((with_reducible refine' vo_shl ?h ?_); (case h => walk_at "num"))
  | ((with_reducible refine' ve_chain ?_ ?h); (case h => rfl))
  | ((with_reducible refine' vt_chain ?_ ?h); (case h => rfl))
  | with_reducible refine' ve_un ?_
  | with_reducible refine' ve_if ?_
  | with_reducible refine' vt_w (vw_and ?_)
  | with_reducible refine' vt_w (vw_or ?_)
  | ((with_reducible refine' and_len ?h ?_); (case h => exact len_small rfl))
  | walk_at "spec"
  | walk_at "call"
  | walk_at "blt"
  | ((with_reducible refine' ve_ix ?_ ?h); (case h => exact fun _ _ => rfl))
  | ((with_reducible refine' ve_tup ?_ ?h); (case h => exact pe_tup pa_w))
  | with_reducible refine' ve_lst ?_
  | walk_at "glob"
  | ((with_reducible refine' vt_tr ?_ ?he); (case he => intro _; rfl))
  | with_reducible refine' tr_bl ?_
  | with_reducible refine' tr_int ?_
  | with_reducible refine' tr_non ?_
  | with_reducible refine' tr_tup ?_
  | with_reducible refine' tr_lst ?_
  | walk_at "tyname"
  | ((with_reducible refine' vx_tup ?h ?_); (case h => rfl))
  | with_reducible refine' vcl_int ?_)
local macro_rules | `(tactic| walk_at "go") => `(tactic| repeat walk_at "v")
/- one statement: a name stored -/
local macro_rules | `(tactic| walk_at "let") => `(tactic| (refine' vss_cons (vs_lt ?hi ?hx ?_ ?hs); (case hi => walk_at "ix"); (case hx => decide +kernel); (case hs => rfl)))
local macro_rules | `(tactic| walk_at "ret") => `(tactic| refine' vss_cons (vs_ret ?_))
local macro_rules | `(tactic| walk_at "fld") => `(tactic| (refine' vss_cons (vs_fld ?_ ?hs); (case hs => rfl)))
local macro_rules | `(tactic| walk_at "if") => `(tactic| refine' vss_cons (vs_if ?_))
local macro_rules | `(tactic| walk_at "expr") => `(tactic| (refine' vss_cons (vs_expr ?_ ?hs); (case hs => rfl)))
local macro_rules | `(tactic| walk_at "nil") => `(tactic| refine' vss_nil ?_)
namespace Wl
open Wm
local macro_rules | `(tactic| walk_at "spec") => `(tactic| first
  | with_reducible refine' S_is_integer_i ?_
  | ((with_reducible refine' S_reduced_i ?h ?_); (case h => omega))
  | with_reducible refine' asDy_i ?_
  | ((with_reducible refine' ve_mk2 ?hT ?hc ?hj ?hg ?_ ?h1 ?h2); (case hT => with_reducible assumption); (case hc => rfl); (case hj => decide); (case hg => decide +kernel); (case h1 => rfl); (case h2 => rfl))
  | ((with_reducible refine' ve_mk1 ?hT ?hc ?hj ?hg ?_ ?h1); (case hT => with_reducible assumption); (case hc => rfl); (case hj => decide); (case hg => decide +kernel); (case h1 => rfl))
  | ((with_reducible refine' ve_dyT ?hT ?hc ?hj ?_ ?h1); (case hT => with_reducible assumption); (case hc => rfl); (case hj => decide); (case h1 => rfl))
  | ((with_reducible refine' ve_dyP ?hT ?hc ?hj ?_ ?h1); (case hT => with_reducible assumption); (case hc => rfl); (case hj => decide); (case h1 => rfl))
  | ((with_reducible refine' ve_dyt ?hT ?_ ?h1); (case hT => with_reducible assumption); (case h1 => rfl))
  | ((with_reducible refine' ve_dyp ?hT ?_ ?h1); (case hT => with_reducible assumption); (case h1 => rfl)))
variable {E : EnvR}
def S_Dyadd (C : Addr) : SpV := fun ds w P _ => ∃ a b, ds = [dy C a, dy C b] ∧ Okn a ∧ Okn b ∧ Okn (a + b) ∧ P (dy C (a + b)) w
def S_Dysub (C : Addr) : SpV := fun ds w P _ => ∃ a b, ds = [dy C a, dy C b] ∧ Okn a ∧ Okn b ∧ Okn (a - b) ∧ P (dy C (a - b)) w
def S_Dyneg (C : Addr) : SpV := fun ds w P _ => ∃ a, ds = [dy C a] ∧ Okn a ∧ P (dy C (-a)) w
def S_Dyless (C : Addr) : SpV := fun ds w P _ => ∃ a b, ds = [dy C a, dy C b] ∧ Okn a ∧ Okn b ∧ P (.bl (decide (a < b))) w
def S_Dysame (C : Addr) : SpV := fun ds w P _ => ∃ a b, ds = [dy C a, dy C b] ∧ P (.bl (decide (a = b))) w
def S_Dyhalf (C : Addr) : SpV := fun ds w P _ => ∃ a, ds = [dy C a] ∧ Okn a ∧ a % 2 = 0 ∧ P (dy C (a / 2)) w
theorem okn_neg {a : Int} (h : Okn a) : Okn (-a) := by unfold Okn at *; rw [(neg_pt a).1]; omega
theorem ok_neg {f C : Addr} {fd : FuncData} (T : Dy1 E C) (F : Fun E.K "__neg__" "Dyadic.__neg__" s_Dyadic___neg__ f fd) : FnV E 4 f fd p_Dyadic___neg__ (S_Dyneg C) := by
  refine fnV F sc_Dyadic___neg__ (fun ds w P R h => ?_) (fun c ds w P h => ?_)
  · obtain ⟨n, rfl, _⟩ := h; rfl
  · obtain ⟨n, rfl, ho, h⟩ := h
    walk_at "ret"
    walk_at "go"
    have hp := pp_le n
    have ho' : (pt n).natAbs ≤ 1000000000000 := ho
    refine ⟨⟨by omega, by omega, by omega⟩, ?_⟩
    have e : -pt n * 2 ^ (40 - ((pp n : Nat) : Int).toNat) = -n := by rw [Int.toNat_natCast, Int.neg_mul, pt_val]
    rw [e]; exact h
theorem ok_add {f C : Addr} {fd : FuncData} (B : Blt E) (T : Dy1 E C) (F : Fun E.K "__add__" "Dyadic.__add__" s_Dyadic___add__ f fd) : FnV E 4 f fd p_Dyadic___add__ (S_Dyadd C) := by
  have h9 := T.red
  refine fnV F sc_Dyadic___add__ (fun ds w P R h => ?_) (fun c ds w P h => ?_)
  · obtain ⟨a, b, rfl, _⟩ := h; rfl
  · obtain ⟨a, b, rfl, ha, hb, hab, h⟩ := h
    have pa := pp_le a
    have pb := pp_le b
    have ha' : (pt a).natAbs ≤ 1000000000000 := ha
    have hb' : (pt b).natAbs ≤ 1000000000000 := hb
    walk_at "let"
    walk_at "go"
    refine vcl_max2 rfl ?_
    have em : (if ((pp b : Nat) : Int) > ((pp a : Nat) : Int) then ((pp b : Nat) : Int) else ((pp a : Nat) : Int)) = ((max (pp a) (pp b) : Nat) : Int) := by split <;> omega
    rw [em]
    have hm : max (pp a) (pp b) ≤ 40 := by omega
    walk_at "let"
    walk_at "go"
    walk_at "let"
    walk_at "go"
    have e1 : ((((max (pp a) (pp b) : Nat) : Int) - ((pp a : Nat) : Int)).toNat) = max (pp a) (pp b) - pp a := by omega
    have e2 : ((((max (pp a) (pp b) : Nat) : Int) - ((pp b : Nat) : Int)).toNat) = max (pp a) (pp b) - pp b := by omega
    rw [e1, e2, Int.toNat_natCast, add_pt]
    have pab := pp_le (a + b)
    have hab' : (pt (a + b)).natAbs ≤ 1000000000000 := hab
    walk_at "ret"
    walk_at "go"
    refine ⟨⟨by omega, by omega, by omega⟩, ?_⟩
    rw [Int.toNat_natCast, pt_val]
    exact h
/-- the operators and methods of dyadics -/
structure Dy2 (E : EnvR) (C : Addr) : Prop where
  B : Blt E
  d1 : Dy1 E C
  ci : ClsI E.K C
  add : OwnBin E .Add C 4 (S_Dyadd C)
  neg : OwnNeg E C 4 (S_Dyneg C)
section
variable {N : List Str} {sc : Scope} {k : Nat} {b : Md} {c : VC E N sc k b} {Γ : G} {w : W} {P : D → W → Prop} {C : Addr} {p pos apos : Pos}
theorem vo_dyadd {x y : Int} (T : Dy2 E C) (hc : b.calm = true) (hj : 4 ≤ k) (hx : Okn x) (hy : Okn y) (hz : Okn (x + y)) (h : P (dy C (x + y)) w) : VO c (binaryOp .Add) (dy C x) (dy C y) w P :=
  vo_ownB T.add hc hj (insD_dy (m := "x") (by decide +kernel) (by decide +kernel)) (insD_dy (m := "x") (by decide +kernel) (by decide +kernel)) ⟨x, y, rfl, hx, hy, hz, h⟩
theorem vu_dyneg {x : Int} (T : Dy2 E C) (hc : b.calm = true) (hj : 4 ≤ k) (hx : Okn x) (h : P (dy C (-x)) w) : VU c (unaryOp .USub) (dy C x) w P :=
  vu_ownN T.neg hc hj (insD_dy (m := "x") (by decide +kernel) (by decide +kernel)) ⟨x, rfl, hx, h⟩
end
theorem ok_sub {f C : Addr} {fd : FuncData} (T : Dy2 E C) (F : Fun E.K "__sub__" "Dyadic.__sub__" s_Dyadic___sub__ f fd) : FnV E 5 f fd p_Dyadic___sub__ (S_Dysub C) := by
  refine fnV F sc_Dyadic___sub__ (fun ds w P R h => ?_) (fun c ds w P h => ?_)
  · obtain ⟨a, b, rfl, _⟩ := h; rfl
  · obtain ⟨a, b, rfl, ha, hb, hab, h⟩ := h
    walk_at "ret"
    walk_at "go"
    refine vu_dyneg T rfl (by decide) hb ?_
    refine vo_dyadd T rfl (by decide) ha (okn_neg hb) (by rw [← Int.sub_eq_add_neg]; exact hab) ?_
    rw [← Int.sub_eq_add_neg]; exact h
theorem ok_less {f C : Addr} {fd : FuncData} (T : Dy2 E C) (F : Fun E.K "less" "Dyadic.less" s_Dyadic_less f fd) : FnV E 3 f fd p_Dyadic_less (S_Dyless C) := by
  have T1 := T.d1
  refine fnV F sc_Dyadic_less (fun ds w P R h => ?_) (fun c ds w P h => ?_)
  · obtain ⟨a, b, rfl, _⟩ := h; rfl
  · obtain ⟨a, b, rfl, ha, hb, h⟩ := h
    have pa := pp_le a
    have pb := pp_le b
    have ha' : (pt a).natAbs ≤ 1000000000000 := ha
    have hb' : (pt b).natAbs ≤ 1000000000000 := hb
    walk_at "ret"
    walk_at "go"
    show P _ w
    rw [Int.toNat_natCast, Int.toNat_natCast, show decide (pt a * 2 ^ pp b < pt b * 2 ^ pp a) = decide (a < b) from decide_eq_decide.mpr (less_pt a b)]
    exact h
theorem ok_same {f C : Addr} {fd : FuncData} (T : Dy2 E C) (F : Fun E.K "same" "Dyadic.same" s_Dyadic_same f fd) : FnV E 3 f fd p_Dyadic_same (S_Dysame C) := by
  have T1 := T.d1
  refine fnV F sc_Dyadic_same (fun ds w P R h => ?_) (fun c ds w P h => ?_)
  · obtain ⟨a, b, rfl, _⟩ := h; rfl
  · obtain ⟨a, b, rfl, h⟩ := h
    walk_at "ret"
    walk_at "go"
    refine ite_dec (fun h1 => ?_) (fun h1 => ?_)
    · walk_at "go"
      show P _ w
      rw [show decide (((pp a : Nat) : Int) = ((pp b : Nat) : Int)) = decide (a = b) from decide_eq_decide.mpr ⟨fun z => (same_pt a b).mp ⟨h1, by omega⟩, fun z => by rw [z]⟩]
      exact h
    · show P _ w
      rw [decide_eq_false (fun z => h1 (by rw [z]))] at h
      exact h
theorem ok_half {f C : Addr} {fd : FuncData} (T : Dy2 E C) (F : Fun E.K "half" "Dyadic.half" s_Dyadic_half f fd) : FnV E 4 f fd p_Dyadic_half (S_Dyhalf C) := by
  have T1 := T.d1
  have h9 := T1.red
  refine fnV F sc_Dyadic_half (fun ds w P R h => ?_) (fun c ds w P h => ?_)
  · obtain ⟨a, rfl, _⟩ := h; rfl
  · obtain ⟨a, rfl, ha, he, h⟩ := h
    have pa := pp_le a
    walk_at "let"
    walk_at "go"
    have e : (((pp a : Nat) : Int) + 1).toNat = pp a + 1 := by omega
    rw [e, half_pt a he]
    have ha2 : (pt (a / 2)).natAbs ≤ 1000000000000 := okn_half ha he
    have pab := pp_le (a / 2)
    walk_at "ret"
    walk_at "go"
    refine ⟨⟨by omega, by omega, by omega⟩, ?_⟩
    rw [Int.toNat_natCast, pt_val]
    exact h
/-- all rules of dyadics -/
structure Dy3 (E : EnvR) (C : Addr) : Prop where
  d2 : Dy2 E C
  sub : OwnBin E .Sub C 5 (S_Dysub C)
  less : MethV E C "less" 3 (S_Dyless C)
  same : MethV E C "same" 3 (S_Dysame C)
end Wl

end

section
set_option maxRecDepth 100000
set_option maxHeartbeats 4000000
open PySem PySem.Spec PyProof.Rows L2 VL
local macro_rules | `(tactic| walk_at "ix") => `(tactic| first | with_reducible exact ix0 | with_reducible exact ix1 | with_reducible exact ix2 | with_reducible exact ix3 | with_reducible exact ix4 | with_reducible exact ix5 | with_reducible exact ix6 | with_reducible exact ix7 | with_reducible exact ix8 | with_reducible exact ix9 | with_reducible exact ix10 | with_reducible exact ix11 | with_reducible exact ix12 | with_reducible exact ix13 | with_reducible exact ix14 | with_reducible exact ix15 | with_reducible exact ix16)
local macro_rules | `(tactic| walk_at "num") => `(tactic| first | assumption | decide | omega | exact ⟨by decide, by decide⟩ | exact .inr ⟨by decide, by decide⟩ | exact .inl ⟨by decide, by decide⟩ | exact ⟨by omega, by omega, by omega⟩)
/- a name -/
local macro_rules | `(tactic| walk_at "name") => `(tactic| ((with_reducible refine' ve_nm ?hN ?hv ?hG ?_); (case hN => walk_at "ix"); (case hv => decide +kernel); (case hG => rfl)))
local macro_rules | `(tactic| walk_at "glob") => `(tactic| first
  | ((with_reducible refine' ve_gO ?hg ?hm ?_); (case hm => with_reducible assumption); (case hg => decide +kernel))
  | ((with_reducible refine' ve_gI ?hg ?hm ?_); (case hm => with_reducible assumption); (case hg => decide +kernel)))
local macro_rules | `(tactic| walk_at "tyname") => `(tactic| first
  | ((with_reducible refine' ve_ty "int" ?hg ?hm ?hv ?_); (case hg => decide +kernel); (case hm => exact (‹Blt _›).int); (case hv => exact bt_int))
  | ((with_reducible refine' ve_ty "bool" ?hg ?hm ?hv ?_); (case hg => decide +kernel); (case hm => exact (‹Blt _›).bool); (case hv => exact bt_bool))
  | ((with_reducible refine' ve_ty "str" ?hg ?hm ?hv ?_); (case hg => decide +kernel); (case hm => exact (‹Blt _›).str); (case hv => exact bt_str))
  | ((with_reducible refine' ve_ty "list" ?hg ?hm ?hv ?_); (case hg => decide +kernel); (case hm => exact (‹Blt _›).list); (case hv => exact bt_list))
  | ((with_reducible refine' ve_ty "tuple" ?hg ?hm ?hv ?_); (case hg => decide +kernel); (case hm => exact (‹Blt _›).tuple); (case hv => exact bt_tuple)))
local macro_rules | `(tactic| walk_at "blt") => `(tactic| first
  | ((with_reducible refine' blt1 "len" ?hg ?hm ?hv ?_ ?he); (case hg => decide +kernel); (case hm => exact (‹Blt _›).len); (case hv => exact bt_len); (case he => rfl))
  | ((with_reducible refine' blt1 "sum" ?hg ?hm ?hv ?_ ?he); (case hg => decide +kernel); (case hm => exact (‹Blt _›).sum); (case hv => exact bt_sum); (case he => rfl))
  | ((with_reducible refine' blt1 "abs" ?hg ?hm ?hv ?_ ?he); (case hg => decide +kernel); (case hm => exact (‹Blt _›).abs); (case hv => exact bt_abs); (case he => rfl))
  | ((with_reducible refine' blt1 "sorted" ?hg ?hm ?hv ?_ ?he); (case hg => decide +kernel); (case hm => exact (‹Blt _›).sorted); (case hv => exact bt_sorted); (case he => rfl))
  | ((with_reducible refine' blt1 "all" ?hg ?hm ?hv ?_ ?he); (case hg => decide +kernel); (case hm => exact (‹Blt _›).all); (case hv => exact bt_all); (case he => rfl))
  | ((with_reducible refine' blt1 "any" ?hg ?hm ?hv ?_ ?he); (case hg => decide +kernel); (case hm => exact (‹Blt _›).any); (case hv => exact bt_any); (case he => rfl))
  | ((with_reducible refine' blt1 "max" ?hg ?hm ?hv ?_ ?he); (case hg => decide +kernel); (case hm => exact (‹Blt _›).max); (case hv => exact bt_max); (case he => rfl))
  | ((with_reducible refine' blt1 "min" ?hg ?hm ?hv ?_ ?he); (case hg => decide +kernel); (case hm => exact (‹Blt _›).min); (case hv => exact bt_min); (case he => rfl))
  | ((with_reducible refine' blt2 "isinstance" ?hg ?hm ?hv ?_ ?he ?hf); (case hg => decide +kernel); (case hm => exact (‹Blt _›).isi); (case hv => exact bt_isi); (case he => rfl); (case hf => rfl))
  | ((with_reducible refine' blt2 "max" ?hg ?hm ?hv ?_ ?he ?hf); (case hg => decide +kernel); (case hm => exact (‹Blt _›).max); (case hv => exact bt_max); (case he => rfl); (case hf => rfl))
  | ((with_reducible refine' blt2 "min" ?hg ?hm ?hv ?_ ?he ?hf); (case hg => decide +kernel); (case hm => exact (‹Blt _›).min); (case hv => exact bt_min); (case he => rfl); (case hf => rfl))
  | ((with_reducible refine' bty1 "int" ?hg ?hm ?hv ?_ ?he); (case hg => decide +kernel); (case hm => exact (‹Blt _›).int); (case hv => exact bt_int); (case he => rfl))
  | ((with_reducible refine' bty1 "list" ?hg ?hm ?hv ?_ ?he); (case hg => decide +kernel); (case hm => exact (‹Blt _›).list); (case hv => exact bt_list); (case he => rfl))
  | ((with_reducible refine' bty1 "tuple" ?hg ?hm ?hv ?_ ?he); (case hg => decide +kernel); (case hm => exact (‹Blt _›).tuple); (case hv => exact bt_tuple); (case he => rfl))
  | ((with_reducible refine' bty1 "str" ?hg ?hm ?hv ?_ ?he); (case hg => decide +kernel); (case hm => exact (‹Blt _›).str); (case hv => exact bt_str); (case he => rfl)))
/- a call of a def of the text, its Callable in the context -/
local macro_rules | `(tactic| walk_at "call") => `(tactic| first
  | ((with_reducible refine' call1 ?h ?hc ?hj ?hg ?_ ?h1); (case h => with_reducible assumption); (case hc => rfl); (case hg => decide +kernel); (case hj => first | decide | omega); (case h1 => rfl))
  | ((with_reducible refine' call2 ?h ?hc ?hj ?hg ?_ ?h1 ?h2); (case h => with_reducible assumption); (case hc => rfl); (case hg => decide +kernel); (case hj => first | decide | omega); (case h1 => rfl); (case h2 => rfl))
  | ((with_reducible refine' call3 ?h ?hc ?hj ?hg ?_ ?h1 ?h2 ?h3); (case h => with_reducible assumption); (case hc => rfl); (case hg => decide +kernel); (case hj => first | decide | omega); (case h1 => rfl); (case h2 => rfl); (case h3 => rfl))
  | ((with_reducible refine' call4 ?h ?hc ?hj ?hg ?_ ?h1 ?h2 ?h3 ?h4); (case h => with_reducible assumption); (case hc => rfl); (case hg => decide +kernel); (case hj => first | decide | omega); (case h1 => rfl); (case h2 => rfl); (case h3 => rfl); (case h4 => rfl))
  | ((with_reducible refine' call0 ?h ?hc ?hj ?hg ?_); (case h => with_reducible assumption); (case hc => rfl); (case hg => decide +kernel); (case hj => first | decide | omega)))
/- one step -/
local macro_rules | `(tactic| walk_at "v") => `(tactic| first
  | with_reducible refine' asB_i ?_
  | with_reducible refine' asInt_i ?_
  | with_reducible refine' asObj_i ?_
  | with_reducible refine' if_t ?_
  | with_reducible refine' if_f ?_
  | with_reducible refine' if_nt ?_
  | with_reducible refine' if_nf ?_
  | ((with_reducible refine' if_dt ?h ?_); (case h => first | assumption | omega))
  | ((with_reducible refine' if_df ?h ?_); (case h => first | assumption | omega))
  | ((with_reducible refine' if_ndt ?h ?_); (case h => first | assumption | omega))
  | ((with_reducible refine' if_ndf ?h ?_); (case h => first | assumption | omega))
  | with_reducible refine' ve_int ?_
  | with_reducible refine' ve_str ?_
  | with_reducible refine' ve_bl ?_
  | with_reducible refine' ve_non ?_
  | walk_at "name"
  | with_reducible refine' ve_bin ?_
  | with_reducible refine' ve_cmp rfl ?_
  | with_reducible refine' vt_cmp rfl ?_
  | with_reducible refine' ve_not ?_
  | with_reducible refine' vt_not ?_
  | with_reducible refine' ve_and ?_
  | with_reducible refine' ve_or ?_
  | with_reducible refine' ve_one ?_
  | with_reducible refine' vw_and ?_
  | with_reducible refine' vw_or ?_
  | with_reducible refine' vw_and1 ?_
  | with_reducible refine' vw_or1 ?_
  | with_reducible refine' va_nil ?_
  | with_reducible refine' va_cons ?_ rfl
  | with_reducible refine' vo_add ?_
  | with_reducible refine' vo_sub ?_
  | with_reducible refine' vo_lt ?_
  | with_reducible refine' vo_le ?_
  | with_reducible refine' vo_gt ?_
  | with_reducible refine' vo_ge ?_
  | with_reducible refine' vo_eq ?_
  | with_reducible refine' vo_ne ?_
  | with_reducible refine' vo_eqS ?_
  | with_reducible refine' vo_neS ?_
  | with_reducible refine' vo_eqB ?_
  | with_reducible refine' vo_is ?_
  | with_reducible refine' vo_isnot ?_
  | with_reducible refine' vu_neg ?_
  | ((with_reducible refine' vo_mod ?h ?_); (case h => walk_at "num"))
  | ((with_reducible refine' vo_fdiv ?h ?_); (case h => walk_at "num"))
  | ((with_reducible refine' vo_mul ?h ?_); (case h => walk_at "num"))
  | ((with_reducible refine' vo_pow ?h ?_); (case h => walk_at "num"))
  | ((with_reducible refine' vo_shl ?h ?_); (case h => walk_at "num"))
  | ((with_reducible refine' ve_chain ?_ ?h); (case h => rfl))
  | ((with_reducible refine' vt_chain ?_ ?h); (case h => rfl))
  | with_reducible refine' ve_un ?_
  | with_reducible refine' ve_if ?_
  | with_reducible refine' vt_w (vw_and ?_)
  | with_reducible refine' vt_w (vw_or ?_)
  | ((with_reducible refine' and_len ?h ?_); (case h => exact len_small rfl))
  | walk_at "spec"
  | walk_at "call"
  | walk_at "blt"
  | ((with_reducible refine' ve_ix ?_ ?h); (case h => exact fun _ _ => rfl))
  | ((with_reducible refine' ve_tup ?_ ?h); (case h => exact pe_tup pa_w))
  | with_reducible refine' ve_lst ?_
  | walk_at "glob"
  | ((with_reducible refine' vt_tr ?_ ?he); (case he => intro _; rfl))
  | with_reducible refine' tr_bl ?_
  | with_reducible refine' tr_int ?_
  | with_reducible refine' tr_non ?_
  | with_reducible refine' tr_tup ?_
  | with_reducible refine' tr_lst ?_
  | walk_at "tyname"
  | ((with_reducible refine' vx_tup ?h ?_); (case h => rfl))
  | with_reducible refine' vcl_int ?_)
local macro_rules | `(tactic| walk_at "go") => `(tactic| repeat walk_at "v")
/- one statement: a name stored -/
local macro_rules | `(tactic| walk_at "let") => `(tactic| (refine' vss_cons (vs_lt ?hi ?hx ?_ ?hs); (case hi => walk_at "ix"); (case hx => decide +kernel); (case hs => rfl)))
local macro_rules | `(tactic| walk_at "ret") => `(tactic| refine' vss_cons (vs_ret ?_))
local macro_rules | `(tactic| walk_at "fld") => `(tactic| (refine' vss_cons (vs_fld ?_ ?hs); (case hs => rfl)))
local macro_rules | `(tactic| walk_at "if") => `(tactic| refine' vss_cons (vs_if ?_))
local macro_rules | `(tactic| walk_at "expr") => `(tactic| (refine' vss_cons (vs_expr ?_ ?hs); (case hs => rfl)))
local macro_rules | `(tactic| walk_at "nil") => `(tactic| refine' vss_nil ?_)
namespace Wl
open Wm
local macro_rules | `(tactic| walk_at "okn") => `(tactic| first | assumption | (refine' okn_R ?_ ?_ ?_ <;> omega))
variable {E : EnvR}
section
variable {N : List Str} {sc : Scope} {k : Nat} {b : Md} {c : VC E N sc k b} {Γ : G} {w : W} {P : D → W → Prop} {C : Addr} {p pos apos : Pos}
theorem vo_dysub {x y : Int} (T : Dy3 E C) (hc : b.calm = true) (hj : 5 ≤ k) (hx : Okn x) (hy : Okn y) (hz : Okn (x - y)) (h : P (dy C (x - y)) w) : VO c (binaryOp .Sub) (dy C x) (dy C y) w P :=
  vo_ownB T.sub hc hj (insD_dy (m := "x") (by decide +kernel) (by decide +kernel)) (insD_dy (m := "x") (by decide +kernel) (by decide +kernel)) ⟨x, y, rfl, hx, hy, hz, h⟩
def ok2 (a b : Int) (Q : Prop) : Prop := Okn a ∧ Okn b ∧ Q
theorem ok2_i {a b : Int} {Q : Prop} (hx : Okn a) (hy : Okn b) (h : Q) : ok2 a b Q := ⟨hx, hy, h⟩
theorem k_lt : ((("less" : Str) == ("_top" : Str)) = false) := by decide +kernel
theorem k_lp : ((("less" : Str) == ("_power" : Str)) = false) := by decide +kernel
theorem k_st : ((("same" : Str) == ("_top" : Str)) = false) := by decide +kernel
theorem k_sp : ((("same" : Str) == ("_power" : Str)) = false) := by decide +kernel
theorem ve_dyless {o e : Expr} (pl : Sem Bool) (T : Dy3 E C) (hc : b.calm = true) (hj : 3 ≤ k) (h : VE c o Γ w fun x w1 => asDy C x fun a => VE c e Γ w1 fun y w2 => asDy C y fun b => ok2 a b (P (.bl (decide (a < b))) w2))
    (hst : starEach [e] c.X.env = (false, eval e c.X.env) :: starEach [] c.X.env)
    (ht : eval (.Call (.Attribute o "less" apos) [e] [] pos) c.X.env = (do
      let ov ← eval o c.X.env
      standAt apos.atName
      let (f, first) ← holding [ov] (getMethod ov "less" pl)
      callWith pos f first (backTo pos (starEach [e] c.X.env)) (backToKw pos (keywordEach [] c.X.env)))) : VE c (.Call (.Attribute o "less" apos) [e] [] pos) Γ w P :=
  ve_meth (pl := pl) T.less hc hj (h.imp fun x w1 z => by
    obtain ⟨a, rfl, q⟩ := z
    exact ⟨insD_dy k_lt k_lp, va_cons (q.imp fun y w2 z => by obtain ⟨b', rfl, h1, h2, q⟩ := z; exact va_nil ⟨a, b', rfl, h1, h2, q⟩) hst⟩) hst rfl ht
theorem ve_dysame {o e : Expr} (pl : Sem Bool) (T : Dy3 E C) (hc : b.calm = true) (hj : 3 ≤ k) (h : VE c o Γ w fun x w1 => asDy C x fun a => VE c e Γ w1 fun y w2 => asDy C y fun b => P (.bl (decide (a = b))) w2)
    (hst : starEach [e] c.X.env = (false, eval e c.X.env) :: starEach [] c.X.env)
    (ht : eval (.Call (.Attribute o "same" apos) [e] [] pos) c.X.env = (do
      let ov ← eval o c.X.env
      standAt apos.atName
      let (f, first) ← holding [ov] (getMethod ov "same" pl)
      callWith pos f first (backTo pos (starEach [e] c.X.env)) (backToKw pos (keywordEach [] c.X.env)))) : VE c (.Call (.Attribute o "same" apos) [e] [] pos) Γ w P :=
  ve_meth (pl := pl) T.same hc hj (h.imp fun x w1 z => by
    obtain ⟨a, rfl, q⟩ := z
    exact ⟨insD_dy k_st k_sp, va_cons (q.imp fun y w2 z => by obtain ⟨b', rfl, q⟩ := z; exact va_nil ⟨a, b', rfl, q⟩) hst⟩) hst rfl ht
end
local macro_rules | `(tactic| walk_at "spec") => `(tactic| first
  | with_reducible refine' asDy_i ?_
  | ((with_reducible refine' ve_mk2 ?hT ?hc ?hj ?hg ?_ ?h1 ?h2); (case hT => exact (‹Dy3 _ _›).d2.d1); (case hc => rfl); (case hj => decide); (case hg => decide +kernel); (case h1 => rfl); (case h2 => rfl))
  | ((with_reducible refine' ve_mk1 ?hT ?hc ?hj ?hg ?_ ?h1); (case hT => exact (‹Dy3 _ _›).d2.d1); (case hc => rfl); (case hj => decide); (case hg => decide +kernel); (case h1 => rfl))
  | ((with_reducible refine' ve_dyT ?hT ?hc ?hj ?_ ?h1); (case hT => exact (‹Dy3 _ _›).d2.d1); (case hc => rfl); (case hj => decide); (case h1 => rfl))
  | ((with_reducible refine' ve_dyP ?hT ?hc ?hj ?_ ?h1); (case hT => exact (‹Dy3 _ _›).d2.d1); (case hc => rfl); (case hj => decide); (case h1 => rfl))
  | ((with_reducible refine' vo_dyadd ?hT ?hc ?hj ?hx ?hy ?hz ?_); (case hT => exact (‹Dy3 _ _›).d2); (case hc => rfl); (case hj => decide); (case hx => walk_at "okn"); (case hy => walk_at "okn"); (case hz => walk_at "okn"))
  | ((with_reducible refine' vu_dyneg ?hT ?hc ?hj ?hx ?_); (case hT => exact (‹Dy3 _ _›).d2); (case hc => rfl); (case hj => decide); (case hx => walk_at "okn"))
  | ((with_reducible refine' vo_dysub ?hT ?hc ?hj ?hx ?hy ?hz ?_); (case hT => assumption); (case hc => rfl); (case hj => decide); (case hx => walk_at "okn"); (case hy => walk_at "okn"); (case hz => walk_at "okn"))
  | ((with_reducible refine' ve_dyless _ ?hT ?hc ?hj ?_ ?h1 ?h2); (case hT => assumption); (case hc => rfl); (case hj => decide); (case h1 => rfl); (case h2 => rfl))
  | ((with_reducible refine' ve_dysame _ ?hT ?hc ?hj ?_ ?h1 ?h2); (case hT => assumption); (case hc => rfl); (case hj => decide); (case h1 => rfl); (case h2 => rfl))
  | ((with_reducible refine' ok2_i ?hx ?hy ?_); (case hx => walk_at "okn"); (case hy => walk_at "okn")))
/-- a point of a wall -/
def ptD (C : Addr) (p : Int × Int) : D := .tup [dy C p.1, dy C p.2]
/-- what is asked of every temperature and place: small, a multiple of 2 ^ 22 -/

def S_times (C : Addr) : SpV := fun ds w P _ => ∃ n s : Int, ds = [dy C n, .int s] ∧ Okn n ∧ P (dy C (sgn3 s n)) w
def S_slope (C CB : Addr) : SpV := fun ds w P R => ∃ p q : Int × Int, ds = [ptD C p, ptD C q] ∧ (Rn 576460752303423488 p.1 ∧ Rn 576460752303423488 p.2 ∧ Rn 576460752303423488 q.1 ∧ Rn 576460752303423488 q.2) ∧
  match slopeB (q.1 - p.1) (q.2 - p.2) with | some s => P (.int s) w | none => R CB w
theorem ok_times {f C : Addr} {fd : FuncData} (T : Dy3 E C) (F : Fun E.K "times" "times" s_times f fd) : FnV E 5 f fd p_times (S_times C) := by
  refine fnV F sc_times (fun ds w P R h => ?_) (fun c ds w P h => ?_)
  · obtain ⟨a, b, rfl, _⟩ := h; rfl
  · obtain ⟨n, s, rfl, ho, h⟩ := h
    walk_at "if"
    walk_at "go"
    refine ite_dec (fun h1 => ?_) (fun h1 => ?_)
    · walk_at "ret"
      walk_at "go"
      have e : sgn3 s n = -n := by unfold sgn3; rw [if_pos h1]
      rw [e] at h; exact h
    · walk_at "nil"
      walk_at "if"
      walk_at "go"
      refine ite_dec (fun h2 => ?_) (fun h2 => ?_)
      · walk_at "ret"
        walk_at "go"
        have e : sgn3 s n = n := by unfold sgn3; rw [if_neg h1, if_pos h2]
        rw [e] at h; exact h
      · walk_at "nil"
        walk_at "ret"
        walk_at "go"
        have e : sgn3 s n = 0 * 2 ^ 40 := by unfold sgn3; rw [if_neg h1, if_neg h2, Int.zero_mul]
        rw [e] at h
        exact ⟨by decide, h⟩
theorem S_times_i {C : Addr} {n s : Int} {w : W} {P : D → W → Prop} {R : Addr → W → Prop} (ho : Okn n) (h : P (dy C (sgn3 s n)) w) : S_times C [dy C n, .int s] w P R := ⟨n, s, rfl, ho, h⟩
/-- the loop over -1, 0, 1 -/
theorem ok_slope {f C CB : Addr} {fd : FuncData} (T : Dy3 E C) (X : ExcF E "BadValue" CB) (c1 : Callable E "times" 5 2 (S_times C)) (F : Fun E.K "slope_between" "slope_between" s_slope_between f fd) : FnV E 6 f fd p_slope_between (S_slope C CB) := by
  refine fnV F sc_slope_between (fun ds w P R h => ?_) (fun c ds w P h => ?_)
  · obtain ⟨a, b, rfl, _⟩ := h; rfl
  · obtain ⟨p, q, rfl, ⟨⟨a1, a2, a3⟩, ⟨a4, a5, a6⟩, ⟨a7, a8, a9⟩, ⟨a10, a11, a12⟩⟩, h⟩ := h
    have ok1 : Okn (q.1 - p.1) := by refine okn_R ?_ ?_ ?_ <;> omega
    have ok2 : Okn (q.2 - p.2) := by refine okn_R ?_ ?_ ?_ <;> omega
    unfold ptD
    walk_at "let"
    walk_at "go"
    walk_at "let"
    walk_at "go"
    refine vss_cons (vs_for [4] rfl (vi_tup ?_))
    walk_at "go"
    refine ⟨_, rfl, ?_⟩
    refine ⟨fun (i : Nat) Γ w' => w' = w ∧ ∃ g, Γ = [some (ptD C p), some (ptD C q), some (dy C (q.1 - p.1)), some (dy C (q.2 - p.2)), g] ∧ (0 < i → ¬ q.2 - p.2 = -(q.1 - p.1)) ∧ (1 < i → ¬ q.2 - p.2 = 0) ∧ (2 < i → ¬ q.2 - p.2 = q.1 - p.1), ⟨rfl, _, rfl, by omega, by omega, by omega⟩, fun _ _ _ _ _ => True.intro, ?_, ?_⟩
    · rintro i d Γ w' hd ⟨rfl, g, rfl, e1, e2, e3⟩
      have turn : ∀ s : Int, (d = .int s) → (slopeB (q.1 - p.1) (q.2 - p.2) = some s ∧ q.2 - p.2 = sgn3 s (q.1 - p.1) → P (.int s) w') → (¬ q.2 - p.2 = sgn3 s (q.1 - p.1) → (0 < i + 1 → ¬ q.2 - p.2 = -(q.1 - p.1)) ∧ (1 < i + 1 → ¬ q.2 - p.2 = 0) ∧ (2 < i + 1 → ¬ q.2 - p.2 = q.1 - p.1)) → (q.2 - p.2 = sgn3 s (q.1 - p.1) → slopeB (q.1 - p.1) (q.2 - p.2) = some s) → True := fun _ _ _ _ _ => True.intro
      clear turn
      have nxt : ∃ s : Int, d = .int s ∧ (q.2 - p.2 = sgn3 s (q.1 - p.1) → slopeB (q.1 - p.1) (q.2 - p.2) = some s) ∧ (¬ q.2 - p.2 = sgn3 s (q.1 - p.1) → (0 < i + 1 → ¬ q.2 - p.2 = -(q.1 - p.1)) ∧ (1 < i + 1 → ¬ q.2 - p.2 = 0) ∧ (2 < i + 1 → ¬ q.2 - p.2 = q.1 - p.1)) := by
        rcases i with _ | _ | _ | i
        · simp at hd; subst hd
          refine ⟨-1, rfl, fun z => ?_, fun z => ?_⟩
          · rw [sgn3, if_pos (by decide)] at z; rw [slopeB, if_pos z]
          · rw [sgn3, if_pos (by decide)] at z; exact ⟨fun _ => z, fun h => by omega, fun h => by omega⟩
        · simp at hd; subst hd
          refine ⟨0, rfl, fun z => ?_, fun z => ?_⟩
          · rw [sgn3, if_neg (by decide), if_neg (by decide)] at z; rw [slopeB, if_neg (e1 (by omega)), if_pos z]
          · rw [sgn3, if_neg (by decide), if_neg (by decide)] at z; exact ⟨fun _ => e1 (by omega), fun _ => z, fun h => by omega⟩
        · simp at hd; subst hd
          refine ⟨1, rfl, fun z => ?_, fun z => ?_⟩
          · rw [sgn3, if_neg (by decide), if_pos (by decide)] at z; rw [slopeB, if_neg (e1 (by omega)), if_neg (e2 (by omega)), if_pos z]
          · rw [sgn3, if_neg (by decide), if_pos (by decide)] at z; exact ⟨fun _ => e1 (by omega), fun _ => e2 (by omega), fun _ => z⟩
        · simp at hd
      obtain ⟨s, rfl, n1, n2⟩ := nxt
      refine vg_nm (by walk_at "ix") (by decide +kernel) ?_
      walk_at "if"
      walk_at "go"
      refine S_times_i ok1 ?_
      walk_at "go"
      refine ite_dec (fun z => ?_) (fun z => ?_)
      · walk_at "ret"
        walk_at "go"
        rw [n1 z] at h; exact h
      · walk_at "nil"
        walk_at "nil"
        exact ⟨rfl, _, rfl, n2 z⟩
    · rintro Γ w' ⟨rfl, g, rfl, e1, e2, e3⟩
      have e : slopeB (q.1 - p.1) (q.2 - p.2) = none := by rw [slopeB, if_neg (e1 (by decide)), if_neg (e2 (by decide)), if_neg (e3 (by decide))]
      rw [e] at h
      refine vss_cons (vs_raise X rfl (by decide +kernel) h)
end Wl

end

section
set_option maxRecDepth 100000
set_option maxHeartbeats 4000000
open PySem PySem.Spec PyProof.Rows L2 VL
local macro_rules | `(tactic| walk_at "ix") => `(tactic| first | with_reducible exact ix0 | with_reducible exact ix1 | with_reducible exact ix2 | with_reducible exact ix3 | with_reducible exact ix4 | with_reducible exact ix5 | with_reducible exact ix6 | with_reducible exact ix7 | with_reducible exact ix8 | with_reducible exact ix9 | with_reducible exact ix10 | with_reducible exact ix11 | with_reducible exact ix12 | with_reducible exact ix13 | with_reducible exact ix14 | with_reducible exact ix15 | with_reducible exact ix16)
local macro_rules | `(tactic| walk_at "num") => `(tactic| first | assumption | decide | omega | exact ⟨by decide, by decide⟩ | exact .inr ⟨by decide, by decide⟩ | exact .inl ⟨by decide, by decide⟩ | exact ⟨by omega, by omega, by omega⟩)
/- a name -/
local macro_rules | `(tactic| walk_at "name") => `(tactic| ((with_reducible refine' ve_nm ?hN ?hv ?hG ?_); (case hN => walk_at "ix"); (case hv => decide +kernel); (case hG => rfl)))
local macro_rules | `(tactic| walk_at "glob") => `(tactic| first
  | ((with_reducible refine' ve_gO ?hg ?hm ?_); (case hm => with_reducible assumption); (case hg => decide +kernel))
  | ((with_reducible refine' ve_gI ?hg ?hm ?_); (case hm => with_reducible assumption); (case hg => decide +kernel)))
local macro_rules | `(tactic| walk_at "tyname") => `(tactic| first
  | ((with_reducible refine' ve_ty "int" ?hg ?hm ?hv ?_); (case hg => decide +kernel); (case hm => exact (‹Blt _›).int); (case hv => exact bt_int))
  | ((with_reducible refine' ve_ty "bool" ?hg ?hm ?hv ?_); (case hg => decide +kernel); (case hm => exact (‹Blt _›).bool); (case hv => exact bt_bool))
  | ((with_reducible refine' ve_ty "str" ?hg ?hm ?hv ?_); (case hg => decide +kernel); (case hm => exact (‹Blt _›).str); (case hv => exact bt_str))
  | ((with_reducible refine' ve_ty "list" ?hg ?hm ?hv ?_); (case hg => decide +kernel); (case hm => exact (‹Blt _›).list); (case hv => exact bt_list))
  | ((with_reducible refine' ve_ty "tuple" ?hg ?hm ?hv ?_); (case hg => decide +kernel); (case hm => exact (‹Blt _›).tuple); (case hv => exact bt_tuple)))
local macro_rules | `(tactic| walk_at "blt") => `(tactic| first
  | ((with_reducible refine' blt1 "len" ?hg ?hm ?hv ?_ ?he); (case hg => decide +kernel); (case hm => exact (‹Blt _›).len); (case hv => exact bt_len); (case he => rfl))
  | ((with_reducible refine' blt1 "sum" ?hg ?hm ?hv ?_ ?he); (case hg => decide +kernel); (case hm => exact (‹Blt _›).sum); (case hv => exact bt_sum); (case he => rfl))
  | ((with_reducible refine' blt1 "abs" ?hg ?hm ?hv ?_ ?he); (case hg => decide +kernel); (case hm => exact (‹Blt _›).abs); (case hv => exact bt_abs); (case he => rfl))
  | ((with_reducible refine' blt1 "sorted" ?hg ?hm ?hv ?_ ?he); (case hg => decide +kernel); (case hm => exact (‹Blt _›).sorted); (case hv => exact bt_sorted); (case he => rfl))
  | ((with_reducible refine' blt1 "all" ?hg ?hm ?hv ?_ ?he); (case hg => decide +kernel); (case hm => exact (‹Blt _›).all); (case hv => exact bt_all); (case he => rfl))
  | ((with_reducible refine' blt1 "any" ?hg ?hm ?hv ?_ ?he); (case hg => decide +kernel); (case hm => exact (‹Blt _›).any); (case hv => exact bt_any); (case he => rfl))
  | ((with_reducible refine' blt1 "max" ?hg ?hm ?hv ?_ ?he); (case hg => decide +kernel); (case hm => exact (‹Blt _›).max); (case hv => exact bt_max); (case he => rfl))
  | ((with_reducible refine' blt1 "min" ?hg ?hm ?hv ?_ ?he); (case hg => decide +kernel); (case hm => exact (‹Blt _›).min); (case hv => exact bt_min); (case he => rfl))
  | ((with_reducible refine' blt2 "isinstance" ?hg ?hm ?hv ?_ ?he ?hf); (case hg => decide +kernel); (case hm => exact (‹Blt _›).isi); (case hv => exact bt_isi); (case he => rfl); (case hf => rfl))
  | ((with_reducible refine' blt2 "max" ?hg ?hm ?hv ?_ ?he ?hf); (case hg => decide +kernel); (case hm => exact (‹Blt _›).max); (case hv => exact bt_max); (case he => rfl); (case hf => rfl))
  | ((with_reducible refine' blt2 "min" ?hg ?hm ?hv ?_ ?he ?hf); (case hg => decide +kernel); (case hm => exact (‹Blt _›).min); (case hv => exact bt_min); (case he => rfl); (case hf => rfl))
  | ((with_reducible refine' bty1 "int" ?hg ?hm ?hv ?_ ?he); (case hg => decide +kernel); (case hm => exact (‹Blt _›).int); (case hv => exact bt_int); (case he => rfl))
  | ((with_reducible refine' bty1 "list" ?hg ?hm ?hv ?_ ?he); (case hg => decide +kernel); (case hm => exact (‹Blt _›).list); (case hv => exact bt_list); (case he => rfl))
  | ((with_reducible refine' bty1 "tuple" ?hg ?hm ?hv ?_ ?he); (case hg => decide +kernel); (case hm => exact (‹Blt _›).tuple); (case hv => exact bt_tuple); (case he => rfl))
  | ((with_reducible refine' bty1 "str" ?hg ?hm ?hv ?_ ?he); (case hg => decide +kernel); (case hm => exact (‹Blt _›).str); (case hv => exact bt_str); (case he => rfl)))
/- a call of a def of the text, its Callable in the context -/
local macro_rules | `(tactic| walk_at "call") => `(tactic| first
  | ((with_reducible refine' call1 ?h ?hc ?hj ?hg ?_ ?h1); (case h => with_reducible assumption); (case hc => rfl); (case hg => decide +kernel); (case hj => first | decide | omega); (case h1 => rfl))
  | ((with_reducible refine' call2 ?h ?hc ?hj ?hg ?_ ?h1 ?h2); (case h => with_reducible assumption); (case hc => rfl); (case hg => decide +kernel); (case hj => first | decide | omega); (case h1 => rfl); (case h2 => rfl))
  | ((with_reducible refine' call3 ?h ?hc ?hj ?hg ?_ ?h1 ?h2 ?h3); (case h => with_reducible assumption); (case hc => rfl); (case hg => decide +kernel); (case hj => first | decide | omega); (case h1 => rfl); (case h2 => rfl); (case h3 => rfl))
  | ((with_reducible refine' call4 ?h ?hc ?hj ?hg ?_ ?h1 ?h2 ?h3 ?h4); (case h => with_reducible assumption); (case hc => rfl); (case hg => decide +kernel); (case hj => first | decide | omega); (case h1 => rfl); (case h2 => rfl); (case h3 => rfl); (case h4 => rfl))
  | ((with_reducible refine' call0 ?h ?hc ?hj ?hg ?_); (case h => with_reducible assumption); (case hc => rfl); (case hg => decide +kernel); (case hj => first | decide | omega)))
/- one step -/
local macro_rules | `(tactic| walk_at "v") => `(tactic| first
  | with_reducible refine' asB_i ?_
  | with_reducible refine' asInt_i ?_
  | with_reducible refine' asObj_i ?_
  | with_reducible refine' if_t ?_
  | with_reducible refine' if_f ?_
  | with_reducible refine' if_nt ?_
  | with_reducible refine' if_nf ?_
  | ((with_reducible refine' if_dt ?h ?_); (case h => first | assumption | omega))
  | ((with_reducible refine' if_df ?h ?_); (case h => first | assumption | omega))
  | ((with_reducible refine' if_ndt ?h ?_); (case h => first | assumption | omega))
  | ((with_reducible refine' if_ndf ?h ?_); (case h => first | assumption | omega))
  | with_reducible refine' ve_int ?_
  | with_reducible refine' ve_str ?_
  | with_reducible refine' ve_bl ?_
  | with_reducible refine' ve_non ?_
  | walk_at "name"
  | with_reducible refine' ve_bin ?_
  | with_reducible refine' ve_cmp rfl ?_
  | with_reducible refine' vt_cmp rfl ?_
  | with_reducible refine' ve_not ?_
  | with_reducible refine' vt_not ?_
  | with_reducible refine' ve_and ?_
  | with_reducible refine' ve_or ?_
  | with_reducible refine' ve_one ?_
  | with_reducible refine' vw_and ?_
  | with_reducible refine' vw_or ?_
  | with_reducible refine' vw_and1 ?_
  | with_reducible refine' vw_or1 ?_
  | with_reducible refine' va_nil ?_
  | with_reducible refine' va_cons ?_ rfl
  | with_reducible refine' vo_add ?_
  | with_reducible refine' vo_sub ?_
  | with_reducible refine' vo_lt ?_
  | with_reducible refine' vo_le ?_
  | with_reducible refine' vo_gt ?_
  | with_reducible refine' vo_ge ?_
  | with_reducible refine' vo_eq ?_
  | with_reducible refine' vo_ne ?_
  | with_reducible refine' vo_eqS ?_
  | with_reducible refine' vo_neS ?_
  | with_reducible refine' vo_eqB ?_
  | with_reducible refine' vo_is ?_
  | with_reducible refine' vo_isnot ?_
  | with_reducible refine' vu_neg ?_
  | ((with_reducible refine' vo_mod ?h ?_); (case h => walk_at "num"))
  | ((with_reducible refine' vo_fdiv ?h ?_); (case h => walk_at "num"))
  | ((with_reducible refine' vo_mul ?h ?_); (case h => walk_at "num"))
  | ((with_reducible refine' vo_pow ?h ?_); (case h => walk_at "num"))
  | ((with_reducible refine' vo_shl ?h ?_); (case h => walk_at "num"))
  | ((with_reducible refine' ve_chain ?_ ?h); (case h => rfl))
  | ((with_reducible refine' vt_chain ?_ ?h); (case h => rfl))
  | with_reducible refine' ve_un ?_
  | with_reducible refine' ve_if ?_
  | with_reducible refine' vt_w (vw_and ?_)
  | with_reducible refine' vt_w (vw_or ?_)
  | ((with_reducible refine' and_len ?h ?_); (case h => exact len_small rfl))
  | walk_at "spec"
  | walk_at "call"
  | walk_at "blt"
  | ((with_reducible refine' ve_ix ?_ ?h); (case h => exact fun _ _ => rfl))
  | ((with_reducible refine' ve_tup ?_ ?h); (case h => exact pe_tup pa_w))
  | with_reducible refine' ve_lst ?_
  | walk_at "glob"
  | ((with_reducible refine' vt_tr ?_ ?he); (case he => intro _; rfl))
  | with_reducible refine' tr_bl ?_
  | with_reducible refine' tr_int ?_
  | with_reducible refine' tr_non ?_
  | with_reducible refine' tr_tup ?_
  | with_reducible refine' tr_lst ?_
  | walk_at "tyname"
  | ((with_reducible refine' vx_tup ?h ?_); (case h => rfl))
  | with_reducible refine' vcl_int ?_)
local macro_rules | `(tactic| walk_at "go") => `(tactic| repeat walk_at "v")
/- one statement: a name stored -/
local macro_rules | `(tactic| walk_at "let") => `(tactic| (refine' vss_cons (vs_lt ?hi ?hx ?_ ?hs); (case hi => walk_at "ix"); (case hx => decide +kernel); (case hs => rfl)))
local macro_rules | `(tactic| walk_at "ret") => `(tactic| refine' vss_cons (vs_ret ?_))
local macro_rules | `(tactic| walk_at "fld") => `(tactic| (refine' vss_cons (vs_fld ?_ ?hs); (case hs => rfl)))
local macro_rules | `(tactic| walk_at "if") => `(tactic| refine' vss_cons (vs_if ?_))
local macro_rules | `(tactic| walk_at "expr") => `(tactic| (refine' vss_cons (vs_expr ?_ ?hs); (case hs => rfl)))
local macro_rules | `(tactic| walk_at "nil") => `(tactic| refine' vss_nil ?_)
namespace Wl
open Wm
local macro_rules | `(tactic| walk_at "okn") => `(tactic| first | assumption | (refine' okn_R ?_ ?_ ?_ <;> omega))
variable {E : EnvR}
theorem inD3 (s : Int) : inD (.int s) [.int (-1), .int 0, .int 1] = decide (s = -1 ∨ s = 0 ∨ s = 1) := by
  show ((-1 : Int) == s || ((0 : Int) == s || ((1 : Int) == s || false))) = _
  rw [Bool.or_false]
  by_cases h : s = -1 ∨ s = 0 ∨ s = 1
  · rw [decide_eq_true h]
    rcases h with h | h | h <;> subst h <;> rfl
  · rw [decide_eq_false h]
    have h1 : ((-1 : Int) == s) = false := by rw [beq_eq_false_iff_ne]; omega
    have h2 : ((0 : Int) == s) = false := by rw [beq_eq_false_iff_ne]; omega
    have h3 : ((1 : Int) == s) = false := by rw [beq_eq_false_iff_ne]; omega
    rw [h1, h2, h3]; rfl
theorem atI_nat {α : Type} {xs : List α} {n : Nat} {x : α} (h : xs[n]? = some x) {i : Int} (e : i = (n : Int)) : atI xs i = some x := by
  subst e
  have hl : n < xs.length := by
    rcases Nat.lt_or_ge n xs.length with z | z
    · exact z
    · rw [List.getElem?_eq_none z] at h; cases h
  unfold atI ixN
  rw [if_pos (by omega), if_pos (by omega)]
  simpa using h
theorem map_get {α : Type} {f : α → D} {xs : List α} {n : Nat} {x : α} (h : xs[n]? = some x) : (xs.map f)[n]? = some (f x) := by rw [List.getElem?_map, h]; rfl
section
variable {N : List Str} {sc : Scope} {k : Nat} {b : Md} {c : VC E N sc k b} {Γ : G} {w : W} {P : D → W → Prop} {C : Addr} {p pos apos : Pos}
theorem vo_notin3 {s : Int} (h : P (.bl (!decide (s = -1 ∨ s = 0 ∨ s = 1))) w) : VO c (compareOp .NotIn) (.int s) (.tup [.int (-1), .int 0, .int 1]) w P :=
  vo_notin (ds := [.int (-1), .int 0, .int 1]) rfl rfl rfl (by rw [inD3]; exact h)
end
local macro_rules | `(tactic| walk_at "spec") => `(tactic| first
  | with_reducible refine' asDy_i ?_
  | ((with_reducible refine' ve_dyT ?hT ?hc ?hj ?_ ?h1); (case hT => exact (‹Dy3 _ _›).d2.d1); (case hc => rfl); (case hj => decide); (case h1 => rfl))
  | ((with_reducible refine' ve_dyless _ ?hT ?hc ?hj ?_ ?h1 ?h2); (case hT => assumption); (case hc => rfl); (case hj => decide); (case h1 => rfl); (case h2 => rfl))
  | with_reducible refine' vo_notin3 ?_
  | ((with_reducible refine' ok2_i ?hx ?hy ?_); (case hx => walk_at "okn"); (case hy => walk_at "okn")))
/-- a piece's point, a wall -/
def pcD (C : Addr) (q : Pc) : D := .tup [dy C q.1, dy C q.2.1]
def slD (q : Pc) : D := .int q.2.2
abbrev wallF (C : Addr) (A : Wal) : List (Str × D) := [("_points", .lst ((A.1 :: A.2).map (pcD C))), ("_slopes", .lst ((A.1 :: A.2).map slD))]
def wallD (C CW : Addr) (A : Wal) : D := .ins CW (wallF C A)
def Rq (B : Int) (q : Int × Int) : Prop := Rn B q.1 ∧ Rn B q.2
def S_Winit (C CW CB : Addr) : SpV := fun ds w P R => ∃ (x : Addr) (d : D) (s : Int) (pts : List (Int × Int)), ds = [.obj x, d, .int s] ∧ lstD w d = some (pts.map (ptD C)) ∧ w x = some (.ins CW []) ∧
  (∀ q ∈ pts, Rq 576460752303423488 q) ∧ pts.length < 1000000 ∧ match mkW pts s with | some A => P .non (w.up x (.ins CW (wallF C A))) | none => ∀ w', W.Sub w w' → R CB w'
theorem tr_seq {x : D} {ds : List D} {w : W} {Q : Bool → Prop} (hx : seqD w x = some ds) (h : Q (!ds.isEmpty)) : TruE x w Q := by
  refine ⟨_, ?_, h⟩
  cases x with
  | lst es => cases hx; rfl
  | scr ns => cases hx; show (!(ns.map D.int).isEmpty) = (!ns.isEmpty); rw [List.isEmpty_map]
  | obj a =>
    unfold seqD at hx
    simp only at hx
    unfold TruD
    simp only
    cases e : w a with
    | none => rw [e] at hx; cases hx
    | some m =>
      rw [e] at hx
      cases m <;> first | (cases hx; rfl) | cases hx
  | _ => cases hx
theorem seqD_up {x : D} {ds : List D} {w : W} {a : Addr} {m : MO} (hx : seqD w x = some ds) (ha : w a = none) : seqD (w.up a m) x = some ds := by
  cases x with
  | obj b =>
    have hne : b ≠ a := by
      intro e; subst e
      unfold seqD at hx
      simp only [ha] at hx
      cases hx
    unfold seqD at hx ⊢
    simp only at hx ⊢
    rw [W.up_ne hne]
    exact hx
  | _ => exact hx
theorem itemsD_of {x : D} {ds : List D} {w : W} (hx : seqD w x = some ds) : itemsD w x = some ds := by
  cases x <;> first | exact hx | cases hx
theorem slopeB_get {ss : List Int} {i : Nat} {t : Int} (h : ss.length = i) : (ss ++ [t])[i]? = some t := by subst h; simp
theorem nonempty_tr {ds : List D} : (!decide (ds.length = 0)) = !ds.isEmpty := by cases ds <;> simp
theorem ok_winit {f C CW CB : Addr} {fd : FuncData} (B : Blt E) (T : Dy3 E C) (X : ExcF E "BadValue" CB) (hW : Cls E.K CW) (n1 : NoAttr E.K CW "_points") (n2 : NoAttr E.K CW "_slopes") (c1 : Callable E "slope_between" 6 2 (S_slope C CB))
    (F : Fun E.K "__init__" "Wall.__init__" s_Wall___init__ f fd) : FnV E 7 f fd p_Wall___init__ (S_Winit C CW CB) := by
  refine fnV F sc_Wall___init__ (fun ds w P R h => ?_) (fun c ds w P h => ?_)
  · obtain ⟨x, d, s, pts, rfl, _⟩ := h; rfl
  · obtain ⟨x, d, s, pts, rfl, hd, hx, hr, hz, h⟩ := h
    have hd2 : seqD w d = some (pts.map (ptD C)) := by
      cases d <;> first | exact hd | cases hd
    have up : ∀ (a : Addr) (m : MO), w a = none → seqD (w.up a m) d = some (pts.map (ptD C)) := fun a m ha => seqD_up hd2 ha
    walk_at "if"
    walk_at "go"
    refine tr_seq hd2 ?_
    rcases pts with _ | ⟨a0, l⟩
    · refine ite_nb (fun _ => ?_) (fun z => nomatch z)
      walk_at "go"
      exact vss_cons (vs_raise X rfl (by decide +kernel) (h w (W.Sub.refl w)))
    refine ite_nb (fun z => nomatch z) (fun _ => ?_)
    walk_at "go"
    refine vx_seq hd2 (atI_nat (n := 0) rfl rfl) ?_
    unfold ptD
    walk_at "go"
    have e0 : (pt a0.1 = 0) ↔ a0.1 = 0 := pt_eq0 a0.1
    refine ite_ndec (fun h1 => ?_) (fun h1 => ?_)
    · walk_at "go"
      refine vss_cons (vs_raise X rfl (by decide +kernel) ?_)
      unfold mkW at h
      simp only at h
      rw [if_neg (by rw [← e0]; exact fun z => h1 z.1)] at h
      exact h w (W.Sub.refl w)
    walk_at "go"
    refine ite_ndec (fun h2 => ?_) (fun h2 => ?_)
    · refine vss_cons (vs_raise X rfl (by decide +kernel) ?_)
      unfold mkW at h
      simp only at h
      rw [if_neg (fun z => h2 z.2)] at h
      exact h w (W.Sub.refl w)
    walk_at "nil"
    refine vss_cons (vs_lt (by walk_at "ix") (by decide +kernel) (ve_lstM (va_nil (and_len (len_small rfl) fun sl hsl => ?_))) rfl)
    have hne : sl ≠ x := fun e => by subst e; rw [hx] at hsl; cases hsl
    refine vss_cons (vs_for [4] rfl (vi_range2 (by decide +kernel) B.range ?_))
    walk_at "go"
    refine vcl_len (itemsD_of (up sl _ hsl)) ?_
    walk_at "go"
    have hlen : (List.map (ptD C) (a0 :: l)).length = l.length + 1 := by rw [List.length_map, List.length_cons]
    have hz' : l.length + 1 < 1000000 := by rw [List.length_cons] at hz; exact hz
    rw [hlen]
    have hn : (((l.length + 1 : Nat) : Int) - 1).toNat = l.length := by omega
    refine ⟨1, _, rfl, by omega, ?_⟩
    rw [hn]
    refine ⟨fun i Γ w' => ∃ (ss : List Int) (g : Option D), Γ = [some (.obj x), some d, some (.int s), some (.obj sl), g] ∧ w' = w.up sl (.lst (ss.map D.int)) ∧ ss.length = i ∧
      ∀ j, j < i → ∀ u v, (a0 :: l)[j]? = some u → (a0 :: l)[j + 1]? = some v → u.1 < v.1 ∧ ∃ t, slopeB (v.1 - u.1) (v.2 - u.2) = some t ∧ ss[j]? = some t, ⟨[], none, rfl, rfl, rfl, fun j hj => absurd hj (Nat.not_lt_zero _)⟩, fun _ _ _ _ _ => True.intro, ?_, ?_⟩
    · rintro i dd Γ w' hdd ⟨ss, g, rfl, rfl, hl, hs⟩
      obtain ⟨hi, rfl⟩ := rngD_get hdd
      obtain ⟨u, hu⟩ : ∃ u, (a0 :: l)[i]? = some u := ⟨_, List.getElem?_eq_getElem (by rw [List.length_cons]; omega)⟩
      obtain ⟨v, hv⟩ : ∃ v, (a0 :: l)[i + 1]? = some v := ⟨_, List.getElem?_eq_getElem (by rw [List.length_cons]; omega)⟩
      obtain ⟨⟨b1, b2, b3⟩, ⟨b4, b5, b6⟩⟩ := hr u (List.mem_of_getElem? hu)
      obtain ⟨⟨b7, b8, b9⟩, ⟨b10, b11, b12⟩⟩ := hr v (List.mem_of_getElem? hv)
      refine vg_nm (by walk_at "ix") (by decide +kernel) ?_
      walk_at "if"
      walk_at "go"
      refine vx_seq (up sl _ hsl) (atI_nat (n := i) (map_get hu) (by omega)) ?_
      unfold ptD
      walk_at "go"
      refine vx_seq (up sl _ hsl) (atI_nat (n := i + 1) (map_get hv) (by omega)) ?_
      unfold ptD
      walk_at "go"
      refine ite_ndec (fun h3 => ?_) (fun h3 => ?_)
      · refine vss_cons (vs_raise X rfl (by decide +kernel) ?_)
        unfold mkW at h
        simp only at h
        rw [if_pos ⟨e0.mp h1, h2⟩, slps_none a0 l s i u v hu hv (.inl h3)] at h
        exact h _ (W.Sub.up hsl)
      · walk_at "nil"
        walk_at "expr"
        refine ve_append ?_
        walk_at "go"
        refine ⟨⟨_, W.up_same⟩, ?_⟩
        walk_at "go"
        refine vx_seq (up sl _ hsl) (atI_nat (n := i) (map_get hu) (by omega)) ?_
        walk_at "go"
        refine vx_seq (up sl _ hsl) (atI_nat (n := i + 1) (map_get hv) (by omega)) ?_
        walk_at "go"
        refine ⟨u, v, rfl, ⟨⟨b1, b2, b3⟩, ⟨b4, b5, b6⟩, ⟨b7, b8, b9⟩, ⟨b10, b11, b12⟩⟩, ?_⟩
        cases q : slopeB (v.1 - u.1) (v.2 - u.2) with
        | none =>
          unfold mkW at h
          simp only at h
          rw [if_pos ⟨e0.mp h1, h2⟩, slps_none a0 l s i u v hu hv (.inr q)] at h
          exact h _ (W.Sub.up hsl)
        | some t =>
          refine ⟨_, W.up_same, by rw [List.length_map, hl]; show i < 2 ^ 24; omega, ?_⟩
          walk_at "nil"
          refine ⟨ss ++ [t], _, rfl, by rw [W.up_up, List.map_append]; rfl, by rw [List.length_append, hl]; rfl, fun j hj u' v' hu' hv' => ?_⟩
          by_cases hj' : j < i
          · obtain ⟨z1, t', z2, z3⟩ := hs j hj' u' v' hu' hv'
            exact ⟨z1, t', z2, by rw [List.getElem?_append_left (by omega)]; exact z3⟩
          · have ej : j = i := by omega
            subst ej
            rw [hu] at hu'
            rw [hv] at hv'
            cases hu'
            cases hv'
            exact ⟨h3, t, q, slopeB_get hl⟩
    · rintro Γ w' ⟨ss, g, rfl, rfl, hl, hs⟩
      rw [rngD_len] at hl hs
      obtain ⟨⟨p, r⟩, eA, eF⟩ := slps_run a0 l s ss hl fun j u v hu hv => hs j (by
        have := (List.getElem?_eq_some_iff.mp hv).1
        rw [List.length_cons] at this
        omega) u v hu hv
      replace eF : p :: r = List.zipWith pc3 (a0 :: l) (ss ++ [s]) := eF
      have hmk : mkW (a0 :: l) s = some (p, mrg p r) := by
        unfold mkW
        simp only
        rw [if_pos ⟨e0.mp h1, h2⟩, eA]; rfl
      rw [hmk] at h
      replace h : P .non (w.up x (.ins CW (wallF C (p, mrg p r)))) := h
      have hFl : r.length = l.length := by
        have e := congrArg List.length eF
        rw [List.length_zipWith, List.length_cons, List.length_cons, List.length_append, hl] at e
        simp at e; exact e
      have hF : ∀ (j : Nat) (q : Pc), (p :: r)[j]? = some q → (a0 :: l)[j]? = some (q.1, q.2.1) ∧ (ss ++ [s])[j]? = some q.2.2 := fun j q hq => by
        rw [eF, List.getElem?_zipWith] at hq
        cases e1 : (a0 :: l)[j]? with
        | none => rw [e1] at hq; cases hq
        | some u =>
          cases e2 : (ss ++ [s])[j]? with
          | none => rw [e1, e2] at hq; cases hq
          | some t => rw [e1, e2] at hq; cases hq; exact ⟨rfl, rfl⟩
      walk_at "expr"
      refine ve_append ?_
      walk_at "go"
      refine ⟨⟨_, W.up_same⟩, ?_⟩
      walk_at "go"
      refine ⟨_, W.up_same, by rw [List.length_map, hl]; show l.length < 2 ^ 24; omega, ?_⟩
      have eS : (ss.map D.int ++ [D.int s]) = (ss ++ [s]).map D.int := by rw [List.map_append]; rfl
      rw [W.up_up, eS]
      obtain ⟨f0, g0⟩ := hF 0 p rfl
      have ea0 : a0 = (p.1, p.2.1) := by simpa using f0
      have zx : ∀ a, (w.up sl (.lst ((ss ++ [s]).map D.int))) a = none → a ≠ sl ∧ a ≠ x ∧ w a = none := fun a ha => by
        have q1 : a ≠ sl := fun e => by subst e; rw [W.up_same] at ha; cases ha
        rw [W.up_ne q1] at ha
        exact ⟨q1, (fun e => by subst e; rw [hx] at ha; cases ha), ha⟩
      walk_at "fld"
      refine ve_lstM ?_
      walk_at "go"
      refine vx_seq (up sl _ hsl) (atI_nat (n := 0) rfl rfl) ?_
      walk_at "go"
      intro a1 ha1
      obtain ⟨y1, y2, y3⟩ := zx a1 ha1
      walk_at "go"
      refine ⟨CW, [], by rw [W.up_ne (Ne.symm y2), W.up_ne (Ne.symm hne)]; exact hx, hW, n1, by decide, ?_⟩
      walk_at "fld"
      refine ve_lstM ?_
      walk_at "go"
      have hx3 : ∀ {w0 : W} {m n : MO}, ((w.up sl m).up a1 n).up x (.ins CW (putD "_points" (.obj a1) [])) = w0 → w0 x = some (.ins CW [("_points", .obj a1)]) ∧ w0 a1 = some n ∧ w0 sl = some m ∧ ∀ z, z ≠ x → z ≠ a1 → z ≠ sl → w0 z = w z := fun {w0 m n} e => by
        subst e
        refine ⟨W.up_same, by rw [W.up_ne y2, W.up_same], by rw [W.up_ne hne, W.up_ne (Ne.symm y1), W.up_same], fun z z1 z2 z3 => by rw [W.up_ne z1, W.up_ne z2, W.up_ne z3]⟩
      generalize hw3 : ((w.up sl (.lst ((ss ++ [s]).map D.int))).up a1 (.lst [ptD C a0])).up x (.ins CW (putD "_points" (.obj a1) [])) = w3
      obtain ⟨k1, k2, k3, k4⟩ := hx3 hw3
      refine vx_seq (seqD_obj k3) (atI_nat (n := 0) (map_get g0) rfl) ?_
      walk_at "go"
      intro a2 ha2
      have t1 : a2 ≠ x := fun e => by subst e; rw [k1] at ha2; cases ha2
      have t2 : a2 ≠ a1 := fun e => by subst e; rw [k2] at ha2; cases ha2
      have t3 : a2 ≠ sl := fun e => by subst e; rw [k3] at ha2; cases ha2
      have t4 : w a2 = none := by rw [← k4 a2 t1 t2 t3]; exact ha2
      walk_at "go"
      refine ⟨CW, _, by rw [W.up_ne (Ne.symm t1)]; exact k1, hW, n2, by show 1 < 1000; decide, ?_⟩
      have hputS : putD ("_slopes" : Str) (.obj a2) [(("_points" : Str), D.obj a1)] = [(("_points" : Str), D.obj a1), (("_slopes" : Str), D.obj a2)] := by
        rw [put_there (by decide +kernel), put_nil]
      rw [hputS]
      -- the store while the second loop runs
      let stw : List Pc → W := fun q z => if z = x then some (.ins CW [("_points", .obj a1), ("_slopes", .obj a2)]) else if z = a1 then some (.lst (q.map (pcD C))) else if z = a2 then some (.lst (q.map slD)) else if z = sl then some (.lst ((ss ++ [s]).map D.int)) else w z
      have st0 : (w3.up a2 (.lst [D.int p.2.2])).up x (.ins CW [("_points", .obj a1), ("_slopes", .obj a2)]) = stw [p] := by
        funext z
        show _ = if z = x then _ else if z = a1 then _ else if z = a2 then _ else if z = sl then _ else w z
        by_cases z1 : z = x
        · rw [if_pos z1, z1, W.up_same]
        · rw [if_neg z1, W.up_ne z1]
          by_cases z2 : z = a1
          · rw [if_pos z2, z2, W.up_ne (Ne.symm t2), k2, ea0]; rfl
          · rw [if_neg z2]
            by_cases z3 : z = a2
            · rw [if_pos z3, z3, W.up_same]; rfl
            · rw [if_neg z3, W.up_ne z3]
              by_cases z4 : z = sl
              · rw [if_pos z4, z4, k3]
              · rw [if_neg z4, k4 z z1 z2 z4]
      have sx : ∀ q, stw q x = some (.ins CW [("_points", .obj a1), ("_slopes", .obj a2)]) := fun q => if_pos rfl
      have sa1 : ∀ q, stw q a1 = some (.lst (q.map (pcD C))) := fun q => by
        show (if a1 = x then _ else if a1 = a1 then _ else _) = _
        rw [if_neg y2, if_pos rfl]
      have sa2 : ∀ q, stw q a2 = some (.lst (q.map slD)) := fun q => by
        show (if a2 = x then _ else if a2 = a1 then _ else if a2 = a2 then _ else _) = _
        rw [if_neg t1, if_neg t2, if_pos rfl]
      have ssl : ∀ q, stw q sl = some (.lst ((ss ++ [s]).map D.int)) := fun q => by
        show (if sl = x then _ else if sl = a1 then _ else if sl = a2 then _ else if sl = sl then _ else _) = _
        rw [if_neg hne, if_neg (Ne.symm y1), if_neg (Ne.symm t3), if_pos rfl]
      have sw : ∀ q z, z ≠ x → z ≠ a1 → z ≠ a2 → z ≠ sl → stw q z = w z := fun q z z1 z2 z3 z4 => by
        show (if z = x then _ else if z = a1 then _ else if z = a2 then _ else if z = sl then _ else w z) = _
        rw [if_neg z1, if_neg z2, if_neg z3, if_neg z4]
      have sup : ∀ q v, ((stw q).up a1 (.lst (q.map (pcD C) ++ [pcD C v]))).up a2 (.lst (q.map slD ++ [slD v])) = stw (q ++ [v]) := fun q v => by
        funext z
        by_cases z3 : z = a2
        · rw [z3, W.up_same, sa2, List.map_append]; rfl
        · rw [W.up_ne z3]
          by_cases z2 : z = a1
          · rw [z2, W.up_same, sa1, List.map_append]; rfl
          · rw [W.up_ne z2]
            by_cases z1 : z = x
            · rw [z1, sx, sx]
            · by_cases z4 : z = sl
              · rw [z4, ssl, ssl]
              · rw [sw q z z1 z2 z3 z4, sw _ z z1 z2 z3 z4]
      have sd : ∀ q, seqD (stw q) d = some ((a0 :: l).map (ptD C)) := fun q => by
        have key : ∀ b, w b = some (.lst ((a0 :: l).map (ptD C))) → stw q b = some (.lst ((a0 :: l).map (ptD C))) := fun b hb => by
          rw [sw q b (fun e => by rw [e, hx] at hb; cases hb) (fun e => by rw [e, y3] at hb; cases hb) (fun e => by rw [e, t4] at hb; cases hb) (fun e => by rw [e, hsl] at hb; cases hb), hb]
        cases d with
        | obj b =>
          have hb : w b = some (.lst ((a0 :: l).map (ptD C))) := by
            unfold lstD at hd
            simp only at hd
            cases e : w b with
            | none => rw [e] at hd; cases hd
            | some m => rw [e] at hd; cases m <;> first | (cases hd; rfl) | cases hd
          exact seqD_obj (key b hb)
        | lst es => exact hd2
        | _ => cases hd
      refine vss_subW (w' := stw [p]) (fun z m hz => by rw [st0]; exact hz) ?_
      clear_value stw
      refine vss_cons (vs_for [4] rfl (vi_range2 (by decide +kernel) B.range ?_))
      walk_at "go"
      refine vcl_len (itemsD_of (sd _)) ?_
      walk_at "go"
      rw [hlen]
      refine ⟨1, _, rfl, by omega, ?_⟩
      rw [hn]
      refine ⟨fun i Γ w' => ∃ (g : Option D), Γ = [some (.obj x), some d, some (.int s), some (.obj sl), g] ∧ w' = stw (p :: mrg p (r.take i)), ⟨_, rfl, rfl⟩, fun _ _ _ _ _ => True.intro, ?_, ?_⟩
      · rintro i dd Γ w' hdd ⟨g, rfl, rfl⟩
        obtain ⟨hi, rfl⟩ := rngD_get hdd
        obtain ⟨u, hu⟩ : ∃ u, (p :: r)[i]? = some u := ⟨_, List.getElem?_eq_getElem (by rw [List.length_cons]; omega)⟩
        obtain ⟨v, hv⟩ : ∃ v, (p :: r)[i + 1]? = some v := ⟨_, List.getElem?_eq_getElem (by rw [List.length_cons]; omega)⟩
        obtain ⟨u1, u2⟩ := hF i u hu
        obtain ⟨v1, v2⟩ := hF (i + 1) v hv
        have stp := mrg_step p r i v u (by simpa using hv) hu
        have hml := mrg_len p (r.take i)
        rw [List.length_take] at hml
        refine vg_nm (by walk_at "ix") (by decide +kernel) ?_
        walk_at "if"
        walk_at "go"
        refine vx_seq (seqD_obj (ssl _)) (atI_nat (n := i + 1) (map_get v2) (by omega)) ?_
        walk_at "go"
        refine vx_seq (seqD_obj (ssl _)) (atI_nat (n := i) (map_get u2) (by omega)) ?_
        walk_at "go"
        refine ite_ndec (fun h3 => ?_) (fun h3 => ?_)
        · rw [if_pos h3] at stp
          walk_at "expr"
          refine ve_append (ve_fld ?_)
          walk_at "go"
          refine fld_obj (sx _) lk_here ⟨hW, n1, asObj_i ⟨⟨_, sa1 _⟩, ?_⟩⟩
          walk_at "go"
          refine vx_seq (sd _) (atI_nat (n := i + 1) (map_get v1) (by omega)) ?_
          refine ⟨_, sa1 _, by rw [List.length_map, List.length_cons]; show _ < 2 ^ 24; omega, ?_⟩
          walk_at "expr"
          refine ve_append (ve_fld ?_)
          walk_at "go"
          refine fld_obj (by rw [W.up_ne (Ne.symm y2)]; exact sx _) (lk_there (by decide +kernel) lk_here) ⟨hW, n2, asObj_i ⟨⟨_, by rw [W.up_ne t2]; exact sa2 _⟩, ?_⟩⟩
          walk_at "go"
          refine vx_seq (seqD_obj (by rw [W.up_ne (Ne.symm y1)]; exact ssl _)) (atI_nat (n := i + 1) (map_get v2) (by omega)) ?_
          refine ⟨_, by rw [W.up_ne t2]; exact sa2 _, by rw [List.length_map, List.length_cons]; show _ < 2 ^ 24; omega, ?_⟩
          walk_at "nil"
          walk_at "nil"
          refine ⟨_, rfl, ?_⟩
          rw [stp]
          exact sup (p :: mrg p (r.take i)) v
        · rw [if_neg (fun z => z h3)] at stp
          walk_at "nil"
          walk_at "nil"
          exact ⟨_, rfl, by rw [stp, List.append_nil]⟩
      · rintro Γ w' ⟨g, rfl, rfl⟩
        rw [rngD_len, List.take_of_length_le (by omega)]
        refine vss_frzF "_points" (sx _) lk_here (sa1 _) y2 rfl ?_
        rw [put_here]
        refine vss_frzF "_slopes" W.up_same (lk_there (by decide +kernel) lk_here) (m := .lst ((p :: mrg p r).map slD)) (by rw [W.up_ne t1, W.del_ne t2]; exact sa2 _) t1 rfl ?_
        rw [put_there (by decide +kernel), put_here]
        refine vss_subW (w' := w.up x (.ins CW (wallF C (p, mrg p r)))) (fun z m hz => ?_) (vss_nil h)
        by_cases z1 : z = x
        · rw [z1, W.up_same] at hz ⊢; exact hz
        · rw [W.up_ne z1] at hz ⊢
          have q2 : z ≠ a1 := fun e => by rw [e, y3] at hz; cases hz
          have q3 : z ≠ a2 := fun e => by rw [e, t4] at hz; cases hz
          have q4 : z ≠ sl := fun e => by rw [e, hsl] at hz; cases hz
          rw [W.del_ne q3, W.up_ne z1, W.del_ne q2, sw _ z z1 q2 q3 q4]
          exact hz
end Wl

end

section
set_option maxRecDepth 100000
set_option maxHeartbeats 4000000
open PySem PySem.Spec PyProof.Rows L2 VL
local macro_rules | `(tactic| walk_at "ix") => `(tactic| first | with_reducible exact ix0 | with_reducible exact ix1 | with_reducible exact ix2 | with_reducible exact ix3 | with_reducible exact ix4 | with_reducible exact ix5 | with_reducible exact ix6 | with_reducible exact ix7 | with_reducible exact ix8 | with_reducible exact ix9 | with_reducible exact ix10 | with_reducible exact ix11 | with_reducible exact ix12 | with_reducible exact ix13 | with_reducible exact ix14 | with_reducible exact ix15 | with_reducible exact ix16)
local macro_rules | `(tactic| walk_at "num") => `(tactic| first | assumption | decide | omega | exact ⟨by decide, by decide⟩ | exact .inr ⟨by decide, by decide⟩ | exact .inl ⟨by decide, by decide⟩ | exact ⟨by omega, by omega, by omega⟩)
/- a name -/
local macro_rules | `(tactic| walk_at "name") => `(tactic| ((with_reducible refine' ve_nm ?hN ?hv ?hG ?_); (case hN => walk_at "ix"); (case hv => decide +kernel); (case hG => rfl)))
local macro_rules | `(tactic| walk_at "glob") => `(tactic| first
  | ((with_reducible refine' ve_gO ?hg ?hm ?_); (case hm => with_reducible assumption); (case hg => decide +kernel))
  | ((with_reducible refine' ve_gI ?hg ?hm ?_); (case hm => with_reducible assumption); (case hg => decide +kernel)))
local macro_rules | `(tactic| walk_at "tyname") => `(tactic| first
  | ((with_reducible refine' ve_ty "int" ?hg ?hm ?hv ?_); (case hg => decide +kernel); (case hm => exact (‹Blt _›).int); (case hv => exact bt_int))
  | ((with_reducible refine' ve_ty "bool" ?hg ?hm ?hv ?_); (case hg => decide +kernel); (case hm => exact (‹Blt _›).bool); (case hv => exact bt_bool))
  | ((with_reducible refine' ve_ty "str" ?hg ?hm ?hv ?_); (case hg => decide +kernel); (case hm => exact (‹Blt _›).str); (case hv => exact bt_str))
  | ((with_reducible refine' ve_ty "list" ?hg ?hm ?hv ?_); (case hg => decide +kernel); (case hm => exact (‹Blt _›).list); (case hv => exact bt_list))
  | ((with_reducible refine' ve_ty "tuple" ?hg ?hm ?hv ?_); (case hg => decide +kernel); (case hm => exact (‹Blt _›).tuple); (case hv => exact bt_tuple)))
local macro_rules | `(tactic| walk_at "blt") => `(tactic| first
  | ((with_reducible refine' blt1 "len" ?hg ?hm ?hv ?_ ?he); (case hg => decide +kernel); (case hm => exact (‹Blt _›).len); (case hv => exact bt_len); (case he => rfl))
  | ((with_reducible refine' blt1 "sum" ?hg ?hm ?hv ?_ ?he); (case hg => decide +kernel); (case hm => exact (‹Blt _›).sum); (case hv => exact bt_sum); (case he => rfl))
  | ((with_reducible refine' blt1 "abs" ?hg ?hm ?hv ?_ ?he); (case hg => decide +kernel); (case hm => exact (‹Blt _›).abs); (case hv => exact bt_abs); (case he => rfl))
  | ((with_reducible refine' blt1 "sorted" ?hg ?hm ?hv ?_ ?he); (case hg => decide +kernel); (case hm => exact (‹Blt _›).sorted); (case hv => exact bt_sorted); (case he => rfl))
  | ((with_reducible refine' blt1 "all" ?hg ?hm ?hv ?_ ?he); (case hg => decide +kernel); (case hm => exact (‹Blt _›).all); (case hv => exact bt_all); (case he => rfl))
  | ((with_reducible refine' blt1 "any" ?hg ?hm ?hv ?_ ?he); (case hg => decide +kernel); (case hm => exact (‹Blt _›).any); (case hv => exact bt_any); (case he => rfl))
  | ((with_reducible refine' blt1 "max" ?hg ?hm ?hv ?_ ?he); (case hg => decide +kernel); (case hm => exact (‹Blt _›).max); (case hv => exact bt_max); (case he => rfl))
  | ((with_reducible refine' blt1 "min" ?hg ?hm ?hv ?_ ?he); (case hg => decide +kernel); (case hm => exact (‹Blt _›).min); (case hv => exact bt_min); (case he => rfl))
  | ((with_reducible refine' blt2 "isinstance" ?hg ?hm ?hv ?_ ?he ?hf); (case hg => decide +kernel); (case hm => exact (‹Blt _›).isi); (case hv => exact bt_isi); (case he => rfl); (case hf => rfl))
  | ((with_reducible refine' blt2 "max" ?hg ?hm ?hv ?_ ?he ?hf); (case hg => decide +kernel); (case hm => exact (‹Blt _›).max); (case hv => exact bt_max); (case he => rfl); (case hf => rfl))
  | ((with_reducible refine' blt2 "min" ?hg ?hm ?hv ?_ ?he ?hf); (case hg => decide +kernel); (case hm => exact (‹Blt _›).min); (case hv => exact bt_min); (case he => rfl); (case hf => rfl))
  | ((with_reducible refine' bty1 "int" ?hg ?hm ?hv ?_ ?he); (case hg => decide +kernel); (case hm => exact (‹Blt _›).int); (case hv => exact bt_int); (case he => rfl))
  | ((with_reducible refine' bty1 "list" ?hg ?hm ?hv ?_ ?he); (case hg => decide +kernel); (case hm => exact (‹Blt _›).list); (case hv => exact bt_list); (case he => rfl))
  | ((with_reducible refine' bty1 "tuple" ?hg ?hm ?hv ?_ ?he); (case hg => decide +kernel); (case hm => exact (‹Blt _›).tuple); (case hv => exact bt_tuple); (case he => rfl))
  | ((with_reducible refine' bty1 "str" ?hg ?hm ?hv ?_ ?he); (case hg => decide +kernel); (case hm => exact (‹Blt _›).str); (case hv => exact bt_str); (case he => rfl)))
/- a call of a def of the text, its Callable in the context -/
local macro_rules | `(tactic| walk_at "call") => `(tactic| first
  | ((with_reducible refine' call1 ?h ?hc ?hj ?hg ?_ ?h1); (case h => with_reducible assumption); (case hc => rfl); (case hg => decide +kernel); (case hj => first | decide | omega); (case h1 => rfl))
  | ((with_reducible refine' call2 ?h ?hc ?hj ?hg ?_ ?h1 ?h2); (case h => with_reducible assumption); (case hc => rfl); (case hg => decide +kernel); (case hj => first | decide | omega); (case h1 => rfl); (case h2 => rfl))
  | ((with_reducible refine' call3 ?h ?hc ?hj ?hg ?_ ?h1 ?h2 ?h3); (case h => with_reducible assumption); (case hc => rfl); (case hg => decide +kernel); (case hj => first | decide | omega); (case h1 => rfl); (case h2 => rfl); (case h3 => rfl))
  | ((with_reducible refine' call4 ?h ?hc ?hj ?hg ?_ ?h1 ?h2 ?h3 ?h4); (case h => with_reducible assumption); (case hc => rfl); (case hg => decide +kernel); (case hj => first | decide | omega); (case h1 => rfl); (case h2 => rfl); (case h3 => rfl); (case h4 => rfl))
  | ((with_reducible refine' call0 ?h ?hc ?hj ?hg ?_); (case h => with_reducible assumption); (case hc => rfl); (case hg => decide +kernel); (case hj => first | decide | omega)))
/- one step -/
local macro_rules | `(tactic| walk_at "v") => `(tactic| first
  | with_reducible refine' asB_i ?_
  | with_reducible refine' asInt_i ?_
  | with_reducible refine' asObj_i ?_
  | with_reducible refine' if_t ?_
  | with_reducible refine' if_f ?_
  | with_reducible refine' if_nt ?_
  | with_reducible refine' if_nf ?_
  | ((with_reducible refine' if_dt ?h ?_); (case h => first | assumption | omega))
  | ((with_reducible refine' if_df ?h ?_); (case h => first | assumption | omega))
  | ((with_reducible refine' if_ndt ?h ?_); (case h => first | assumption | omega))
  | ((with_reducible refine' if_ndf ?h ?_); (case h => first | assumption | omega))
  | with_reducible refine' ve_int ?_
  | with_reducible refine' ve_str ?_
  | with_reducible refine' ve_bl ?_
  | with_reducible refine' ve_non ?_
  | walk_at "name"
  | with_reducible refine' ve_bin ?_
  | with_reducible refine' ve_cmp rfl ?_
  | with_reducible refine' vt_cmp rfl ?_
  | with_reducible refine' ve_not ?_
  | with_reducible refine' vt_not ?_
  | with_reducible refine' ve_and ?_
  | with_reducible refine' ve_or ?_
  | with_reducible refine' ve_one ?_
  | with_reducible refine' vw_and ?_
  | with_reducible refine' vw_or ?_
  | with_reducible refine' vw_and1 ?_
  | with_reducible refine' vw_or1 ?_
  | with_reducible refine' va_nil ?_
  | with_reducible refine' va_cons ?_ rfl
  | with_reducible refine' vo_add ?_
  | with_reducible refine' vo_sub ?_
  | with_reducible refine' vo_lt ?_
  | with_reducible refine' vo_le ?_
  | with_reducible refine' vo_gt ?_
  | with_reducible refine' vo_ge ?_
  | with_reducible refine' vo_eq ?_
  | with_reducible refine' vo_ne ?_
  | with_reducible refine' vo_eqS ?_
  | with_reducible refine' vo_neS ?_
  | with_reducible refine' vo_eqB ?_
  | with_reducible refine' vo_is ?_
  | with_reducible refine' vo_isnot ?_
  | with_reducible refine' vu_neg ?_
  | ((with_reducible refine' vo_mod ?h ?_); (case h => walk_at "num"))
  | ((with_reducible refine' vo_fdiv ?h ?_); (case h => walk_at "num"))
  | ((with_reducible refine' vo_mul ?h ?_); (case h => walk_at "num"))
  | ((with_reducible refine' vo_pow ?h ?_); (case h => walk_at "num"))
  | ((with_reducible refine' vo_shl ?h ?_); (case h => walk_at "num"))
  | ((with_reducible refine' ve_chain ?_ ?h); (case h => rfl))
  | ((with_reducible refine' vt_chain ?_ ?h); (case h => rfl))
  | with_reducible refine' ve_un ?_
  | with_reducible refine' ve_if ?_
  | with_reducible refine' vt_w (vw_and ?_)
  | with_reducible refine' vt_w (vw_or ?_)
  | ((with_reducible refine' and_len ?h ?_); (case h => exact len_small rfl))
  | walk_at "spec"
  | walk_at "call"
  | walk_at "blt"
  | ((with_reducible refine' ve_ix ?_ ?h); (case h => exact fun _ _ => rfl))
  | ((with_reducible refine' ve_tup ?_ ?h); (case h => exact pe_tup pa_w))
  | with_reducible refine' ve_lst ?_
  | walk_at "glob"
  | ((with_reducible refine' vt_tr ?_ ?he); (case he => intro _; rfl))
  | with_reducible refine' tr_bl ?_
  | with_reducible refine' tr_int ?_
  | with_reducible refine' tr_non ?_
  | with_reducible refine' tr_tup ?_
  | with_reducible refine' tr_lst ?_
  | walk_at "tyname"
  | ((with_reducible refine' vx_tup ?h ?_); (case h => rfl))
  | with_reducible refine' vcl_int ?_)
local macro_rules | `(tactic| walk_at "go") => `(tactic| repeat walk_at "v")
/- one statement: a name stored -/
local macro_rules | `(tactic| walk_at "let") => `(tactic| (refine' vss_cons (vs_lt ?hi ?hx ?_ ?hs); (case hi => walk_at "ix"); (case hx => decide +kernel); (case hs => rfl)))
local macro_rules | `(tactic| walk_at "ret") => `(tactic| refine' vss_cons (vs_ret ?_))
local macro_rules | `(tactic| walk_at "fld") => `(tactic| (refine' vss_cons (vs_fld ?_ ?hs); (case hs => rfl)))
local macro_rules | `(tactic| walk_at "if") => `(tactic| refine' vss_cons (vs_if ?_))
local macro_rules | `(tactic| walk_at "expr") => `(tactic| (refine' vss_cons (vs_expr ?_ ?hs); (case hs => rfl)))
local macro_rules | `(tactic| walk_at "nil") => `(tactic| refine' vss_nil ?_)
namespace Wl
open Wm
local macro_rules | `(tactic| walk_at "okn") => `(tactic| first | assumption | (refine' okn_R ?_ ?_ ?_ <;> omega))
variable {E : EnvR}
/-! ### the class Wall -/
structure Wa (E : EnvR) (C CW CB : Addr) : Prop where
  B : Blt E
  dy : Dy3 E C
  cl : Cls E.K CW
  n1 : NoAttr E.K CW "_points"
  n2 : NoAttr E.K CW "_slopes"
  mkW : Callable E "Wall" 8 2 fun ds w P R => mkSpec CW (S_Winit C CW CB) (ds ++ []) w P R
  tm : Callable E "times" 5 2 (S_times C)
theorem lstD_up {x : D} {ds : List D} {w : W} {a : Addr} {m : MO} (hx : lstD w x = some ds) (ha : w a = none) : lstD (w.up a m) x = some ds := by
  cases x with
  | obj b =>
    have hne : b ≠ a := by
      intro e; subst e
      unfold lstD at hx
      simp only [ha] at hx
      cases hx
    unfold lstD at hx ⊢
    simp only at hx ⊢
    rw [W.up_ne hne]
    exact hx
  | _ => exact hx
section
variable {N : List Str} {sc : Scope} {k : Nat} {b : Md} {c : VC E N sc k b} {Γ : G} {w : W} {P : D → W → Prop} {C CW CB : Addr} {p pos apos p1 p2 tp : Pos}
theorem ve_wall {a1 a2 : Expr} (T : Wa E C CW CB) (hc : b.calm = true) (hj : 8 ≤ k) (hg : glB sc "Wall" = true)
    (q : VE c a1 Γ w fun d w1 => VE c a2 Γ w1 fun d2 w2 => asInt d2 fun s => ∃ pts : List (Int × Int), lstD w2 d = some (pts.map (ptD C)) ∧ (∀ q ∈ pts, Rq 576460752303423488 q) ∧ pts.length < 1000000 ∧
      match mkW pts s with | some A => P (wallD C CW A) w2 | none => ∀ w', W.Sub w2 w' → c.R CB w')
    (h1 : starEach [a1, a2] c.X.env = (false, eval a1 c.X.env) :: starEach [a2] c.X.env) (h2 : starEach [a2] c.X.env = (false, eval a2 c.X.env) :: starEach [] c.X.env) : VE c (.Call (.Name "Wall" p) [a1, a2] [] pos) Γ w P := by
  refine ve_frz (call2 T.mkW hc hj hg (q.imp fun d1 w1 z => z.imp fun d2 w2 z => ?_) h1 h2)
  unfold asInt at z
  split at z
  · rename_i s
    obtain ⟨pts, hp, hr, hz, h⟩ := z
    intro x hx
    refine ⟨x, d1, s, pts, rfl, lstD_up hp hx, W.up_same, hr, hz, ?_⟩
    cases e : mkW pts s with
    | none =>
      rw [e] at h
      exact fun w' hw => h w' ((W.Sub.up hx).trans hw)
    | some A =>
      rw [e] at h
      exact ⟨rfl, _, _, W.up_same, rfl, by rw [W.up_up, W.del_up_id hx]; exact h⟩
  · exact z.elim
theorem vg_two {i j : Nat} {x y : Str} {m : Nat} {d e : D} {Q : G → W → Prop} (hc : b.calm = true) (hi : IxOf N x i) (hx : stoB sc b x = true) (hj : IxOf N y j) (hy : stoB sc b y = true) (h : Q ((Γ.set i (some d)).set j (some e)) w)
    (hn : (assignEach [.Name x p1, .Name y p2] c.X.env).length = 2) (hst : (assignEach [.Name x p1, .Name y p2] c.X.env).findIdx? (·.1) = none)
    (hs1 : (assignEach [.Name x p1, .Name y p2] c.X.env).map (·.2) = assign (.Name x p1) c.X.env :: (assignEach [.Name y p2] c.X.env).map (·.2)) (hs2 : (assignEach [.Name y p2] c.X.env).map (·.2) = assign (.Name y p2) c.X.env :: (assignEach [] c.X.env).map (·.2)) :
    VG c (.Tuple [.Name x p1, .Name y p2] m tp) [i, j] (.tup [d, e]) Γ w Q :=
  vg_tup (L := [i] ++ ([j] ++ [])) hc rfl (vgs_cons (vg_nm hi hx (vgs_cons (vg_nm hj hy (vgs_nil h)) hs2)) hs1) hn hst
theorem fld_pts {A : Wal} {q : Addr → D → Prop} (h : q CW (.lst ((A.1 :: A.2).map (pcD C)))) : fieldD w (wallD C CW A) "_points" q := fld_ins lk_here h
theorem fld_sls {A : Wal} {q : Addr → D → Prop} (h : q CW (.lst ((A.1 :: A.2).map slD))) : fieldD w (wallD C CW A) "_slopes" q := fld_ins (lk_there (by decide +kernel) lk_here) h
theorem insD_w {A : Wal} {m : Str} (h1 : (m == ("_points" : Str)) = false) (h2 : (m == ("_slopes" : Str)) = false) : InsD w (wallD C CW A) CW m := ⟨rfl, lk_none h1 (lk_none h2 rfl)⟩
end
local macro_rules | `(tactic| walk_at "two") => `(tactic| (refine vg_two rfl (by walk_at "ix") (by decide +kernel) (by walk_at "ix") (by decide +kernel) ?_ rfl rfl rfl rfl))
def S_place (C CW CB : Addr) : SpV := fun ds w P R => ∃ (A : Wal) (x : Int), ds = [wallD C CW A, dy C x] ∧ (∀ q ∈ A.1 :: A.2, Okn q.1) ∧ Okn x ∧ if x < 0 then R CB w else ∀ i : Nat, (A.1 :: A.2)[i]? = some (fpc A.1 A.2 x) → P (.int (i : Int)) w
def S_at (C CW CB : Addr) : SpV := fun ds w P R => ∃ (A : Wal) (x : Int), ds = [wallD C CW A, dy C x] ∧ SmW A ∧ Rn 144115188075855872 x ∧ if x < 0 then R CB w else P (dy C (V A x)) w
def S_slope_at (C CW CB : Addr) : SpV := fun ds w P R => ∃ (A : Wal) (x : Int), ds = [wallD C CW A, dy C x] ∧ SmW A ∧ Rn 144115188075855872 x ∧ if x < 0 then R CB w else P (.int (S A x)) w
def S_slope_p (C CW : Addr) : SpV := fun ds w P _ => ∃ A : Wal, ds = [wallD C CW A] ∧ P (.int (lastS A)) w
def S_points (C CW : Addr) : SpV := fun ds w P _ => ∃ A : Wal, ds = [wallD C CW A] ∧ ∀ a, w a = none → P (.obj a) (w.up a (.lst ((A.1 :: A.2).map (pcD C))))
def S_turned (C CW : Addr) : SpV := fun ds w P _ => ∃ A : Wal, ds = [wallD C CW A] ∧ SmW A ∧ Can A.1 A.2 ∧ A.2.length < 100000 ∧ P (wallD C CW (ngW A)) w
theorem okn_sm {A : Wal} (h : SmW A) : ∀ q ∈ A.1 :: A.2, Okn q.1 := fun q hq => by
  obtain ⟨⟨a, b, c⟩, _⟩ := h.bd q hq
  refine okn_R ?_ ?_ ?_ <;> omega
local macro_rules | `(tactic| walk_at "spec") => `(tactic| first
  | with_reducible refine' asDy_i ?_
  | ((with_reducible refine' ve_dyT ?hT ?hc ?hj ?_ ?h1); (case hT => exact (‹Dy3 _ _›).d2.d1); (case hc => rfl); (case hj => decide); (case h1 => rfl))
  | ((with_reducible refine' vo_dyadd ?hT ?hc ?hj ?hx ?hy ?hz ?_); (case hT => exact (‹Dy3 _ _›).d2); (case hc => rfl); (case hj => decide); (case hx => walk_at "okn"); (case hy => walk_at "okn"); (case hz => walk_at "okn"))
  | ((with_reducible refine' vu_dyneg ?hT ?hc ?hj ?hx ?_); (case hT => exact (‹Dy3 _ _›).d2); (case hc => rfl); (case hj => decide); (case hx => walk_at "okn"))
  | ((with_reducible refine' vo_dysub ?hT ?hc ?hj ?hx ?hy ?hz ?_); (case hT => assumption); (case hc => rfl); (case hj => decide); (case hx => walk_at "okn"); (case hy => walk_at "okn"); (case hz => walk_at "okn"))
  | ((with_reducible refine' ve_dyless _ ?hT ?hc ?hj ?_ ?h1 ?h2); (case hT => assumption); (case hc => rfl); (case hj => decide); (case h1 => rfl); (case h2 => rfl))
  | ((with_reducible refine' ok2_i ?hx ?hy ?_); (case hx => walk_at "okn"); (case hy => walk_at "okn")))
theorem ok_place {f C CW CB : Addr} {fd : FuncData} (X : ExcF E "BadValue" CB) (T : Wa E C CW CB) (F : Fun E.K "_place" "Wall._place" s_Wall__place f fd) : FnV E 5 f fd p_Wall__place (S_place C CW CB) := by
  have B := T.B
  have D3 := T.dy
  refine fnV F sc_Wall__place (fun ds w P R h => ?_) (fun c ds w P h => ?_)
  · obtain ⟨a, b, rfl, _⟩ := h; rfl
  · obtain ⟨A, x, rfl, hA, hx, h⟩ := h
    walk_at "if"
    walk_at "go"
    refine ite_dec (fun h1 => ?_) (fun h1 => ?_)
    · rw [if_pos ((pt_neg x).mp h1)] at h
      exact vss_cons (vs_raise X rfl (by decide +kernel) h)
    rw [if_neg (fun z => h1 ((pt_neg x).mpr z))] at h
    walk_at "nil"
    walk_at "let"
    walk_at "go"
    refine vss_cons (vs_for [3, 4] rfl (vi_enum (by decide +kernel) B.enum (va_cons (ve_fld ?_) rfl) rfl))
    walk_at "go"
    refine fld_pts ⟨T.cl, T.n1, ?_⟩
    walk_at "go"
    refine ⟨_, _, rfl, rfl, ?_⟩
    refine ⟨fun i Γ w' => w' = w ∧ ∃ (j : Nat) (g1 g2 : Option D), Γ = [some (wallD C CW A), some (dy C x), some (.int (j : Int)), g1, g2] ∧ (A.1 :: A.2)[j]? = some (fpc A.1 (A.2.take (i - 1)) x), ⟨rfl, 0, none, none, rfl, rfl⟩, fun _ _ _ _ _ => True.intro, ?_, ?_⟩
    · rintro i d Γ w' hd ⟨rfl, j, g1, g2, rfl, hj⟩
      obtain ⟨d0, hd0, rfl⟩ := enumD_get hd
      rw [List.getElem?_map] at hd0
      cases hq : (A.1 :: A.2)[i]? with
      | none => rw [hq] at hd0; cases hd0
      | some q =>
        rw [hq] at hd0
        cases hd0
        have hok := hA q (List.mem_of_getElem? hq)
        walk_at "two"
        walk_at "if"
        walk_at "go"
        refine vx_tup rfl ?_
        walk_at "go"
        have fin : ∀ (b : Bool), (b = decide (x < q.1)) → (∃ (j' : Nat) , (if b = true then j' = j else j' = i) ∧ (A.1 :: A.2)[j']? = some (fpc A.1 (A.2.take (i + 1 - 1)) x)) := fun b hb => by
          subst hb
          rw [Nat.add_sub_cancel]
          cases i with
          | zero =>
            have : A.1 = q := by simpa using hq
            by_cases hlt : x < q.1
            · exact ⟨j, by rw [if_pos (decide_eq_true hlt)], hj⟩
            · exact ⟨0, by rw [if_neg (fun z => hlt (of_decide_eq_true z))], rfl⟩
          | succ i =>
            have hq' : A.2[i]? = some q := by simpa using hq
            have hl : i < A.2.length := (List.getElem?_eq_some_iff.mp hq').1
            have e : A.2.take (i + 1) = A.2.take i ++ [q] := by rw [List.take_add_one, hq']; rfl
            rw [e, fpc_snoc]
            have hj2 : (A.1 :: A.2)[j]? = some (fpc A.1 (A.2.take i) x) := hj
            by_cases hlt : x < q.1
            · exact ⟨j, by rw [if_pos (decide_eq_true hlt)], by rw [if_neg (by omega)]; exact hj2⟩
            · exact ⟨i + 1, by rw [if_neg (fun z => hlt (of_decide_eq_true z))], by rw [if_pos (by omega)]; exact hq⟩
        refine ite_ndec (fun h3 => ?_) (fun h3 => ?_)
        · obtain ⟨j', e1, e2⟩ := fin _ rfl
          rw [if_neg (fun z => h3 (of_decide_eq_true z))] at e1
          subst e1
          walk_at "let"
          walk_at "go"
          walk_at "nil"
          walk_at "nil"
          exact ⟨rfl, _, _, _, rfl, e2⟩
        · obtain ⟨j', e1, e2⟩ := fin _ rfl
          rw [if_pos (decide_eq_true h3)] at e1
          subst e1
          walk_at "nil"
          walk_at "nil"
          exact ⟨rfl, _, _, _, rfl, e2⟩
    · rintro Γ w' ⟨rfl, j, g1, g2, rfl, hj⟩
      rw [enumD_len, List.length_map, List.length_cons, Nat.add_sub_cancel, List.take_length] at hj
      walk_at "ret"
      walk_at "go"
      exact h j hj
end Wl

end

section
set_option maxRecDepth 100000
set_option maxHeartbeats 4000000
open PySem PySem.Spec PyProof.Rows L2 VL
local macro_rules | `(tactic| walk_at "ix") => `(tactic| first | with_reducible exact ix0 | with_reducible exact ix1 | with_reducible exact ix2 | with_reducible exact ix3 | with_reducible exact ix4 | with_reducible exact ix5 | with_reducible exact ix6 | with_reducible exact ix7 | with_reducible exact ix8 | with_reducible exact ix9 | with_reducible exact ix10 | with_reducible exact ix11 | with_reducible exact ix12 | with_reducible exact ix13 | with_reducible exact ix14 | with_reducible exact ix15 | with_reducible exact ix16)
local macro_rules | `(tactic| walk_at "num") => `(tactic| first | assumption | decide | omega | exact ⟨by decide, by decide⟩ | exact .inr ⟨by decide, by decide⟩ | exact .inl ⟨by decide, by decide⟩ | exact ⟨by omega, by omega, by omega⟩)
/- a name -/
local macro_rules | `(tactic| walk_at "name") => `(tactic| ((with_reducible refine' ve_nm ?hN ?hv ?hG ?_); (case hN => walk_at "ix"); (case hv => decide +kernel); (case hG => rfl)))
local macro_rules | `(tactic| walk_at "glob") => `(tactic| first
  | ((with_reducible refine' ve_gO ?hg ?hm ?_); (case hm => with_reducible assumption); (case hg => decide +kernel))
  | ((with_reducible refine' ve_gI ?hg ?hm ?_); (case hm => with_reducible assumption); (case hg => decide +kernel)))
local macro_rules | `(tactic| walk_at "tyname") => `(tactic| first
  | ((with_reducible refine' ve_ty "int" ?hg ?hm ?hv ?_); (case hg => decide +kernel); (case hm => exact (‹Blt _›).int); (case hv => exact bt_int))
  | ((with_reducible refine' ve_ty "bool" ?hg ?hm ?hv ?_); (case hg => decide +kernel); (case hm => exact (‹Blt _›).bool); (case hv => exact bt_bool))
  | ((with_reducible refine' ve_ty "str" ?hg ?hm ?hv ?_); (case hg => decide +kernel); (case hm => exact (‹Blt _›).str); (case hv => exact bt_str))
  | ((with_reducible refine' ve_ty "list" ?hg ?hm ?hv ?_); (case hg => decide +kernel); (case hm => exact (‹Blt _›).list); (case hv => exact bt_list))
  | ((with_reducible refine' ve_ty "tuple" ?hg ?hm ?hv ?_); (case hg => decide +kernel); (case hm => exact (‹Blt _›).tuple); (case hv => exact bt_tuple)))
local macro_rules | `(tactic| walk_at "blt") => `(tactic| first
  | ((with_reducible refine' blt1 "len" ?hg ?hm ?hv ?_ ?he); (case hg => decide +kernel); (case hm => exact (‹Blt _›).len); (case hv => exact bt_len); (case he => rfl))
  | ((with_reducible refine' blt1 "sum" ?hg ?hm ?hv ?_ ?he); (case hg => decide +kernel); (case hm => exact (‹Blt _›).sum); (case hv => exact bt_sum); (case he => rfl))
  | ((with_reducible refine' blt1 "abs" ?hg ?hm ?hv ?_ ?he); (case hg => decide +kernel); (case hm => exact (‹Blt _›).abs); (case hv => exact bt_abs); (case he => rfl))
  | ((with_reducible refine' blt1 "sorted" ?hg ?hm ?hv ?_ ?he); (case hg => decide +kernel); (case hm => exact (‹Blt _›).sorted); (case hv => exact bt_sorted); (case he => rfl))
  | ((with_reducible refine' blt1 "all" ?hg ?hm ?hv ?_ ?he); (case hg => decide +kernel); (case hm => exact (‹Blt _›).all); (case hv => exact bt_all); (case he => rfl))
  | ((with_reducible refine' blt1 "any" ?hg ?hm ?hv ?_ ?he); (case hg => decide +kernel); (case hm => exact (‹Blt _›).any); (case hv => exact bt_any); (case he => rfl))
  | ((with_reducible refine' blt1 "max" ?hg ?hm ?hv ?_ ?he); (case hg => decide +kernel); (case hm => exact (‹Blt _›).max); (case hv => exact bt_max); (case he => rfl))
  | ((with_reducible refine' blt1 "min" ?hg ?hm ?hv ?_ ?he); (case hg => decide +kernel); (case hm => exact (‹Blt _›).min); (case hv => exact bt_min); (case he => rfl))
  | ((with_reducible refine' blt2 "isinstance" ?hg ?hm ?hv ?_ ?he ?hf); (case hg => decide +kernel); (case hm => exact (‹Blt _›).isi); (case hv => exact bt_isi); (case he => rfl); (case hf => rfl))
  | ((with_reducible refine' blt2 "max" ?hg ?hm ?hv ?_ ?he ?hf); (case hg => decide +kernel); (case hm => exact (‹Blt _›).max); (case hv => exact bt_max); (case he => rfl); (case hf => rfl))
  | ((with_reducible refine' blt2 "min" ?hg ?hm ?hv ?_ ?he ?hf); (case hg => decide +kernel); (case hm => exact (‹Blt _›).min); (case hv => exact bt_min); (case he => rfl); (case hf => rfl))
  | ((with_reducible refine' bty1 "int" ?hg ?hm ?hv ?_ ?he); (case hg => decide +kernel); (case hm => exact (‹Blt _›).int); (case hv => exact bt_int); (case he => rfl))
  | ((with_reducible refine' bty1 "list" ?hg ?hm ?hv ?_ ?he); (case hg => decide +kernel); (case hm => exact (‹Blt _›).list); (case hv => exact bt_list); (case he => rfl))
  | ((with_reducible refine' bty1 "tuple" ?hg ?hm ?hv ?_ ?he); (case hg => decide +kernel); (case hm => exact (‹Blt _›).tuple); (case hv => exact bt_tuple); (case he => rfl))
  | ((with_reducible refine' bty1 "str" ?hg ?hm ?hv ?_ ?he); (case hg => decide +kernel); (case hm => exact (‹Blt _›).str); (case hv => exact bt_str); (case he => rfl)))
/- a call of a def of the text, its Callable in the context -/
local macro_rules | `(tactic| walk_at "call") => `(tactic| first
  | ((with_reducible refine' call1 ?h ?hc ?hj ?hg ?_ ?h1); (case h => with_reducible assumption); (case hc => rfl); (case hg => decide +kernel); (case hj => first | decide | omega); (case h1 => rfl))
  | ((with_reducible refine' call2 ?h ?hc ?hj ?hg ?_ ?h1 ?h2); (case h => with_reducible assumption); (case hc => rfl); (case hg => decide +kernel); (case hj => first | decide | omega); (case h1 => rfl); (case h2 => rfl))
  | ((with_reducible refine' call3 ?h ?hc ?hj ?hg ?_ ?h1 ?h2 ?h3); (case h => with_reducible assumption); (case hc => rfl); (case hg => decide +kernel); (case hj => first | decide | omega); (case h1 => rfl); (case h2 => rfl); (case h3 => rfl))
  | ((with_reducible refine' call4 ?h ?hc ?hj ?hg ?_ ?h1 ?h2 ?h3 ?h4); (case h => with_reducible assumption); (case hc => rfl); (case hg => decide +kernel); (case hj => first | decide | omega); (case h1 => rfl); (case h2 => rfl); (case h3 => rfl); (case h4 => rfl))
  | ((with_reducible refine' call0 ?h ?hc ?hj ?hg ?_); (case h => with_reducible assumption); (case hc => rfl); (case hg => decide +kernel); (case hj => first | decide | omega)))
/- one step -/
local macro_rules | `(tactic| walk_at "v") => `(tactic| first
  | with_reducible refine' asB_i ?_
  | with_reducible refine' asInt_i ?_
  | with_reducible refine' asObj_i ?_
  | with_reducible refine' if_t ?_
  | with_reducible refine' if_f ?_
  | with_reducible refine' if_nt ?_
  | with_reducible refine' if_nf ?_
  | ((with_reducible refine' if_dt ?h ?_); (case h => first | assumption | omega))
  | ((with_reducible refine' if_df ?h ?_); (case h => first | assumption | omega))
  | ((with_reducible refine' if_ndt ?h ?_); (case h => first | assumption | omega))
  | ((with_reducible refine' if_ndf ?h ?_); (case h => first | assumption | omega))
  | with_reducible refine' ve_int ?_
  | with_reducible refine' ve_str ?_
  | with_reducible refine' ve_bl ?_
  | with_reducible refine' ve_non ?_
  | walk_at "name"
  | with_reducible refine' ve_bin ?_
  | with_reducible refine' ve_cmp rfl ?_
  | with_reducible refine' vt_cmp rfl ?_
  | with_reducible refine' ve_not ?_
  | with_reducible refine' vt_not ?_
  | with_reducible refine' ve_and ?_
  | with_reducible refine' ve_or ?_
  | with_reducible refine' ve_one ?_
  | with_reducible refine' vw_and ?_
  | with_reducible refine' vw_or ?_
  | with_reducible refine' vw_and1 ?_
  | with_reducible refine' vw_or1 ?_
  | with_reducible refine' va_nil ?_
  | with_reducible refine' va_cons ?_ rfl
  | with_reducible refine' vo_add ?_
  | with_reducible refine' vo_sub ?_
  | with_reducible refine' vo_lt ?_
  | with_reducible refine' vo_le ?_
  | with_reducible refine' vo_gt ?_
  | with_reducible refine' vo_ge ?_
  | with_reducible refine' vo_eq ?_
  | with_reducible refine' vo_ne ?_
  | with_reducible refine' vo_eqS ?_
  | with_reducible refine' vo_neS ?_
  | with_reducible refine' vo_eqB ?_
  | with_reducible refine' vo_is ?_
  | with_reducible refine' vo_isnot ?_
  | with_reducible refine' vu_neg ?_
  | ((with_reducible refine' vo_mod ?h ?_); (case h => walk_at "num"))
  | ((with_reducible refine' vo_fdiv ?h ?_); (case h => walk_at "num"))
  | ((with_reducible refine' vo_mul ?h ?_); (case h => walk_at "num"))
  | ((with_reducible refine' vo_pow ?h ?_); (case h => walk_at "num"))
  | ((with_reducible refine' vo_shl ?h ?_); (case h => walk_at "num"))
  | ((with_reducible refine' ve_chain ?_ ?h); (case h => rfl))
  | ((with_reducible refine' vt_chain ?_ ?h); (case h => rfl))
  | with_reducible refine' ve_un ?_
  | with_reducible refine' ve_if ?_
  | with_reducible refine' vt_w (vw_and ?_)
  | with_reducible refine' vt_w (vw_or ?_)
  | ((with_reducible refine' and_len ?h ?_); (case h => exact len_small rfl))
  | walk_at "spec"
  | walk_at "call"
  | walk_at "blt"
  | ((with_reducible refine' ve_ix ?_ ?h); (case h => exact fun _ _ => rfl))
  | ((with_reducible refine' ve_tup ?_ ?h); (case h => exact pe_tup pa_w))
  | with_reducible refine' ve_lst ?_
  | walk_at "glob"
  | ((with_reducible refine' vt_tr ?_ ?he); (case he => intro _; rfl))
  | with_reducible refine' tr_bl ?_
  | with_reducible refine' tr_int ?_
  | with_reducible refine' tr_non ?_
  | with_reducible refine' tr_tup ?_
  | with_reducible refine' tr_lst ?_
  | walk_at "tyname"
  | ((with_reducible refine' vx_tup ?h ?_); (case h => rfl))
  | with_reducible refine' vcl_int ?_)
local macro_rules | `(tactic| walk_at "go") => `(tactic| repeat walk_at "v")
/- one statement: a name stored -/
local macro_rules | `(tactic| walk_at "let") => `(tactic| (refine' vss_cons (vs_lt ?hi ?hx ?_ ?hs); (case hi => walk_at "ix"); (case hx => decide +kernel); (case hs => rfl)))
local macro_rules | `(tactic| walk_at "ret") => `(tactic| refine' vss_cons (vs_ret ?_))
local macro_rules | `(tactic| walk_at "fld") => `(tactic| (refine' vss_cons (vs_fld ?_ ?hs); (case hs => rfl)))
local macro_rules | `(tactic| walk_at "if") => `(tactic| refine' vss_cons (vs_if ?_))
local macro_rules | `(tactic| walk_at "expr") => `(tactic| (refine' vss_cons (vs_expr ?_ ?hs); (case hs => rfl)))
local macro_rules | `(tactic| walk_at "nil") => `(tactic| refine' vss_nil ?_)
namespace Wl
open Wm
local macro_rules | `(tactic| walk_at "okn") => `(tactic| first | assumption | (refine' okn_R ?_ ?_ ?_ <;> omega))
local macro_rules | `(tactic| walk_at "two") => `(tactic| (refine vg_two rfl (by walk_at "ix") (by decide +kernel) (by walk_at "ix") (by decide +kernel) ?_ rfl rfl rfl rfl))
local macro_rules | `(tactic| walk_at "blk") => `(tactic| exact ⟨rfl, by decide +kernel, by decide +kernel, by decide +kernel, by decide +kernel⟩)
variable {E : EnvR}
theorem take_map {α : Type} {f : α → D} {xs : List α} {i : Nat} {x : α} (h : xs[i]? = some x) : (xs.take i).map f ++ [f x] = (xs.take (i + 1)).map f := by
  rw [List.take_add_one, h, List.map_append]; rfl
def asW (C CW : Addr) (x : D) (k : Wal → Prop) : Prop := ∃ A, x = wallD C CW A ∧ k A
theorem asW_i {C CW : Addr} {A : Wal} {k : Wal → Prop} (h : k A) : asW C CW (wallD C CW A) k := ⟨A, rfl, h⟩
/-- the wall and the temperature are as they should be -/
def okS (A : Wal) (x : Int) (Q : Prop) : Prop := SmW A ∧ Rn 144115188075855872 x ∧ Q
structure Wb (E : EnvR) (C CW CB : Addr) : Prop where
  a : Wa E C CW CB
  pl : MethV E CW "_place" 5 (S_place C CW CB)
section
variable {N : List Str} {sc : Scope} {k : Nat} {b : Md} {c : VC E N sc k b} {Γ : G} {w : W} {P : D → W → Prop} {C CW CB : Addr} {p pos apos : Pos}
theorem ve_wpl {o e : Expr} (pl : Sem Bool) (T : Wb E C CW CB) (hc : b.calm = true) (hj : 5 ≤ k) (h : VE c o Γ w fun x w1 => asW C CW x fun A => VE c e Γ w1 fun y w2 => asDy C y fun n => okS A n (if n < 0 then c.R CB w2 else ∀ i : Nat, (A.1 :: A.2)[i]? = some (fpc A.1 A.2 n) → P (.int (i : Int)) w2))
    (hst : starEach [e] c.X.env = (false, eval e c.X.env) :: starEach [] c.X.env)
    (ht : eval (.Call (.Attribute o "_place" apos) [e] [] pos) c.X.env = (do
      let ov ← eval o c.X.env
      standAt apos.atName
      let (f, first) ← holding [ov] (getMethod ov "_place" pl)
      callWith pos f first (backTo pos (starEach [e] c.X.env)) (backToKw pos (keywordEach [] c.X.env)))) : VE c (.Call (.Attribute o "_place" apos) [e] [] pos) Γ w P :=
  ve_meth (pl := pl) T.pl hc hj (h.imp fun x w1 z => by
    obtain ⟨A, rfl, q⟩ := z
    exact ⟨insD_w (by decide +kernel) (by decide +kernel), va_cons (q.imp fun y w2 z => by
      obtain ⟨n, rfl, h1, h2, q⟩ := z
      obtain ⟨r1, r2, r3⟩ := h2
      exact va_nil ⟨A, n, rfl, okn_sm h1, by refine okn_R ?_ ?_ ?_ <;> omega, q⟩) hst⟩) hst rfl ht
theorem ve_wpts {o : Expr} (T : Wa E C CW CB) (h : VE c o Γ w fun x w1 => asW C CW x fun A => P (.lst ((A.1 :: A.2).map (pcD C))) w1) (hab : attributeBase o "_points" c.X.env (eval o c.X.env) = eval o c.X.env) : VE c (.Attribute o "_points" pos) Γ w P :=
  ve_fld (h.imp fun x w1 z => by obtain ⟨A, rfl, q⟩ := z; exact fld_pts ⟨T.cl, T.n1, q⟩) hab
theorem ve_wsls {o : Expr} (T : Wa E C CW CB) (h : VE c o Γ w fun x w1 => asW C CW x fun A => P (.lst ((A.1 :: A.2).map slD)) w1) (hab : attributeBase o "_slopes" c.X.env (eval o c.X.env) = eval o c.X.env) : VE c (.Attribute o "_slopes" pos) Γ w P :=
  ve_fld (h.imp fun x w1 z => by obtain ⟨A, rfl, q⟩ := z; exact fld_sls ⟨T.cl, T.n2, q⟩) hab
end
local macro_rules | `(tactic| walk_at "spec") => `(tactic| first
  | with_reducible refine' asDy_i ?_
  | with_reducible refine' asW_i ?_
  | ((with_reducible refine' ve_wpts ?hT ?_ ?h1); (case hT => assumption); (case h1 => rfl))
  | ((with_reducible refine' ve_wsls ?hT ?_ ?h1); (case hT => assumption); (case h1 => rfl))
  | ((with_reducible refine' ve_dyT ?hT ?hc ?hj ?_ ?h1); (case hT => exact (‹Dy3 _ _›).d2.d1); (case hc => rfl); (case hj => decide); (case h1 => rfl))
  | ((with_reducible refine' ve_dyP ?hT ?hc ?hj ?_ ?h1); (case hT => exact (‹Dy3 _ _›).d2.d1); (case hc => rfl); (case hj => decide); (case h1 => rfl))
  | ((with_reducible refine' vo_dyadd ?hT ?hc ?hj ?hx ?hy ?hz ?_); (case hT => exact (‹Dy3 _ _›).d2); (case hc => rfl); (case hj => decide); (case hx => walk_at "okn"); (case hy => walk_at "okn"); (case hz => walk_at "okn"))
  | ((with_reducible refine' vu_dyneg ?hT ?hc ?hj ?hx ?_); (case hT => exact (‹Dy3 _ _›).d2); (case hc => rfl); (case hj => decide); (case hx => walk_at "okn"))
  | ((with_reducible refine' vo_dysub ?hT ?hc ?hj ?hx ?hy ?hz ?_); (case hT => assumption); (case hc => rfl); (case hj => decide); (case hx => walk_at "okn"); (case hy => walk_at "okn"); (case hz => walk_at "okn"))
  | ((with_reducible refine' ve_dyless _ ?hT ?hc ?hj ?_ ?h1 ?h2); (case hT => assumption); (case hc => rfl); (case hj => decide); (case h1 => rfl); (case h2 => rfl))
  | ((with_reducible refine' ve_wpl _ ?hT ?hc ?hj ?_ ?h1 ?h2); (case hT => assumption); (case hc => rfl); (case hj => decide); (case h1 => rfl); (case h2 => rfl))
  | ((with_reducible refine' ve_wall ?hT ?hc ?hj ?hg ?_ ?h1 ?h2); (case hT => assumption); (case hc => rfl); (case hj => decide); (case hg => decide +kernel); (case h1 => rfl); (case h2 => rfl))
  | ((with_reducible refine' ok2_i ?hx ?hy ?_); (case hx => walk_at "okn"); (case hy => walk_at "okn")))
theorem ok_slope_at {f C CW CB : Addr} {fd : FuncData} (T : Wb E C CW CB) (F : Fun E.K "slope_at" "Wall.slope_at" s_Wall_slope_at f fd) : FnV E 6 f fd p_Wall_slope_at (S_slope_at C CW CB) := by
  have T1 := T.a
  have D3 := T1.dy
  refine fnV F sc_Wall_slope_at (fun ds w P R h => ?_) (fun c ds w P h => ?_)
  · obtain ⟨a, b, rfl, _⟩ := h; rfl
  · obtain ⟨A, x, rfl, hA, hx, h⟩ := h
    walk_at "ret"
    walk_at "go"
    refine ⟨hA, hx, ?_⟩
    by_cases h1 : x < 0
    · rw [if_pos h1] at h ⊢; exact h
    · rw [if_neg h1] at h ⊢
      intro i hi
      exact vx_seq rfl (atI_nat (n := i) (map_get hi) rfl) h
theorem ok_at {f C CW CB : Addr} {fd : FuncData} (T : Wb E C CW CB) (F : Fun E.K "at" "Wall.at" s_Wall_at f fd) : FnV E 6 f fd p_Wall_at (S_at C CW CB) := by
  have T1 := T.a
  have D3 := T1.dy
  have tm := T1.tm
  refine fnV F sc_Wall_at (fun ds w P R h => ?_) (fun c ds w P h => ?_)
  · obtain ⟨a, b, rfl, _⟩ := h; rfl
  · obtain ⟨A, x, rfl, hA, hx, h⟩ := h
    walk_at "let"
    walk_at "go"
    refine ⟨hA, hx, ?_⟩
    by_cases h1 : x < 0
    · rw [if_pos h1] at h ⊢; exact h
    rw [if_neg h1] at h ⊢
    intro i hi
    have hm := fpc_mem A.1 A.2 x
    have hv := V_bd hA hx
    have h3 := hA.li.ch.sl _ hm
    obtain ⟨⟨r1, r2, r3⟩, ⟨r4, r5, r6⟩⟩ := hA.bd _ hm
    obtain ⟨r7, r8, r9⟩ := hx
    walk_at "let"
    walk_at "go"
    refine vx_seq rfl (atI_nat (n := i) (map_get hi) rfl) ?_
    unfold pcD
    walk_at "ret"
    walk_at "go"
    refine vx_seq rfl (atI_nat (n := i) (map_get hi) rfl) ?_
    have e : (fpc A.1 A.2 x).2.1 + sgn3 (fpc A.1 A.2 x).2.2 (x - (fpc A.1 A.2 x).1) = V A x := by rw [sgn3_mul h3]; rfl
    have ok1 : Okn (x - (fpc A.1 A.2 x).1) := by refine okn_R ?_ ?_ ?_ <;> omega
    obtain ⟨v1, v2, v3⟩ := hv
    have okv : Okn (V A x) := by refine okn_R ?_ ?_ ?_ <;> omega
    have ok2' : Okn (sgn3 (fpc A.1 A.2 x).2.2 (x - (fpc A.1 A.2 x).1)) := by
      rw [sgn3_mul h3]
      rcases h3 with e | e | e <;> rw [e] <;> refine okn_R ?_ ?_ ?_ <;> omega
    have ok3 : Okn (fpc A.1 A.2 x).2.1 := by refine okn_R ?_ ?_ ?_ <;> omega
    walk_at "go"
    refine S_times_i ok1 ?_
    refine vo_dyadd (T := D3.d2) rfl (by decide) ok3 ok2' (by rw [e]; exact okv) ?_
    rw [e]
    exact h
theorem ok_slope_p {f C CW CB : Addr} {fd : FuncData} (T : Wa E C CW CB) (F : Fun E.K "slope" "Wall.slope" s_Wall_slope f fd) : FnV E 1 f fd p_Wall_slope (S_slope_p C CW) := by
  refine fnV F sc_Wall_slope (fun ds w P R h => ?_) (fun c ds w P h => ?_)
  · obtain ⟨a, rfl, _⟩ := h; rfl
  · obtain ⟨A, rfl, h⟩ := h
    walk_at "ret"
    walk_at "go"
    refine vx_seq (i := -1) (d := .int (lastS A)) rfl ?_ h
    unfold atI ixN
    rw [if_neg (by omega), List.length_map, List.length_cons, if_pos (by omega)]
    have e : ((-1 : Int) + ((A.2.length + 1 : Nat) : Int)).toNat = A.2.length := by omega
    rw [e]
    show (List.map slD (A.1 :: A.2))[A.2.length]? = _
    refine map_get (x := (A.1 :: A.2).getLast (List.cons_ne_nil _ _)) ?_
    rw [List.getLast_eq_getElem]
    simp
theorem ok_points {f C CW CB : Addr} {fd : FuncData} (T : Wa E C CW CB) (F : Fun E.K "points" "Wall.points" s_Wall_points f fd) : FnV E 1 f fd p_Wall_points (S_points C CW) := by
  have B := T.B
  refine fnV F sc_Wall_points (fun ds w P R h => ?_) (fun c ds w P h => ?_)
  · obtain ⟨a, rfl, _⟩ := h; rfl
  · obtain ⟨A, rfl, h⟩ := h
    walk_at "ret"
    walk_at "go"
    exact vcl_listM rfl h
theorem ok_turned {f C CW CB : Addr} {fd : FuncData} (T : Wa E C CW CB) (hs : PropV E CW "slope" 1 (S_slope_p C CW)) (F : Fun E.K "turned" "Wall.turned" s_Wall_turned f fd) : FnV E 9 f fd p_Wall_turned (S_turned C CW) := by
  have B := T.B
  have D3 := T.dy
  refine fnV F sc_Wall_turned (fun ds w P R h => ?_) (fun c ds w P h => ?_)
  · obtain ⟨a, rfl, _⟩ := h; rfl
  · obtain ⟨A, rfl, hA, hcan, hlen, h⟩ := h
    walk_at "ret"
    walk_at "spec"
    refine ve_lcW [("heat", 1), ("place", 2)] rfl (by walk_at "blk") (vi_list ?_)
    walk_at "go"
    refine ⟨_, rfl, fun D0 m h0 => True.intro, True.intro, fun i acc => acc = ((A.1 :: A.2).take i).map fun q => ptD C (q.1, -q.2.1), rfl, ?_, ?_⟩
    · intro i d acc D0 hd h0 hacc
      rw [List.getElem?_map] at hd
      cases hq : (A.1 :: A.2)[i]? with
      | none => rw [hq] at hd; cases hd
      | some q =>
        rw [hq] at hd
        cases hd
        obtain ⟨_, ⟨r4, r5, r6⟩⟩ := hA.bd q (List.mem_of_getElem? hq)
        have hok : Okn q.2.1 := by refine okn_R ?_ ?_ ?_ <;> omega
        have hl := (List.getElem?_eq_some_iff.mp hq).1
        refine lct0 fun c1 => ?_
        walk_at "two"
        intro c3
        walk_at "go"
        refine ⟨by rw [hacc, List.length_map, List.length_take]; rw [List.length_cons] at *; show _ < 2 ^ 24; omega, W.up_same, W.del_up_id h0, ?_⟩
        subst hacc
        exact take_map (f := fun q : Pc => ptD C (q.1, -q.2.1)) hq
    · intro acc hacc
      rw [List.length_map, List.take_length] at hacc
      refine ve_un (ve_prop hs rfl (by decide) ?_ rfl)
      walk_at "go"
      refine ⟨⟨"x", insD_w (by decide +kernel) (by decide +kernel)⟩, A, rfl, ?_⟩
      walk_at "go"
      refine ⟨ptsW (ngW A), ?_, ?_, ?_, ?_⟩
      · rw [hacc]
        show some _ = some (List.map (ptD C) (List.map (fun q => (q.1, q.2.1)) (List.map ngP (A.1 :: A.2))))
        rw [List.map_map, List.map_map]; rfl
      · intro q hq
        unfold ptsW at hq
        obtain ⟨u, hu, rfl⟩ := List.mem_map.mp hq
        obtain ⟨⟨b1, b2, b3⟩, ⟨b4, b5, b6⟩⟩ := (ng_sm hA).bd u hu
        exact ⟨⟨b1, by omega, by omega⟩, ⟨b4, by omega, by omega⟩⟩
      · unfold ptsW ngW
        rw [List.length_map, List.length_cons, List.length_map]; omega
      · rw [← ng_last A, mkW_W (ng_lin hA.li) (ng_can hcan)]
        exact h
end Wl

end

section
set_option maxRecDepth 100000
set_option maxHeartbeats 4000000
open PySem PySem.Spec PyProof.Rows L2 VL
local macro_rules | `(tactic| walk_at "ix") => `(tactic| first | with_reducible exact ix0 | with_reducible exact ix1 | with_reducible exact ix2 | with_reducible exact ix3 | with_reducible exact ix4 | with_reducible exact ix5 | with_reducible exact ix6 | with_reducible exact ix7 | with_reducible exact ix8 | with_reducible exact ix9 | with_reducible exact ix10 | with_reducible exact ix11 | with_reducible exact ix12 | with_reducible exact ix13 | with_reducible exact ix14 | with_reducible exact ix15 | with_reducible exact ix16)
local macro_rules | `(tactic| walk_at "num") => `(tactic| first | assumption | decide | omega | exact ⟨by decide, by decide⟩ | exact .inr ⟨by decide, by decide⟩ | exact .inl ⟨by decide, by decide⟩ | exact ⟨by omega, by omega, by omega⟩)
/- a name -/
local macro_rules | `(tactic| walk_at "name") => `(tactic| ((with_reducible refine' ve_nm ?hN ?hv ?hG ?_); (case hN => walk_at "ix"); (case hv => decide +kernel); (case hG => rfl)))
local macro_rules | `(tactic| walk_at "glob") => `(tactic| first
  | ((with_reducible refine' ve_gO ?hg ?hm ?_); (case hm => with_reducible assumption); (case hg => decide +kernel))
  | ((with_reducible refine' ve_gI ?hg ?hm ?_); (case hm => with_reducible assumption); (case hg => decide +kernel)))
local macro_rules | `(tactic| walk_at "tyname") => `(tactic| first
  | ((with_reducible refine' ve_ty "int" ?hg ?hm ?hv ?_); (case hg => decide +kernel); (case hm => exact (‹Blt _›).int); (case hv => exact bt_int))
  | ((with_reducible refine' ve_ty "bool" ?hg ?hm ?hv ?_); (case hg => decide +kernel); (case hm => exact (‹Blt _›).bool); (case hv => exact bt_bool))
  | ((with_reducible refine' ve_ty "str" ?hg ?hm ?hv ?_); (case hg => decide +kernel); (case hm => exact (‹Blt _›).str); (case hv => exact bt_str))
  | ((with_reducible refine' ve_ty "list" ?hg ?hm ?hv ?_); (case hg => decide +kernel); (case hm => exact (‹Blt _›).list); (case hv => exact bt_list))
  | ((with_reducible refine' ve_ty "tuple" ?hg ?hm ?hv ?_); (case hg => decide +kernel); (case hm => exact (‹Blt _›).tuple); (case hv => exact bt_tuple)))
local macro_rules | `(tactic| walk_at "blt") => `(tactic| first
  | ((with_reducible refine' blt1 "len" ?hg ?hm ?hv ?_ ?he); (case hg => decide +kernel); (case hm => exact (‹Blt _›).len); (case hv => exact bt_len); (case he => rfl))
  | ((with_reducible refine' blt1 "sum" ?hg ?hm ?hv ?_ ?he); (case hg => decide +kernel); (case hm => exact (‹Blt _›).sum); (case hv => exact bt_sum); (case he => rfl))
  | ((with_reducible refine' blt1 "abs" ?hg ?hm ?hv ?_ ?he); (case hg => decide +kernel); (case hm => exact (‹Blt _›).abs); (case hv => exact bt_abs); (case he => rfl))
  | ((with_reducible refine' blt1 "sorted" ?hg ?hm ?hv ?_ ?he); (case hg => decide +kernel); (case hm => exact (‹Blt _›).sorted); (case hv => exact bt_sorted); (case he => rfl))
  | ((with_reducible refine' blt1 "all" ?hg ?hm ?hv ?_ ?he); (case hg => decide +kernel); (case hm => exact (‹Blt _›).all); (case hv => exact bt_all); (case he => rfl))
  | ((with_reducible refine' blt1 "any" ?hg ?hm ?hv ?_ ?he); (case hg => decide +kernel); (case hm => exact (‹Blt _›).any); (case hv => exact bt_any); (case he => rfl))
  | ((with_reducible refine' blt1 "max" ?hg ?hm ?hv ?_ ?he); (case hg => decide +kernel); (case hm => exact (‹Blt _›).max); (case hv => exact bt_max); (case he => rfl))
  | ((with_reducible refine' blt1 "min" ?hg ?hm ?hv ?_ ?he); (case hg => decide +kernel); (case hm => exact (‹Blt _›).min); (case hv => exact bt_min); (case he => rfl))
  | ((with_reducible refine' blt2 "isinstance" ?hg ?hm ?hv ?_ ?he ?hf); (case hg => decide +kernel); (case hm => exact (‹Blt _›).isi); (case hv => exact bt_isi); (case he => rfl); (case hf => rfl))
  | ((with_reducible refine' blt2 "max" ?hg ?hm ?hv ?_ ?he ?hf); (case hg => decide +kernel); (case hm => exact (‹Blt _›).max); (case hv => exact bt_max); (case he => rfl); (case hf => rfl))
  | ((with_reducible refine' blt2 "min" ?hg ?hm ?hv ?_ ?he ?hf); (case hg => decide +kernel); (case hm => exact (‹Blt _›).min); (case hv => exact bt_min); (case he => rfl); (case hf => rfl))
  | ((with_reducible refine' bty1 "int" ?hg ?hm ?hv ?_ ?he); (case hg => decide +kernel); (case hm => exact (‹Blt _›).int); (case hv => exact bt_int); (case he => rfl))
  | ((with_reducible refine' bty1 "list" ?hg ?hm ?hv ?_ ?he); (case hg => decide +kernel); (case hm => exact (‹Blt _›).list); (case hv => exact bt_list); (case he => rfl))
  | ((with_reducible refine' bty1 "tuple" ?hg ?hm ?hv ?_ ?he); (case hg => decide +kernel); (case hm => exact (‹Blt _›).tuple); (case hv => exact bt_tuple); (case he => rfl))
  | ((with_reducible refine' bty1 "str" ?hg ?hm ?hv ?_ ?he); (case hg => decide +kernel); (case hm => exact (‹Blt _›).str); (case hv => exact bt_str); (case he => rfl)))
/- a call of a def of the text, its Callable in the context -/
local macro_rules | `(tactic| walk_at "call") => `(tactic| first
  | ((with_reducible refine' call1 ?h ?hc ?hj ?hg ?_ ?h1); (case h => with_reducible assumption); (case hc => rfl); (case hg => decide +kernel); (case hj => first | decide | omega); (case h1 => rfl))
  | ((with_reducible refine' call2 ?h ?hc ?hj ?hg ?_ ?h1 ?h2); (case h => with_reducible assumption); (case hc => rfl); (case hg => decide +kernel); (case hj => first | decide | omega); (case h1 => rfl); (case h2 => rfl))
  | ((with_reducible refine' call3 ?h ?hc ?hj ?hg ?_ ?h1 ?h2 ?h3); (case h => with_reducible assumption); (case hc => rfl); (case hg => decide +kernel); (case hj => first | decide | omega); (case h1 => rfl); (case h2 => rfl); (case h3 => rfl))
  | ((with_reducible refine' call4 ?h ?hc ?hj ?hg ?_ ?h1 ?h2 ?h3 ?h4); (case h => with_reducible assumption); (case hc => rfl); (case hg => decide +kernel); (case hj => first | decide | omega); (case h1 => rfl); (case h2 => rfl); (case h3 => rfl); (case h4 => rfl))
  | ((with_reducible refine' call0 ?h ?hc ?hj ?hg ?_); (case h => with_reducible assumption); (case hc => rfl); (case hg => decide +kernel); (case hj => first | decide | omega)))
/- one step -/
local macro_rules | `(tactic| walk_at "v") => `(tactic| first
  | with_reducible refine' asB_i ?_
  | with_reducible refine' asInt_i ?_
  | with_reducible refine' asObj_i ?_
  | with_reducible refine' if_t ?_
  | with_reducible refine' if_f ?_
  | with_reducible refine' if_nt ?_
  | with_reducible refine' if_nf ?_
  | ((with_reducible refine' if_dt ?h ?_); (case h => first | assumption | omega))
  | ((with_reducible refine' if_df ?h ?_); (case h => first | assumption | omega))
  | ((with_reducible refine' if_ndt ?h ?_); (case h => first | assumption | omega))
  | ((with_reducible refine' if_ndf ?h ?_); (case h => first | assumption | omega))
  | with_reducible refine' ve_int ?_
  | with_reducible refine' ve_str ?_
  | with_reducible refine' ve_bl ?_
  | with_reducible refine' ve_non ?_
  | walk_at "name"
  | with_reducible refine' ve_bin ?_
  | with_reducible refine' ve_cmp rfl ?_
  | with_reducible refine' vt_cmp rfl ?_
  | with_reducible refine' ve_not ?_
  | with_reducible refine' vt_not ?_
  | with_reducible refine' ve_and ?_
  | with_reducible refine' ve_or ?_
  | with_reducible refine' ve_one ?_
  | with_reducible refine' vw_and ?_
  | with_reducible refine' vw_or ?_
  | with_reducible refine' vw_and1 ?_
  | with_reducible refine' vw_or1 ?_
  | with_reducible refine' va_nil ?_
  | with_reducible refine' va_cons ?_ rfl
  | with_reducible refine' vo_add ?_
  | with_reducible refine' vo_sub ?_
  | with_reducible refine' vo_lt ?_
  | with_reducible refine' vo_le ?_
  | with_reducible refine' vo_gt ?_
  | with_reducible refine' vo_ge ?_
  | with_reducible refine' vo_eq ?_
  | with_reducible refine' vo_ne ?_
  | with_reducible refine' vo_eqS ?_
  | with_reducible refine' vo_neS ?_
  | with_reducible refine' vo_eqB ?_
  | with_reducible refine' vo_is ?_
  | with_reducible refine' vo_isnot ?_
  | with_reducible refine' vu_neg ?_
  | ((with_reducible refine' vo_mod ?h ?_); (case h => walk_at "num"))
  | ((with_reducible refine' vo_fdiv ?h ?_); (case h => walk_at "num"))
  | ((with_reducible refine' vo_mul ?h ?_); (case h => walk_at "num"))
  | ((with_reducible refine' vo_pow ?h ?_); (case h => walk_at "num"))
  | ((with_reducible refine' vo_shl ?h ?_); (case h => walk_at "num"))
  | ((with_reducible refine' ve_chain ?_ ?h); (case h => rfl))
  | ((with_reducible refine' vt_chain ?_ ?h); (case h => rfl))
  | with_reducible refine' ve_un ?_
  | with_reducible refine' ve_if ?_
  | with_reducible refine' vt_w (vw_and ?_)
  | with_reducible refine' vt_w (vw_or ?_)
  | ((with_reducible refine' and_len ?h ?_); (case h => exact len_small rfl))
  | walk_at "spec"
  | walk_at "call"
  | walk_at "blt"
  | ((with_reducible refine' ve_ix ?_ ?h); (case h => exact fun _ _ => rfl))
  | ((with_reducible refine' ve_tup ?_ ?h); (case h => exact pe_tup pa_w))
  | with_reducible refine' ve_lst ?_
  | walk_at "glob"
  | ((with_reducible refine' vt_tr ?_ ?he); (case he => intro _; rfl))
  | with_reducible refine' tr_bl ?_
  | with_reducible refine' tr_int ?_
  | with_reducible refine' tr_non ?_
  | with_reducible refine' tr_tup ?_
  | with_reducible refine' tr_lst ?_
  | walk_at "tyname"
  | ((with_reducible refine' vx_tup ?h ?_); (case h => rfl))
  | with_reducible refine' vcl_int ?_)
local macro_rules | `(tactic| walk_at "go") => `(tactic| repeat walk_at "v")
/- one statement: a name stored -/
local macro_rules | `(tactic| walk_at "let") => `(tactic| (refine' vss_cons (vs_lt ?hi ?hx ?_ ?hs); (case hi => walk_at "ix"); (case hx => decide +kernel); (case hs => rfl)))
local macro_rules | `(tactic| walk_at "ret") => `(tactic| refine' vss_cons (vs_ret ?_))
local macro_rules | `(tactic| walk_at "fld") => `(tactic| (refine' vss_cons (vs_fld ?_ ?hs); (case hs => rfl)))
local macro_rules | `(tactic| walk_at "if") => `(tactic| refine' vss_cons (vs_if ?_))
local macro_rules | `(tactic| walk_at "expr") => `(tactic| (refine' vss_cons (vs_expr ?_ ?hs); (case hs => rfl)))
local macro_rules | `(tactic| walk_at "nil") => `(tactic| refine' vss_nil ?_)
namespace Wl
open Wm
local macro_rules | `(tactic| walk_at "okn") => `(tactic| first | assumption | (refine' okn_R ?_ ?_ ?_ <;> omega))
local macro_rules | `(tactic| walk_at "two") => `(tactic| (refine vg_two rfl (by walk_at "ix") (by decide +kernel) (by walk_at "ix") (by decide +kernel) ?_ rfl rfl rfl rfl))
local macro_rules | `(tactic| walk_at "blk") => `(tactic| exact ⟨rfl, by decide +kernel, by decide +kernel, by decide +kernel, by decide +kernel⟩)
variable {E : EnvR}
structure Wc (E : EnvR) (C CW CB : Addr) : Prop where
  a : Wa E C CW CB
  at_ : MethV E CW "at" 6 (S_at C CW CB)
  sa : MethV E CW "slope_at" 6 (S_slope_at C CW CB)
  po : MethV E CW "points" 1 (S_points C CW)
  tu : MethV E CW "turned" 9 (S_turned C CW)
  sl : PropV E CW "slope" 1 (S_slope_p C CW)
  hf : MethV E C "half" 4 (S_Dyhalf C)
section
variable {N : List Str} {sc : Scope} {k : Nat} {b : Md} {c : VC E N sc k b} {Γ : G} {w : W} {P : D → W → Prop} {C CW CB : Addr} {p pos apos : Pos}
theorem ve_wat {o e : Expr} (pl : Sem Bool) (T : Wc E C CW CB) (hc : b.calm = true) (hj : 6 ≤ k) (h : VE c o Γ w fun x w1 => asW C CW x fun A => VE c e Γ w1 fun y w2 => asDy C y fun n => okS A n (if n < 0 then c.R CB w2 else P (dy C (V A n)) w2))
    (hst : starEach [e] c.X.env = (false, eval e c.X.env) :: starEach [] c.X.env)
    (ht : eval (.Call (.Attribute o "at" apos) [e] [] pos) c.X.env = (do
      let ov ← eval o c.X.env
      standAt apos.atName
      let (f, first) ← holding [ov] (getMethod ov "at" pl)
      callWith pos f first (backTo pos (starEach [e] c.X.env)) (backToKw pos (keywordEach [] c.X.env)))) : VE c (.Call (.Attribute o "at" apos) [e] [] pos) Γ w P :=
  ve_meth (pl := pl) T.at_ hc hj (h.imp fun x w1 z => by
    obtain ⟨A, rfl, q⟩ := z
    exact ⟨insD_w (by decide +kernel) (by decide +kernel), va_cons (q.imp fun y w2 z => by
      obtain ⟨n, rfl, h1, h2, q⟩ := z
      exact va_nil ⟨A, n, rfl, h1, h2, q⟩) hst⟩) hst rfl ht
theorem ve_wsa {o e : Expr} (pl : Sem Bool) (T : Wc E C CW CB) (hc : b.calm = true) (hj : 6 ≤ k) (h : VE c o Γ w fun x w1 => asW C CW x fun A => VE c e Γ w1 fun y w2 => asDy C y fun n => okS A n (if n < 0 then c.R CB w2 else P (.int (S A n)) w2))
    (hst : starEach [e] c.X.env = (false, eval e c.X.env) :: starEach [] c.X.env)
    (ht : eval (.Call (.Attribute o "slope_at" apos) [e] [] pos) c.X.env = (do
      let ov ← eval o c.X.env
      standAt apos.atName
      let (f, first) ← holding [ov] (getMethod ov "slope_at" pl)
      callWith pos f first (backTo pos (starEach [e] c.X.env)) (backToKw pos (keywordEach [] c.X.env)))) : VE c (.Call (.Attribute o "slope_at" apos) [e] [] pos) Γ w P :=
  ve_meth (pl := pl) T.sa hc hj (h.imp fun x w1 z => by
    obtain ⟨A, rfl, q⟩ := z
    exact ⟨insD_w (by decide +kernel) (by decide +kernel), va_cons (q.imp fun y w2 z => by
      obtain ⟨n, rfl, h1, h2, q⟩ := z
      exact va_nil ⟨A, n, rfl, h1, h2, q⟩) hst⟩) hst rfl ht
theorem ve_wpo {o : Expr} (pl : Sem Bool) (T : Wc E C CW CB) (hc : b.calm = true) (hj : 1 ≤ k) (h : VE c o Γ w fun x w1 => asW C CW x fun A => ∀ a, w1 a = none → P (.obj a) (w1.up a (.lst ((A.1 :: A.2).map (pcD C)))))
    (ht : eval (.Call (.Attribute o "points" apos) [] [] pos) c.X.env = (do
      let ov ← eval o c.X.env
      standAt apos.atName
      let (f, first) ← holding [ov] (getMethod ov "points" pl)
      callWith pos f first (backTo pos (starEach [] c.X.env)) (backToKw pos (keywordEach [] c.X.env)))) : VE c (.Call (.Attribute o "points" apos) [] [] pos) Γ w P :=
  ve_meth0 (pl := pl) T.po hc hj (h.imp fun x w1 z => by
    obtain ⟨A, rfl, q⟩ := z
    exact ⟨insD_w (by decide +kernel) (by decide +kernel), A, rfl, q⟩) ht
theorem ve_wpoF {o : Expr} (pl : Sem Bool) (T : Wc E C CW CB) (hc : b.calm = true) (hj : 1 ≤ k) (h : VE c o Γ w fun x w1 => asW C CW x fun A => P (.lst ((A.1 :: A.2).map (pcD C))) w1)
    (ht : eval (.Call (.Attribute o "points" apos) [] [] pos) c.X.env = (do
      let ov ← eval o c.X.env
      standAt apos.atName
      let (f, first) ← holding [ov] (getMethod ov "points" pl)
      callWith pos f first (backTo pos (starEach [] c.X.env)) (backToKw pos (keywordEach [] c.X.env)))) : VE c (.Call (.Attribute o "points" apos) [] [] pos) Γ w P :=
  ve_frz (ve_wpo pl T hc hj (h.imp fun x w1 z => by
    obtain ⟨A, rfl, q⟩ := z
    exact asW_i fun a ha => ⟨_, _, W.up_same, rfl, by rw [W.del_up_id ha]; exact q⟩) ht)
theorem ve_wtu {o : Expr} (pl : Sem Bool) (T : Wc E C CW CB) (hc : b.calm = true) (hj : 9 ≤ k) (h : VE c o Γ w fun x w1 => asW C CW x fun A => SmW A ∧ Can A.1 A.2 ∧ A.2.length < 100000 ∧ P (wallD C CW (ngW A)) w1)
    (ht : eval (.Call (.Attribute o "turned" apos) [] [] pos) c.X.env = (do
      let ov ← eval o c.X.env
      standAt apos.atName
      let (f, first) ← holding [ov] (getMethod ov "turned" pl)
      callWith pos f first (backTo pos (starEach [] c.X.env)) (backToKw pos (keywordEach [] c.X.env)))) : VE c (.Call (.Attribute o "turned" apos) [] [] pos) Γ w P :=
  ve_meth0 (pl := pl) T.tu hc hj (h.imp fun x w1 z => by
    obtain ⟨A, rfl, q⟩ := z
    exact ⟨insD_w (by decide +kernel) (by decide +kernel), A, rfl, q⟩) ht
theorem ve_wsl {o : Expr} (T : Wc E C CW CB) (hc : b.calm = true) (hj : 2 ≤ k) (h : VE c o Γ w fun x w1 => asW C CW x fun A => P (.int (lastS A)) w1) (hab : attributeBase o "slope" c.X.env (eval o c.X.env) = eval o c.X.env) : VE c (.Attribute o "slope" pos) Γ w P :=
  ve_prop T.sl hc hj (h.imp fun d w1 z => by obtain ⟨A, rfl, q⟩ := z; exact ⟨⟨"x", insD_w (by decide +kernel) (by decide +kernel)⟩, A, rfl, q⟩) hab
theorem ve_dyhf {o : Expr} (pl : Sem Bool) (T : Wc E C CW CB) (hc : b.calm = true) (hj : 4 ≤ k) (h : VE c o Γ w fun x w1 => asDy C x fun n => Okn n ∧ n % 2 = 0 ∧ P (dy C (n / 2)) w1)
    (ht : eval (.Call (.Attribute o "half" apos) [] [] pos) c.X.env = (do
      let ov ← eval o c.X.env
      standAt apos.atName
      let (f, first) ← holding [ov] (getMethod ov "half" pl)
      callWith pos f first (backTo pos (starEach [] c.X.env)) (backToKw pos (keywordEach [] c.X.env)))) : VE c (.Call (.Attribute o "half" apos) [] [] pos) Γ w P :=
  ve_meth0 (pl := pl) T.hf hc hj (h.imp fun x w1 z => by
    obtain ⟨n, rfl, q⟩ := z
    exact ⟨insD_dy (by decide +kernel) (by decide +kernel), n, rfl, q⟩) ht
end
def S_scaled (C : Addr) : SpV := fun ds w P _ => ∃ n, ds = [dy C n] ∧ Okn n ∧ P (.int n) w
theorem S_scaled_i {C : Addr} {n : Int} {w : W} {P : D → W → Prop} {R : Addr → W → Prop} (ho : Okn n) (h : P (.int n) w) : S_scaled C [dy C n] w P R := ⟨n, rfl, ho, h⟩
local macro_rules | `(tactic| walk_at "spec") => `(tactic| first
  | with_reducible refine' asDy_i ?_
  | with_reducible refine' asW_i ?_
  | ((with_reducible refine' S_scaled_i ?ho ?_); (case ho => walk_at "okn"))
  | ((with_reducible refine' ve_dyT ?hT ?hc ?hj ?_ ?h1); (case hT => exact (‹Dy3 _ _›).d2.d1); (case hc => rfl); (case hj => decide); (case h1 => rfl))
  | ((with_reducible refine' ve_dyP ?hT ?hc ?hj ?_ ?h1); (case hT => exact (‹Dy3 _ _›).d2.d1); (case hc => rfl); (case hj => decide); (case h1 => rfl))
  | ((with_reducible refine' vo_dyadd ?hT ?hc ?hj ?hx ?hy ?hz ?_); (case hT => exact (‹Dy3 _ _›).d2); (case hc => rfl); (case hj => decide); (case hx => walk_at "okn"); (case hy => walk_at "okn"); (case hz => walk_at "okn"))
  | ((with_reducible refine' vu_dyneg ?hT ?hc ?hj ?hx ?_); (case hT => exact (‹Dy3 _ _›).d2); (case hc => rfl); (case hj => decide); (case hx => walk_at "okn"))
  | ((with_reducible refine' vo_dysub ?hT ?hc ?hj ?hx ?hy ?hz ?_); (case hT => assumption); (case hc => rfl); (case hj => decide); (case hx => walk_at "okn"); (case hy => walk_at "okn"); (case hz => walk_at "okn"))
  | ((with_reducible refine' ve_dyless _ ?hT ?hc ?hj ?_ ?h1 ?h2); (case hT => assumption); (case hc => rfl); (case hj => decide); (case h1 => rfl); (case h2 => rfl))
  | ((with_reducible refine' ve_wat _ ?hT ?hc ?hj ?_ ?h1 ?h2); (case hT => assumption); (case hc => rfl); (case hj => decide); (case h1 => rfl); (case h2 => rfl))
  | ((with_reducible refine' ve_wsa _ ?hT ?hc ?hj ?_ ?h1 ?h2); (case hT => assumption); (case hc => rfl); (case hj => decide); (case h1 => rfl); (case h2 => rfl))
  | ((with_reducible refine' ve_wpoF _ ?hT ?hc ?hj ?_ ?h1); (case hT => assumption); (case hc => rfl); (case hj => decide); (case h1 => rfl))
  | ((with_reducible refine' ok2_i ?hx ?hy ?_); (case hx => walk_at "okn"); (case hy => walk_at "okn")))
theorem ok_scaled {f C : Addr} {fd : FuncData} (T : Dy3 E C) (t : Tok) (hS : E.mg "SCALE" = some (.int 40 t)) (F : Fun E.K "scaled" "scaled" s_scaled f fd) : FnV E 3 f fd p_scaled (S_scaled C) := by
  refine fnV F sc_scaled (fun ds w P R h => ?_) (fun c ds w P h => ?_)
  · obtain ⟨a, rfl, _⟩ := h; rfl
  · obtain ⟨n, rfl, ho, h⟩ := h
    have hp := pp_le n
    have ho' : (pt n).natAbs ≤ 1000000000000 := ho
    walk_at "ret"
    walk_at "go"
    have e : (40 - ((pp n : Nat) : Int)).toNat = 40 - pp n := by omega
    rw [e, pt_val]
    exact h
/-! ### a dict from whole numbers to their dyadics -/
def insI (ns : List Int) (n : Int) : List Int := if n ∈ ns then ns else ns ++ [n]
def kvI (C : Addr) (ns : List Int) : List (Key × D) := ns.map fun n => (Sum.inl n, dy C n)
theorem kvI_put (C : Addr) (ns : List Int) (n : Int) : putKD (kvI C ns) (.inl n) (dy C n) = kvI C (insI ns n) := by
  have any : ((kvI C ns).any fun kv => decide (kv.1 = Sum.inl n)) = decide (n ∈ ns) := by
    unfold kvI
    induction ns with
    | nil => rfl
    | cons m ns ih =>
      rw [List.map_cons, List.any_cons, ih]
      by_cases h : m = n
      · subst h; simp
      · have h' : ¬ n = m := fun e => h e.symm
        by_cases h2 : n ∈ ns <;> simp [h, h', h2]
  unfold putKD insI
  rw [any]
  by_cases h : n ∈ ns
  · rw [if_pos (decide_eq_true h), if_pos h]
    unfold kvI
    rw [List.map_map]
    refine List.map_congr_left fun m hm => ?_
    show (if (Sum.inl m : Key) = Sum.inl n then _ else _) = _
    by_cases e : m = n
    · subst e; rw [if_pos rfl]
    · rw [if_neg (fun z => e (Sum.inl.inj z))]
  · rw [if_neg (by simpa using h), if_neg h]
    unfold kvI
    rw [List.map_append]; rfl
theorem kvI_val {C : Addr} {ns : List Int} {n : Int} (h : n ∈ ns) : valD (kvI C ns) (.inl n) = some (dy C n) := by
  induction ns with
  | nil => cases h
  | cons m ns ih =>
    unfold valD kvI
    rw [List.map_cons, List.find?_cons]
    by_cases e : m = n
    · subst e; simp
    · have hm : n ∈ ns := by
        rcases List.mem_cons.mp h with z | z
        · exact absurd z.symm e
        · exact z
      have hd : decide ((Sum.inl m : Key) = Sum.inl n) = false := decide_eq_false fun z => e (Sum.inl.inj z)
      rw [hd]
      exact ih hm
theorem kvI_keys (C : Addr) (ns : List Int) : (kvI C ns).map (fun kv => kD kv.1) = ns.map D.int := by
  unfold kvI; rw [List.map_map]; rfl
theorem ins_mem {ns : List Int} {n x : Int} : x ∈ insI ns n ↔ x ∈ ns ∨ x = n := by
  unfold insI
  by_cases h : n ∈ ns
  · rw [if_pos h]
    exact ⟨.inl, fun z => z.elim id fun e => by rw [e]; exact h⟩
  · rw [if_neg h]; simp
theorem ins_nodup {ns : List Int} {n : Int} (h : ns.Nodup) : (insI ns n).Nodup := by
  unfold insI
  by_cases h2 : n ∈ ns
  · rw [if_pos h2]; exact h
  · rw [if_neg h2]
    refine List.nodup_append.mpr ⟨h, by simp, fun a ha b hb => ?_⟩
    rw [List.mem_singleton.mp hb]
    exact fun e => h2 (e ▸ ha)
theorem ins_len (ns : List Int) (n : Int) : (insI ns n).length ≤ ns.length + 1 := by
  unfold insI; split
  · omega
  · rw [List.length_append]; simp
/-- sorted and without repeats: ascending -/
theorem asc_of {ns ns' : List Int} (hp : ns'.Perm ns) (hs : ns'.Pairwise (· ≤ ·)) (hn : ns.Nodup) : ns'.Pairwise (· < ·) := by
  have h2 : ns'.Nodup := hp.nodup_iff.mpr hn
  exact (hs.and h2).imp fun {a b} z => by have := z.1; have := z.2; omega
def cntW (As : List Wal) : Nat := (As.map fun A => A.2.length + 1).sum
theorem cnt_take {As : List Wal} {i : Nat} {A : Wal} (h : As[i]? = some A) : cntW (As.take (i + 1)) = cntW (As.take i) + (A.2.length + 1) := by
  unfold cntW
  rw [List.take_add_one, h, List.map_append, List.sum_append]; simp
theorem cnt_le (As : List Wal) (i : Nat) : cntW (As.take i) ≤ cntW As := by
  have : cntW As = cntW (As.take i) + cntW (As.drop i) := by
    unfold cntW
    rw [← List.sum_append, ← List.map_append, List.take_append_drop]
  omega
/-- the heats of all points -/
def allH (As : List Wal) (x : Int) : Prop := ∃ A ∈ As, ∃ q ∈ A.1 :: A.2, x = q.1
def S_all_heats (C CW : Addr) : SpV := fun ds w P _ => ∃ (d : D) (As : List Wal), ds = [d] ∧ seqD w d = some (As.map (wallD C CW)) ∧ (∀ A ∈ As, SmW A) ∧ cntW As < 1000000 ∧
  ∀ hs : List Int, hs.Pairwise (· < ·) → (∀ x, x ∈ hs ↔ allH As x) → hs.length ≤ cntW As → P (.lst (hs.map (dy C))) w
theorem kpD_of {d : D} {ds : List D} {w : W} (h : seqD w d = some ds) : kpD d ds w := by
  cases d <;> first | exact True.intro | skip
  rename_i a
  show w a = _
  unfold seqD at h
  simp only at h
  cases e : w a with
  | none => rw [e] at h; cases h
  | some m => rw [e] at h; cases m <;> first | (cases h; rfl) | cases h
theorem mem_take_succ {α : Type} {xs : List α} {i : Nat} {x y : α} (h : xs[i]? = some x) : y ∈ xs.take (i + 1) ↔ y ∈ xs.take i ∨ y = x := by
  rw [List.take_add_one, h]; simp
theorem ok_all_heats {f C CW CB : Addr} {fd : FuncData} (T : Wc E C CW CB) (sc1 : Callable E "scaled" 3 1 (S_scaled C)) (F : Fun E.K "all_heats" "all_heats" s_all_heats f fd) : FnV E 4 f fd p_all_heats (S_all_heats C CW) := by
  have T1 := T.a
  have B := T1.B
  have D3 := T1.dy
  refine fnV F sc_all_heats (fun ds w P R h => ?_) (fun c ds w P h => ?_)
  · obtain ⟨a, b, rfl, _⟩ := h; rfl
  · obtain ⟨d, As, rfl, hd, hsm, hz, h⟩ := h
    refine vss_cons (vs_lt (by walk_at "ix") (by decide +kernel) (ve_d0 fun dc hdc => ?_) rfl)
    have up : ∀ m, seqD (w.up dc m) d = some (As.map (wallD C CW)) := fun m => seqD_up hd hdc
    refine vss_cons (vs_for [2] rfl (vi_list ?_))
    walk_at "go"
    refine ⟨_, up _, ?_⟩
    refine ⟨fun i Γ w' => ∃ (ns : List Int) (g1 g2 : Option D), Γ = [some d, some (.obj dc), g1, g2, none] ∧ w' = w.up dc (.dK (kvI C ns)) ∧ ns.Nodup ∧ ns.length ≤ cntW (As.take i) ∧ ∀ x, x ∈ ns ↔ allH (As.take i) x,
      ⟨[], none, none, rfl, rfl, List.nodup_nil, Nat.zero_le _, fun x => ⟨fun z => by simp at z, fun z => by obtain ⟨A, hA, _⟩ := z; simp at hA⟩⟩, fun i Γ w' _ ⟨ns, _, _, _, e, _⟩ => by rw [e]; exact kpD_of (up _), ?_, ?_⟩
    · rintro i dd Γ w' hdd ⟨ns, g1, g2, rfl, rfl, hn, hl, hm⟩
      rw [List.getElem?_map] at hdd
      cases hA : As[i]? with
      | none => rw [hA] at hdd; cases hdd
      | some A =>
        rw [hA] at hdd
        cases hdd
        have ct := cnt_take hA
        have cl := cnt_le As (i + 1)
        refine vg_nm (by walk_at "ix") (by decide +kernel) ?_
        refine vss_one (vs_for [3] rfl (vi_list ?_))
        walk_at "go"
        refine ⟨_, rfl, ?_⟩
        refine ⟨fun j Γ w' => ∃ (ns : List Int) (g2 : Option D), Γ = [some d, some (.obj dc), some (wallD C CW A), g2, none] ∧ w' = w.up dc (.dK (kvI C ns)) ∧ ns.Nodup ∧ ns.length ≤ cntW (As.take i) + j ∧ ∀ x, x ∈ ns ↔ allH (As.take i) x ∨ ∃ q ∈ (A.1 :: A.2).take j, x = q.1,
          ⟨ns, g2, rfl, rfl, hn, hl, fun x => by rw [hm]; simp⟩, fun _ _ _ _ _ => True.intro, ?_, ?_⟩
        · rintro j dd Γ w' hdd ⟨ns, g2, rfl, rfl, hn, hl, hm⟩
          rw [List.getElem?_map] at hdd
          cases hq : (A.1 :: A.2)[j]? with
          | none => rw [hq] at hdd; cases hdd
          | some q =>
            rw [hq] at hdd
            cases hdd
            have hj := (List.getElem?_eq_some_iff.mp hq).1
            rw [List.length_cons] at hj
            have hok : Okn q.1 := okn_sm (hsm A (List.mem_of_getElem? hA)) q (List.mem_of_getElem? hq)
            refine vg_nm (by walk_at "ix") (by decide +kernel) ?_
            refine vss_one (vs_dput ?_ rfl)
            unfold pcD
            walk_at "go"
            refine keyD_int ⟨_, W.up_same, by unfold kvI; rw [List.length_map]; show _ < 2 ^ 24; omega, ?_⟩
            refine ⟨insI ns q.1, _, rfl, by rw [W.up_up, kvI_put], ins_nodup hn, by have := ins_len ns q.1; omega, fun x => ?_⟩
            rw [ins_mem, hm]
            constructor
            · rintro ((z | ⟨u, hu, e⟩) | e)
              · exact .inl z
              · exact .inr ⟨u, (mem_take_succ hq).mpr (.inl hu), e⟩
              · exact .inr ⟨q, (mem_take_succ hq).mpr (.inr rfl), e⟩
            · rintro (z | ⟨u, hu, e⟩)
              · exact .inl (.inl z)
              · rcases (mem_take_succ hq).mp hu with z | z
                · exact .inl (.inr ⟨u, z, e⟩)
                · subst z; exact .inr e
        · rintro Γ w' ⟨ns, g2, rfl, rfl, hn, hl, hm⟩
          rw [List.length_map, List.length_cons] at hl
          rw [List.length_map, List.take_length] at hm
          refine ⟨ns, _, _, rfl, rfl, hn, by omega, fun x => ?_⟩
          rw [hm]
          constructor
          · rintro (⟨U, hU, z⟩ | z)
            · exact ⟨U, (mem_take_succ hA).mpr (.inl hU), z⟩
            · exact ⟨A, (mem_take_succ hA).mpr (.inr rfl), z⟩
          · rintro ⟨U, hU, z⟩
            rcases (mem_take_succ hA).mp hU with y | y
            · exact .inl ⟨U, y, z⟩
            · subst y; exact .inr z
    · rintro Γ w' ⟨ns, g1, g2, rfl, rfl, hn, hl, hm⟩
      rw [List.length_map, List.take_length] at hl hm
      walk_at "ret"
      refine ve_sub ?_
      refine ve_lcW [("key", 4)] rfl (by walk_at "blk") (vi_list ?_)
      walk_at "blt"
      walk_at "go"
      refine vcl_listDK rfl W.up_same ?_
      rw [kvI_keys]
      refine vcl_sortedI rfl fun ns' hp hs => ?_
      have hm' : ∀ x, x ∈ ns' ↔ x ∈ ns := fun x => hp.mem_iff
      refine ⟨_, rfl, fun _ _ _ => True.intro, True.intro, fun i acc => acc = (ns'.take i).map (dy C), rfl, ?_, ?_⟩
      · intro i dd acc D0 hdd h0 hacc
        rw [List.getElem?_map] at hdd
        cases hq : ns'[i]? with
        | none => rw [hq] at hdd; cases hdd
        | some n =>
          rw [hq] at hdd
          cases hdd
          have hl' := (List.getElem?_eq_some_iff.mp hq).1
          rw [hp.length_eq] at hl'
          have ne : dc ≠ D0 := W.ne_of W.up_same h0
          refine lct0 fun c1 => ?_
          refine vg_nm (by walk_at "ix") (by decide +kernel) ?_
          intro c3
          refine ve_dget ?_
          walk_at "go"
          refine keyD_int ⟨_, _, by rw [W.up_ne ne]; exact W.up_same, kvI_val ((hm' n).mp (List.mem_of_getElem? hq)), ?_⟩
          refine ⟨by rw [hacc, List.length_map, List.length_take]; show _ < 2 ^ 24; omega, W.up_same, W.del_up_id h0, ?_⟩
          subst hacc
          exact take_map hq
      · intro acc hacc
        rw [List.length_map, List.take_length] at hacc
        subst hacc
        exact ⟨w, W.Sub.up hdc, h ns' (asc_of hp hs hn) (fun x => (hm' x).trans (hm x)) (by rw [hp.length_eq]; exact hl)⟩
end Wl

end

section
set_option maxRecDepth 100000
set_option maxHeartbeats 4000000
open PySem PySem.Spec PyProof.Rows L2 VL
local macro_rules | `(tactic| walk_at "ix") => `(tactic| first | with_reducible exact ix0 | with_reducible exact ix1 | with_reducible exact ix2 | with_reducible exact ix3 | with_reducible exact ix4 | with_reducible exact ix5 | with_reducible exact ix6 | with_reducible exact ix7 | with_reducible exact ix8 | with_reducible exact ix9 | with_reducible exact ix10 | with_reducible exact ix11 | with_reducible exact ix12 | with_reducible exact ix13 | with_reducible exact ix14 | with_reducible exact ix15 | with_reducible exact ix16)
local macro_rules | `(tactic| walk_at "num") => `(tactic| first | assumption | decide | omega | exact ⟨by decide, by decide⟩ | exact .inr ⟨by decide, by decide⟩ | exact .inl ⟨by decide, by decide⟩ | exact ⟨by omega, by omega, by omega⟩)
/- a name -/
local macro_rules | `(tactic| walk_at "name") => `(tactic| ((with_reducible refine' ve_nm ?hN ?hv ?hG ?_); (case hN => walk_at "ix"); (case hv => decide +kernel); (case hG => rfl)))
local macro_rules | `(tactic| walk_at "glob") => `(tactic| first
  | ((with_reducible refine' ve_gO ?hg ?hm ?_); (case hm => with_reducible assumption); (case hg => decide +kernel))
  | ((with_reducible refine' ve_gI ?hg ?hm ?_); (case hm => with_reducible assumption); (case hg => decide +kernel)))
local macro_rules | `(tactic| walk_at "tyname") => `(tactic| first
  | ((with_reducible refine' ve_ty "int" ?hg ?hm ?hv ?_); (case hg => decide +kernel); (case hm => exact (‹Blt _›).int); (case hv => exact bt_int))
  | ((with_reducible refine' ve_ty "bool" ?hg ?hm ?hv ?_); (case hg => decide +kernel); (case hm => exact (‹Blt _›).bool); (case hv => exact bt_bool))
  | ((with_reducible refine' ve_ty "str" ?hg ?hm ?hv ?_); (case hg => decide +kernel); (case hm => exact (‹Blt _›).str); (case hv => exact bt_str))
  | ((with_reducible refine' ve_ty "list" ?hg ?hm ?hv ?_); (case hg => decide +kernel); (case hm => exact (‹Blt _›).list); (case hv => exact bt_list))
  | ((with_reducible refine' ve_ty "tuple" ?hg ?hm ?hv ?_); (case hg => decide +kernel); (case hm => exact (‹Blt _›).tuple); (case hv => exact bt_tuple)))
local macro_rules | `(tactic| walk_at "blt") => `(tactic| first
  | ((with_reducible refine' blt1 "len" ?hg ?hm ?hv ?_ ?he); (case hg => decide +kernel); (case hm => exact (‹Blt _›).len); (case hv => exact bt_len); (case he => rfl))
  | ((with_reducible refine' blt1 "sum" ?hg ?hm ?hv ?_ ?he); (case hg => decide +kernel); (case hm => exact (‹Blt _›).sum); (case hv => exact bt_sum); (case he => rfl))
  | ((with_reducible refine' blt1 "abs" ?hg ?hm ?hv ?_ ?he); (case hg => decide +kernel); (case hm => exact (‹Blt _›).abs); (case hv => exact bt_abs); (case he => rfl))
  | ((with_reducible refine' blt1 "sorted" ?hg ?hm ?hv ?_ ?he); (case hg => decide +kernel); (case hm => exact (‹Blt _›).sorted); (case hv => exact bt_sorted); (case he => rfl))
  | ((with_reducible refine' blt1 "all" ?hg ?hm ?hv ?_ ?he); (case hg => decide +kernel); (case hm => exact (‹Blt _›).all); (case hv => exact bt_all); (case he => rfl))
  | ((with_reducible refine' blt1 "any" ?hg ?hm ?hv ?_ ?he); (case hg => decide +kernel); (case hm => exact (‹Blt _›).any); (case hv => exact bt_any); (case he => rfl))
  | ((with_reducible refine' blt1 "max" ?hg ?hm ?hv ?_ ?he); (case hg => decide +kernel); (case hm => exact (‹Blt _›).max); (case hv => exact bt_max); (case he => rfl))
  | ((with_reducible refine' blt1 "min" ?hg ?hm ?hv ?_ ?he); (case hg => decide +kernel); (case hm => exact (‹Blt _›).min); (case hv => exact bt_min); (case he => rfl))
  | ((with_reducible refine' blt2 "isinstance" ?hg ?hm ?hv ?_ ?he ?hf); (case hg => decide +kernel); (case hm => exact (‹Blt _›).isi); (case hv => exact bt_isi); (case he => rfl); (case hf => rfl))
  | ((with_reducible refine' blt2 "max" ?hg ?hm ?hv ?_ ?he ?hf); (case hg => decide +kernel); (case hm => exact (‹Blt _›).max); (case hv => exact bt_max); (case he => rfl); (case hf => rfl))
  | ((with_reducible refine' blt2 "min" ?hg ?hm ?hv ?_ ?he ?hf); (case hg => decide +kernel); (case hm => exact (‹Blt _›).min); (case hv => exact bt_min); (case he => rfl); (case hf => rfl))
  | ((with_reducible refine' bty1 "int" ?hg ?hm ?hv ?_ ?he); (case hg => decide +kernel); (case hm => exact (‹Blt _›).int); (case hv => exact bt_int); (case he => rfl))
  | ((with_reducible refine' bty1 "list" ?hg ?hm ?hv ?_ ?he); (case hg => decide +kernel); (case hm => exact (‹Blt _›).list); (case hv => exact bt_list); (case he => rfl))
  | ((with_reducible refine' bty1 "tuple" ?hg ?hm ?hv ?_ ?he); (case hg => decide +kernel); (case hm => exact (‹Blt _›).tuple); (case hv => exact bt_tuple); (case he => rfl))
  | ((with_reducible refine' bty1 "str" ?hg ?hm ?hv ?_ ?he); (case hg => decide +kernel); (case hm => exact (‹Blt _›).str); (case hv => exact bt_str); (case he => rfl)))
/- a call of a def of the text, its Callable in the context -/
local macro_rules | `(tactic| walk_at "call") => `(tactic| first
  | ((with_reducible refine' call1 ?h ?hc ?hj ?hg ?_ ?h1); (case h => with_reducible assumption); (case hc => rfl); (case hg => decide +kernel); (case hj => first | decide | omega); (case h1 => rfl))
  | ((with_reducible refine' call2 ?h ?hc ?hj ?hg ?_ ?h1 ?h2); (case h => with_reducible assumption); (case hc => rfl); (case hg => decide +kernel); (case hj => first | decide | omega); (case h1 => rfl); (case h2 => rfl))
  | ((with_reducible refine' call3 ?h ?hc ?hj ?hg ?_ ?h1 ?h2 ?h3); (case h => with_reducible assumption); (case hc => rfl); (case hg => decide +kernel); (case hj => first | decide | omega); (case h1 => rfl); (case h2 => rfl); (case h3 => rfl))
  | ((with_reducible refine' call4 ?h ?hc ?hj ?hg ?_ ?h1 ?h2 ?h3 ?h4); (case h => with_reducible assumption); (case hc => rfl); (case hg => decide +kernel); (case hj => first | decide | omega); (case h1 => rfl); (case h2 => rfl); (case h3 => rfl); (case h4 => rfl))
  | ((with_reducible refine' call0 ?h ?hc ?hj ?hg ?_); (case h => with_reducible assumption); (case hc => rfl); (case hg => decide +kernel); (case hj => first | decide | omega)))
/- one step -/
local macro_rules | `(tactic| walk_at "v") => `(tactic| first
  | with_reducible refine' asB_i ?_
  | with_reducible refine' asInt_i ?_
  | with_reducible refine' asObj_i ?_
  | with_reducible refine' if_t ?_
  | with_reducible refine' if_f ?_
  | with_reducible refine' if_nt ?_
  | with_reducible refine' if_nf ?_
  | ((with_reducible refine' if_dt ?h ?_); (case h => first | assumption | omega))
  | ((with_reducible refine' if_df ?h ?_); (case h => first | assumption | omega))
  | ((with_reducible refine' if_ndt ?h ?_); (case h => first | assumption | omega))
  | ((with_reducible refine' if_ndf ?h ?_); (case h => first | assumption | omega))
  | with_reducible refine' ve_int ?_
  | with_reducible refine' ve_str ?_
  | with_reducible refine' ve_bl ?_
  | with_reducible refine' ve_non ?_
  | walk_at "name"
  | with_reducible refine' ve_bin ?_
  | with_reducible refine' ve_cmp rfl ?_
  | with_reducible refine' vt_cmp rfl ?_
  | with_reducible refine' ve_not ?_
  | with_reducible refine' vt_not ?_
  | with_reducible refine' ve_and ?_
  | with_reducible refine' ve_or ?_
  | with_reducible refine' ve_one ?_
  | with_reducible refine' vw_and ?_
  | with_reducible refine' vw_or ?_
  | with_reducible refine' vw_and1 ?_
  | with_reducible refine' vw_or1 ?_
  | with_reducible refine' va_nil ?_
  | with_reducible refine' va_cons ?_ rfl
  | with_reducible refine' vo_add ?_
  | with_reducible refine' vo_sub ?_
  | with_reducible refine' vo_lt ?_
  | with_reducible refine' vo_le ?_
  | with_reducible refine' vo_gt ?_
  | with_reducible refine' vo_ge ?_
  | with_reducible refine' vo_eq ?_
  | with_reducible refine' vo_ne ?_
  | with_reducible refine' vo_eqS ?_
  | with_reducible refine' vo_neS ?_
  | with_reducible refine' vo_eqB ?_
  | with_reducible refine' vo_is ?_
  | with_reducible refine' vo_isnot ?_
  | with_reducible refine' vu_neg ?_
  | ((with_reducible refine' vo_mod ?h ?_); (case h => walk_at "num"))
  | ((with_reducible refine' vo_fdiv ?h ?_); (case h => walk_at "num"))
  | ((with_reducible refine' vo_mul ?h ?_); (case h => walk_at "num"))
  | ((with_reducible refine' vo_pow ?h ?_); (case h => walk_at "num"))
  | ((with_reducible refine' vo_shl ?h ?_); (case h => walk_at "num"))
  | ((with_reducible refine' ve_chain ?_ ?h); (case h => rfl))
  | ((with_reducible refine' vt_chain ?_ ?h); (case h => rfl))
  | with_reducible refine' ve_un ?_
  | with_reducible refine' ve_if ?_
  | with_reducible refine' vt_w (vw_and ?_)
  | with_reducible refine' vt_w (vw_or ?_)
  | ((with_reducible refine' and_len ?h ?_); (case h => exact len_small rfl))
  | walk_at "spec"
  | walk_at "call"
  | walk_at "blt"
  | ((with_reducible refine' ve_ix ?_ ?h); (case h => exact fun _ _ => rfl))
  | ((with_reducible refine' ve_tup ?_ ?h); (case h => exact pe_tup pa_w))
  | with_reducible refine' ve_lst ?_
  | walk_at "glob"
  | ((with_reducible refine' vt_tr ?_ ?he); (case he => intro _; rfl))
  | with_reducible refine' tr_bl ?_
  | with_reducible refine' tr_int ?_
  | with_reducible refine' tr_non ?_
  | with_reducible refine' tr_tup ?_
  | with_reducible refine' tr_lst ?_
  | walk_at "tyname"
  | ((with_reducible refine' vx_tup ?h ?_); (case h => rfl))
  | with_reducible refine' vcl_int ?_)
local macro_rules | `(tactic| walk_at "go") => `(tactic| repeat walk_at "v")
/- one statement: a name stored -/
local macro_rules | `(tactic| walk_at "let") => `(tactic| (refine' vss_cons (vs_lt ?hi ?hx ?_ ?hs); (case hi => walk_at "ix"); (case hx => decide +kernel); (case hs => rfl)))
local macro_rules | `(tactic| walk_at "ret") => `(tactic| refine' vss_cons (vs_ret ?_))
local macro_rules | `(tactic| walk_at "fld") => `(tactic| (refine' vss_cons (vs_fld ?_ ?hs); (case hs => rfl)))
local macro_rules | `(tactic| walk_at "if") => `(tactic| refine' vss_cons (vs_if ?_))
local macro_rules | `(tactic| walk_at "expr") => `(tactic| (refine' vss_cons (vs_expr ?_ ?hs); (case hs => rfl)))
local macro_rules | `(tactic| walk_at "nil") => `(tactic| refine' vss_nil ?_)
namespace Wl
open Wm
local macro_rules | `(tactic| walk_at "okn") => `(tactic| first | assumption | (refine' okn_R ?_ ?_ ?_ <;> omega) | (refine' okn_R21 ?_ ?_ ?_ <;> omega))
local macro_rules | `(tactic| walk_at "two") => `(tactic| (refine vg_two rfl (by walk_at "ix") (by decide +kernel) (by walk_at "ix") (by decide +kernel) ?_ rfl rfl rfl rfl))
local macro_rules | `(tactic| walk_at "blk") => `(tactic| exact ⟨rfl, by decide +kernel, by decide +kernel, by decide +kernel, by decide +kernel⟩)
local macro_rules | `(tactic| walk_at "spec") => `(tactic| first
  | with_reducible refine' asDy_i ?_
  | with_reducible refine' asW_i ?_
  | ((with_reducible refine' S_scaled_i ?ho ?_); (case ho => walk_at "okn"))
  | ((with_reducible refine' ve_dyT ?hT ?hc ?hj ?_ ?h1); (case hT => exact (‹Dy3 _ _›).d2.d1); (case hc => rfl); (case hj => decide); (case h1 => rfl))
  | ((with_reducible refine' ve_dyP ?hT ?hc ?hj ?_ ?h1); (case hT => exact (‹Dy3 _ _›).d2.d1); (case hc => rfl); (case hj => decide); (case h1 => rfl))
  | ((with_reducible refine' vo_dyadd ?hT ?hc ?hj ?hx ?hy ?hz ?_); (case hT => exact (‹Dy3 _ _›).d2); (case hc => rfl); (case hj => decide); (case hx => walk_at "okn"); (case hy => walk_at "okn"); (case hz => walk_at "okn"))
  | ((with_reducible refine' vu_dyneg ?hT ?hc ?hj ?hx ?_); (case hT => exact (‹Dy3 _ _›).d2); (case hc => rfl); (case hj => decide); (case hx => walk_at "okn"))
  | ((with_reducible refine' vo_dysub ?hT ?hc ?hj ?hx ?hy ?hz ?_); (case hT => assumption); (case hc => rfl); (case hj => decide); (case hx => walk_at "okn"); (case hy => walk_at "okn"); (case hz => walk_at "okn"))
  | ((with_reducible refine' ve_dyless _ ?hT ?hc ?hj ?_ ?h1 ?h2); (case hT => assumption); (case hc => rfl); (case hj => decide); (case h1 => rfl); (case h2 => rfl))
  | ((with_reducible refine' ve_dysame _ ?hT ?hc ?hj ?_ ?h1 ?h2); (case hT => assumption); (case hc => rfl); (case hj => decide); (case h1 => rfl); (case h2 => rfl))
  | ((with_reducible refine' ve_wat _ ?hT ?hc ?hj ?_ ?h1 ?h2); (case hT => assumption); (case hc => rfl); (case hj => decide); (case h1 => rfl); (case h2 => rfl))
  | ((with_reducible refine' ve_wsa _ ?hT ?hc ?hj ?_ ?h1 ?h2); (case hT => assumption); (case hc => rfl); (case hj => decide); (case h1 => rfl); (case h2 => rfl))
  | ((with_reducible refine' ve_wtu _ ?hT ?hc ?hj ?_ ?h1); (case hT => assumption); (case hc => rfl); (case hj => decide); (case h1 => rfl))
  | ((with_reducible refine' ve_wsl ?hT ?hc ?hj ?_ ?h1); (case hT => assumption); (case hc => rfl); (case hj => decide); (case h1 => rfl))
  | ((with_reducible refine' ve_dyhf _ ?hT ?hc ?hj ?_ ?h1); (case hT => assumption); (case hc => rfl); (case hj => decide); (case h1 => rfl))
  | ((with_reducible refine' ve_wpoF _ ?hT ?hc ?hj ?_ ?h1); (case hT => assumption); (case hc => rfl); (case hj => decide); (case h1 => rfl))
  | ((with_reducible refine' ve_wall ?hT ?hc ?hj ?hg ?_ ?h1 ?h2); (case hT => assumption); (case hc => rfl); (case hj => decide); (case hg => decide +kernel); (case h1 => rfl); (case h2 => rfl))
  | ((with_reducible refine' ok2_i ?hx ?hy ?_); (case hx => walk_at "okn"); (case hy => walk_at "okn")))
variable {E : EnvR}
/-- an end of a piece: a dyadic or None -/
def eD (C : Addr) : Option Int → D
  | none => .non
  | some e => dy C e
def S_crossing (C CW : Addr) : SpV := fun ds w P _ => ∃ (A A' : Wal) (s : Int) (e : Option Int), ds = [wallD C CW A, wallD C CW A', dy C s, eD C e] ∧ SmW A ∧ SmW A' ∧ Rn 144115188075855872 s ∧ 0 ≤ s ∧ (∀ x, e = some x → Okn x) ∧ P (eD C (cross A A' s e)) w
theorem ok_crossing {f C CW CB : Addr} {fd : FuncData} (T : Wc E C CW CB) (F : Fun E.K "crossing" "crossing" s_crossing f fd) : FnV E 7 f fd p_crossing (S_crossing C CW) := by
  have T1 := T.a
  have B := T1.B
  have D3 := T1.dy
  refine fnV F sc_crossing (fun ds w P R h => ?_) (fun c ds w P h => ?_)
  · obtain ⟨a, b, _, _, rfl, _⟩ := h; rfl
  · obtain ⟨A, A', s, e, rfl, hA, hA', hs, h0, he, h⟩ := h
    have nneg : ¬ s < 0 := by omega
    obtain ⟨v1, v2, v3⟩ := V_bd hA hs
    obtain ⟨u1, u2, u3⟩ := V_bd hA' hs
    have okv : Okn (V A s) := by refine okn_R ?_ ?_ ?_ <;> omega
    have oku : Okn (V A' s) := by refine okn_R ?_ ?_ ?_ <;> omega
    obtain ⟨s1, s2, s3'⟩ := hs
    walk_at "let"
    walk_at "go"
    refine ⟨hA, ⟨s1, s2, s3'⟩, ?_⟩
    rw [if_neg nneg]
    walk_at "go"
    refine ⟨hA', ⟨s1, s2, s3'⟩, ?_⟩
    rw [if_neg nneg]
    walk_at "go"
    walk_at "let"
    walk_at "go"
    refine ⟨hA', ⟨s1, s2, s3'⟩, ?_⟩
    rw [if_neg nneg]
    walk_at "go"
    refine ⟨hA, ⟨s1, s2, s3'⟩, ?_⟩
    rw [if_neg nneg]
    walk_at "go"
    refine vss_if (fun Γ w' => w' = w ∧ ∃ (g cl : Int), 0 ≤ g ∧ g ≤ 864691128455135232 ∧ g % 4194304 = 0 ∧ Γ = [some (wallD C CW A), some (wallD C CW A'), some (dy C s), some (eD C e), some (dy C g), some (.int cl), none] ∧ P (eD C (crX g cl s e)) w) ?_ ?_
    · walk_at "go"
      have pn := pt_neg (V A s - V A' s)
      refine ite_dec (fun h1 => ?_) (fun h1 => ?_)
      · walk_at "let"
        walk_at "go"
        walk_at "let"
        walk_at "go"
        walk_at "nil"
        refine ⟨rfl, -(V A s - V A' s), -(S A' s - S A s), by omega, by omega, by omega, rfl, ?_⟩
        unfold cross at h
        rw [if_pos (pn.mp h1)] at h
        exact h
      · walk_at "nil"
        refine ⟨rfl, V A s - V A' s, S A' s - S A s, by omega, by omega, by omega, rfl, ?_⟩
        unfold cross at h
        rw [if_neg (fun z => h1 (pn.mpr z))] at h
        exact h
    · rintro Γ w' ⟨rfl, g, cl, g0, g1, g2, rfl, h⟩
      have pz := pt_eq0 g
      have okg : Okn g := by refine okn_R ?_ ?_ ?_ <;> omega
      have oks : Okn s := by refine okn_R ?_ ?_ ?_ <;> omega
      walk_at "if"
      walk_at "go"
      have none1 : (g = 0 ∨ cl ≤ 0) → P .non w' := fun z => by
        unfold crX at h
        rw [if_pos z] at h
        exact h
      refine ite_dec (fun h1 => ?_) (fun h1 => ?_)
      · walk_at "go"
        walk_at "ret"
        walk_at "go"
        exact none1 (.inl (pz.mp h1))
      walk_at "go"
      refine ite_dec (fun h2 => ?_) (fun h2 => ?_)
      · walk_at "ret"
        walk_at "go"
        exact none1 (.inr h2)
      walk_at "nil"
      refine vss_if (fun Γ w2 => w2 = w' ∧ ∃ (g' : Int), g' = (if cl = 2 then g / 2 else g) ∧ Γ = [some (wallD C CW A), some (wallD C CW A'), some (dy C s), some (eD C e), some (dy C g'), some (.int cl), none]) ?_ ?_
      · walk_at "go"
        refine ite_dec (fun h3 => ?_) (fun h3 => ?_)
        · walk_at "let"
          walk_at "go"
          refine ⟨okg, by omega, ?_⟩
          walk_at "nil"
          exact ⟨rfl, _, by rw [if_pos h3], rfl⟩
        · walk_at "nil"
          exact ⟨rfl, _, by rw [if_neg h3], rfl⟩
      · rintro Γ w'' ⟨rfl, g', eg, rfl⟩
        have b1 : 0 ≤ g' ∧ g' ≤ 864691128455135232 ∧ g' % 2097152 = 0 := by
          rw [eg]; split <;> omega
        obtain ⟨b1, b2, b3⟩ := b1
        have okg' : Okn g' := by refine okn_R21 ?_ ?_ ?_ <;> omega
        have oksg : Okn (s + g') := by refine okn_R21 ?_ ?_ ?_ <;> omega
        unfold crX at h
        rw [if_neg (fun z => z.elim (fun z => h1 (pz.mpr z)) h2), ← eg] at h
        walk_at "let"
        walk_at "go"
        cases e with
        | none =>
          walk_at "if"
          walk_at "go"
          refine if_t ?_
          walk_at "go"
          walk_at "ret"
          walk_at "go"
          exact h
        | some e =>
          have oke := he e rfl
          simp only at h
          walk_at "if"
          walk_at "go"
          refine if_f ?_
          walk_at "go"
          refine asDy_i (n := e) ?_
          walk_at "go"
          refine ite_dec (fun h4 => ?_) (fun h4 => ?_)
          · rw [if_pos h4] at h
            walk_at "ret"
            walk_at "go"
            exact h
          · rw [if_neg h4] at h
            walk_at "nil"
            walk_at "ret"
            walk_at "go"
            exact h
def S_top_of (C CW : Addr) : SpV := fun ds w P _ => ∃ (d : D) (As : List Wal) (x : Int), ds = [d, dy C x] ∧ seqD w d = some (As.map (wallD C CW)) ∧ As ≠ [] ∧ (∀ A ∈ As, SmW A) ∧ Rn 144115188075855872 x ∧ 0 ≤ x ∧ P (dy C (topv x As)) w
theorem ok_top_of {f C CW CB : Addr} {fd : FuncData} (T : Wc E C CW CB) (F : Fun E.K "top_of" "top_of" s_top_of f fd) : FnV E 7 f fd p_top_of (S_top_of C CW) := by
  have T1 := T.a
  have B := T1.B
  have D3 := T1.dy
  refine fnV F sc_top_of (fun ds w P R h => ?_) (fun c ds w P h => ?_)
  · obtain ⟨a, b, _, rfl, _⟩ := h; rfl
  · obtain ⟨d, As, x, rfl, hd, hne, hsm, hx, h0, h⟩ := h
    have nneg : ¬ x < 0 := by omega
    have okV : ∀ A ∈ As, Okn (V A x) := fun A hA => by
      obtain ⟨v1, v2, v3⟩ := V_bd (hsm A hA) hx
      refine okn_R ?_ ?_ ?_ <;> omega
    obtain ⟨A0, r0, rfl⟩ : ∃ A0 r0, As = A0 :: r0 := by
      cases As with
      | nil => exact absurd rfl hne
      | cons a r => exact ⟨a, r, rfl⟩
    walk_at "let"
    walk_at "go"
    refine vx_seq hd (atI_nat (n := 0) rfl rfl) ?_
    walk_at "go"
    refine ⟨hsm A0 List.mem_cons_self, hx, ?_⟩
    rw [if_neg nneg]
    refine vss_cons (vs_for [3] rfl (vi_list ?_))
    walk_at "go"
    refine ⟨_, hd, ?_⟩
    refine ⟨fun i Γ w' => w' = w ∧ ∃ (m : Int) (g : Option D), Γ = [some d, some (dy C x), some (dy C m), g] ∧ (∃ A ∈ A0 :: r0, m = V A x) ∧ ∀ A ∈ (A0 :: r0).take i, V A x ≤ m,
      ⟨rfl, V A0 x, none, rfl, ⟨A0, List.mem_cons_self, rfl⟩, fun A hA => by simp at hA⟩, fun i Γ w' _ e => by rw [e.1]; exact kpD_of hd, ?_, ?_⟩
    · rintro i dd Γ w' hdd ⟨rfl, m, g, rfl, hm1, hm2⟩
      rw [List.getElem?_map] at hdd
      cases hA : (A0 :: r0)[i]? with
      | none => rw [hA] at hdd; cases hdd
      | some A =>
        rw [hA] at hdd
        cases hdd
        have hAm := List.mem_of_getElem? hA
        have okA := okV A hAm
        have sA := hsm A hAm
        have okm : Okn m := by obtain ⟨A', h1, e⟩ := hm1; rw [e]; exact okV A' h1
        refine vg_nm (by walk_at "ix") (by decide +kernel) ?_
        walk_at "if"
        walk_at "go"
        refine ⟨sA, hx, ?_⟩
        rw [if_neg nneg]
        walk_at "go"
        refine ite_dec (fun h1 => ?_) (fun h1 => ?_)
        · walk_at "let"
          walk_at "go"
          refine ⟨sA, hx, ?_⟩
          rw [if_neg nneg]
          walk_at "nil"
          walk_at "nil"
          refine ⟨rfl, _, _, rfl, ⟨A, hAm, rfl⟩, fun U hU => ?_⟩
          rcases (mem_take_succ hA).mp hU with z | z
          · have := hm2 U z; omega
          · rw [z]; exact Int.le_refl _
        · walk_at "nil"
          walk_at "nil"
          refine ⟨rfl, _, _, rfl, hm1, fun U hU => ?_⟩
          rcases (mem_take_succ hA).mp hU with z | z
          · exact hm2 U z
          · rw [z]; omega
    · rintro Γ w' ⟨rfl, m, g, rfl, hm1, hm2⟩
      rw [List.length_map, List.take_length] at hm2
      walk_at "ret"
      walk_at "go"
      rw [topv_uniq hm1 hm2]
      exact h
end Wl

end

section
set_option maxRecDepth 100000
set_option maxHeartbeats 4000000
open PySem PySem.Spec PyProof.Rows L2 VL
local macro_rules | `(tactic| walk_at "ix") => `(tactic| first | with_reducible exact ix0 | with_reducible exact ix1 | with_reducible exact ix2 | with_reducible exact ix3 | with_reducible exact ix4 | with_reducible exact ix5 | with_reducible exact ix6 | with_reducible exact ix7 | with_reducible exact ix8 | with_reducible exact ix9 | with_reducible exact ix10 | with_reducible exact ix11 | with_reducible exact ix12 | with_reducible exact ix13 | with_reducible exact ix14 | with_reducible exact ix15 | with_reducible exact ix16)
local macro_rules | `(tactic| walk_at "num") => `(tactic| first | assumption | decide | omega | exact ⟨by decide, by decide⟩ | exact .inr ⟨by decide, by decide⟩ | exact .inl ⟨by decide, by decide⟩ | exact ⟨by omega, by omega, by omega⟩)
/- a name -/
local macro_rules | `(tactic| walk_at "name") => `(tactic| ((with_reducible refine' ve_nm ?hN ?hv ?hG ?_); (case hN => walk_at "ix"); (case hv => decide +kernel); (case hG => rfl)))
local macro_rules | `(tactic| walk_at "glob") => `(tactic| first
  | ((with_reducible refine' ve_gO ?hg ?hm ?_); (case hm => with_reducible assumption); (case hg => decide +kernel))
  | ((with_reducible refine' ve_gI ?hg ?hm ?_); (case hm => with_reducible assumption); (case hg => decide +kernel)))
local macro_rules | `(tactic| walk_at "tyname") => `(tactic| first
  | ((with_reducible refine' ve_ty "int" ?hg ?hm ?hv ?_); (case hg => decide +kernel); (case hm => exact (‹Blt _›).int); (case hv => exact bt_int))
  | ((with_reducible refine' ve_ty "bool" ?hg ?hm ?hv ?_); (case hg => decide +kernel); (case hm => exact (‹Blt _›).bool); (case hv => exact bt_bool))
  | ((with_reducible refine' ve_ty "str" ?hg ?hm ?hv ?_); (case hg => decide +kernel); (case hm => exact (‹Blt _›).str); (case hv => exact bt_str))
  | ((with_reducible refine' ve_ty "list" ?hg ?hm ?hv ?_); (case hg => decide +kernel); (case hm => exact (‹Blt _›).list); (case hv => exact bt_list))
  | ((with_reducible refine' ve_ty "tuple" ?hg ?hm ?hv ?_); (case hg => decide +kernel); (case hm => exact (‹Blt _›).tuple); (case hv => exact bt_tuple)))
local macro_rules | `(tactic| walk_at "blt") => `(tactic| first
  | ((with_reducible refine' blt1 "len" ?hg ?hm ?hv ?_ ?he); (case hg => decide +kernel); (case hm => exact (‹Blt _›).len); (case hv => exact bt_len); (case he => rfl))
  | ((with_reducible refine' blt1 "sum" ?hg ?hm ?hv ?_ ?he); (case hg => decide +kernel); (case hm => exact (‹Blt _›).sum); (case hv => exact bt_sum); (case he => rfl))
  | ((with_reducible refine' blt1 "abs" ?hg ?hm ?hv ?_ ?he); (case hg => decide +kernel); (case hm => exact (‹Blt _›).abs); (case hv => exact bt_abs); (case he => rfl))
  | ((with_reducible refine' blt1 "sorted" ?hg ?hm ?hv ?_ ?he); (case hg => decide +kernel); (case hm => exact (‹Blt _›).sorted); (case hv => exact bt_sorted); (case he => rfl))
  | ((with_reducible refine' blt1 "all" ?hg ?hm ?hv ?_ ?he); (case hg => decide +kernel); (case hm => exact (‹Blt _›).all); (case hv => exact bt_all); (case he => rfl))
  | ((with_reducible refine' blt1 "any" ?hg ?hm ?hv ?_ ?he); (case hg => decide +kernel); (case hm => exact (‹Blt _›).any); (case hv => exact bt_any); (case he => rfl))
  | ((with_reducible refine' blt1 "max" ?hg ?hm ?hv ?_ ?he); (case hg => decide +kernel); (case hm => exact (‹Blt _›).max); (case hv => exact bt_max); (case he => rfl))
  | ((with_reducible refine' blt1 "min" ?hg ?hm ?hv ?_ ?he); (case hg => decide +kernel); (case hm => exact (‹Blt _›).min); (case hv => exact bt_min); (case he => rfl))
  | ((with_reducible refine' blt2 "isinstance" ?hg ?hm ?hv ?_ ?he ?hf); (case hg => decide +kernel); (case hm => exact (‹Blt _›).isi); (case hv => exact bt_isi); (case he => rfl); (case hf => rfl))
  | ((with_reducible refine' blt2 "max" ?hg ?hm ?hv ?_ ?he ?hf); (case hg => decide +kernel); (case hm => exact (‹Blt _›).max); (case hv => exact bt_max); (case he => rfl); (case hf => rfl))
  | ((with_reducible refine' blt2 "min" ?hg ?hm ?hv ?_ ?he ?hf); (case hg => decide +kernel); (case hm => exact (‹Blt _›).min); (case hv => exact bt_min); (case he => rfl); (case hf => rfl))
  | ((with_reducible refine' bty1 "int" ?hg ?hm ?hv ?_ ?he); (case hg => decide +kernel); (case hm => exact (‹Blt _›).int); (case hv => exact bt_int); (case he => rfl))
  | ((with_reducible refine' bty1 "list" ?hg ?hm ?hv ?_ ?he); (case hg => decide +kernel); (case hm => exact (‹Blt _›).list); (case hv => exact bt_list); (case he => rfl))
  | ((with_reducible refine' bty1 "tuple" ?hg ?hm ?hv ?_ ?he); (case hg => decide +kernel); (case hm => exact (‹Blt _›).tuple); (case hv => exact bt_tuple); (case he => rfl))
  | ((with_reducible refine' bty1 "str" ?hg ?hm ?hv ?_ ?he); (case hg => decide +kernel); (case hm => exact (‹Blt _›).str); (case hv => exact bt_str); (case he => rfl)))
/- a call of a def of the text, its Callable in the context -/
local macro_rules | `(tactic| walk_at "call") => `(tactic| first
  | ((with_reducible refine' call1 ?h ?hc ?hj ?hg ?_ ?h1); (case h => with_reducible assumption); (case hc => rfl); (case hg => decide +kernel); (case hj => first | decide | omega); (case h1 => rfl))
  | ((with_reducible refine' call2 ?h ?hc ?hj ?hg ?_ ?h1 ?h2); (case h => with_reducible assumption); (case hc => rfl); (case hg => decide +kernel); (case hj => first | decide | omega); (case h1 => rfl); (case h2 => rfl))
  | ((with_reducible refine' call3 ?h ?hc ?hj ?hg ?_ ?h1 ?h2 ?h3); (case h => with_reducible assumption); (case hc => rfl); (case hg => decide +kernel); (case hj => first | decide | omega); (case h1 => rfl); (case h2 => rfl); (case h3 => rfl))
  | ((with_reducible refine' call4 ?h ?hc ?hj ?hg ?_ ?h1 ?h2 ?h3 ?h4); (case h => with_reducible assumption); (case hc => rfl); (case hg => decide +kernel); (case hj => first | decide | omega); (case h1 => rfl); (case h2 => rfl); (case h3 => rfl); (case h4 => rfl))
  | ((with_reducible refine' call0 ?h ?hc ?hj ?hg ?_); (case h => with_reducible assumption); (case hc => rfl); (case hg => decide +kernel); (case hj => first | decide | omega)))
/- one step -/
local macro_rules | `(tactic| walk_at "v") => `(tactic| first
  | with_reducible refine' asB_i ?_
  | with_reducible refine' asInt_i ?_
  | with_reducible refine' asObj_i ?_
  | with_reducible refine' if_t ?_
  | with_reducible refine' if_f ?_
  | with_reducible refine' if_nt ?_
  | with_reducible refine' if_nf ?_
  | ((with_reducible refine' if_dt ?h ?_); (case h => first | assumption | omega))
  | ((with_reducible refine' if_df ?h ?_); (case h => first | assumption | omega))
  | ((with_reducible refine' if_ndt ?h ?_); (case h => first | assumption | omega))
  | ((with_reducible refine' if_ndf ?h ?_); (case h => first | assumption | omega))
  | with_reducible refine' ve_int ?_
  | with_reducible refine' ve_str ?_
  | with_reducible refine' ve_bl ?_
  | with_reducible refine' ve_non ?_
  | walk_at "name"
  | with_reducible refine' ve_bin ?_
  | with_reducible refine' ve_cmp rfl ?_
  | with_reducible refine' vt_cmp rfl ?_
  | with_reducible refine' ve_not ?_
  | with_reducible refine' vt_not ?_
  | with_reducible refine' ve_and ?_
  | with_reducible refine' ve_or ?_
  | with_reducible refine' ve_one ?_
  | with_reducible refine' vw_and ?_
  | with_reducible refine' vw_or ?_
  | with_reducible refine' vw_and1 ?_
  | with_reducible refine' vw_or1 ?_
  | with_reducible refine' va_nil ?_
  | with_reducible refine' va_cons ?_ rfl
  | with_reducible refine' vo_add ?_
  | with_reducible refine' vo_sub ?_
  | with_reducible refine' vo_lt ?_
  | with_reducible refine' vo_le ?_
  | with_reducible refine' vo_gt ?_
  | with_reducible refine' vo_ge ?_
  | with_reducible refine' vo_eq ?_
  | with_reducible refine' vo_ne ?_
  | with_reducible refine' vo_eqS ?_
  | with_reducible refine' vo_neS ?_
  | with_reducible refine' vo_eqB ?_
  | with_reducible refine' vo_is ?_
  | with_reducible refine' vo_isnot ?_
  | with_reducible refine' vu_neg ?_
  | ((with_reducible refine' vo_mod ?h ?_); (case h => walk_at "num"))
  | ((with_reducible refine' vo_fdiv ?h ?_); (case h => walk_at "num"))
  | ((with_reducible refine' vo_mul ?h ?_); (case h => walk_at "num"))
  | ((with_reducible refine' vo_pow ?h ?_); (case h => walk_at "num"))
  | ((with_reducible refine' vo_shl ?h ?_); (case h => walk_at "num"))
  | ((with_reducible refine' ve_chain ?_ ?h); (case h => rfl))
  | ((with_reducible refine' vt_chain ?_ ?h); (case h => rfl))
  | with_reducible refine' ve_un ?_
  | with_reducible refine' ve_if ?_
  | with_reducible refine' vt_w (vw_and ?_)
  | with_reducible refine' vt_w (vw_or ?_)
  | ((with_reducible refine' and_len ?h ?_); (case h => exact len_small rfl))
  | walk_at "spec"
  | walk_at "call"
  | walk_at "blt"
  | ((with_reducible refine' ve_ix ?_ ?h); (case h => exact fun _ _ => rfl))
  | ((with_reducible refine' ve_tup ?_ ?h); (case h => exact pe_tup pa_w))
  | with_reducible refine' ve_lst ?_
  | walk_at "glob"
  | ((with_reducible refine' vt_tr ?_ ?he); (case he => intro _; rfl))
  | with_reducible refine' tr_bl ?_
  | with_reducible refine' tr_int ?_
  | with_reducible refine' tr_non ?_
  | with_reducible refine' tr_tup ?_
  | with_reducible refine' tr_lst ?_
  | walk_at "tyname"
  | ((with_reducible refine' vx_tup ?h ?_); (case h => rfl))
  | with_reducible refine' vcl_int ?_)
local macro_rules | `(tactic| walk_at "go") => `(tactic| repeat walk_at "v")
/- one statement: a name stored -/
local macro_rules | `(tactic| walk_at "let") => `(tactic| (refine' vss_cons (vs_lt ?hi ?hx ?_ ?hs); (case hi => walk_at "ix"); (case hx => decide +kernel); (case hs => rfl)))
local macro_rules | `(tactic| walk_at "ret") => `(tactic| refine' vss_cons (vs_ret ?_))
local macro_rules | `(tactic| walk_at "fld") => `(tactic| (refine' vss_cons (vs_fld ?_ ?hs); (case hs => rfl)))
local macro_rules | `(tactic| walk_at "if") => `(tactic| refine' vss_cons (vs_if ?_))
local macro_rules | `(tactic| walk_at "expr") => `(tactic| (refine' vss_cons (vs_expr ?_ ?hs); (case hs => rfl)))
local macro_rules | `(tactic| walk_at "nil") => `(tactic| refine' vss_nil ?_)
namespace Wl
open Wm
local macro_rules | `(tactic| walk_at "okn") => `(tactic| first | assumption | (refine' okn_R ?_ ?_ ?_ <;> omega) | (refine' okn_R21 ?_ ?_ ?_ <;> omega))
local macro_rules | `(tactic| walk_at "two") => `(tactic| (refine vg_two rfl (by walk_at "ix") (by decide +kernel) (by walk_at "ix") (by decide +kernel) ?_ rfl rfl rfl rfl))
local macro_rules | `(tactic| walk_at "blk") => `(tactic| exact ⟨rfl, by decide +kernel, by decide +kernel, by decide +kernel, by decide +kernel⟩)
local macro_rules | `(tactic| walk_at "spec") => `(tactic| first
  | with_reducible refine' asDy_i ?_
  | with_reducible refine' asW_i ?_
  | ((with_reducible refine' S_scaled_i ?ho ?_); (case ho => walk_at "okn"))
  | ((with_reducible refine' ve_dyT ?hT ?hc ?hj ?_ ?h1); (case hT => exact (‹Dy3 _ _›).d2.d1); (case hc => rfl); (case hj => decide); (case h1 => rfl))
  | ((with_reducible refine' ve_dyP ?hT ?hc ?hj ?_ ?h1); (case hT => exact (‹Dy3 _ _›).d2.d1); (case hc => rfl); (case hj => decide); (case h1 => rfl))
  | ((with_reducible refine' vo_dyadd ?hT ?hc ?hj ?hx ?hy ?hz ?_); (case hT => exact (‹Dy3 _ _›).d2); (case hc => rfl); (case hj => decide); (case hx => walk_at "okn"); (case hy => walk_at "okn"); (case hz => walk_at "okn"))
  | ((with_reducible refine' vu_dyneg ?hT ?hc ?hj ?hx ?_); (case hT => exact (‹Dy3 _ _›).d2); (case hc => rfl); (case hj => decide); (case hx => walk_at "okn"))
  | ((with_reducible refine' vo_dysub ?hT ?hc ?hj ?hx ?hy ?hz ?_); (case hT => assumption); (case hc => rfl); (case hj => decide); (case hx => walk_at "okn"); (case hy => walk_at "okn"); (case hz => walk_at "okn"))
  | ((with_reducible refine' ve_dyless _ ?hT ?hc ?hj ?_ ?h1 ?h2); (case hT => assumption); (case hc => rfl); (case hj => decide); (case h1 => rfl); (case h2 => rfl))
  | ((with_reducible refine' ve_dysame _ ?hT ?hc ?hj ?_ ?h1 ?h2); (case hT => assumption); (case hc => rfl); (case hj => decide); (case h1 => rfl); (case h2 => rfl))
  | ((with_reducible refine' ve_wat _ ?hT ?hc ?hj ?_ ?h1 ?h2); (case hT => assumption); (case hc => rfl); (case hj => decide); (case h1 => rfl); (case h2 => rfl))
  | ((with_reducible refine' ve_wsa _ ?hT ?hc ?hj ?_ ?h1 ?h2); (case hT => assumption); (case hc => rfl); (case hj => decide); (case h1 => rfl); (case h2 => rfl))
  | ((with_reducible refine' ve_wtu _ ?hT ?hc ?hj ?_ ?h1); (case hT => assumption); (case hc => rfl); (case hj => decide); (case h1 => rfl))
  | ((with_reducible refine' ve_wsl ?hT ?hc ?hj ?_ ?h1); (case hT => assumption); (case hc => rfl); (case hj => decide); (case h1 => rfl))
  | ((with_reducible refine' ve_dyhf _ ?hT ?hc ?hj ?_ ?h1); (case hT => assumption); (case hc => rfl); (case hj => decide); (case h1 => rfl))
  | ((with_reducible refine' ve_wpoF _ ?hT ?hc ?hj ?_ ?h1); (case hT => assumption); (case hc => rfl); (case hj => decide); (case h1 => rfl))
  | ((with_reducible refine' ve_wall ?hT ?hc ?hj ?hg ?_ ?h1 ?h2); (case hT => assumption); (case hc => rfl); (case hj => decide); (case hg => decide +kernel); (case h1 => rfl); (case h2 => rfl))
  | ((with_reducible refine' ok2_i ?hx ?hy ?_); (case hx => walk_at "okn"); (case hy => walk_at "okn")))
variable {E : EnvR}
section
variable {N : List Str} {sc : Scope} {k : Nat} {b : Md} {c : VC E N sc k b} {Γ : G} {w : W} {P : D → W → Prop}
theorem ve_sliceFrom {e lo : Expr} {p2 pos : Pos} (h : VE c e Γ w fun x w1 => VE c lo Γ w1 fun y w2 => asInt y fun i => ∃ (ds : List D) (n : Nat), seqD w2 x = some ds ∧ i = (n : Int) ∧ n ≤ ds.length ∧ P (.lst (ds.drop n)) w2) : VE c (.Subscript e (.Slice (some lo) none none p2) pos) Γ w P :=
  ve_slice (h.imp fun x w1 z => by
    show VE c lo Γ w1 _
    refine z.imp fun y w2 q => ?_
    unfold asInt at q
    split at q
    · obtain ⟨ds, n, h1, rfl, h3, h4⟩ := q
      show ∃ ds, seqD w2 x = some ds ∧ _
      refine ⟨ds, h1, ?_⟩
      have e1 : VL.cutD ds (some (n : Int)) none = ds.drop n := by
        unfold VL.cutD
        rw [HT.sIx_nat, HT.sIx_none, Nat.min_eq_left h3]
        exact List.take_of_length_le (by rw [List.length_drop]; exact Nat.le_refl _)
      rw [e1]
      exact h4
    · exact q.elim)
end
theorem trg_step (n j : Nat) : trg n (j + 1) = trg n j + (n - 1 - j) := rfl
theorem trg_mono (n : Nat) : ∀ {i j : Nat}, i ≤ j → trg n i ≤ trg n j
  | i, 0, h => by have : i = 0 := by omega
                  subst this; exact Nat.le_refl _
  | i, j + 1, h => by
    rcases Nat.lt_or_ge i (j + 1) with z | z
    · have := trg_mono n (i := i) (j := j) (by omega)
      rw [trg_step]; omega
    · have : i = j + 1 := by omega
      subst this; exact Nat.le_refl _
def C2 (As : List Wal) (s : Int) (e : Option Int) (x : Int) : Prop := ∃ (a b : Nat) (A A' : Wal), a < b ∧ As[a]? = some A ∧ As[b]? = some A' ∧ cross A A' s e = some x
def CrsP (As : List Wal) (hs : List Int) (x : Int) : Prop := ∃ (i : Nat) (s : Int), hs[i]? = some s ∧ C2 As s hs[i + 1]? x
theorem cross_okn {A A' : Wal} {s x : Int} {e : Option Int} (hA : SmW A) (hA' : SmW A') (hs : Rn 144115188075855872 s) (h0 : 0 ≤ s) (h : cross A A' s e = some x) : Okn x := by
  obtain ⟨v1, v2, v3⟩ := V_bd hA hs
  obtain ⟨u1, u2, u3⟩ := V_bd hA' hs
  obtain ⟨s1, s2, s3⟩ := hs
  unfold cross at h
  split at h
  · obtain ⟨q1, q2, q3⟩ := crX_bd (m := 2097152) (by omega) h
    have := q3 (by omega) (by omega)
    refine okn_R21 ?_ ?_ ?_ <;> omega
  · obtain ⟨q1, q2, q3⟩ := crX_bd (m := 2097152) (by omega) h
    have := q3 (by omega) (by omega)
    refine okn_R21 ?_ ?_ ?_ <;> omega
def S_crossings (C CW : Addr) : SpV := fun ds w P _ => ∃ (d : D) (As : List Wal), ds = [d] ∧ seqD w d = some (As.map (wallD C CW)) ∧ (∀ A ∈ As, SmW A) ∧ cntW As < 1000000 ∧ cntW As * trg As.length As.length < 1000000 ∧
  ∀ hs xs : List Int, hs.Pairwise (· < ·) → (∀ x, x ∈ hs ↔ allH As x) → hs.length ≤ cntW As → xs.Pairwise (· < ·) → (∀ x, x ∈ xs ↔ CrsP As hs x) → xs.length ≤ hs.length * trg As.length As.length → P (.lst (xs.map (dy C))) w
theorem ok_crossings {f C CW CB : Addr} {fd : FuncData} (T : Wc E C CW CB) (sc1 : Callable E "scaled" 3 1 (S_scaled C)) (sc2 : Callable E "all_heats" 4 1 (S_all_heats C CW)) (sc3 : Callable E "crossing" 7 4 (S_crossing C CW))
    (F : Fun E.K "crossings" "crossings" s_crossings f fd) : FnV E 8 f fd p_crossings (S_crossings C CW) := by
  have T1 := T.a
  have B := T1.B
  have D3 := T1.dy
  refine fnV F sc_crossings (fun ds w P R h => ?_) (fun c ds w P h => ?_)
  · obtain ⟨a, b, rfl, _⟩ := h; rfl
  · obtain ⟨d, As, rfl, hd, hsm, hz, hz2, h⟩ := h
    refine vss_cons (vs_lt (by walk_at "ix") (by decide +kernel) (ve_d0 fun dc hdc => ?_) rfl)
    have up : ∀ m, seqD (w.up dc m) d = some (As.map (wallD C CW)) := fun m => seqD_up hd hdc
    walk_at "let"
    walk_at "go"
    refine ⟨d, As, rfl, up _, hsm, hz, fun hs asc hmem hlen => ?_⟩
    replace h := fun xs => h hs xs asc hmem hlen
    have hsR : ∀ s ∈ hs, Rn 144115188075855872 s ∧ 0 ≤ s := fun s hs' => by
      obtain ⟨A, hA, q, hq, rfl⟩ := (hmem s).mp hs'
      exact ⟨((hsm A hA).bd q hq).1, lin0 (hsm A hA).li q hq⟩
    generalize hT : trg As.length As.length = TT at h hz2
    refine vss_cons (vs_for [3, 4] rfl (vi_enum (by decide +kernel) B.enum ?_ rfl))
    walk_at "go"
    refine ⟨_, _, rfl, rfl, ?_⟩
    refine ⟨fun i Γ w' => ∃ (ns : List Int) (g3 g4 g5 g6 g7 g8 g9 : Option D), Γ = [some d, some (.obj dc), some (.lst (hs.map (dy C))), g3, g4, g5, g6, g7, g8, g9, none] ∧ w' = w.up dc (.dK (kvI C ns)) ∧ ns.Nodup ∧ ns.length ≤ i * TT ∧
      ∀ x, x ∈ ns ↔ ∃ (i' : Nat) (s : Int), i' < i ∧ hs[i']? = some s ∧ C2 As s hs[i' + 1]? x,
      ⟨[], none, none, none, none, none, none, none, rfl, rfl, List.nodup_nil, Nat.zero_le _, fun x => ⟨fun z => by simp at z, fun z => by obtain ⟨i', s, z, _⟩ := z; omega⟩⟩, fun _ _ _ _ _ => True.intro, ?_, ?_⟩
    · rintro i dd Γ w' hdd ⟨ns, g3, g4, g5, g6, g7, g8, g9, rfl, rfl, hn, hl, hm⟩
      obtain ⟨d0, hd0, rfl⟩ := enumD_get hdd
      rw [List.getElem?_map] at hd0
      cases hq : hs[i]? with
      | none => rw [hq] at hd0; cases hd0
      | some s =>
        rw [hq] at hd0
        cases hd0
        obtain ⟨sR, s0⟩ := hsR s (List.mem_of_getElem? hq)
        have hil := (List.getElem?_eq_some_iff.mp hq).1
        have hT1 : (i + 1) * TT ≤ cntW As * TT := Nat.mul_le_mul_right _ (by omega)
        have hT2 : (i + 1) * TT = i * TT + TT := Nat.succ_mul i TT
        walk_at "two"
        walk_at "let"
        walk_at "go"
        have eok : ∀ x, hs[i + 1]? = some x → Okn x := fun x hx => by
          obtain ⟨⟨r1, r2, r3⟩, _⟩ := hsR x (List.mem_of_getElem? hx)
          refine okn_R ?_ ?_ ?_ <;> omega
        refine vss_if (fun Γ w' => w' = w.up dc (.dK (kvI C ns)) ∧ Γ = [some d, some (.obj dc), some (.lst (hs.map (dy C))), some (.int (i : Int)), some (dy C s), some (eD C hs[i + 1]?), g6, g7, g8, g9, none]) ?_ ?_
        · walk_at "go"
          refine vcl_len rfl ?_
          rw [List.length_map]
          walk_at "go"
          refine ite_dec (fun h1 => ?_) (fun h1 => ?_)
          · obtain ⟨e, he⟩ : ∃ e, hs[i + 1]? = some e := ⟨_, List.getElem?_eq_getElem (by omega)⟩
            walk_at "let"
            walk_at "go"
            refine vx_seq rfl (atI_nat (n := i + 1) (map_get he) (by omega)) ?_
            walk_at "nil"
            rw [he]
            exact ⟨rfl, rfl⟩
          · walk_at "nil"
            rw [List.getElem?_eq_none (by omega)]
            exact ⟨rfl, rfl⟩
        · rintro Γ _ ⟨rfl, rfl⟩
          generalize he : hs[i + 1]? = e
          rw [he] at eok
          refine vss_one (vs_for [6, 7] rfl (vi_enum (by decide +kernel) B.enum ?_ rfl))
          walk_at "go"
          refine ⟨_, _, rfl, up _, ?_⟩
          refine ⟨fun j Γ w' => ∃ (ns : List Int) (g6 g7 g8 g9 : Option D), Γ = [some d, some (.obj dc), some (.lst (hs.map (dy C))), some (.int (i : Int)), some (dy C s), some (eD C e), g6, g7, g8, g9, none] ∧ w' = w.up dc (.dK (kvI C ns)) ∧ ns.Nodup ∧ ns.length ≤ i * TT + trg As.length j ∧
            ∀ x, x ∈ ns ↔ (∃ (i' : Nat) (s : Int), i' < i ∧ hs[i']? = some s ∧ C2 As s hs[i' + 1]? x) ∨ ∃ (a b : Nat) (A A' : Wal), a < j ∧ a < b ∧ As[a]? = some A ∧ As[b]? = some A' ∧ cross A A' s e = some x,
            ⟨ns, g6, g7, g8, g9, rfl, rfl, hn, hl, fun x => by
              rw [hm]
              exact ⟨.inl, fun z => z.elim id fun ⟨a, _, _, _, z, _⟩ => by omega⟩⟩, fun i Γ w' _ ⟨ns, _, _, _, _, _, e, _⟩ => by rw [e]; exact kpD_of (up _), ?_, ?_⟩
          · rintro j dd Γ w' hdd ⟨ns, g6, g7, g8, g9, rfl, rfl, hn, hl, hm⟩
            obtain ⟨d0, hd0, rfl⟩ := enumD_get hdd
            rw [List.getElem?_map] at hd0
            cases hA : As[j]? with
            | none => rw [hA] at hd0; cases hd0
            | some A =>
              rw [hA] at hd0
              cases hd0
              have sA := hsm A (List.mem_of_getElem? hA)
              have hjl := (List.getElem?_eq_some_iff.mp hA).1
              have ht1 := trg_step As.length j
              have ht2 := trg_mono As.length (i := j + 1) (j := As.length) (by omega)
              walk_at "two"
              refine vss_one (vs_for [8] rfl (vi_list (ve_sliceFrom ?_)))
              walk_at "go"
              refine ⟨_, j + 1, up _, by omega, by rw [List.length_map]; omega, ?_⟩
              rw [← List.map_drop]
              refine ⟨_, rfl, ?_⟩
              refine ⟨fun l Γ w' => ∃ (ns : List Int) (g8 g9 : Option D), Γ = [some d, some (.obj dc), some (.lst (hs.map (dy C))), some (.int (i : Int)), some (dy C s), some (eD C e), some (.int (j : Int)), some (wallD C CW A), g8, g9, none] ∧ w' = w.up dc (.dK (kvI C ns)) ∧ ns.Nodup ∧ ns.length ≤ i * TT + trg As.length j + l ∧
                ∀ x, x ∈ ns ↔ ((∃ (i' : Nat) (s : Int), i' < i ∧ hs[i']? = some s ∧ C2 As s hs[i' + 1]? x) ∨ ∃ (a b : Nat) (A A' : Wal), a < j ∧ a < b ∧ As[a]? = some A ∧ As[b]? = some A' ∧ cross A A' s e = some x) ∨ ∃ (b : Nat) (A' : Wal), b < l ∧ As[j + 1 + b]? = some A' ∧ cross A A' s e = some x,
                ⟨ns, g8, g9, rfl, rfl, hn, hl, fun x => by
                  rw [hm]
                  exact ⟨.inl, fun z => z.elim id fun ⟨b, _, z, _⟩ => by omega⟩⟩, fun _ _ _ _ _ => True.intro, ?_, ?_⟩
              · rintro l dd Γ w' hdd ⟨ns, g8, g9, rfl, rfl, hn, hl, hm⟩
                rw [List.getElem?_map, List.getElem?_drop] at hdd
                cases hA' : As[j + 1 + l]? with
                | none => rw [hA'] at hdd; cases hdd
                | some A' =>
                  rw [hA'] at hdd
                  cases hdd
                  have sA' := hsm A' (List.mem_of_getElem? hA')
                  have hll := (List.getElem?_eq_some_iff.mp hA').1
                  refine vg_nm (by walk_at "ix") (by decide +kernel) ?_
                  walk_at "let"
                  walk_at "go"
                  refine ⟨A, A', s, e, rfl, sA, sA', sR, s0, eok, ?_⟩
                  have stepN : cross A A' s e = none → ∀ x, x ∈ ns ↔ ((∃ (i' : Nat) (s : Int), i' < i ∧ hs[i']? = some s ∧ C2 As s hs[i' + 1]? x) ∨ ∃ (a b : Nat) (A A' : Wal), a < j ∧ a < b ∧ As[a]? = some A ∧ As[b]? = some A' ∧ cross A A' s e = some x) ∨ ∃ (b : Nat) (A' : Wal), b < l + 1 ∧ As[j + 1 + b]? = some A' ∧ cross A A' s e = some x := fun hx x => by
                    rw [hm]
                    constructor
                    · rintro (z | ⟨b, U, z1, z2, z3⟩)
                      · exact .inl z
                      · exact .inr ⟨b, U, by omega, z2, z3⟩
                    · rintro (z | ⟨b, U, z1, z2, z3⟩)
                      · exact .inl z
                      · rcases Nat.lt_or_ge b l with q | q
                        · exact .inr ⟨b, U, q, z2, z3⟩
                        · have : b = l := by omega
                          subst this
                          rw [hA'] at z2
                          cases z2
                          rw [hx] at z3; cases z3
                  cases hx : cross A A' s e with
                  | none =>
                    walk_at "if"
                    walk_at "go"
                    refine if_f ?_
                    walk_at "nil"
                    walk_at "nil"
                    exact ⟨ns, _, _, rfl, rfl, hn, by omega, stepN hx⟩
                  | some y =>
                    rw [show eD C (some y) = dy C y from rfl]
                    have oky := cross_okn sA sA' sR s0 hx
                    walk_at "if"
                    walk_at "go"
                    refine if_t ?_
                    refine vss_one (vs_dput ?_ rfl)
                    walk_at "go"
                    refine keyD_int ⟨_, W.up_same, by unfold kvI; rw [List.length_map]; show _ < 2 ^ 24; omega, ?_⟩
                    walk_at "nil"
                    refine ⟨insI ns y, _, _, rfl, by rw [W.up_up, kvI_put], ins_nodup hn, by have := ins_len ns y; omega, fun x => ?_⟩
                    rw [ins_mem, hm]
                    constructor
                    · rintro ((z | ⟨b, U, z1, z2, z3⟩) | z)
                      · exact .inl z
                      · exact .inr ⟨b, U, by omega, z2, z3⟩
                      · exact .inr ⟨l, A', by omega, hA', by rw [hx, z]⟩
                    · rintro (z | ⟨b, U, z1, z2, z3⟩)
                      · exact .inl (.inl z)
                      · rcases Nat.lt_or_ge b l with q | q
                        · exact .inl (.inr ⟨b, U, q, z2, z3⟩)
                        · have : b = l := by omega
                          subst this
                          rw [hA'] at z2
                          cases z2
                          rw [hx] at z3
                          exact .inr (Option.some.inj z3).symm
              · rintro Γ w' ⟨ns, g8, g9, rfl, rfl, hn, hl, hm⟩
                rw [List.length_map, List.length_drop] at hl hm
                refine ⟨ns, _, _, _, _, rfl, rfl, hn, by omega, fun x => ?_⟩
                rw [hm]
                constructor
                · rintro ((z | ⟨a, b, U, U', z1, z2⟩) | ⟨b, U', z1, z2, z3⟩)
                  · exact .inl z
                  · exact .inr ⟨a, b, U, U', by omega, z2⟩
                  · exact .inr ⟨j, j + 1 + b, A, U', by omega, by omega, hA, z2, z3⟩
                · rintro (z | ⟨a, b, U, U', z1, z2, z3, z4, z5⟩)
                  · exact .inl (.inl z)
                  · rcases Nat.lt_or_ge a j with q | q
                    · exact .inl (.inr ⟨a, b, U, U', q, z2, z3, z4, z5⟩)
                    · have : a = j := by omega
                      subst this
                      rw [hA] at z3
                      cases z3
                      have hb := (List.getElem?_eq_some_iff.mp z4).1
                      exact .inr ⟨b - (a + 1), U', by omega, by rw [show a + 1 + (b - (a + 1)) = b by omega]; exact z4, z5⟩
          · rintro Γ w' ⟨ns, g6, g7, g8, g9, rfl, rfl, hn, hl, hm⟩
            rw [enumD_len, List.length_map] at hl hm
            rw [hT] at hl
            refine ⟨ns, _, _, _, _, _, _, _, rfl, rfl, hn, by omega, fun x => ?_⟩
            rw [hm]
            constructor
            · rintro (⟨i', s', z1, z2⟩ | ⟨a, b, U, U', _, z⟩)
              · exact ⟨i', s', by omega, z2⟩
              · exact ⟨i, s, by omega, hq, by rw [he]; exact ⟨a, b, U, U', z⟩⟩
            · rintro ⟨i', s', z1, z2, z3⟩
              rcases Nat.lt_or_ge i' i with q | q
              · exact .inl ⟨i', s', q, z2, z3⟩
              · have : i' = i := by omega
                subst this
                rw [hq] at z2
                cases z2
                rw [he] at z3
                obtain ⟨a, b, U, U', y1, y2, y3⟩ := z3
                exact .inr ⟨a, b, U, U', (List.getElem?_eq_some_iff.mp y2).1, y1, y2, y3⟩
    · rintro Γ w' ⟨ns, g3, g4, g5, g6, g7, g8, g9, rfl, rfl, hn, hl, hm⟩
      rw [enumD_len, List.length_map] at hl hm
      have hT1 : hs.length * TT ≤ cntW As * TT := Nat.mul_le_mul_right _ (by omega)
      walk_at "ret"
      refine ve_sub ?_
      refine ve_lcW [("key", 10)] rfl (by walk_at "blk") (vi_list ?_)
      walk_at "blt"
      walk_at "go"
      refine vcl_listDK rfl W.up_same ?_
      rw [kvI_keys]
      refine vcl_sortedI rfl fun ns' hp hsr => ?_
      have hm' : ∀ x, x ∈ ns' ↔ x ∈ ns := fun x => hp.mem_iff
      refine ⟨_, rfl, fun _ _ _ => True.intro, True.intro, fun i acc => acc = (ns'.take i).map (dy C), rfl, ?_, ?_⟩
      · intro i dd acc D0 hdd h0 hacc
        rw [List.getElem?_map] at hdd
        cases hq : ns'[i]? with
        | none => rw [hq] at hdd; cases hdd
        | some n =>
          rw [hq] at hdd
          cases hdd
          have hl' := (List.getElem?_eq_some_iff.mp hq).1
          rw [hp.length_eq] at hl'
          have ne : dc ≠ D0 := W.ne_of W.up_same h0
          refine lct0 fun c1 => ?_
          refine vg_nm (by walk_at "ix") (by decide +kernel) ?_
          intro c3
          refine ve_dget ?_
          walk_at "go"
          refine keyD_int ⟨_, _, by rw [W.up_ne ne]; exact W.up_same, kvI_val ((hm' n).mp (List.mem_of_getElem? hq)), ?_⟩
          refine ⟨by rw [hacc, List.length_map, List.length_take]; show _ < 2 ^ 24; omega, W.up_same, W.del_up_id h0, ?_⟩
          subst hacc
          exact take_map hq
      · intro acc hacc
        rw [List.length_map, List.take_length] at hacc
        subst hacc
        refine ⟨w, W.Sub.up hdc, h ns' (asc_of hp hsr hn) (fun x => (hm' x).trans ((hm x).trans ?_)) (by rw [hp.length_eq]; exact hl)⟩
        constructor
        · rintro ⟨i', s, _, z⟩; exact ⟨i', s, z⟩
        · rintro ⟨i', s, z1, z2⟩; exact ⟨i', s, (List.getElem?_eq_some_iff.mp z1).1, z1, z2⟩
end Wl

end

section
set_option maxRecDepth 100000
set_option maxHeartbeats 4000000
open PySem PySem.Spec PyProof.Rows L2 VL
local macro_rules | `(tactic| walk_at "ix") => `(tactic| first | with_reducible exact ix0 | with_reducible exact ix1 | with_reducible exact ix2 | with_reducible exact ix3 | with_reducible exact ix4 | with_reducible exact ix5 | with_reducible exact ix6 | with_reducible exact ix7 | with_reducible exact ix8 | with_reducible exact ix9 | with_reducible exact ix10 | with_reducible exact ix11 | with_reducible exact ix12 | with_reducible exact ix13 | with_reducible exact ix14 | with_reducible exact ix15 | with_reducible exact ix16)
local macro_rules | `(tactic| walk_at "num") => `(tactic| first | assumption | decide | omega | exact ⟨by decide, by decide⟩ | exact .inr ⟨by decide, by decide⟩ | exact .inl ⟨by decide, by decide⟩ | exact ⟨by omega, by omega, by omega⟩)
/- a name -/
local macro_rules | `(tactic| walk_at "name") => `(tactic| ((with_reducible refine' ve_nm ?hN ?hv ?hG ?_); (case hN => walk_at "ix"); (case hv => decide +kernel); (case hG => rfl)))
local macro_rules | `(tactic| walk_at "glob") => `(tactic| first
  | ((with_reducible refine' ve_gO ?hg ?hm ?_); (case hm => with_reducible assumption); (case hg => decide +kernel))
  | ((with_reducible refine' ve_gI ?hg ?hm ?_); (case hm => with_reducible assumption); (case hg => decide +kernel)))
local macro_rules | `(tactic| walk_at "tyname") => `(tactic| first
  | ((with_reducible refine' ve_ty "int" ?hg ?hm ?hv ?_); (case hg => decide +kernel); (case hm => exact (‹Blt _›).int); (case hv => exact bt_int))
  | ((with_reducible refine' ve_ty "bool" ?hg ?hm ?hv ?_); (case hg => decide +kernel); (case hm => exact (‹Blt _›).bool); (case hv => exact bt_bool))
  | ((with_reducible refine' ve_ty "str" ?hg ?hm ?hv ?_); (case hg => decide +kernel); (case hm => exact (‹Blt _›).str); (case hv => exact bt_str))
  | ((with_reducible refine' ve_ty "list" ?hg ?hm ?hv ?_); (case hg => decide +kernel); (case hm => exact (‹Blt _›).list); (case hv => exact bt_list))
  | ((with_reducible refine' ve_ty "tuple" ?hg ?hm ?hv ?_); (case hg => decide +kernel); (case hm => exact (‹Blt _›).tuple); (case hv => exact bt_tuple)))
local macro_rules | `(tactic| walk_at "blt") => `(tactic| first
  | ((with_reducible refine' blt1 "len" ?hg ?hm ?hv ?_ ?he); (case hg => decide +kernel); (case hm => exact (‹Blt _›).len); (case hv => exact bt_len); (case he => rfl))
  | ((with_reducible refine' blt1 "sum" ?hg ?hm ?hv ?_ ?he); (case hg => decide +kernel); (case hm => exact (‹Blt _›).sum); (case hv => exact bt_sum); (case he => rfl))
  | ((with_reducible refine' blt1 "abs" ?hg ?hm ?hv ?_ ?he); (case hg => decide +kernel); (case hm => exact (‹Blt _›).abs); (case hv => exact bt_abs); (case he => rfl))
  | ((with_reducible refine' blt1 "sorted" ?hg ?hm ?hv ?_ ?he); (case hg => decide +kernel); (case hm => exact (‹Blt _›).sorted); (case hv => exact bt_sorted); (case he => rfl))
  | ((with_reducible refine' blt1 "all" ?hg ?hm ?hv ?_ ?he); (case hg => decide +kernel); (case hm => exact (‹Blt _›).all); (case hv => exact bt_all); (case he => rfl))
  | ((with_reducible refine' blt1 "any" ?hg ?hm ?hv ?_ ?he); (case hg => decide +kernel); (case hm => exact (‹Blt _›).any); (case hv => exact bt_any); (case he => rfl))
  | ((with_reducible refine' blt1 "max" ?hg ?hm ?hv ?_ ?he); (case hg => decide +kernel); (case hm => exact (‹Blt _›).max); (case hv => exact bt_max); (case he => rfl))
  | ((with_reducible refine' blt1 "min" ?hg ?hm ?hv ?_ ?he); (case hg => decide +kernel); (case hm => exact (‹Blt _›).min); (case hv => exact bt_min); (case he => rfl))
  | ((with_reducible refine' blt2 "isinstance" ?hg ?hm ?hv ?_ ?he ?hf); (case hg => decide +kernel); (case hm => exact (‹Blt _›).isi); (case hv => exact bt_isi); (case he => rfl); (case hf => rfl))
  | ((with_reducible refine' blt2 "max" ?hg ?hm ?hv ?_ ?he ?hf); (case hg => decide +kernel); (case hm => exact (‹Blt _›).max); (case hv => exact bt_max); (case he => rfl); (case hf => rfl))
  | ((with_reducible refine' blt2 "min" ?hg ?hm ?hv ?_ ?he ?hf); (case hg => decide +kernel); (case hm => exact (‹Blt _›).min); (case hv => exact bt_min); (case he => rfl); (case hf => rfl))
  | ((with_reducible refine' bty1 "int" ?hg ?hm ?hv ?_ ?he); (case hg => decide +kernel); (case hm => exact (‹Blt _›).int); (case hv => exact bt_int); (case he => rfl))
  | ((with_reducible refine' bty1 "list" ?hg ?hm ?hv ?_ ?he); (case hg => decide +kernel); (case hm => exact (‹Blt _›).list); (case hv => exact bt_list); (case he => rfl))
  | ((with_reducible refine' bty1 "tuple" ?hg ?hm ?hv ?_ ?he); (case hg => decide +kernel); (case hm => exact (‹Blt _›).tuple); (case hv => exact bt_tuple); (case he => rfl))
  | ((with_reducible refine' bty1 "str" ?hg ?hm ?hv ?_ ?he); (case hg => decide +kernel); (case hm => exact (‹Blt _›).str); (case hv => exact bt_str); (case he => rfl)))
/- a call of a def of the text, its Callable in the context -/
local macro_rules | `(tactic| walk_at "call") => `(tactic| first
  | ((with_reducible refine' call1 ?h ?hc ?hj ?hg ?_ ?h1); (case h => with_reducible assumption); (case hc => rfl); (case hg => decide +kernel); (case hj => first | decide | omega); (case h1 => rfl))
  | ((with_reducible refine' call2 ?h ?hc ?hj ?hg ?_ ?h1 ?h2); (case h => with_reducible assumption); (case hc => rfl); (case hg => decide +kernel); (case hj => first | decide | omega); (case h1 => rfl); (case h2 => rfl))
  | ((with_reducible refine' call3 ?h ?hc ?hj ?hg ?_ ?h1 ?h2 ?h3); (case h => with_reducible assumption); (case hc => rfl); (case hg => decide +kernel); (case hj => first | decide | omega); (case h1 => rfl); (case h2 => rfl); (case h3 => rfl))
  | ((with_reducible refine' call4 ?h ?hc ?hj ?hg ?_ ?h1 ?h2 ?h3 ?h4); (case h => with_reducible assumption); (case hc => rfl); (case hg => decide +kernel); (case hj => first | decide | omega); (case h1 => rfl); (case h2 => rfl); (case h3 => rfl); (case h4 => rfl))
  | ((with_reducible refine' call0 ?h ?hc ?hj ?hg ?_); (case h => with_reducible assumption); (case hc => rfl); (case hg => decide +kernel); (case hj => first | decide | omega)))
/- one step -/
local macro_rules | `(tactic| walk_at "v") => `(tactic| first
  | with_reducible refine' asB_i ?_
  | with_reducible refine' asInt_i ?_
  | with_reducible refine' asObj_i ?_
  | with_reducible refine' if_t ?_
  | with_reducible refine' if_f ?_
  | with_reducible refine' if_nt ?_
  | with_reducible refine' if_nf ?_
  | ((with_reducible refine' if_dt ?h ?_); (case h => first | assumption | omega))
  | ((with_reducible refine' if_df ?h ?_); (case h => first | assumption | omega))
  | ((with_reducible refine' if_ndt ?h ?_); (case h => first | assumption | omega))
  | ((with_reducible refine' if_ndf ?h ?_); (case h => first | assumption | omega))
  | with_reducible refine' ve_int ?_
  | with_reducible refine' ve_str ?_
  | with_reducible refine' ve_bl ?_
  | with_reducible refine' ve_non ?_
  | walk_at "name"
  | with_reducible refine' ve_bin ?_
  | with_reducible refine' ve_cmp rfl ?_
  | with_reducible refine' vt_cmp rfl ?_
  | with_reducible refine' ve_not ?_
  | with_reducible refine' vt_not ?_
  | with_reducible refine' ve_and ?_
  | with_reducible refine' ve_or ?_
  | with_reducible refine' ve_one ?_
  | with_reducible refine' vw_and ?_
  | with_reducible refine' vw_or ?_
  | with_reducible refine' vw_and1 ?_
  | with_reducible refine' vw_or1 ?_
  | with_reducible refine' va_nil ?_
  | with_reducible refine' va_cons ?_ rfl
  | with_reducible refine' vo_add ?_
  | with_reducible refine' vo_sub ?_
  | with_reducible refine' vo_lt ?_
  | with_reducible refine' vo_le ?_
  | with_reducible refine' vo_gt ?_
  | with_reducible refine' vo_ge ?_
  | with_reducible refine' vo_eq ?_
  | with_reducible refine' vo_ne ?_
  | with_reducible refine' vo_eqS ?_
  | with_reducible refine' vo_neS ?_
  | with_reducible refine' vo_eqB ?_
  | with_reducible refine' vo_is ?_
  | with_reducible refine' vo_isnot ?_
  | with_reducible refine' vu_neg ?_
  | ((with_reducible refine' vo_mod ?h ?_); (case h => walk_at "num"))
  | ((with_reducible refine' vo_fdiv ?h ?_); (case h => walk_at "num"))
  | ((with_reducible refine' vo_mul ?h ?_); (case h => walk_at "num"))
  | ((with_reducible refine' vo_pow ?h ?_); (case h => walk_at "num"))
  | ((with_reducible refine' vo_shl ?h ?_); (case h => walk_at "num"))
  | ((with_reducible refine' ve_chain ?_ ?h); (case h => rfl))
  | ((with_reducible refine' vt_chain ?_ ?h); (case h => rfl))
  | with_reducible refine' ve_un ?_
  | with_reducible refine' ve_if ?_
  | with_reducible refine' vt_w (vw_and ?_)
  | with_reducible refine' vt_w (vw_or ?_)
  | ((with_reducible refine' and_len ?h ?_); (case h => exact len_small rfl))
  | walk_at "spec"
  | walk_at "call"
  | walk_at "blt"
  | ((with_reducible refine' ve_ix ?_ ?h); (case h => exact fun _ _ => rfl))
  | ((with_reducible refine' ve_tup ?_ ?h); (case h => exact pe_tup pa_w))
  | with_reducible refine' ve_lst ?_
  | walk_at "glob"
  | ((with_reducible refine' vt_tr ?_ ?he); (case he => intro _; rfl))
  | with_reducible refine' tr_bl ?_
  | with_reducible refine' tr_int ?_
  | with_reducible refine' tr_non ?_
  | with_reducible refine' tr_tup ?_
  | with_reducible refine' tr_lst ?_
  | walk_at "tyname"
  | ((with_reducible refine' vx_tup ?h ?_); (case h => rfl))
  | with_reducible refine' vcl_int ?_)
local macro_rules | `(tactic| walk_at "go") => `(tactic| repeat walk_at "v")
/- one statement: a name stored -/
local macro_rules | `(tactic| walk_at "let") => `(tactic| (refine' vss_cons (vs_lt ?hi ?hx ?_ ?hs); (case hi => walk_at "ix"); (case hx => decide +kernel); (case hs => rfl)))
local macro_rules | `(tactic| walk_at "ret") => `(tactic| refine' vss_cons (vs_ret ?_))
local macro_rules | `(tactic| walk_at "fld") => `(tactic| (refine' vss_cons (vs_fld ?_ ?hs); (case hs => rfl)))
local macro_rules | `(tactic| walk_at "if") => `(tactic| refine' vss_cons (vs_if ?_))
local macro_rules | `(tactic| walk_at "expr") => `(tactic| (refine' vss_cons (vs_expr ?_ ?hs); (case hs => rfl)))
local macro_rules | `(tactic| walk_at "nil") => `(tactic| refine' vss_nil ?_)
namespace Wl
open Wm
local macro_rules | `(tactic| walk_at "okn") => `(tactic| first | assumption | (refine' okn_R ?_ ?_ ?_ <;> omega) | (refine' okn_R21 ?_ ?_ ?_ <;> omega))
local macro_rules | `(tactic| walk_at "two") => `(tactic| (refine vg_two rfl (by walk_at "ix") (by decide +kernel) (by walk_at "ix") (by decide +kernel) ?_ rfl rfl rfl rfl))
local macro_rules | `(tactic| walk_at "blk") => `(tactic| exact ⟨rfl, by decide +kernel, by decide +kernel, by decide +kernel, by decide +kernel⟩)
local macro_rules | `(tactic| walk_at "spec") => `(tactic| first
  | with_reducible refine' asDy_i ?_
  | with_reducible refine' asW_i ?_
  | ((with_reducible refine' S_scaled_i ?ho ?_); (case ho => walk_at "okn"))
  | ((with_reducible refine' ve_dyT ?hT ?hc ?hj ?_ ?h1); (case hT => exact (‹Dy3 _ _›).d2.d1); (case hc => rfl); (case hj => decide); (case h1 => rfl))
  | ((with_reducible refine' ve_dyP ?hT ?hc ?hj ?_ ?h1); (case hT => exact (‹Dy3 _ _›).d2.d1); (case hc => rfl); (case hj => decide); (case h1 => rfl))
  | ((with_reducible refine' vo_dyadd ?hT ?hc ?hj ?hx ?hy ?hz ?_); (case hT => exact (‹Dy3 _ _›).d2); (case hc => rfl); (case hj => decide); (case hx => walk_at "okn"); (case hy => walk_at "okn"); (case hz => walk_at "okn"))
  | ((with_reducible refine' vu_dyneg ?hT ?hc ?hj ?hx ?_); (case hT => exact (‹Dy3 _ _›).d2); (case hc => rfl); (case hj => decide); (case hx => walk_at "okn"))
  | ((with_reducible refine' vo_dysub ?hT ?hc ?hj ?hx ?hy ?hz ?_); (case hT => assumption); (case hc => rfl); (case hj => decide); (case hx => walk_at "okn"); (case hy => walk_at "okn"); (case hz => walk_at "okn"))
  | ((with_reducible refine' ve_dyless _ ?hT ?hc ?hj ?_ ?h1 ?h2); (case hT => assumption); (case hc => rfl); (case hj => decide); (case h1 => rfl); (case h2 => rfl))
  | ((with_reducible refine' ve_dysame _ ?hT ?hc ?hj ?_ ?h1 ?h2); (case hT => assumption); (case hc => rfl); (case hj => decide); (case h1 => rfl); (case h2 => rfl))
  | ((with_reducible refine' ve_wat _ ?hT ?hc ?hj ?_ ?h1 ?h2); (case hT => assumption); (case hc => rfl); (case hj => decide); (case h1 => rfl); (case h2 => rfl))
  | ((with_reducible refine' ve_wsa _ ?hT ?hc ?hj ?_ ?h1 ?h2); (case hT => assumption); (case hc => rfl); (case hj => decide); (case h1 => rfl); (case h2 => rfl))
  | ((with_reducible refine' ve_wtu _ ?hT ?hc ?hj ?_ ?h1); (case hT => assumption); (case hc => rfl); (case hj => decide); (case h1 => rfl))
  | ((with_reducible refine' ve_wsl ?hT ?hc ?hj ?_ ?h1); (case hT => assumption); (case hc => rfl); (case hj => decide); (case h1 => rfl))
  | ((with_reducible refine' ve_dyhf _ ?hT ?hc ?hj ?_ ?h1); (case hT => assumption); (case hc => rfl); (case hj => decide); (case h1 => rfl))
  | ((with_reducible refine' ve_wpoF _ ?hT ?hc ?hj ?_ ?h1); (case hT => assumption); (case hc => rfl); (case hj => decide); (case h1 => rfl))
  | ((with_reducible refine' ve_wall ?hT ?hc ?hj ?hg ?_ ?h1 ?h2); (case hT => assumption); (case hc => rfl); (case hj => decide); (case hg => decide +kernel); (case h1 => rfl); (case h2 => rfl))
  | ((with_reducible refine' ok2_i ?hx ?hy ?_); (case hx => walk_at "okn"); (case hy => walk_at "okn")))
variable {E : EnvR}
/-- the greatest of some walls: what is asked of them -/
structure HiOk (m B : Int) (As : List Wal) : Prop where
  ne : As ≠ []
  bd : ∀ A ∈ As, BdW (2 * m) B A
  dv : 4194304 ∣ m
  b0 : 0 ≤ B
  b1 : B ≤ 18014398509481984
  z1 : cntW As < 40000
  z2 : cntW As * trg As.length As.length < 40000
/-- what it is -/
structure HiRes (m B : Int) (As : List Wal) (A' : Wal) : Prop where
  bd : BdW m (6 * B) A'
  can : Can A'.1 A'.2
  val : ∀ x, 0 ≤ x → V A' x = topv x As
  len : A'.2.length + 1 ≤ cntW As + cntW As * trg As.length As.length
theorem HiOk.sm {m B : Int} {As : List Wal} (h : HiOk m B As) : ∀ A ∈ As, SmW A := fun A hA =>
  (h.bd A hA).sm (Int.dvd_trans h.dv ⟨2, by rw [Int.mul_comm]⟩) (by have := h.b1; omega)
theorem HiOk.tops {m B : Int} {As : List Wal} (h : HiOk m B As) {hs xs T : List Int} (asc : hs.Pairwise (· < ·)) (hm : ∀ x, x ∈ hs ↔ allH As x) (xm : ∀ x, x ∈ xs ↔ CrsP As hs x) (tm : ∀ x, x ∈ T ↔ x ∈ hs ∨ x ∈ xs) : Tops As hs T := by
  refine ⟨h.ne, fun A hA => (h.bd A hA).li, fun A hA q hq => ?_, asc, fun A hA q hq => (hm q.1).mpr ⟨A, hA, q, hq, rfl⟩, fun x hx => (hm x).mp hx, fun x hx => (tm x).mpr (.inl hx), fun A hA A' hA' i s hi x hx => (tm x).mpr (.inr ((xm x).mpr ⟨i, s, hi, ?_⟩))⟩
  · obtain ⟨a, b, _⟩ := (h.bd A hA).bd q hq
    have e : (2 : Int) ∣ 2 * m := ⟨m, rfl⟩
    exact ⟨Int.emod_eq_zero_of_dvd (Int.dvd_trans e a), Int.emod_eq_zero_of_dvd (Int.dvd_trans e b)⟩
  · obtain ⟨a, ha, rfl⟩ := List.mem_iff_getElem.mp hA
    obtain ⟨b, hb, rfl⟩ := List.mem_iff_getElem.mp hA'
    rcases Nat.lt_trichotomy a b with z | z | z
    · exact ⟨a, b, _, _, z, List.getElem?_eq_getElem ha, List.getElem?_eq_getElem hb, hx⟩
    · subst z
      rw [cross_self] at hx; cases hx
    · exact ⟨b, a, _, _, z, List.getElem?_eq_getElem hb, List.getElem?_eq_getElem ha, by rw [cross_comm]; exact hx⟩
theorem HiOk.rng {m B : Int} {As : List Wal} (h : HiOk m B As) {hs xs T : List Int} (hm : ∀ x, x ∈ hs ↔ allH As x) (xm : ∀ x, x ∈ xs ↔ CrsP As hs x) (tm : ∀ x, x ∈ T ↔ x ∈ hs ∨ x ∈ xs) : ∀ t ∈ T, 0 ≤ t ∧ t ≤ 5 * B ∧ m ∣ t := by
  have b0 := h.b0
  have hh : ∀ s ∈ hs, 0 ≤ s ∧ s ≤ B ∧ 2 * m ∣ s := fun s hs' => by
    obtain ⟨A, hA, q, hq, rfl⟩ := (hm s).mp hs'
    obtain ⟨a, b, c, d, _⟩ := (h.bd A hA).bd q hq
    exact ⟨c, d, a⟩
  have e : m ∣ 2 * m := ⟨2, by rw [Int.mul_comm]⟩
  intro t ht
  rcases (tm t).mp ht with z | z
  · obtain ⟨a, b, c⟩ := hh t z
    exact ⟨a, by omega, Int.dvd_trans e c⟩
  · obtain ⟨i, s, hi, a, b, A, A', _, hA, hA', hc⟩ := (xm t).mp z
    obtain ⟨s0, s1, s2⟩ := hh s (List.mem_of_getElem? hi)
    obtain ⟨q1, q2, q3⟩ := cross_bd (h.bd A (List.mem_of_getElem? hA)) (h.bd A' (List.mem_of_getElem? hA')) s0 hc
    exact ⟨by omega, by omega, q3 s2⟩
theorem HiOk.topv {m B : Int} {As : List Wal} (h : HiOk m B As) {t : Int} (h0 : 0 ≤ t) (h1 : t ≤ 5 * B) (h2 : m ∣ t) : m ∣ Wm.topv t As ∧ -(6 * B) ≤ Wm.topv t As ∧ Wm.topv t As ≤ 6 * B := by
  obtain ⟨⟨A, hA, e⟩, _⟩ := topv_ok t h.ne
  have hb := h.bd A hA
  have b2 : BdW m B A := ⟨hb.li, fun q hq => by
    obtain ⟨a, b, c⟩ := hb.bd q hq
    have e : m ∣ 2 * m := ⟨2, by rw [Int.mul_comm]⟩
    exact ⟨Int.dvd_trans e a, Int.dvd_trans e b, c⟩⟩
  obtain ⟨a, b, c⟩ := b2.V h0
  rw [e]
  exact ⟨c h2, by omega, by omega⟩
/-- the wall of the highest line -/
theorem HiOk.res {m B : Int} {As : List Wal} (h : HiOk m B As) {hs xs T : List Int} (asc : hs.Pairwise (· < ·)) (hm : ∀ x, x ∈ hs ↔ allH As x) (xm : ∀ x, x ∈ xs ↔ CrsP As hs x) (tm : ∀ x, x ∈ T ↔ x ∈ hs ∨ x ∈ xs)
    (ta : T.Pairwise (· < ·)) (tl : T.length ≤ cntW As + cntW As * trg As.length As.length) {tn sl : Int} (hn : tn ∈ T) (hn2 : ∀ y ∈ T, y ≤ tn) (hsl : ∃ A, Best As A tn ∧ sl = S A tn) :
    ∃ A', mkW (T.map fun t => (t, Wm.topv t As)) sl = some A' ∧ HiRes m B As A' := by
  have rg := h.rng hm xm tm
  obtain ⟨p, r, h1, h2, h3, h4⟩ := high_line (h.tops asc hm xm tm) ta (fun t ht => (rg t ht).1) hn hn2 hsl
  obtain ⟨k1, k2, k3⟩ := Lin.mrg h1
  have hl : r.length + 1 = T.length := by
    have := congrArg List.length h2
    rw [List.length_map, List.length_map, List.length_cons] at this
    exact this
  have e := mkW_lin h1
  rw [h2] at e
  refine ⟨(p, mrg p r), ?_, ⟨k1, fun q hq => ?_⟩, k2, fun x hx => ?_, ?_⟩
  · have h4' : ((p :: r).getLast (List.cons_ne_nil _ _)).2.2 = sl := h4
    rw [← h4']; exact e
  · have hq2 : q ∈ p :: r := by
      rcases List.mem_cons.mp hq with z | z
      · rw [z]; exact List.mem_cons_self
      · exact List.mem_cons_of_mem _ (mrg_sub p r q z)
    have : (q.1, q.2.1) ∈ T.map fun t => (t, Wm.topv t As) := by
      rw [← h2]; exact List.mem_map.mpr ⟨q, hq2, rfl⟩
    obtain ⟨t, ht, e'⟩ := List.mem_map.mp this
    have e1 : t = q.1 := congrArg Prod.fst e'
    have e2 : Wm.topv t As = q.2.1 := congrArg Prod.snd e'
    obtain ⟨r1, r2, r3⟩ := rg t ht
    obtain ⟨v1, v2, v3⟩ := h.topv r1 r2 r3
    rw [e2] at v1 v2 v3
    rw [e1] at r1 r2 r3
    have := h.b0
    exact ⟨r3, v1, r1, by omega, v2, v3⟩
  · rw [← h3 x hx]; exact (k3 x hx).1
  · have := mrg_len p r
    show (mrg p r).length + 1 ≤ _
    omega
def S_highest (C CW : Addr) : SpV := fun ds w P _ => ∃ (d : D) (As : List Wal) (m B : Int), ds = [d] ∧ seqD w d = some (As.map (wallD C CW)) ∧ HiOk m B As ∧ ∀ A', HiRes m B As A' → P (wallD C CW A') w
theorem cnt_ge : ∀ (As : List Wal), As.length ≤ cntW As
  | [] => Nat.le_refl _
  | a :: r => by
    have ih := cnt_ge r
    unfold cntW at *
    simp only [List.map_cons, List.sum_cons, List.length_cons]; omega
theorem filter_snoc {xs : List Wal} {i : Nat} {A : Wal} (f : Wal → Bool) (h : xs[i]? = some A) : (xs.take (i + 1)).filter f = (xs.take i).filter f ++ (if f A = true then [A] else []) := by
  rw [List.take_add_one, h, List.filter_append]
  cases e : f A <;> simp [e]
theorem ok_highest {f C CW CB : Addr} {fd : FuncData} (T : Wc E C CW CB) (sc1 : Callable E "scaled" 3 1 (S_scaled C)) (sc2 : Callable E "all_heats" 4 1 (S_all_heats C CW)) (sc3 : Callable E "crossings" 8 1 (S_crossings C CW)) (sc4 : Callable E "top_of" 7 2 (S_top_of C CW))
    (F : Fun E.K "highest" "highest" s_highest f fd) : FnV E 9 f fd p_highest (S_highest C CW) := by
  have T1 := T.a
  have B := T1.B
  have D3 := T1.dy
  refine fnV F sc_highest (fun ds w P R h => ?_) (fun c ds w P h => ?_)
  · obtain ⟨a, b, _, _, rfl, _⟩ := h; rfl
  · obtain ⟨d, As, m, BB, rfl, hd, ok, h⟩ := h
    have hsm := ok.sm
    have z1 := ok.z1
    have z2 := ok.z2
    refine vss_cons (vs_lt (by walk_at "ix") (by decide +kernel) (ve_d0 fun dc hdc => ?_) rfl)
    have up : ∀ m, seqD (w.up dc m) d = some (As.map (wallD C CW)) := fun m => seqD_up hd hdc
    refine vss_cons (vs_for [2] rfl (vi_list (ve_bin ?_)))
    walk_at "go"
    refine ⟨d, As, rfl, up _, hsm, by omega, fun hs0 asc0 hmem0 hlen0 => ?_⟩
    walk_at "go"
    refine ⟨d, As, rfl, up _, hsm, by omega, by omega, fun hs xs asc hmem hlen xasc xmem xlen => ?_⟩
    have xlen2 : hs.length * trg As.length As.length ≤ cntW As * trg As.length As.length := Nat.mul_le_mul_right _ hlen
    refine vo_cat rfl rfl (by rw [List.length_map, List.length_map]; show _ ≤ 2 ^ 24; omega) ?_
    rw [← List.map_append]
    refine ⟨_, rfl, ?_⟩
    generalize hL : hs0 ++ xs = L
    have Lm : ∀ x, x ∈ L ↔ x ∈ hs ∨ x ∈ xs := fun x => by rw [← hL, List.mem_append, hmem0, hmem]
    have Ll : L.length ≤ cntW As + cntW As * trg As.length As.length := by rw [← hL, List.length_append]; omega
    have rngL := ok.rng hmem xmem Lm
    have b1 := ok.b1
    have okL : ∀ t ∈ L, Rn 144115188075855872 t ∧ 0 ≤ t := fun t ht => by
      obtain ⟨r1, r2, r3⟩ := rngL t ht
      exact ⟨⟨Int.emod_eq_zero_of_dvd (Int.dvd_trans ok.dv r3), by omega, by omega⟩, r1⟩
    refine ⟨fun i Γ w' => ∃ (ns : List Int) (g : Option D), Γ = [some d, some (.obj dc), g, none, none, none, none] ∧ w' = w.up dc (.dK (kvI C ns)) ∧ ns.Nodup ∧ ns.length ≤ i ∧ ∀ x, x ∈ ns ↔ x ∈ L.take i,
      ⟨[], none, rfl, rfl, List.nodup_nil, Nat.le_refl _, fun x => by simp⟩, fun _ _ _ _ _ => True.intro, ?_, ?_⟩
    · rintro i dd Γ w' hdd ⟨ns, g, rfl, rfl, hn, hl, hm⟩
      rw [List.getElem?_map] at hdd
      cases hq : L[i]? with
      | none => rw [hq] at hdd; cases hdd
      | some t =>
        rw [hq] at hdd
        cases hdd
        have hil := (List.getElem?_eq_some_iff.mp hq).1
        obtain ⟨⟨t1, t2, t3⟩, _⟩ := okL t (List.mem_of_getElem? hq)
        have okt : Okn t := by refine okn_R ?_ ?_ ?_ <;> omega
        refine vg_nm (by walk_at "ix") (by decide +kernel) ?_
        refine vss_one (vs_dput ?_ rfl)
        walk_at "go"
        refine keyD_int ⟨_, W.up_same, by unfold kvI; rw [List.length_map]; show _ < 2 ^ 24; omega, ?_⟩
        refine ⟨insI ns t, _, rfl, by rw [W.up_up, kvI_put], ins_nodup hn, by have := ins_len ns t; omega, fun x => ?_⟩
        rw [ins_mem, hm, mem_take_succ hq]
    · rintro Γ w' ⟨ns, g, rfl, rfl, hn, hl, hm⟩
      rw [List.length_map] at hl
      rw [List.length_map, List.take_length] at hm
      refine vss_cons (vs_lt (by walk_at "ix") (by decide +kernel) (ve_lstM (va_nil (and_len (len_small rfl) fun pl hpl => ?_))) rfl)
      have npl : dc ≠ pl := W.ne_of W.up_same hpl
      have hplw : w pl = none := by rw [W.up_ne (Ne.symm npl)] at hpl; exact hpl
      have up2 : ∀ m n, seqD ((w.up dc m).up pl n) d = some (As.map (wallD C CW)) := fun m n => seqD_up (up m) (by rw [W.up_ne (Ne.symm npl)]; exact hplw)
      refine vss_cons (vs_for [4] rfl (vi_list ?_))
      walk_at "blt"
      walk_at "go"
      refine vcl_listDK rfl (by rw [W.up_ne npl]; exact W.up_same) ?_
      rw [kvI_keys]
      refine vcl_sortedI rfl fun TT hp hsr => ?_
      have hTm : ∀ x, x ∈ TT ↔ x ∈ hs ∨ x ∈ xs := fun x => (hp.mem_iff).trans ((hm x).trans (Lm x))
      have hTL : ∀ x, x ∈ TT → x ∈ L := fun x hx => (Lm x).mpr ((hTm x).mp hx)
      have hTn : ∀ x, x ∈ TT → x ∈ ns := fun x hx => hp.mem_iff.mp hx
      have hTasc := asc_of hp hsr hn
      have hTlen : TT.length ≤ cntW As + cntW As * trg As.length As.length := by rw [hp.length_eq]; omega
      refine ⟨_, rfl, ?_⟩
      refine ⟨fun i Γ w' => ∃ (g g4 : Option D), Γ = [some d, some (.obj dc), g, some (.obj pl), g4, none, none] ∧ w' = (w.up dc (.dK (kvI C ns))).up pl (.lst ((TT.take i).map fun t => ptD C (t, topv t As))), ⟨_, _, rfl, rfl⟩, fun _ _ _ _ _ => True.intro, ?_, ?_⟩
      · rintro i dd Γ w' hdd ⟨g, g4, rfl, rfl⟩
        rw [List.getElem?_map] at hdd
        cases hq : TT[i]? with
        | none => rw [hq] at hdd; cases hdd
        | some t =>
          rw [hq] at hdd
          cases hdd
          have hil := (List.getElem?_eq_some_iff.mp hq).1
          have htT := List.mem_of_getElem? hq
          obtain ⟨tR, t0⟩ := okL t (hTL t htT)
          refine vg_nm (by walk_at "ix") (by decide +kernel) ?_
          refine vss_one (vs_expr ?_ rfl)
          refine ve_append ?_
          walk_at "go"
          refine ⟨⟨_, W.up_same⟩, ?_⟩
          refine ve_tup ?_ (pe_tup pa_w)
          refine va_cons ?_ rfl
          refine ve_dget ?_
          walk_at "go"
          refine keyD_int ⟨_, _, by rw [W.up_ne npl]; exact W.up_same, kvI_val (hTn t htT), ?_⟩
          refine va_cons ?_ rfl
          walk_at "call"
          walk_at "name"
          refine ve_dget ?_
          walk_at "go"
          refine keyD_int ⟨_, _, by rw [W.up_ne npl]; exact W.up_same, kvI_val (hTn t htT), ?_⟩
          refine ⟨d, As, t, rfl, up2 _ _, ok.ne, hsm, tR, t0, ?_⟩
          walk_at "go"
          refine ⟨_, W.up_same, by rw [List.length_map, List.length_take]; show _ < 2 ^ 24; omega, ?_⟩
          refine ⟨_, _, rfl, ?_⟩
          rw [W.up_up]
          have e := take_map (f := fun t : Int => ptD C (t, topv t As)) hq
          rw [← e]; rfl
      · rintro Γ w' ⟨g, g4, rfl, rfl⟩
        rw [List.length_map, List.take_length]
        have hTne : TT ≠ [] := by
          obtain ⟨A0, hA0⟩ := List.exists_mem_of_ne_nil As ok.ne
          have : A0.1.1 ∈ TT := (hTm _).mpr (.inl ((hmem _).mpr ⟨A0, hA0, A0.1, List.mem_cons_self, rfl⟩))
          exact fun z => by rw [z] at this; cases this
        generalize htn : TT.getLast hTne = tn
        have tnm : tn ∈ TT := by rw [← htn]; exact List.getLast_mem hTne
        have tng : ∀ y ∈ TT, y ≤ tn := fun y hy => by
          obtain ⟨i, hi, rfl⟩ := List.mem_iff_getElem.mp hy
          rw [← htn, List.getLast_eq_getElem]
          rcases Nat.lt_or_ge i (TT.length - 1) with q | q
          · have := List.pairwise_iff_getElem.mp hTasc i (TT.length - 1) hi (by omega) q
            omega
          · have : i = TT.length - 1 := by omega
            subst this
            exact Int.le_refl _
        obtain ⟨tnR, tn0⟩ := okL tn (hTL tn tnm)
        have nneg : ¬ tn < 0 := by omega
        have okV : ∀ A ∈ As, Okn (V A tn) := fun A hA => by
          obtain ⟨v1, v2, v3⟩ := V_bd (hsm A hA) tnR
          refine okn_R ?_ ?_ ?_ <;> omega
        walk_at "let"
        walk_at "go"
        have tpos : 0 < TT.length := by
          rcases Nat.eq_zero_or_pos TT.length with z | z
          · exact absurd (List.eq_nil_of_length_eq_zero z) hTne
          · exact z
        refine vx_seq (i := -1) (d := ptD C (tn, topv tn As)) (seqD_obj W.up_same) ?_ ?_
        · unfold atI ixN
          rw [if_neg (by omega), List.length_map, if_pos (by omega)]
          have e : ((-1 : Int) + (TT.length : Int)).toNat = TT.length - 1 := by omega
          rw [e]
          refine map_get (f := fun t : Int => ptD C (t, topv t As)) (x := tn) ?_
          rw [← htn, List.getLast_eq_getElem]
          simp
        rw [show ptD C (tn, topv tn As) = .tup [dy C tn, dy C (topv tn As)] from rfl]
        walk_at "ret"
        refine ve_sub ?_
        refine ve_wall T1 rfl (by decide) (by decide +kernel) ?_ rfl rfl
        walk_at "go"
        refine ve_lcW [("wall", 6)] rfl (by walk_at "blk") (vi_list ?_)
        walk_at "go"
        refine ⟨_, up2 _ _, fun D0 m0 h0 => kpD_up (kpD_of (up2 _ _)) D0 m0 h0, kpD_of (up2 _ _), fun i acc => acc = ((As.take i).filter fun A => decide (V A tn = topv tn As)).map fun A => D.int (S A tn), rfl, ?_, ?_⟩
        · intro i dd acc D0 hdd h0 hacc
          rw [List.getElem?_map] at hdd
          cases hA : As[i]? with
          | none => rw [hA] at hdd; cases hdd
          | some A =>
            rw [hA] at hdd
            cases hdd
            have hAm := List.mem_of_getElem? hA
            have sA := hsm A hAm
            have fs := filter_snoc (fun A => decide (V A tn = topv tn As)) hA
            have hil := (List.getElem?_eq_some_iff.mp hA).1
            have alen := cnt_ge As
            refine lct1 fun c1 => ?_
            refine vg_nm (by walk_at "ix") (by decide +kernel) ?_
            intro c2
            walk_at "go"
            refine ⟨sA, tnR, ?_⟩
            rw [if_neg nneg]
            walk_at "go"
            have okA := okV A hAm
            have fl : ((As.take i).filter fun A => decide (V A tn = topv tn As)).length ≤ As.length := by
              refine Nat.le_trans (List.length_filter_le _ _) ?_
              rw [List.length_take]; omega
            refine ite_dec (fun h1 => ?_) (fun h1 => ?_)
            · intro c3
              walk_at "go"
              refine ⟨sA, tnR, ?_⟩
              rw [if_neg nneg]
              refine ⟨by rw [hacc, List.length_map]; show _ < 2 ^ 24; omega, W.up_same, W.del_up_id h0, ?_⟩
              show acc ++ [_] = _
              rw [fs, if_pos (decide_eq_true h1), hacc, List.map_append]; rfl
            · refine ⟨W.up_same, W.del_up_id h0, ?_⟩
              show acc = _
              rw [fs, if_neg (fun z => h1 (of_decide_eq_true z)), hacc, List.append_nil]
        · intro acc hacc
          rw [List.length_map, List.take_length] at hacc
          have e1 : acc = ((As.filter fun A => decide (V A tn = topv tn As)).map fun A => S A tn).map D.int := by rw [hacc, List.map_map]; rfl
          obtain ⟨⟨A1, hA1, eA1⟩, hmx⟩ := topv_ok tn ok.ne
          refine vcl_max (ns := (As.filter fun A => decide (V A tn = topv tn As)).map fun A => S A tn) rfl (by rw [e1]; rfl) ?_ fun sl hsl1 hsl2 => ?_
          · rw [List.length_map]
            exact List.length_pos_of_mem (List.mem_filter.mpr ⟨hA1, decide_eq_true eA1.symm⟩)
          obtain ⟨A, hAf, rfl⟩ := List.mem_map.mp hsl1
          obtain ⟨hA, hAt⟩ := List.mem_filter.mp hAf
          have hAt := of_decide_eq_true hAt
          have hbest : Best As A tn := ⟨hA, fun U hU => by
            have q1 := hmx U hU
            rcases Int.lt_or_eq_of_le q1 with z | z
            · left; omega
            · right
              refine ⟨by omega, hsl2 _ (List.mem_map.mpr ⟨U, List.mem_filter.mpr ⟨hU, decide_eq_true z⟩, rfl⟩)⟩⟩
          obtain ⟨A', hmk, hres⟩ := ok.res asc hmem xmem hTm hTasc hTlen tnm tng ⟨A, hbest, rfl⟩
          walk_at "go"
          refine ⟨TT.map fun t => (t, topv t As), ?_, fun q hq => ?_, by rw [List.length_map]; omega, ?_⟩
          · rw [List.map_map]
            exact lstD_obj W.up_same
          · obtain ⟨t, ht, rfl⟩ := List.mem_map.mp hq
            obtain ⟨r1, r2, r3⟩ := rngL t (hTL t ht)
            obtain ⟨v1, v2, v3⟩ := ok.topv r1 r2 r3
            exact ⟨⟨Int.emod_eq_zero_of_dvd (Int.dvd_trans ok.dv r3), by show -576460752303423488 ≤ t; omega, by show t ≤ _; omega⟩, ⟨Int.emod_eq_zero_of_dvd (Int.dvd_trans ok.dv v1), by show -576460752303423488 ≤ topv t As; omega, by show topv t As ≤ _; omega⟩⟩
          · rw [hmk]
            exact ⟨w, (W.Sub.up hdc).trans (W.Sub.up hpl), h A' hres⟩
def S_lowest (C CW : Addr) : SpV := fun ds w P _ => ∃ (d : D) (As : List Wal) (m B : Int), ds = [d] ∧ seqD w d = some (As.map (wallD C CW)) ∧ HiOk m B As ∧ (∀ A ∈ As, Can A.1 A.2 ∧ A.2.length < 100000) ∧ ∀ A', HiRes m B (As.map ngW) A' → P (wallD C CW (ngW A')) w
theorem ng_bd {m B : Int} {A : Wal} (h : BdW m B A) : BdW m B (ngW A) := by
  refine ⟨ng_lin h.li, fun q hq => ?_⟩
  have hq' : q ∈ (A.1 :: A.2).map ngP := hq
  obtain ⟨u, hu, rfl⟩ := List.mem_map.mp hq'
  obtain ⟨a, b, c, d, e, f⟩ := h.bd u hu
  refine ⟨a, Int.dvd_neg.mpr b, c, d, ?_, ?_⟩
  · show -B ≤ -u.2.1; omega
  · show -u.2.1 ≤ B; omega
theorem cnt_ng (As : List Wal) : cntW (As.map ngW) = cntW As := by
  unfold cntW
  rw [List.map_map]
  congr 1
  refine List.map_congr_left fun A hA => ?_
  show (A.2.map ngP).length + 1 = _
  rw [List.length_map]
theorem HiOk.ng {m B : Int} {As : List Wal} (h : HiOk m B As) : HiOk m B (As.map ngW) := by
  refine ⟨fun z => h.ne (List.map_eq_nil_iff.mp z), fun A hA => ?_, h.dv, h.b0, h.b1, by rw [cnt_ng]; exact h.z1, by rw [cnt_ng, List.length_map]; exact h.z2⟩
  obtain ⟨U, hU, rfl⟩ := List.mem_map.mp hA
  exact ng_bd (h.bd U hU)
theorem HiRes.sm {m B : Int} {As : List Wal} {A' : Wal} (h : HiOk m B As) (r : HiRes m B As A') : SmW A' := r.bd.sm h.dv (by have := h.b1; omega)
theorem ok_lowest {f C CW CB : Addr} {fd : FuncData} (T : Wc E C CW CB) (sc1 : Callable E "highest" 9 1 (S_highest C CW)) (F : Fun E.K "lowest" "lowest" s_lowest f fd) : FnV E 10 f fd p_lowest (S_lowest C CW) := by
  have T1 := T.a
  have B := T1.B
  refine fnV F sc_lowest (fun ds w P R h => ?_) (fun c ds w P h => ?_)
  · obtain ⟨a, b, _, _, rfl, _⟩ := h; rfl
  · obtain ⟨d, As, m, BB, rfl, hd, ok, hc, h⟩ := h
    have z1 := ok.z1
    have z2 := ok.z2
    have alen := cnt_ge As
    walk_at "ret"
    walk_at "spec"
    walk_at "call"
    refine ve_lcW [("wall", 1)] rfl (by walk_at "blk") (vi_list ?_)
    walk_at "go"
    refine ⟨_, hd, fun D0 m0 h0 => kpD_up (kpD_of hd) D0 m0 h0, kpD_of hd, fun i acc => acc = (As.take i).map fun A => wallD C CW (ngW A), rfl, ?_, ?_⟩
    · intro i dd acc D0 hdd h0 hacc
      rw [List.getElem?_map] at hdd
      cases hA : As[i]? with
      | none => rw [hA] at hdd; cases hdd
      | some A =>
        rw [hA] at hdd
        cases hdd
        have hAm := List.mem_of_getElem? hA
        have hil := (List.getElem?_eq_some_iff.mp hA).1
        obtain ⟨c1', c2'⟩ := hc A hAm
        refine lct0 fun c1 => ?_
        refine vg_nm (by walk_at "ix") (by decide +kernel) ?_
        intro c3
        walk_at "go"
        refine ⟨ok.sm A hAm, c1', c2', ?_⟩
        refine ⟨by rw [hacc, List.length_map, List.length_take]; show _ < 2 ^ 24; omega, W.up_same, W.del_up_id h0, ?_⟩
        subst hacc
        exact take_map (f := fun A => wallD C CW (ngW A)) hA
    · intro acc hacc
      rw [List.length_map, List.take_length] at hacc
      refine ⟨_, As.map ngW, m, BB, rfl, by rw [hacc, List.map_map]; rfl, ok.ng, fun A' hr => ?_⟩
      walk_at "go"
      have hl := hr.len
      rw [cnt_ng, List.length_map] at hl
      exact ⟨hr.sm ok.ng, hr.can, by omega, h A' hr⟩
end Wl

end

section
set_option maxRecDepth 100000
set_option maxHeartbeats 4000000
open PySem PySem.Spec PyProof.Rows L2 VL
local macro_rules | `(tactic| walk_at "ix") => `(tactic| first | with_reducible exact ix0 | with_reducible exact ix1 | with_reducible exact ix2 | with_reducible exact ix3 | with_reducible exact ix4 | with_reducible exact ix5 | with_reducible exact ix6 | with_reducible exact ix7 | with_reducible exact ix8 | with_reducible exact ix9 | with_reducible exact ix10 | with_reducible exact ix11 | with_reducible exact ix12 | with_reducible exact ix13 | with_reducible exact ix14 | with_reducible exact ix15 | with_reducible exact ix16)
local macro_rules | `(tactic| walk_at "num") => `(tactic| first | assumption | decide | omega | exact ⟨by decide, by decide⟩ | exact .inr ⟨by decide, by decide⟩ | exact .inl ⟨by decide, by decide⟩ | exact ⟨by omega, by omega, by omega⟩)
/- a name -/
local macro_rules | `(tactic| walk_at "name") => `(tactic| ((with_reducible refine' ve_nm ?hN ?hv ?hG ?_); (case hN => walk_at "ix"); (case hv => decide +kernel); (case hG => rfl)))
local macro_rules | `(tactic| walk_at "glob") => `(tactic| first
  | ((with_reducible refine' ve_gO ?hg ?hm ?_); (case hm => with_reducible assumption); (case hg => decide +kernel))
  | ((with_reducible refine' ve_gI ?hg ?hm ?_); (case hm => with_reducible assumption); (case hg => decide +kernel)))
local macro_rules | `(tactic| walk_at "tyname") => `(tactic| first
  | ((with_reducible refine' ve_ty "int" ?hg ?hm ?hv ?_); (case hg => decide +kernel); (case hm => exact (‹Blt _›).int); (case hv => exact bt_int))
  | ((with_reducible refine' ve_ty "bool" ?hg ?hm ?hv ?_); (case hg => decide +kernel); (case hm => exact (‹Blt _›).bool); (case hv => exact bt_bool))
  | ((with_reducible refine' ve_ty "str" ?hg ?hm ?hv ?_); (case hg => decide +kernel); (case hm => exact (‹Blt _›).str); (case hv => exact bt_str))
  | ((with_reducible refine' ve_ty "list" ?hg ?hm ?hv ?_); (case hg => decide +kernel); (case hm => exact (‹Blt _›).list); (case hv => exact bt_list))
  | ((with_reducible refine' ve_ty "tuple" ?hg ?hm ?hv ?_); (case hg => decide +kernel); (case hm => exact (‹Blt _›).tuple); (case hv => exact bt_tuple)))
local macro_rules | `(tactic| walk_at "blt") => `(tactic| first
  | ((with_reducible refine' blt1 "len" ?hg ?hm ?hv ?_ ?he); (case hg => decide +kernel); (case hm => exact (‹Blt _›).len); (case hv => exact bt_len); (case he => rfl))
  | ((with_reducible refine' blt1 "sum" ?hg ?hm ?hv ?_ ?he); (case hg => decide +kernel); (case hm => exact (‹Blt _›).sum); (case hv => exact bt_sum); (case he => rfl))
  | ((with_reducible refine' blt1 "abs" ?hg ?hm ?hv ?_ ?he); (case hg => decide +kernel); (case hm => exact (‹Blt _›).abs); (case hv => exact bt_abs); (case he => rfl))
  | ((with_reducible refine' blt1 "sorted" ?hg ?hm ?hv ?_ ?he); (case hg => decide +kernel); (case hm => exact (‹Blt _›).sorted); (case hv => exact bt_sorted); (case he => rfl))
  | ((with_reducible refine' blt1 "all" ?hg ?hm ?hv ?_ ?he); (case hg => decide +kernel); (case hm => exact (‹Blt _›).all); (case hv => exact bt_all); (case he => rfl))
  | ((with_reducible refine' blt1 "any" ?hg ?hm ?hv ?_ ?he); (case hg => decide +kernel); (case hm => exact (‹Blt _›).any); (case hv => exact bt_any); (case he => rfl))
  | ((with_reducible refine' blt1 "max" ?hg ?hm ?hv ?_ ?he); (case hg => decide +kernel); (case hm => exact (‹Blt _›).max); (case hv => exact bt_max); (case he => rfl))
  | ((with_reducible refine' blt1 "min" ?hg ?hm ?hv ?_ ?he); (case hg => decide +kernel); (case hm => exact (‹Blt _›).min); (case hv => exact bt_min); (case he => rfl))
  | ((with_reducible refine' blt2 "isinstance" ?hg ?hm ?hv ?_ ?he ?hf); (case hg => decide +kernel); (case hm => exact (‹Blt _›).isi); (case hv => exact bt_isi); (case he => rfl); (case hf => rfl))
  | ((with_reducible refine' blt2 "max" ?hg ?hm ?hv ?_ ?he ?hf); (case hg => decide +kernel); (case hm => exact (‹Blt _›).max); (case hv => exact bt_max); (case he => rfl); (case hf => rfl))
  | ((with_reducible refine' blt2 "min" ?hg ?hm ?hv ?_ ?he ?hf); (case hg => decide +kernel); (case hm => exact (‹Blt _›).min); (case hv => exact bt_min); (case he => rfl); (case hf => rfl))
  | ((with_reducible refine' bty1 "int" ?hg ?hm ?hv ?_ ?he); (case hg => decide +kernel); (case hm => exact (‹Blt _›).int); (case hv => exact bt_int); (case he => rfl))
  | ((with_reducible refine' bty1 "list" ?hg ?hm ?hv ?_ ?he); (case hg => decide +kernel); (case hm => exact (‹Blt _›).list); (case hv => exact bt_list); (case he => rfl))
  | ((with_reducible refine' bty1 "tuple" ?hg ?hm ?hv ?_ ?he); (case hg => decide +kernel); (case hm => exact (‹Blt _›).tuple); (case hv => exact bt_tuple); (case he => rfl))
  | ((with_reducible refine' bty1 "str" ?hg ?hm ?hv ?_ ?he); (case hg => decide +kernel); (case hm => exact (‹Blt _›).str); (case hv => exact bt_str); (case he => rfl)))
/- a call of a def of the text, its Callable in the context -/
local macro_rules | `(tactic| walk_at "call") => `(tactic| first
  | ((with_reducible refine' call1 ?h ?hc ?hj ?hg ?_ ?h1); (case h => with_reducible assumption); (case hc => rfl); (case hg => decide +kernel); (case hj => first | decide | omega); (case h1 => rfl))
  | ((with_reducible refine' call2 ?h ?hc ?hj ?hg ?_ ?h1 ?h2); (case h => with_reducible assumption); (case hc => rfl); (case hg => decide +kernel); (case hj => first | decide | omega); (case h1 => rfl); (case h2 => rfl))
  | ((with_reducible refine' call3 ?h ?hc ?hj ?hg ?_ ?h1 ?h2 ?h3); (case h => with_reducible assumption); (case hc => rfl); (case hg => decide +kernel); (case hj => first | decide | omega); (case h1 => rfl); (case h2 => rfl); (case h3 => rfl))
  | ((with_reducible refine' call4 ?h ?hc ?hj ?hg ?_ ?h1 ?h2 ?h3 ?h4); (case h => with_reducible assumption); (case hc => rfl); (case hg => decide +kernel); (case hj => first | decide | omega); (case h1 => rfl); (case h2 => rfl); (case h3 => rfl); (case h4 => rfl))
  | ((with_reducible refine' call0 ?h ?hc ?hj ?hg ?_); (case h => with_reducible assumption); (case hc => rfl); (case hg => decide +kernel); (case hj => first | decide | omega)))
/- one step -/
local macro_rules | `(tactic| walk_at "v") => `(tactic| first
  | with_reducible refine' asB_i ?_
  | with_reducible refine' asInt_i ?_
  | with_reducible refine' asObj_i ?_
  | with_reducible refine' if_t ?_
  | with_reducible refine' if_f ?_
  | with_reducible refine' if_nt ?_
  | with_reducible refine' if_nf ?_
  | ((with_reducible refine' if_dt ?h ?_); (case h => first | assumption | omega))
  | ((with_reducible refine' if_df ?h ?_); (case h => first | assumption | omega))
  | ((with_reducible refine' if_ndt ?h ?_); (case h => first | assumption | omega))
  | ((with_reducible refine' if_ndf ?h ?_); (case h => first | assumption | omega))
  | with_reducible refine' ve_int ?_
  | with_reducible refine' ve_str ?_
  | with_reducible refine' ve_bl ?_
  | with_reducible refine' ve_non ?_
  | walk_at "name"
  | with_reducible refine' ve_bin ?_
  | with_reducible refine' ve_cmp rfl ?_
  | with_reducible refine' vt_cmp rfl ?_
  | with_reducible refine' ve_not ?_
  | with_reducible refine' vt_not ?_
  | with_reducible refine' ve_and ?_
  | with_reducible refine' ve_or ?_
  | with_reducible refine' ve_one ?_
  | with_reducible refine' vw_and ?_
  | with_reducible refine' vw_or ?_
  | with_reducible refine' vw_and1 ?_
  | with_reducible refine' vw_or1 ?_
  | with_reducible refine' va_nil ?_
  | with_reducible refine' va_cons ?_ rfl
  | with_reducible refine' vo_add ?_
  | with_reducible refine' vo_sub ?_
  | with_reducible refine' vo_lt ?_
  | with_reducible refine' vo_le ?_
  | with_reducible refine' vo_gt ?_
  | with_reducible refine' vo_ge ?_
  | with_reducible refine' vo_eq ?_
  | with_reducible refine' vo_ne ?_
  | with_reducible refine' vo_eqS ?_
  | with_reducible refine' vo_neS ?_
  | with_reducible refine' vo_eqB ?_
  | with_reducible refine' vo_is ?_
  | with_reducible refine' vo_isnot ?_
  | with_reducible refine' vu_neg ?_
  | ((with_reducible refine' vo_mod ?h ?_); (case h => walk_at "num"))
  | ((with_reducible refine' vo_fdiv ?h ?_); (case h => walk_at "num"))
  | ((with_reducible refine' vo_mul ?h ?_); (case h => walk_at "num"))
  | ((with_reducible refine' vo_pow ?h ?_); (case h => walk_at "num"))
  | ((with_reducible refine' vo_shl ?h ?_); (case h => walk_at "num"))
  | ((with_reducible refine' ve_chain ?_ ?h); (case h => rfl))
  | ((with_reducible refine' vt_chain ?_ ?h); (case h => rfl))
  | with_reducible refine' ve_un ?_
  | with_reducible refine' ve_if ?_
  | with_reducible refine' vt_w (vw_and ?_)
  | with_reducible refine' vt_w (vw_or ?_)
  | ((with_reducible refine' and_len ?h ?_); (case h => exact len_small rfl))
  | walk_at "spec"
  | walk_at "call"
  | walk_at "blt"
  | ((with_reducible refine' ve_ix ?_ ?h); (case h => exact fun _ _ => rfl))
  | ((with_reducible refine' ve_tup ?_ ?h); (case h => exact pe_tup pa_w))
  | with_reducible refine' ve_lst ?_
  | walk_at "glob"
  | ((with_reducible refine' vt_tr ?_ ?he); (case he => intro _; rfl))
  | with_reducible refine' tr_bl ?_
  | with_reducible refine' tr_int ?_
  | with_reducible refine' tr_non ?_
  | with_reducible refine' tr_tup ?_
  | with_reducible refine' tr_lst ?_
  | walk_at "tyname"
  | ((with_reducible refine' vx_tup ?h ?_); (case h => rfl))
  | with_reducible refine' vcl_int ?_)
local macro_rules | `(tactic| walk_at "go") => `(tactic| repeat walk_at "v")
/- one statement: a name stored -/
local macro_rules | `(tactic| walk_at "let") => `(tactic| (refine' vss_cons (vs_lt ?hi ?hx ?_ ?hs); (case hi => walk_at "ix"); (case hx => decide +kernel); (case hs => rfl)))
local macro_rules | `(tactic| walk_at "ret") => `(tactic| refine' vss_cons (vs_ret ?_))
local macro_rules | `(tactic| walk_at "fld") => `(tactic| (refine' vss_cons (vs_fld ?_ ?hs); (case hs => rfl)))
local macro_rules | `(tactic| walk_at "if") => `(tactic| refine' vss_cons (vs_if ?_))
local macro_rules | `(tactic| walk_at "expr") => `(tactic| (refine' vss_cons (vs_expr ?_ ?hs); (case hs => rfl)))
local macro_rules | `(tactic| walk_at "nil") => `(tactic| refine' vss_nil ?_)
namespace Wl
open Wm
local macro_rules | `(tactic| walk_at "okn") => `(tactic| first | assumption | (refine' okn_R ?_ ?_ ?_ <;> omega) | (refine' okn_R21 ?_ ?_ ?_ <;> omega))
local macro_rules | `(tactic| walk_at "two") => `(tactic| (refine vg_two rfl (by walk_at "ix") (by decide +kernel) (by walk_at "ix") (by decide +kernel) ?_ rfl rfl rfl rfl))
local macro_rules | `(tactic| walk_at "blk") => `(tactic| exact ⟨rfl, by decide +kernel, by decide +kernel, by decide +kernel, by decide +kernel⟩)
local macro_rules | `(tactic| walk_at "spec") => `(tactic| first
  | with_reducible refine' asDy_i ?_
  | with_reducible refine' asW_i ?_
  | ((with_reducible refine' S_scaled_i ?ho ?_); (case ho => walk_at "okn"))
  | ((with_reducible refine' ve_dyT ?hT ?hc ?hj ?_ ?h1); (case hT => exact (‹Dy3 _ _›).d2.d1); (case hc => rfl); (case hj => decide); (case h1 => rfl))
  | ((with_reducible refine' ve_dyP ?hT ?hc ?hj ?_ ?h1); (case hT => exact (‹Dy3 _ _›).d2.d1); (case hc => rfl); (case hj => decide); (case h1 => rfl))
  | ((with_reducible refine' vo_dyadd ?hT ?hc ?hj ?hx ?hy ?hz ?_); (case hT => exact (‹Dy3 _ _›).d2); (case hc => rfl); (case hj => decide); (case hx => walk_at "okn"); (case hy => walk_at "okn"); (case hz => walk_at "okn"))
  | ((with_reducible refine' vu_dyneg ?hT ?hc ?hj ?hx ?_); (case hT => exact (‹Dy3 _ _›).d2); (case hc => rfl); (case hj => decide); (case hx => walk_at "okn"))
  | ((with_reducible refine' vo_dysub ?hT ?hc ?hj ?hx ?hy ?hz ?_); (case hT => assumption); (case hc => rfl); (case hj => decide); (case hx => walk_at "okn"); (case hy => walk_at "okn"); (case hz => walk_at "okn"))
  | ((with_reducible refine' ve_dyless _ ?hT ?hc ?hj ?_ ?h1 ?h2); (case hT => assumption); (case hc => rfl); (case hj => decide); (case h1 => rfl); (case h2 => rfl))
  | ((with_reducible refine' ve_dysame _ ?hT ?hc ?hj ?_ ?h1 ?h2); (case hT => assumption); (case hc => rfl); (case hj => decide); (case h1 => rfl); (case h2 => rfl))
  | ((with_reducible refine' ve_wat _ ?hT ?hc ?hj ?_ ?h1 ?h2); (case hT => assumption); (case hc => rfl); (case hj => decide); (case h1 => rfl); (case h2 => rfl))
  | ((with_reducible refine' ve_wsa _ ?hT ?hc ?hj ?_ ?h1 ?h2); (case hT => assumption); (case hc => rfl); (case hj => decide); (case h1 => rfl); (case h2 => rfl))
  | ((with_reducible refine' ve_wtu _ ?hT ?hc ?hj ?_ ?h1); (case hT => assumption); (case hc => rfl); (case hj => decide); (case h1 => rfl))
  | ((with_reducible refine' ve_wsl ?hT ?hc ?hj ?_ ?h1); (case hT => assumption); (case hc => rfl); (case hj => decide); (case h1 => rfl))
  | ((with_reducible refine' ve_dyhf _ ?hT ?hc ?hj ?_ ?h1); (case hT => assumption); (case hc => rfl); (case hj => decide); (case h1 => rfl))
  | ((with_reducible refine' ve_wpoF _ ?hT ?hc ?hj ?_ ?h1); (case hT => assumption); (case hc => rfl); (case hj => decide); (case h1 => rfl))
  | ((with_reducible refine' ve_wall ?hT ?hc ?hj ?hg ?_ ?h1 ?h2); (case hT => assumption); (case hc => rfl); (case hj => decide); (case hg => decide +kernel); (case h1 => rfl); (case h2 => rfl))
  | ((with_reducible refine' ok2_i ?hx ?hy ?_); (case hx => walk_at "okn"); (case hy => walk_at "okn")))
variable {E : EnvR}
/-! ### the law's own small functions -/
def S_cell : SpV := fun ds w P _ => ∃ (ns : List Int) (k : Int), ds = [.scr ns, .int k] ∧ 0 ≤ k ∧ k ≤ 1000 ∧ ∀ v : Int, P (.int v) w
def S_digits : SpV := fun ds w P _ => ∃ (c : Int) (n : Nat), ds = [.int c, .int (n : Int)] ∧ n ≤ 1000 ∧ ∀ xs : List Int, xs.length = n → (∀ x ∈ xs, 0 ≤ x ∧ x < 60) → P (.lst (xs.map D.int)) w
def S_plain : SpV := fun ds w P _ => ∃ (t : Int) (p : Nat), ds = [.int t, .int (p : Int)] ∧ p ≤ 1000 ∧ P (.tup [.int (red t p).1, .int ((red t p).2 : Int)]) w
theorem ok__cell {f : Addr} {fd : FuncData} (B : Blt E) (F : Fun E.K "_law_cell" "_law_cell" s__law_cell f fd) : FnV E 1 f fd p__law_cell S_cell := by
  refine fnV F sc__law_cell (fun ds w P R h => ?_) (fun c ds w P h => ?_)
  · obtain ⟨a, b, rfl, _⟩ := h; rfl
  · obtain ⟨ns, k, rfl, h0, h1, h⟩ := h
    walk_at "if"
    walk_at "go"
    refine vcl_len rfl ?_
    rw [List.length_map]
    walk_at "go"
    refine ite_dec (fun h2 => ?_) (fun h2 => ?_)
    · obtain ⟨v, hv⟩ : ∃ v, ns[k.toNat]? = some v := ⟨_, List.getElem?_eq_getElem (by omega)⟩
      walk_at "ret"
      walk_at "go"
      exact vx_seq rfl (atI_nat (n := k.toNat) (map_get hv) (by omega)) (h v)
    · walk_at "nil"
      walk_at "let"
      walk_at "go"
      refine vss_cons (vs_for [3] rfl (vi_list ?_))
      walk_at "go"
      refine ⟨_, rfl, ?_⟩
      refine ⟨fun i Γ w' => w' = w ∧ ∃ (m : Int) (g : Option D), Γ = [some (.scr ns), some (.int k), some (.int m), g] ∧ 0 ≤ m ∧ m < 18446744073709551616, ⟨rfl, _, none, rfl, by omega, by omega⟩, fun _ _ _ _ _ => True.intro, ?_, ?_⟩
      · rintro i dd Γ w' hdd ⟨rfl, m, g, rfl, h3, h4⟩
        rw [List.getElem?_map] at hdd
        cases hn : ns[i]? with
        | none => rw [hn] at hdd; cases hdd
        | some v =>
          rw [hn] at hdd
          cases hdd
          refine vg_nm (by walk_at "ix") (by decide +kernel) ?_
          walk_at "let"
          walk_at "go"
          walk_at "nil"
          refine ⟨rfl, _, _, rfl, ?_, ?_⟩ <;> omega
      · rintro Γ w' ⟨rfl, m, g, rfl, h3, h4⟩
        walk_at "ret"
        walk_at "go"
        exact h m
theorem ok__digits {f : Addr} {fd : FuncData} (B : Blt E) (F : Fun E.K "_law_digits" "_law_digits" s__law_digits f fd) : FnV E 1 f fd p__law_digits S_digits := by
  refine fnV F sc__law_digits (fun ds w P R h => ?_) (fun c ds w P h => ?_)
  · obtain ⟨a, b, rfl, _⟩ := h; rfl
  · obtain ⟨cc, n, rfl, h0, h⟩ := h
    refine vss_cons (vs_lt (by walk_at "ix") (by decide +kernel) (ve_lstM (va_nil (and_len (len_small rfl) fun dl hdl => ?_))) rfl)
    walk_at "let"
    walk_at "go"
    walk_at "let"
    walk_at "go"
    refine vss_cons (vs_for [5] rfl (vi_range1 (by decide +kernel) B.range ?_))
    walk_at "go"
    refine ⟨_, rfl, by omega, by omega, ?_⟩
    rw [Int.toNat_natCast]
    refine ⟨fun i Γ w' => ∃ (xs : List Int) (r s : Int) (g : Option D), Γ = [some (.int cc), some (.int (n : Int)), some (.obj dl), some (.int r), some (.int s), g] ∧ w' = w.up dl (.lst (xs.map D.int)) ∧ xs.length = i ∧ (∀ x ∈ xs, 0 ≤ x ∧ x < 60) ∧ 0 ≤ s ∧ s < 2147483647,
      ⟨[], _, _, none, rfl, rfl, rfl, (fun x hx => by simp at hx), by omega, by omega⟩, fun _ _ _ _ _ => True.intro, ?_, ?_⟩
    · rintro i dd Γ w' hdd ⟨xs, r, s, g, rfl, rfl, hl, hx, s0, s1⟩
      obtain ⟨hi, rfl⟩ := rngD_get hdd
      refine vg_nm (by walk_at "ix") (by decide +kernel) ?_
      have fin : ∀ (y : Int), 0 ≤ y → y < 60 → ∀ z ∈ xs ++ [y], 0 ≤ z ∧ z < 60 := fun y y0 y1 z hz => by
        rcases List.mem_append.mp hz with q | q
        · exact hx z q
        · rw [List.mem_singleton.mp q]; exact ⟨y0, y1⟩
      walk_at "if"
      walk_at "go"
      refine ite_dec (fun h1 => ?_) (fun h1 => ?_)
      · walk_at "go"
        refine ite_dec (fun h2 => ?_) (fun h2 => ?_)
        · walk_at "expr"
          refine ve_append ?_
          walk_at "go"
          refine ⟨⟨_, W.up_same⟩, ?_⟩
          walk_at "go"
          refine ⟨_, W.up_same, by rw [List.length_map]; show _ < 2 ^ 24; omega, ?_⟩
          walk_at "let"
          walk_at "go"
          walk_at "nil"
          walk_at "nil"
          refine ⟨xs ++ [r % 60], _, _, _, rfl, by rw [W.up_up, List.map_append]; rfl, by rw [List.length_append, hl]; rfl, fin _ (by omega) (by omega), s0, s1⟩
        · walk_at "let"
          walk_at "go"
          walk_at "expr"
          refine ve_append ?_
          walk_at "go"
          refine ⟨⟨_, W.up_same⟩, ?_⟩
          walk_at "go"
          refine ⟨_, W.up_same, by rw [List.length_map]; show _ < 2 ^ 24; omega, ?_⟩
          walk_at "nil"
          walk_at "nil"
          refine ⟨xs ++ [_], _, _, _, rfl, by rw [W.up_up, List.map_append]; rfl, by rw [List.length_append, hl]; rfl, fin _ (by omega) (by omega), by omega, by omega⟩
      · walk_at "let"
        walk_at "go"
        walk_at "expr"
        refine ve_append ?_
        walk_at "go"
        refine ⟨⟨_, W.up_same⟩, ?_⟩
        walk_at "go"
        refine ⟨_, W.up_same, by rw [List.length_map]; show _ < 2 ^ 24; omega, ?_⟩
        walk_at "nil"
        walk_at "nil"
        refine ⟨xs ++ [_], _, _, _, rfl, by rw [W.up_up, List.map_append]; rfl, by rw [List.length_append, hl]; rfl, fin _ (by omega) (by omega), by omega, by omega⟩
    · rintro Γ w' ⟨xs, r, s, g, rfl, rfl, hl, hx, s0, s1⟩
      rw [rngD_len] at hl
      refine vss_frz 2 rfl W.up_same rfl ?_
      rw [W.del_up_id hdl]
      walk_at "ret"
      walk_at "go"
      exact h xs hl hx
theorem ok__plain {f : Addr} {fd : FuncData} (B : Blt E) (F : Fun E.K "_law_plain" "_law_plain" s__law_plain f fd) : FnV E 1 f fd p__law_plain S_plain := by
  refine fnV F sc__law_plain (fun ds w P R h => ?_) (fun c ds w P h => ?_)
  · obtain ⟨a, b, rfl, _⟩ := h; rfl
  · obtain ⟨t, p, rfl, h0, h⟩ := h
    refine vss_cons (vs_for [2] rfl (vi_range1 (by decide +kernel) B.range ?_))
    walk_at "go"
    refine ⟨_, rfl, by omega, by omega, ?_⟩
    rw [Int.toNat_natCast]
    refine ⟨fun i Γ w' => w' = w ∧ ∃ (t' : Int) (p' : Nat) (g : Option D), Γ = [some (.int t'), some (.int (p' : Int)), g] ∧ red t' p' = red t p ∧ (t' % 2 = 0 → p' = p - i) ∧ p' ≤ p, ⟨rfl, t, p, none, rfl, rfl, fun _ => rfl, Nat.le_refl _⟩, fun _ _ _ _ _ => True.intro, ?_, ?_⟩
    · rintro i dd Γ w' hdd ⟨rfl, t', p', g, rfl, h1, h2, h3⟩
      obtain ⟨hi, rfl⟩ := rngD_get hdd
      refine vg_nm (by walk_at "ix") (by decide +kernel) ?_
      walk_at "if"
      walk_at "go"
      refine ite_dec (fun h4 => ?_) (fun h4 => ?_)
      · have e := h2 h4
        obtain ⟨q, rfl⟩ : ∃ q, p' = q + 1 := ⟨p' - 1, by omega⟩
        walk_at "let"
        walk_at "go"
        walk_at "let"
        walk_at "go"
        walk_at "nil"
        walk_at "nil"
        refine ⟨rfl, t' / 2, q, some (.int (0 + (i : Int))), ?_, ?_, (fun _ => by omega), by omega⟩
        · have e : (((q + 1 : Nat) : Int) - 1) = (q : Int) := by omega
          rw [e]; rfl
        · rw [← h1]
          conv => rhs; unfold red
          rw [if_pos h4]
      · walk_at "nil"
        walk_at "nil"
        exact ⟨rfl, t', p', _, rfl, h1, fun z => absurd z h4, h3⟩
    · rintro Γ w' ⟨rfl, t', p', g, rfl, h1, h2, h3⟩
      rw [rngD_len] at h2
      walk_at "ret"
      walk_at "go"
      have e : red t' p' = (t', p') := by
        cases p' with
        | zero => rfl
        | succ q =>
          unfold red
          rw [if_neg (fun z => by have := h2 z; omega)]
      rw [← h1, e] at h
      exact h
/-! ### lines of the law: pieces over 1024 -/
def lq (q : Pc) : D := .tup [.int q.1, .int q.2.1]
def lineD (A : Wal) : D := .tup [.lst ((A.1 :: A.2).map lq), .lst ((A.1 :: A.2).map slD)]


def S_pairs (C : Addr) : SpV := fun ds w P _ => ∃ A : Wal, ds = [.lst ((A.1 :: A.2).map lq)] ∧ A.2.length < 100000 ∧ (∀ q ∈ A.1 :: A.2, q.1.natAbs ≤ 1000000000000 ∧ q.2.1.natAbs ≤ 1000000000000) ∧ P (.lst (((scW A).1 :: (scW A).2).map (pcD C))) w
local macro_rules | `(tactic| walk_at "spec") => `(tactic| first
  | with_reducible refine' asDy_i ?_
  | ((with_reducible refine' ve_mk2 ?hT ?hc ?hj ?hg ?_ ?h1 ?h2); (case hT => exact (‹Dy3 _ _›).d2.d1); (case hc => rfl); (case hj => decide); (case hg => decide +kernel); (case h1 => rfl); (case h2 => rfl))
  | ((with_reducible refine' ve_wall ?hT ?hc ?hj ?hg ?_ ?h1 ?h2); (case hT => assumption); (case hc => rfl); (case hj => decide); (case hg => decide +kernel); (case h1 => rfl); (case h2 => rfl)))
theorem ok__pairs {f C : Addr} {fd : FuncData} (D3 : Dy3 E C) (F : Fun E.K "_law_pairs" "_law_pairs" s__law_pairs f fd) : FnV E 4 f fd p__law_pairs (S_pairs C) := by
  refine fnV F sc__law_pairs (fun ds w P R h => ?_) (fun c ds w P h => ?_)
  · obtain ⟨a, rfl, _⟩ := h; rfl
  · obtain ⟨A, rfl, hl, hb, h⟩ := h
    walk_at "ret"
    refine ve_lcW [("_law_heat", 1), ("_law_place_here", 2)] rfl (by walk_at "blk") (vi_list ?_)
    walk_at "go"
    refine ⟨_, rfl, fun D0 m h0 => True.intro, True.intro, fun i acc => acc = ((A.1 :: A.2).take i).map (fun q => pcD C (scP q)), rfl, ?_, ?_⟩
    · intro i d acc D0 hd h0 hacc
      rw [List.getElem?_map] at hd
      cases hq : (A.1 :: A.2)[i]? with
      | none => rw [hq] at hd; cases hd
      | some q =>
        rw [hq] at hd
        cases hd
        obtain ⟨b1, b2⟩ := hb q (List.mem_of_getElem? hq)
        have hl' := (List.getElem?_eq_some_iff.mp hq).1
        rw [List.length_cons] at hl'
        refine lct0 fun c1 => ?_
        walk_at "two"
        intro c3
        walk_at "go"
        refine ⟨⟨b1, by omega, by omega⟩, ?_⟩
        walk_at "go"
        refine ⟨⟨b2, by omega, by omega⟩, ?_⟩
        walk_at "go"
        refine ⟨by rw [hacc, List.length_map, List.length_take]; show _ < 2 ^ 24; omega, W.up_same, W.del_up_id h0, ?_⟩
        subst hacc
        exact take_map (f := fun q => pcD C (scP q)) hq
    · intro acc hacc
      rw [List.length_map, List.take_length] at hacc
      have e : acc = ((scW A).1 :: (scW A).2).map (pcD C) := by
        rw [hacc]
        show _ = List.map (pcD C) (List.map scP (A.1 :: A.2))
        rw [List.map_map]; rfl
      rw [e]
      exact h
end Wl

end

section
set_option maxRecDepth 100000
set_option maxHeartbeats 4000000
open PySem PySem.Spec PyProof.Rows L2 VL
local macro_rules | `(tactic| walk_at "ix") => `(tactic| first | with_reducible exact ix0 | with_reducible exact ix1 | with_reducible exact ix2 | with_reducible exact ix3 | with_reducible exact ix4 | with_reducible exact ix5 | with_reducible exact ix6 | with_reducible exact ix7 | with_reducible exact ix8 | with_reducible exact ix9 | with_reducible exact ix10 | with_reducible exact ix11 | with_reducible exact ix12 | with_reducible exact ix13 | with_reducible exact ix14 | with_reducible exact ix15 | with_reducible exact ix16)
local macro_rules | `(tactic| walk_at "num") => `(tactic| first | assumption | decide | omega | exact ⟨by decide, by decide⟩ | exact .inr ⟨by decide, by decide⟩ | exact .inl ⟨by decide, by decide⟩ | exact ⟨by omega, by omega, by omega⟩)
/- a name -/
local macro_rules | `(tactic| walk_at "name") => `(tactic| ((with_reducible refine' ve_nm ?hN ?hv ?hG ?_); (case hN => walk_at "ix"); (case hv => decide +kernel); (case hG => rfl)))
local macro_rules | `(tactic| walk_at "glob") => `(tactic| first
  | ((with_reducible refine' ve_gO ?hg ?hm ?_); (case hm => with_reducible assumption); (case hg => decide +kernel))
  | ((with_reducible refine' ve_gI ?hg ?hm ?_); (case hm => with_reducible assumption); (case hg => decide +kernel)))
local macro_rules | `(tactic| walk_at "tyname") => `(tactic| first
  | ((with_reducible refine' ve_ty "int" ?hg ?hm ?hv ?_); (case hg => decide +kernel); (case hm => exact (‹Blt _›).int); (case hv => exact bt_int))
  | ((with_reducible refine' ve_ty "bool" ?hg ?hm ?hv ?_); (case hg => decide +kernel); (case hm => exact (‹Blt _›).bool); (case hv => exact bt_bool))
  | ((with_reducible refine' ve_ty "str" ?hg ?hm ?hv ?_); (case hg => decide +kernel); (case hm => exact (‹Blt _›).str); (case hv => exact bt_str))
  | ((with_reducible refine' ve_ty "list" ?hg ?hm ?hv ?_); (case hg => decide +kernel); (case hm => exact (‹Blt _›).list); (case hv => exact bt_list))
  | ((with_reducible refine' ve_ty "tuple" ?hg ?hm ?hv ?_); (case hg => decide +kernel); (case hm => exact (‹Blt _›).tuple); (case hv => exact bt_tuple)))
local macro_rules | `(tactic| walk_at "blt") => `(tactic| first
  | ((with_reducible refine' blt1 "len" ?hg ?hm ?hv ?_ ?he); (case hg => decide +kernel); (case hm => exact (‹Blt _›).len); (case hv => exact bt_len); (case he => rfl))
  | ((with_reducible refine' blt1 "sum" ?hg ?hm ?hv ?_ ?he); (case hg => decide +kernel); (case hm => exact (‹Blt _›).sum); (case hv => exact bt_sum); (case he => rfl))
  | ((with_reducible refine' blt1 "abs" ?hg ?hm ?hv ?_ ?he); (case hg => decide +kernel); (case hm => exact (‹Blt _›).abs); (case hv => exact bt_abs); (case he => rfl))
  | ((with_reducible refine' blt1 "sorted" ?hg ?hm ?hv ?_ ?he); (case hg => decide +kernel); (case hm => exact (‹Blt _›).sorted); (case hv => exact bt_sorted); (case he => rfl))
  | ((with_reducible refine' blt1 "all" ?hg ?hm ?hv ?_ ?he); (case hg => decide +kernel); (case hm => exact (‹Blt _›).all); (case hv => exact bt_all); (case he => rfl))
  | ((with_reducible refine' blt1 "any" ?hg ?hm ?hv ?_ ?he); (case hg => decide +kernel); (case hm => exact (‹Blt _›).any); (case hv => exact bt_any); (case he => rfl))
  | ((with_reducible refine' blt1 "max" ?hg ?hm ?hv ?_ ?he); (case hg => decide +kernel); (case hm => exact (‹Blt _›).max); (case hv => exact bt_max); (case he => rfl))
  | ((with_reducible refine' blt1 "min" ?hg ?hm ?hv ?_ ?he); (case hg => decide +kernel); (case hm => exact (‹Blt _›).min); (case hv => exact bt_min); (case he => rfl))
  | ((with_reducible refine' blt2 "isinstance" ?hg ?hm ?hv ?_ ?he ?hf); (case hg => decide +kernel); (case hm => exact (‹Blt _›).isi); (case hv => exact bt_isi); (case he => rfl); (case hf => rfl))
  | ((with_reducible refine' blt2 "max" ?hg ?hm ?hv ?_ ?he ?hf); (case hg => decide +kernel); (case hm => exact (‹Blt _›).max); (case hv => exact bt_max); (case he => rfl); (case hf => rfl))
  | ((with_reducible refine' blt2 "min" ?hg ?hm ?hv ?_ ?he ?hf); (case hg => decide +kernel); (case hm => exact (‹Blt _›).min); (case hv => exact bt_min); (case he => rfl); (case hf => rfl))
  | ((with_reducible refine' bty1 "int" ?hg ?hm ?hv ?_ ?he); (case hg => decide +kernel); (case hm => exact (‹Blt _›).int); (case hv => exact bt_int); (case he => rfl))
  | ((with_reducible refine' bty1 "list" ?hg ?hm ?hv ?_ ?he); (case hg => decide +kernel); (case hm => exact (‹Blt _›).list); (case hv => exact bt_list); (case he => rfl))
  | ((with_reducible refine' bty1 "tuple" ?hg ?hm ?hv ?_ ?he); (case hg => decide +kernel); (case hm => exact (‹Blt _›).tuple); (case hv => exact bt_tuple); (case he => rfl))
  | ((with_reducible refine' bty1 "str" ?hg ?hm ?hv ?_ ?he); (case hg => decide +kernel); (case hm => exact (‹Blt _›).str); (case hv => exact bt_str); (case he => rfl)))
/- a call of a def of the text, its Callable in the context -/
local macro_rules | `(tactic| walk_at "call") => `(tactic| first
  | ((with_reducible refine' call1 ?h ?hc ?hj ?hg ?_ ?h1); (case h => with_reducible assumption); (case hc => rfl); (case hg => decide +kernel); (case hj => first | decide | omega); (case h1 => rfl))
  | ((with_reducible refine' call2 ?h ?hc ?hj ?hg ?_ ?h1 ?h2); (case h => with_reducible assumption); (case hc => rfl); (case hg => decide +kernel); (case hj => first | decide | omega); (case h1 => rfl); (case h2 => rfl))
  | ((with_reducible refine' call3 ?h ?hc ?hj ?hg ?_ ?h1 ?h2 ?h3); (case h => with_reducible assumption); (case hc => rfl); (case hg => decide +kernel); (case hj => first | decide | omega); (case h1 => rfl); (case h2 => rfl); (case h3 => rfl))
  | ((with_reducible refine' call4 ?h ?hc ?hj ?hg ?_ ?h1 ?h2 ?h3 ?h4); (case h => with_reducible assumption); (case hc => rfl); (case hg => decide +kernel); (case hj => first | decide | omega); (case h1 => rfl); (case h2 => rfl); (case h3 => rfl); (case h4 => rfl))
  | ((with_reducible refine' call0 ?h ?hc ?hj ?hg ?_); (case h => with_reducible assumption); (case hc => rfl); (case hg => decide +kernel); (case hj => first | decide | omega)))
/- one step -/
local macro_rules | `(tactic| walk_at "v") => `(tactic| first
  | with_reducible refine' asB_i ?_
  | with_reducible refine' asInt_i ?_
  | with_reducible refine' asObj_i ?_
  | with_reducible refine' if_t ?_
  | with_reducible refine' if_f ?_
  | with_reducible refine' if_nt ?_
  | with_reducible refine' if_nf ?_
  | ((with_reducible refine' if_dt ?h ?_); (case h => first | assumption | omega))
  | ((with_reducible refine' if_df ?h ?_); (case h => first | assumption | omega))
  | ((with_reducible refine' if_ndt ?h ?_); (case h => first | assumption | omega))
  | ((with_reducible refine' if_ndf ?h ?_); (case h => first | assumption | omega))
  | with_reducible refine' ve_int ?_
  | with_reducible refine' ve_str ?_
  | with_reducible refine' ve_bl ?_
  | with_reducible refine' ve_non ?_
  | walk_at "name"
  | with_reducible refine' ve_bin ?_
  | with_reducible refine' ve_cmp rfl ?_
  | with_reducible refine' vt_cmp rfl ?_
  | with_reducible refine' ve_not ?_
  | with_reducible refine' vt_not ?_
  | with_reducible refine' ve_and ?_
  | with_reducible refine' ve_or ?_
  | with_reducible refine' ve_one ?_
  | with_reducible refine' vw_and ?_
  | with_reducible refine' vw_or ?_
  | with_reducible refine' vw_and1 ?_
  | with_reducible refine' vw_or1 ?_
  | with_reducible refine' va_nil ?_
  | with_reducible refine' va_cons ?_ rfl
  | with_reducible refine' vo_add ?_
  | with_reducible refine' vo_sub ?_
  | with_reducible refine' vo_lt ?_
  | with_reducible refine' vo_le ?_
  | with_reducible refine' vo_gt ?_
  | with_reducible refine' vo_ge ?_
  | with_reducible refine' vo_eq ?_
  | with_reducible refine' vo_ne ?_
  | with_reducible refine' vo_eqS ?_
  | with_reducible refine' vo_neS ?_
  | with_reducible refine' vo_eqB ?_
  | with_reducible refine' vo_is ?_
  | with_reducible refine' vo_isnot ?_
  | with_reducible refine' vu_neg ?_
  | ((with_reducible refine' vo_mod ?h ?_); (case h => walk_at "num"))
  | ((with_reducible refine' vo_fdiv ?h ?_); (case h => walk_at "num"))
  | ((with_reducible refine' vo_mul ?h ?_); (case h => walk_at "num"))
  | ((with_reducible refine' vo_pow ?h ?_); (case h => walk_at "num"))
  | ((with_reducible refine' vo_shl ?h ?_); (case h => walk_at "num"))
  | ((with_reducible refine' ve_chain ?_ ?h); (case h => rfl))
  | ((with_reducible refine' vt_chain ?_ ?h); (case h => rfl))
  | with_reducible refine' ve_un ?_
  | with_reducible refine' ve_if ?_
  | with_reducible refine' vt_w (vw_and ?_)
  | with_reducible refine' vt_w (vw_or ?_)
  | ((with_reducible refine' and_len ?h ?_); (case h => exact len_small rfl))
  | walk_at "spec"
  | walk_at "call"
  | walk_at "blt"
  | ((with_reducible refine' ve_ix ?_ ?h); (case h => exact fun _ _ => rfl))
  | ((with_reducible refine' ve_tup ?_ ?h); (case h => exact pe_tup pa_w))
  | with_reducible refine' ve_lst ?_
  | walk_at "glob"
  | ((with_reducible refine' vt_tr ?_ ?he); (case he => intro _; rfl))
  | with_reducible refine' tr_bl ?_
  | with_reducible refine' tr_int ?_
  | with_reducible refine' tr_non ?_
  | with_reducible refine' tr_tup ?_
  | with_reducible refine' tr_lst ?_
  | walk_at "tyname"
  | ((with_reducible refine' vx_tup ?h ?_); (case h => rfl))
  | with_reducible refine' vcl_int ?_)
local macro_rules | `(tactic| walk_at "go") => `(tactic| repeat walk_at "v")
/- one statement: a name stored -/
local macro_rules | `(tactic| walk_at "let") => `(tactic| (refine' vss_cons (vs_lt ?hi ?hx ?_ ?hs); (case hi => walk_at "ix"); (case hx => decide +kernel); (case hs => rfl)))
local macro_rules | `(tactic| walk_at "ret") => `(tactic| refine' vss_cons (vs_ret ?_))
local macro_rules | `(tactic| walk_at "fld") => `(tactic| (refine' vss_cons (vs_fld ?_ ?hs); (case hs => rfl)))
local macro_rules | `(tactic| walk_at "if") => `(tactic| refine' vss_cons (vs_if ?_))
local macro_rules | `(tactic| walk_at "expr") => `(tactic| (refine' vss_cons (vs_expr ?_ ?hs); (case hs => rfl)))
local macro_rules | `(tactic| walk_at "nil") => `(tactic| refine' vss_nil ?_)
namespace Wl
open Wm
local macro_rules | `(tactic| walk_at "okn") => `(tactic| first | assumption | (refine' okn_R ?_ ?_ ?_ <;> omega) | (refine' okn_R21 ?_ ?_ ?_ <;> omega))
local macro_rules | `(tactic| walk_at "two") => `(tactic| (refine vg_two rfl (by walk_at "ix") (by decide +kernel) (by walk_at "ix") (by decide +kernel) ?_ rfl rfl rfl rfl))
local macro_rules | `(tactic| walk_at "blk") => `(tactic| exact ⟨rfl, by decide +kernel, by decide +kernel, by decide +kernel, by decide +kernel⟩)
local macro_rules | `(tactic| walk_at "spec") => `(tactic| first
  | with_reducible refine' asDy_i ?_
  | with_reducible refine' asW_i ?_
  | ((with_reducible refine' S_scaled_i ?ho ?_); (case ho => walk_at "okn"))
  | ((with_reducible refine' ve_dyT ?hT ?hc ?hj ?_ ?h1); (case hT => exact (‹Dy3 _ _›).d2.d1); (case hc => rfl); (case hj => decide); (case h1 => rfl))
  | ((with_reducible refine' ve_dyP ?hT ?hc ?hj ?_ ?h1); (case hT => exact (‹Dy3 _ _›).d2.d1); (case hc => rfl); (case hj => decide); (case h1 => rfl))
  | ((with_reducible refine' vo_dyadd ?hT ?hc ?hj ?hx ?hy ?hz ?_); (case hT => exact (‹Dy3 _ _›).d2); (case hc => rfl); (case hj => decide); (case hx => walk_at "okn"); (case hy => walk_at "okn"); (case hz => walk_at "okn"))
  | ((with_reducible refine' vu_dyneg ?hT ?hc ?hj ?hx ?_); (case hT => exact (‹Dy3 _ _›).d2); (case hc => rfl); (case hj => decide); (case hx => walk_at "okn"))
  | ((with_reducible refine' vo_dysub ?hT ?hc ?hj ?hx ?hy ?hz ?_); (case hT => assumption); (case hc => rfl); (case hj => decide); (case hx => walk_at "okn"); (case hy => walk_at "okn"); (case hz => walk_at "okn"))
  | ((with_reducible refine' ve_dyless _ ?hT ?hc ?hj ?_ ?h1 ?h2); (case hT => assumption); (case hc => rfl); (case hj => decide); (case h1 => rfl); (case h2 => rfl))
  | ((with_reducible refine' ve_dysame _ ?hT ?hc ?hj ?_ ?h1 ?h2); (case hT => assumption); (case hc => rfl); (case hj => decide); (case h1 => rfl); (case h2 => rfl))
  | ((with_reducible refine' ve_wat _ ?hT ?hc ?hj ?_ ?h1 ?h2); (case hT => assumption); (case hc => rfl); (case hj => decide); (case h1 => rfl); (case h2 => rfl))
  | ((with_reducible refine' ve_wsa _ ?hT ?hc ?hj ?_ ?h1 ?h2); (case hT => assumption); (case hc => rfl); (case hj => decide); (case h1 => rfl); (case h2 => rfl))
  | ((with_reducible refine' ve_wtu _ ?hT ?hc ?hj ?_ ?h1); (case hT => assumption); (case hc => rfl); (case hj => decide); (case h1 => rfl))
  | ((with_reducible refine' ve_wsl ?hT ?hc ?hj ?_ ?h1); (case hT => assumption); (case hc => rfl); (case hj => decide); (case h1 => rfl))
  | ((with_reducible refine' ve_dyhf _ ?hT ?hc ?hj ?_ ?h1); (case hT => assumption); (case hc => rfl); (case hj => decide); (case h1 => rfl))
  | ((with_reducible refine' ve_wpoF _ ?hT ?hc ?hj ?_ ?h1); (case hT => assumption); (case hc => rfl); (case hj => decide); (case h1 => rfl))
  | ((with_reducible refine' ve_wall ?hT ?hc ?hj ?hg ?_ ?h1 ?h2); (case hT => assumption); (case hc => rfl); (case hj => decide); (case hg => decide +kernel); (case h1 => rfl); (case h2 => rfl))
  | ((with_reducible refine' ok2_i ?hx ?hy ?_); (case hx => walk_at "okn"); (case hy => walk_at "okn")))
variable {E : EnvR}
/-- the classes as isinstance sees them -/
structure Li (E : EnvR) (C CW CB : Addr) : Prop where
  c : Wc E C CW CB
  gD : E.mg "Dyadic" = some (.ref C)
  gW : E.mg "Wall" = some (.ref CW)
  ciW : ClsI E.K CW
  kD : PySem.W.kitOne E.K (.ref C) (.ref C) = some true
  kW : PySem.W.kitOne E.K (.ref CW) (.ref CW) = some true
  ii : Callable E "_law_is_integer" 2 1 S_is_integer
local macro_rules | `(tactic| walk_at "spec") => `(tactic| first
  | with_reducible refine' asDy_i ?_
  | with_reducible refine' asW_i ?_
  | with_reducible refine' S_is_integer_i ?_
  | ((with_reducible refine' ve_wsl ?hT ?hc ?hj ?_ ?h1); (case hT => assumption); (case hc => rfl); (case hj => decide); (case h1 => rfl))
  | ((with_reducible refine' ve_dyT ?hT ?hc ?hj ?_ ?h1); (case hT => exact (‹Dy3 _ _›).d2.d1); (case hc => rfl); (case hj => decide); (case h1 => rfl))
  | ((with_reducible refine' ve_dyP ?hT ?hc ?hj ?_ ?h1); (case hT => exact (‹Dy3 _ _›).d2.d1); (case hc => rfl); (case hj => decide); (case h1 => rfl)))
theorem ok__is_integer {f : Addr} {fd : FuncData} (B : Blt E) (F : Fun E.K "_law_is_integer" "_law_is_integer" s__law_is_integer f fd) : FnV E 2 f fd p__law_is_integer S_is_integer := by
  refine fnV F sc__law_is_integer (fun ds w P R h => ?_) (fun c ds w P h => ?_)
  · unfold S_is_integer at h; split at h <;> first | rfl | exact h.elim
  · unfold S_is_integer at h
    split at h
    · walk_at "ret"
      walk_at "go"
      refine isi_ty B.clsG tyd_int (by decide +kernel : kitB "int" "int" = some true) ?_
      walk_at "go"
      refine isi_ty B.clsG tyd_int (by decide +kernel : kitB "int" "bool" = some false) ?_
      exact h
    · exact h.elim
def S_shut (C CW : Addr) : SpV := fun ds w P _ => ∃ A : Wal, ds = [lineD A] ∧ LinW A ∧ A.2.length < 100000 ∧ (∀ q ∈ A.1 :: A.2, q.1.natAbs ≤ 500000000 ∧ q.2.1.natAbs ≤ 500000000) ∧ P (wallD C CW (mrgW (scW A))) w
theorem last_get {α : Type} {xs : List α} (h : xs ≠ []) {d : α} (e : xs.getLast h = d) : atI xs (-1) = some d := by
  have hp : 0 < xs.length := by
    rcases Nat.eq_zero_or_pos xs.length with z | z
    · exact absurd (List.eq_nil_of_length_eq_zero z) h
    · exact z
  unfold atI ixN
  rw [if_neg (by omega), if_pos (by omega)]
  have e2 : ((-1 : Int) + (xs.length : Int)).toNat = xs.length - 1 := by omega
  rw [e2, ← e, List.getLast_eq_getElem]
  simp
theorem last_map {α : Type} {xs : List α} (f : α → D) (h : xs ≠ []) : atI (xs.map f) (-1) = some (f (xs.getLast h)) := last_get (by simpa using h) (by rw [List.getLast_map])
theorem ok__shut {f C CW CB : Addr} {fd : FuncData} (T : Li E C CW CB) (cp : Callable E "_law_pairs" 4 1 (S_pairs C)) (F : Fun E.K "_law_shut" "_law_shut" s__law_shut f fd) : FnV E 9 f fd p__law_shut (S_shut C CW) := by
  have T1 := T.c.a
  refine fnV F sc__law_shut (fun ds w P R h => ?_) (fun c ds w P h => ?_)
  · obtain ⟨a, rfl, _⟩ := h; rfl
  · obtain ⟨A, rfl, hA, hl, hb, h⟩ := h
    unfold lineD
    walk_at "ret"
    refine ve_wall T1 rfl (by decide) (by decide +kernel) ?_ rfl rfl
    walk_at "call"
    walk_at "go"
    refine ⟨A, rfl, hl, fun q hq => ?_, ?_⟩
    · obtain ⟨b1, b2⟩ := hb q hq
      exact ⟨by omega, by omega⟩
    walk_at "go"
    refine vx_seq rfl (last_map slD (List.cons_ne_nil _ _)) ?_
    unfold slD
    walk_at "go"
    refine ⟨ptsW (scW A), ?_, fun q hq => ?_, ?_, ?_⟩
    · unfold ptsW
      rw [List.map_map]; rfl
    · obtain ⟨u, hu, rfl⟩ := List.mem_map.mp hq
      have hu' : u ∈ (A.1 :: A.2).map scP := hu
      obtain ⟨v, hv, rfl⟩ := List.mem_map.mp hu'
      obtain ⟨b1, b2⟩ := hb v hv
      refine ⟨⟨?_, ?_, ?_⟩, ⟨?_, ?_, ?_⟩⟩
      · show v.1 * 1073741824 % 4194304 = 0; omega
      · show -576460752303423488 ≤ v.1 * 1073741824; omega
      · show v.1 * 1073741824 ≤ 576460752303423488; omega
      · show v.2.1 * 1073741824 % 4194304 = 0; omega
      · show -576460752303423488 ≤ v.2.1 * 1073741824; omega
      · show v.2.1 * 1073741824 ≤ 576460752303423488; omega
    · unfold ptsW scW
      rw [List.length_map, List.length_cons, List.length_map]; omega
    · have e := mkW_lin (p := (scW A).1) (r := (scW A).2) (sc_lin hA)
      have e2 : (((scW A).1 :: (scW A).2).getLast (List.cons_ne_nil _ _)).2.2 = ((A.1 :: A.2).getLast (List.cons_ne_nil _ _)).2.2 := sc_last A
      rw [e2] at e
      unfold ptsW
      rw [e]
      exact h
def S_is (C : Addr) : SpV := fun ds w P _ => ∃ n v : Int, ds = [dy C n, .int v] ∧ P (.bl (decide (n = v * 1073741824))) w
theorem ok__is {f C CW CB : Addr} {fd : FuncData} (T : Li E C CW CB) (cp : Callable E "_law_plain" 1 2 S_plain) (F : Fun E.K "_law_is" "_law_is" s__law_is f fd) : FnV E 4 f fd p__law_is (S_is C) := by
  have T1 := T.c.a
  have B := T1.B
  have D3 := T1.dy
  have gD := T.gD
  have ii := T.ii
  refine fnV F sc__law_is (fun ds w P R h => ?_) (fun c ds w P h => ?_)
  · obtain ⟨a, _, rfl, _⟩ := h; rfl
  · obtain ⟨n, v, rfl, h⟩ := h
    walk_at "if"
    walk_at "go"
    refine vcl_isi B.clsG (tyd_ins D3.d2.ci) rfl T.kD ?_
    walk_at "go"
    walk_at "nil"
    walk_at "ret"
    walk_at "go"
    refine ⟨v, 10, rfl, by decide, ?_⟩
    have e := red_pt (t := v) (p := 10) (by decide)
    rw [show (2 : Int) ^ (40 - 10) = 1073741824 from by decide] at e
    rw [e]
    refine vo_eqT2 ?_
    show P _ _
    have e2 : decide (pt n = pt (v * 1073741824) ∧ ((pp n : Nat) : Int) = ((pp (v * 1073741824) : Nat) : Int)) = decide (n = v * 1073741824) :=
      decide_eq_decide.mpr ⟨fun z => (same_pt _ _).mp ⟨z.1, by omega⟩, fun z => by rw [← z]; exact ⟨rfl, rfl⟩⟩
    rw [e2]
    exact h
def S_lplace : SpV := fun ds w P _ => ∃ (A : Wal) (x : Int), ds = [lineD A, .int x] ∧ LinW A ∧ A.2.length < 100000 ∧ 0 ≤ x ∧ ∀ j : Nat, (A.1 :: A.2)[j]? = some (fpc A.1 A.2 x) → P (.int (j : Int)) w
def S_lat : SpV := fun ds w P _ => ∃ (A : Wal) (x : Int), ds = [lineD A, .int x] ∧ LinW A ∧ A.2.length < 100000 ∧ 0 ≤ x ∧ P (.int (V A x)) w
theorem ok__place {f : Addr} {fd : FuncData} (B : Blt E) (F : Fun E.K "_law_place" "_law_place" s__law_place f fd) : FnV E 1 f fd p__law_place S_lplace := by
  refine fnV F sc__law_place (fun ds w P R h => ?_) (fun c ds w P h => ?_)
  · obtain ⟨a, _, rfl, _⟩ := h; rfl
  · obtain ⟨A, x, rfl, hA, hl, h0, h⟩ := h
    unfold lineD
    walk_at "ret"
    walk_at "blt"
    refine ve_lcW [("_law_k", 2)] rfl (by walk_at "blk") (vi_range1 (by decide +kernel) B.range ?_)
    walk_at "go"
    refine vcl_len rfl ?_
    rw [List.length_map]
    walk_at "go"
    refine ⟨_, rfl, by rw [List.length_cons]; omega, by rw [List.length_cons]; omega, ?_⟩
    rw [Int.toNat_natCast]
    refine ⟨fun _ _ _ => True.intro, True.intro, fun i acc => ∃ ks : List Nat, acc = ks.map (fun k : Nat => D.int (k : Int)) ∧ ks.length ≤ i ∧ ∀ k, k ∈ ks ↔ k < i ∧ ∃ q, (A.1 :: A.2)[k]? = some q ∧ q.1 ≤ x, ⟨[], rfl, Nat.le_refl _, fun k => ⟨fun z => by simp at z, fun z => absurd z.1 (Nat.not_lt_zero _)⟩⟩, ?_, ?_⟩
    · rintro i dd acc D0 hdd hD0 ⟨ks, rfl, hkl, hk⟩
      obtain ⟨hi, rfl⟩ := rngD_get hdd
      obtain ⟨q, hq⟩ : ∃ q, (A.1 :: A.2)[i]? = some q := ⟨_, List.getElem?_eq_getElem hi⟩
      rw [List.length_cons] at hi
      refine lct1 fun c1 => ?_
      refine vg_nm (by walk_at "ix") (by decide +kernel) ?_
      intro c2
      walk_at "go"
      refine vx_seq rfl (atI_nat (n := i) (map_get hq) (by omega)) ?_
      unfold lq
      walk_at "go"
      refine ite_dec (fun h1 => ?_) (fun h1 => ?_)
      · intro c3
        walk_at "go"
        refine ⟨by rw [List.length_map]; show _ < 2 ^ 24; omega, W.up_same, W.del_up_id hD0, ks ++ [i], ?_, by rw [List.length_append]; show _ + 1 ≤ _; omega, fun k => ?_⟩
        · rw [List.map_append]
          show _ = _ ++ [D.int (i : Int)]
          rw [show ((0 : Int) + (i : Int)) = (i : Int) by omega]
        · rw [List.mem_append, hk, List.mem_singleton]
          constructor
          · rintro (⟨z1, z2⟩ | z)
            · exact ⟨by omega, z2⟩
            · subst z; exact ⟨by omega, q, hq, h1⟩
          · rintro ⟨z1, z2⟩
            rcases Nat.lt_or_ge k i with e | e
            · exact .inl ⟨e, z2⟩
            · exact .inr (by omega)
      · refine ⟨W.up_same, W.del_up_id hD0, ks, rfl, by omega, fun k => ?_⟩
        rw [hk]
        constructor
        · rintro ⟨z1, z2⟩; exact ⟨by omega, z2⟩
        · rintro ⟨z1, z2⟩
          rcases Nat.lt_or_ge k i with e | e
          · exact ⟨e, z2⟩
          · have : k = i := by omega
            subst this
            obtain ⟨q', e1, e2⟩ := z2
            rw [hq] at e1
            cases e1
            exact absurd e2 h1
    · rintro acc ⟨ks, rfl, hkl, hk⟩
      rw [rngD_len] at hk
      have z0 : 0 ∈ ks := (hk 0).mpr ⟨by rw [List.length_cons]; omega, A.1, rfl, by rw [hA.z]; exact h0⟩
      refine vcl_max (ns := ks.map fun k : Nat => (k : Int)) rfl (by rw [List.map_map]; rfl) (by rw [List.length_map]; exact List.length_pos_of_mem z0) fun m hm1 hm2 => ?_
      obtain ⟨j, hj, rfl⟩ := List.mem_map.mp hm1
      obtain ⟨_, q, hq, hqx⟩ := (hk j).mp hj
      have e := fpc_ix hA.ch (by rw [hA.z]; exact h0) hq hqx fun j' q' h1 h2 => by
        have := hm2 _ (List.mem_map.mpr ⟨j', (hk j').mpr ⟨(List.getElem?_eq_some_iff.mp h1).1, q', h1, h2⟩, rfl⟩)
        omega
      exact h j (by rw [e]; exact hq)
theorem ok__lat {f : Addr} {fd : FuncData} (cp : Callable E "_law_place" 1 2 S_lplace) (F : Fun E.K "_law_at" "_law_at" s__law_at f fd) : FnV E 2 f fd p__law_at S_lat := by
  refine fnV F sc__law_at (fun ds w P R h => ?_) (fun c ds w P h => ?_)
  · obtain ⟨a, _, rfl, _⟩ := h; rfl
  · obtain ⟨A, x, rfl, hA, hl, h0, h⟩ := h
    walk_at "let"
    walk_at "go"
    refine ⟨A, x, rfl, hA, hl, h0, fun j hj => ?_⟩
    have s := hA.ch.sl _ (fpc_mem A.1 A.2 x)
    unfold lineD
    walk_at "ret"
    walk_at "go"
    refine vx_seq rfl (atI_nat (n := j) (map_get hj) rfl) ?_
    unfold lq
    walk_at "go"
    refine vx_seq rfl (atI_nat (n := j) (map_get hj) rfl) ?_
    unfold slD
    walk_at "go"
    refine vx_seq rfl (atI_nat (n := j) (map_get hj) rfl) ?_
    walk_at "go"
    refine vo_mul (.inl (by rcases s with s | s | s <;> rw [s] <;> omega)) ?_
    walk_at "go"
    exact h
end Wl

end

section
set_option maxRecDepth 100000
set_option maxHeartbeats 4000000
open PySem PySem.Spec PyProof.Rows L2 VL
local macro_rules | `(tactic| walk_at "ix") => `(tactic| first | with_reducible exact ix0 | with_reducible exact ix1 | with_reducible exact ix2 | with_reducible exact ix3 | with_reducible exact ix4 | with_reducible exact ix5 | with_reducible exact ix6 | with_reducible exact ix7 | with_reducible exact ix8 | with_reducible exact ix9 | with_reducible exact ix10 | with_reducible exact ix11 | with_reducible exact ix12 | with_reducible exact ix13 | with_reducible exact ix14 | with_reducible exact ix15 | with_reducible exact ix16)
local macro_rules | `(tactic| walk_at "num") => `(tactic| first | assumption | decide | omega | exact ⟨by decide, by decide⟩ | exact .inr ⟨by decide, by decide⟩ | exact .inl ⟨by decide, by decide⟩ | exact ⟨by omega, by omega, by omega⟩)
/- a name -/
local macro_rules | `(tactic| walk_at "name") => `(tactic| ((with_reducible refine' ve_nm ?hN ?hv ?hG ?_); (case hN => walk_at "ix"); (case hv => decide +kernel); (case hG => rfl)))
local macro_rules | `(tactic| walk_at "glob") => `(tactic| first
  | ((with_reducible refine' ve_gO ?hg ?hm ?_); (case hm => with_reducible assumption); (case hg => decide +kernel))
  | ((with_reducible refine' ve_gI ?hg ?hm ?_); (case hm => with_reducible assumption); (case hg => decide +kernel)))
local macro_rules | `(tactic| walk_at "tyname") => `(tactic| first
  | ((with_reducible refine' ve_ty "int" ?hg ?hm ?hv ?_); (case hg => decide +kernel); (case hm => exact (‹Blt _›).int); (case hv => exact bt_int))
  | ((with_reducible refine' ve_ty "bool" ?hg ?hm ?hv ?_); (case hg => decide +kernel); (case hm => exact (‹Blt _›).bool); (case hv => exact bt_bool))
  | ((with_reducible refine' ve_ty "str" ?hg ?hm ?hv ?_); (case hg => decide +kernel); (case hm => exact (‹Blt _›).str); (case hv => exact bt_str))
  | ((with_reducible refine' ve_ty "list" ?hg ?hm ?hv ?_); (case hg => decide +kernel); (case hm => exact (‹Blt _›).list); (case hv => exact bt_list))
  | ((with_reducible refine' ve_ty "tuple" ?hg ?hm ?hv ?_); (case hg => decide +kernel); (case hm => exact (‹Blt _›).tuple); (case hv => exact bt_tuple)))
local macro_rules | `(tactic| walk_at "blt") => `(tactic| first
  | ((with_reducible refine' blt1 "len" ?hg ?hm ?hv ?_ ?he); (case hg => decide +kernel); (case hm => exact (‹Blt _›).len); (case hv => exact bt_len); (case he => rfl))
  | ((with_reducible refine' blt1 "sum" ?hg ?hm ?hv ?_ ?he); (case hg => decide +kernel); (case hm => exact (‹Blt _›).sum); (case hv => exact bt_sum); (case he => rfl))
  | ((with_reducible refine' blt1 "abs" ?hg ?hm ?hv ?_ ?he); (case hg => decide +kernel); (case hm => exact (‹Blt _›).abs); (case hv => exact bt_abs); (case he => rfl))
  | ((with_reducible refine' blt1 "sorted" ?hg ?hm ?hv ?_ ?he); (case hg => decide +kernel); (case hm => exact (‹Blt _›).sorted); (case hv => exact bt_sorted); (case he => rfl))
  | ((with_reducible refine' blt1 "all" ?hg ?hm ?hv ?_ ?he); (case hg => decide +kernel); (case hm => exact (‹Blt _›).all); (case hv => exact bt_all); (case he => rfl))
  | ((with_reducible refine' blt1 "any" ?hg ?hm ?hv ?_ ?he); (case hg => decide +kernel); (case hm => exact (‹Blt _›).any); (case hv => exact bt_any); (case he => rfl))
  | ((with_reducible refine' blt1 "max" ?hg ?hm ?hv ?_ ?he); (case hg => decide +kernel); (case hm => exact (‹Blt _›).max); (case hv => exact bt_max); (case he => rfl))
  | ((with_reducible refine' blt1 "min" ?hg ?hm ?hv ?_ ?he); (case hg => decide +kernel); (case hm => exact (‹Blt _›).min); (case hv => exact bt_min); (case he => rfl))
  | ((with_reducible refine' blt2 "isinstance" ?hg ?hm ?hv ?_ ?he ?hf); (case hg => decide +kernel); (case hm => exact (‹Blt _›).isi); (case hv => exact bt_isi); (case he => rfl); (case hf => rfl))
  | ((with_reducible refine' blt2 "max" ?hg ?hm ?hv ?_ ?he ?hf); (case hg => decide +kernel); (case hm => exact (‹Blt _›).max); (case hv => exact bt_max); (case he => rfl); (case hf => rfl))
  | ((with_reducible refine' blt2 "min" ?hg ?hm ?hv ?_ ?he ?hf); (case hg => decide +kernel); (case hm => exact (‹Blt _›).min); (case hv => exact bt_min); (case he => rfl); (case hf => rfl))
  | ((with_reducible refine' bty1 "int" ?hg ?hm ?hv ?_ ?he); (case hg => decide +kernel); (case hm => exact (‹Blt _›).int); (case hv => exact bt_int); (case he => rfl))
  | ((with_reducible refine' bty1 "list" ?hg ?hm ?hv ?_ ?he); (case hg => decide +kernel); (case hm => exact (‹Blt _›).list); (case hv => exact bt_list); (case he => rfl))
  | ((with_reducible refine' bty1 "tuple" ?hg ?hm ?hv ?_ ?he); (case hg => decide +kernel); (case hm => exact (‹Blt _›).tuple); (case hv => exact bt_tuple); (case he => rfl))
  | ((with_reducible refine' bty1 "str" ?hg ?hm ?hv ?_ ?he); (case hg => decide +kernel); (case hm => exact (‹Blt _›).str); (case hv => exact bt_str); (case he => rfl)))
/- a call of a def of the text, its Callable in the context -/
local macro_rules | `(tactic| walk_at "call") => `(tactic| first
  | ((with_reducible refine' call1 ?h ?hc ?hj ?hg ?_ ?h1); (case h => with_reducible assumption); (case hc => rfl); (case hg => decide +kernel); (case hj => first | decide | omega); (case h1 => rfl))
  | ((with_reducible refine' call2 ?h ?hc ?hj ?hg ?_ ?h1 ?h2); (case h => with_reducible assumption); (case hc => rfl); (case hg => decide +kernel); (case hj => first | decide | omega); (case h1 => rfl); (case h2 => rfl))
  | ((with_reducible refine' call3 ?h ?hc ?hj ?hg ?_ ?h1 ?h2 ?h3); (case h => with_reducible assumption); (case hc => rfl); (case hg => decide +kernel); (case hj => first | decide | omega); (case h1 => rfl); (case h2 => rfl); (case h3 => rfl))
  | ((with_reducible refine' call4 ?h ?hc ?hj ?hg ?_ ?h1 ?h2 ?h3 ?h4); (case h => with_reducible assumption); (case hc => rfl); (case hg => decide +kernel); (case hj => first | decide | omega); (case h1 => rfl); (case h2 => rfl); (case h3 => rfl); (case h4 => rfl))
  | ((with_reducible refine' call0 ?h ?hc ?hj ?hg ?_); (case h => with_reducible assumption); (case hc => rfl); (case hg => decide +kernel); (case hj => first | decide | omega)))
/- one step -/
local macro_rules | `(tactic| walk_at "v") => `(tactic| first
  | with_reducible refine' asB_i ?_
  | with_reducible refine' asInt_i ?_
  | with_reducible refine' asObj_i ?_
  | with_reducible refine' if_t ?_
  | with_reducible refine' if_f ?_
  | with_reducible refine' if_nt ?_
  | with_reducible refine' if_nf ?_
  | ((with_reducible refine' if_dt ?h ?_); (case h => first | assumption | omega))
  | ((with_reducible refine' if_df ?h ?_); (case h => first | assumption | omega))
  | ((with_reducible refine' if_ndt ?h ?_); (case h => first | assumption | omega))
  | ((with_reducible refine' if_ndf ?h ?_); (case h => first | assumption | omega))
  | with_reducible refine' ve_int ?_
  | with_reducible refine' ve_str ?_
  | with_reducible refine' ve_bl ?_
  | with_reducible refine' ve_non ?_
  | walk_at "name"
  | with_reducible refine' ve_bin ?_
  | with_reducible refine' ve_cmp rfl ?_
  | with_reducible refine' vt_cmp rfl ?_
  | with_reducible refine' ve_not ?_
  | with_reducible refine' vt_not ?_
  | with_reducible refine' ve_and ?_
  | with_reducible refine' ve_or ?_
  | with_reducible refine' ve_one ?_
  | with_reducible refine' vw_and ?_
  | with_reducible refine' vw_or ?_
  | with_reducible refine' vw_and1 ?_
  | with_reducible refine' vw_or1 ?_
  | with_reducible refine' va_nil ?_
  | with_reducible refine' va_cons ?_ rfl
  | with_reducible refine' vo_add ?_
  | with_reducible refine' vo_sub ?_
  | with_reducible refine' vo_lt ?_
  | with_reducible refine' vo_le ?_
  | with_reducible refine' vo_gt ?_
  | with_reducible refine' vo_ge ?_
  | with_reducible refine' vo_eq ?_
  | with_reducible refine' vo_ne ?_
  | with_reducible refine' vo_eqS ?_
  | with_reducible refine' vo_neS ?_
  | with_reducible refine' vo_eqB ?_
  | with_reducible refine' vo_is ?_
  | with_reducible refine' vo_isnot ?_
  | with_reducible refine' vu_neg ?_
  | ((with_reducible refine' vo_mod ?h ?_); (case h => walk_at "num"))
  | ((with_reducible refine' vo_fdiv ?h ?_); (case h => walk_at "num"))
  | ((with_reducible refine' vo_mul ?h ?_); (case h => walk_at "num"))
  | ((with_reducible refine' vo_pow ?h ?_); (case h => walk_at "num"))
  | ((with_reducible refine' vo_shl ?h ?_); (case h => walk_at "num"))
  | ((with_reducible refine' ve_chain ?_ ?h); (case h => rfl))
  | ((with_reducible refine' vt_chain ?_ ?h); (case h => rfl))
  | with_reducible refine' ve_un ?_
  | with_reducible refine' ve_if ?_
  | with_reducible refine' vt_w (vw_and ?_)
  | with_reducible refine' vt_w (vw_or ?_)
  | ((with_reducible refine' and_len ?h ?_); (case h => exact len_small rfl))
  | walk_at "spec"
  | walk_at "call"
  | walk_at "blt"
  | ((with_reducible refine' ve_ix ?_ ?h); (case h => exact fun _ _ => rfl))
  | ((with_reducible refine' ve_tup ?_ ?h); (case h => exact pe_tup pa_w))
  | with_reducible refine' ve_lst ?_
  | walk_at "glob"
  | ((with_reducible refine' vt_tr ?_ ?he); (case he => intro _; rfl))
  | with_reducible refine' tr_bl ?_
  | with_reducible refine' tr_int ?_
  | with_reducible refine' tr_non ?_
  | with_reducible refine' tr_tup ?_
  | with_reducible refine' tr_lst ?_
  | walk_at "tyname"
  | ((with_reducible refine' vx_tup ?h ?_); (case h => rfl))
  | with_reducible refine' vcl_int ?_)
local macro_rules | `(tactic| walk_at "go") => `(tactic| repeat walk_at "v")
/- one statement: a name stored -/
local macro_rules | `(tactic| walk_at "let") => `(tactic| (refine' vss_cons (vs_lt ?hi ?hx ?_ ?hs); (case hi => walk_at "ix"); (case hx => decide +kernel); (case hs => rfl)))
local macro_rules | `(tactic| walk_at "ret") => `(tactic| refine' vss_cons (vs_ret ?_))
local macro_rules | `(tactic| walk_at "fld") => `(tactic| (refine' vss_cons (vs_fld ?_ ?hs); (case hs => rfl)))
local macro_rules | `(tactic| walk_at "if") => `(tactic| refine' vss_cons (vs_if ?_))
local macro_rules | `(tactic| walk_at "expr") => `(tactic| (refine' vss_cons (vs_expr ?_ ?hs); (case hs => rfl)))
local macro_rules | `(tactic| walk_at "nil") => `(tactic| refine' vss_nil ?_)
namespace Wl
open Wm
local macro_rules | `(tactic| walk_at "okn") => `(tactic| first | assumption | (refine' okn_R ?_ ?_ ?_ <;> omega) | (refine' okn_R21 ?_ ?_ ?_ <;> omega))
local macro_rules | `(tactic| walk_at "two") => `(tactic| (refine vg_two rfl (by walk_at "ix") (by decide +kernel) (by walk_at "ix") (by decide +kernel) ?_ rfl rfl rfl rfl))
local macro_rules | `(tactic| walk_at "blk") => `(tactic| exact ⟨rfl, by decide +kernel, by decide +kernel, by decide +kernel, by decide +kernel⟩)
local macro_rules | `(tactic| walk_at "spec") => `(tactic| first
  | with_reducible refine' asDy_i ?_
  | with_reducible refine' asW_i ?_
  | ((with_reducible refine' S_scaled_i ?ho ?_); (case ho => walk_at "okn"))
  | ((with_reducible refine' ve_dyT ?hT ?hc ?hj ?_ ?h1); (case hT => exact (‹Dy3 _ _›).d2.d1); (case hc => rfl); (case hj => decide); (case h1 => rfl))
  | ((with_reducible refine' ve_dyP ?hT ?hc ?hj ?_ ?h1); (case hT => exact (‹Dy3 _ _›).d2.d1); (case hc => rfl); (case hj => decide); (case h1 => rfl))
  | ((with_reducible refine' vo_dyadd ?hT ?hc ?hj ?hx ?hy ?hz ?_); (case hT => exact (‹Dy3 _ _›).d2); (case hc => rfl); (case hj => decide); (case hx => walk_at "okn"); (case hy => walk_at "okn"); (case hz => walk_at "okn"))
  | ((with_reducible refine' vu_dyneg ?hT ?hc ?hj ?hx ?_); (case hT => exact (‹Dy3 _ _›).d2); (case hc => rfl); (case hj => decide); (case hx => walk_at "okn"))
  | ((with_reducible refine' vo_dysub ?hT ?hc ?hj ?hx ?hy ?hz ?_); (case hT => assumption); (case hc => rfl); (case hj => decide); (case hx => walk_at "okn"); (case hy => walk_at "okn"); (case hz => walk_at "okn"))
  | ((with_reducible refine' ve_dyless _ ?hT ?hc ?hj ?_ ?h1 ?h2); (case hT => assumption); (case hc => rfl); (case hj => decide); (case h1 => rfl); (case h2 => rfl))
  | ((with_reducible refine' ve_dysame _ ?hT ?hc ?hj ?_ ?h1 ?h2); (case hT => assumption); (case hc => rfl); (case hj => decide); (case h1 => rfl); (case h2 => rfl))
  | ((with_reducible refine' ve_wat _ ?hT ?hc ?hj ?_ ?h1 ?h2); (case hT => assumption); (case hc => rfl); (case hj => decide); (case h1 => rfl); (case h2 => rfl))
  | ((with_reducible refine' ve_wsa _ ?hT ?hc ?hj ?_ ?h1 ?h2); (case hT => assumption); (case hc => rfl); (case hj => decide); (case h1 => rfl); (case h2 => rfl))
  | ((with_reducible refine' ve_wtu _ ?hT ?hc ?hj ?_ ?h1); (case hT => assumption); (case hc => rfl); (case hj => decide); (case h1 => rfl))
  | ((with_reducible refine' ve_wsl ?hT ?hc ?hj ?_ ?h1); (case hT => assumption); (case hc => rfl); (case hj => decide); (case h1 => rfl))
  | ((with_reducible refine' ve_dyhf _ ?hT ?hc ?hj ?_ ?h1); (case hT => assumption); (case hc => rfl); (case hj => decide); (case h1 => rfl))
  | ((with_reducible refine' ve_wpoF _ ?hT ?hc ?hj ?_ ?h1); (case hT => assumption); (case hc => rfl); (case hj => decide); (case h1 => rfl))
  | ((with_reducible refine' ve_wall ?hT ?hc ?hj ?hg ?_ ?h1 ?h2); (case hT => assumption); (case hc => rfl); (case hj => decide); (case hg => decide +kernel); (case h1 => rfl); (case h2 => rfl))
  | ((with_reducible refine' ok2_i ?hx ?hy ?_); (case hx => walk_at "okn"); (case hy => walk_at "okn")))
variable {E : EnvR}
local macro_rules | `(tactic| walk_at "spec") => `(tactic| first
  | with_reducible refine' asDy_i ?_
  | with_reducible refine' asW_i ?_
  | with_reducible refine' S_is_integer_i ?_
  | ((with_reducible refine' ve_wsl ?hT ?hc ?hj ?_ ?h1); (case hT => assumption); (case hc => rfl); (case hj => decide); (case h1 => rfl))
  | ((with_reducible refine' ve_dyT ?hT ?hc ?hj ?_ ?h1); (case hT => exact (‹Dy3 _ _›).d2.d1); (case hc => rfl); (case hj => decide); (case h1 => rfl))
  | ((with_reducible refine' ve_dyP ?hT ?hc ?hj ?_ ?h1); (case hT => exact (‹Dy3 _ _›).d2.d1); (case hc => rfl); (case hj => decide); (case h1 => rfl)))
def S_drawn : SpV := fun ds w P _ => ∃ (c b : Int) (n : Nat), ds = [.int c, .int b, .int (n : Int)] ∧ 1 ≤ n ∧ n ≤ 6 ∧ ∀ A : Wal, Dr A → A.2.length < n → P (lineD A) w
theorem dig_at {xs : List Int} {n : Nat} (hl : xs.length = n) (hx : ∀ x ∈ xs, 0 ≤ x ∧ x < 60) (k : Nat) (hk : k < n) : ∃ v, xs[k]? = some v ∧ 0 ≤ v ∧ v < 60 := by
  have h : k < xs.length := by omega
  exact ⟨xs[k], List.getElem?_eq_getElem h, hx _ (List.getElem_mem h)⟩
theorem shl4 {v : Int} (h0 : 0 ≤ v) (h1 : v < 4) : (2 : Int) ^ v.toNat = 1 ∨ (2 : Int) ^ v.toNat = 2 ∨ (2 : Int) ^ v.toNat = 4 ∨ (2 : Int) ^ v.toNat = 8 := by
  have : v = 0 ∨ v = 1 ∨ v = 2 ∨ v = 3 := by omega
  rcases this with e | e | e | e <;> subst e <;> decide
def ptI (a : Int × Int) : D := .tup [.int a.1, .int a.2]
theorem last_snoc {α : Type} (f : α → D) {xs : List α} {x : α} : atI ((xs ++ [x]).map f) (-1) = some (f x) := by
  rw [last_map f (by simp)]
  simp
theorem zip_slD : ∀ (ps : List (Int × Int)) (ss : List Int), ss.length = ps.length → (List.zipWith pc3 ps ss).map slD = ss.map D.int
  | [], [], _ => rfl
  | a :: ps, s :: ss, h => by
    rw [List.zipWith_cons_cons, List.map_cons, List.map_cons, zip_slD ps ss (by simpa using h)]; rfl
  | [], _ :: _, h => by simp at h
  | _ :: _, [], h => by simp at h
theorem ok__drawn {f : Addr} {fd : FuncData} (B : Blt E) (cd : Callable E "_law_digits" 1 2 S_digits) (F : Fun E.K "_law_drawn" "_law_drawn" s__law_drawn f fd) : FnV E 2 f fd p__law_drawn S_drawn := by
  refine fnV F sc__law_drawn (fun ds w P R h => ?_) (fun c ds w P h => ?_)
  · obtain ⟨a, _, _, rfl, _⟩ := h; rfl
  · obtain ⟨cc, bb, n, rfl, hn1, hn6, h⟩ := h
    walk_at "let"
    walk_at "go"
    refine ⟨cc, 24, rfl, by decide, fun xs hxl hxs => ?_⟩
    have dg := dig_at hxl hxs
    obtain ⟨d0, e0, a0, b0⟩ := dg 0 (by decide)
    obtain ⟨d1, e1, a1, b1⟩ := dg 1 (by decide)
    obtain ⟨d2, e2, a2, b2⟩ := dg 2 (by decide)
    walk_at "let"
    walk_at "go"
    refine vss_if (fun Γ w' => w' = w ∧ ∃ st : Int, -1024 ≤ st ∧ st ≤ 1023 ∧ Γ = [some (.int cc), some (.int bb), some (.int (n : Int)), some (.lst (xs.map D.int)), some (.int st), none, none, none, none, none]) ?_ ?_
    · walk_at "go"
      refine vx_seq rfl (atI_nat (n := 1) (map_get e1) rfl) ?_
      walk_at "go"
      refine ite_dec (fun h1 => ?_) (fun h1 => ?_)
      · walk_at "let"
        walk_at "go"
        refine vx_seq rfl (atI_nat (n := 2) (map_get e2) rfl) ?_
        walk_at "go"
        walk_at "nil"
        exact ⟨rfl, _, by omega, by omega, rfl⟩
      · walk_at "nil"
        exact ⟨rfl, _, by omega, by omega, rfl⟩
    · rintro Γ w ⟨rfl, st, s1, s2, rfl⟩
      refine vss_cons (vs_lt (by walk_at "ix") (by decide +kernel) (ve_lstM ?_) rfl)
      walk_at "go"
      intro pl hpl
      refine vss_cons (vs_lt (by walk_at "ix") (by decide +kernel) (ve_lstM (va_nil (and_len (len_small rfl) fun sl hsl => ?_))) rfl)
      have hne : sl ≠ pl := fun e => by subst e; rw [W.up_same] at hsl; cases hsl
      have hslw : w sl = none := by rw [W.up_ne hne] at hsl; exact hsl
      refine vss_cons (vs_for [7] rfl (vi_range1 (by decide +kernel) B.range ?_))
      walk_at "go"
      refine vx_seq rfl (atI_nat (n := 0) (map_get e0) rfl) ?_
      walk_at "go"
      obtain ⟨m, hm⟩ : ∃ m : Nat, d0 % (n : Int) = (m : Int) := ⟨(d0 % (n : Int)).toNat, by have := Int.emod_nonneg d0 (b := (n : Int)) (by omega); omega⟩
      have hmn : m < n := by have := Int.emod_lt_of_pos d0 (b := (n : Int)) (by omega); omega
      refine ⟨_, rfl, by omega, by omega, ?_⟩
      rw [hm, Int.toNat_natCast]
      refine ⟨fun i Γ w' => ∃ (ps0 : List (Int × Int)) (hp : Int × Int) (ss : List Int) (g1 g2 g3 : Option D), Γ = [some (.int cc), some (.int bb), some (.int (n : Int)), some (.lst (xs.map D.int)), some (.int st), some (.obj pl), some (.obj sl), g1, g2, g3] ∧
        w' = (w.up pl (.lst ((ps0 ++ [hp]).map ptI))).up sl (.lst (ss.map D.int)) ∧ ps0.length = i ∧ ss.length = i ∧ (0 ≤ hp.1 ∧ hp.1 ≤ 1920 * i ∧ -4096 - 1920 * i ≤ hp.2 ∧ hp.2 ≤ 4096 + 1920 * i) ∧
        (∃ a, (ps0 ++ [hp])[0]? = some a ∧ a.1 = 0) ∧ (∀ q ∈ ps0 ++ [hp], q.1 % 4 = 0 ∧ q.2 % 4 = 0 ∧ 0 ≤ q.1 ∧ q.1 ≤ 20000 ∧ -20000 ≤ q.2 ∧ q.2 ≤ 20000) ∧
        ∀ j x y, (ps0 ++ [hp])[j]? = some x → (ps0 ++ [hp])[j + 1]? = some y → x.1 < y.1 ∧ ∃ t, slopeB (y.1 - x.1) (y.2 - x.2) = some t ∧ ss[j]? = some t,
        ⟨[], (0, 4 * st), [], none, none, none, rfl, rfl, rfl, rfl, ⟨Int.le_refl 0, by show (0 : Int) ≤ _; omega, by show _ ≤ 4 * st; omega, by show 4 * st ≤ _; omega⟩, ⟨_, rfl, rfl⟩, fun q hq => ?_, fun j x y q1 q2 => by simp at q2⟩, fun _ _ _ _ _ => True.intro, ?_, ?_⟩
      · rw [List.mem_singleton.mp hq]
        exact ⟨rfl, by show 4 * st % 4 = 0; omega, Int.le_refl 0, by show (0 : Int) ≤ 20000; decide, by show _ ≤ 4 * st; omega, by show 4 * st ≤ _; omega⟩
      · rintro i dd Γ w' hdd ⟨ps0, hp, ss, g1, g2, g3, rfl, rfl, hl1, hl2, ⟨r1, r2, r3, r4⟩, hz, hb, hj⟩
        obtain ⟨hi, rfl⟩ := rngD_get hdd
        obtain ⟨v3, f3, p3, q3⟩ := dg (3 * i + 3) (by omega)
        obtain ⟨v4, f4, p4, q4⟩ := dg (3 * i + 4) (by omega)
        obtain ⟨v5, f5, p5, q5⟩ := dg (3 * i + 5) (by omega)
        refine vg_nm (by walk_at "ix") (by decide +kernel) ?_
        walk_at "let"
        walk_at "go"
        refine vx_seq rfl (atI_nat (n := 3 * i + 3) (map_get f3) (by omega)) ?_
        walk_at "go"
        walk_at "let"
        walk_at "go"
        refine vx_seq rfl (atI_nat (n := 3 * i + 4) (map_get f4) (by omega)) ?_
        walk_at "go"
        refine vx_seq rfl (atI_nat (n := 3 * i + 5) (map_get f5) (by omega)) ?_
        walk_at "go"
        have h4 := shl4 (v := v5 % 4) (by omega) (by omega)
        generalize hrun : 4 * (1 + v4) * 2 ^ (v5 % 4).toNat = run
        have run1 : 0 < run ∧ run ≤ 1920 ∧ run % 4 = 0 := by
          rcases h4 with e | e | e | e <;> rw [e] at hrun <;> omega
        obtain ⟨run1, run2, run3⟩ := run1
        generalize hsv : v3 % 3 - 1 = s
        have s3s : s3 s := by unfold s3; omega
        have srun : -run ≤ s * run ∧ s * run ≤ run ∧ s * run % 4 = 0 := by
          rcases s3s with e | e | e <;> rw [e] <;> omega
        obtain ⟨sr1, sr2, sr3⟩ := srun
        have allL : (ps0 ++ [hp]).length = i + 1 := by rw [List.length_append, hl1]; rfl
        have hpm := hb hp (by simp)
        walk_at "expr"
        refine ve_append ?_
        walk_at "go"
        refine ⟨⟨_, W.up_same⟩, ?_⟩
        walk_at "go"
        refine ⟨_, W.up_same, by rw [List.length_map]; show _ < 2 ^ 24; omega, ?_⟩
        walk_at "expr"
        refine ve_append ?_
        walk_at "go"
        have lkp : ∀ m, (((w.up pl (.lst ((ps0 ++ [hp]).map ptI))).up sl (.lst (ss.map D.int))).up sl m) pl = some (.lst ((ps0 ++ [hp]).map ptI)) := fun m => by
          rw [W.up_ne (Ne.symm hne), W.up_ne (Ne.symm hne), W.up_same]
        refine ⟨⟨_, lkp _⟩, ?_⟩
        walk_at "go"
        refine vx_seq (seqD_obj (lkp _)) (last_snoc ptI) ?_
        rw [show ptI hp = .tup [.int hp.1, .int hp.2] from rfl]
        walk_at "go"
        refine vx_seq (seqD_obj (lkp _)) (last_snoc ptI) ?_
        rw [show ptI hp = .tup [.int hp.1, .int hp.2] from rfl]
        walk_at "go"
        refine vo_mul (.inl (by unfold s3 at s3s; omega)) ?_
        walk_at "go"
        refine ⟨_, lkp _, by rw [List.length_map, allL]; show _ < 2 ^ 24; omega, ?_⟩
        walk_at "nil"
        refine ⟨ps0 ++ [hp], (hp.1 + run, hp.2 + s * run), ss ++ [s], _, _, _, rfl, ?_, allL, by rw [List.length_append, hl2]; rfl, ⟨?_, ?_, ?_, ?_⟩, ?_, fun q hq => ?_, fun j x y hx hy => ?_⟩
        · have eP : (ps0 ++ [hp]).map ptI ++ [D.tup [D.int (hp.1 + run), D.int (hp.2 + s * run)]] = ((ps0 ++ [hp]) ++ [(hp.1 + run, hp.2 + s * run)]).map ptI := by rw [List.map_append (l₁ := ps0 ++ [hp])]; rfl
          have eS : ss.map D.int ++ [D.int s] = (ss ++ [s]).map D.int := by rw [List.map_append]; rfl
          rw [eP, eS]
          funext z
          by_cases z1 : z = pl
          · rw [z1, W.up_same, W.up_ne (Ne.symm hne), W.up_same]
          · rw [W.up_ne z1]
            by_cases z2 : z = sl
            · rw [z2, W.up_same, W.up_same]
            · rw [W.up_ne z2, W.up_ne z2, W.up_ne z1, W.up_ne z2, W.up_ne z1]
        · show 0 ≤ hp.1 + run; omega
        · show hp.1 + run ≤ _; omega
        · show _ ≤ hp.2 + s * run; omega
        · show hp.2 + s * run ≤ _; omega
        · obtain ⟨a, ha1, ha2⟩ := hz
          exact ⟨a, by rw [List.getElem?_append_left (by omega)]; exact ha1, ha2⟩
        · rcases List.mem_append.mp hq with z | z
          · exact hb q z
          · rw [List.mem_singleton.mp z]
            refine ⟨?_, ?_, ?_, ?_, ?_, ?_⟩
            · show (hp.1 + run) % 4 = 0; omega
            · show (hp.2 + s * run) % 4 = 0; omega
            · show 0 ≤ hp.1 + run; omega
            · show hp.1 + run ≤ _; omega
            · show _ ≤ hp.2 + s * run; omega
            · show hp.2 + s * run ≤ _; omega
        · by_cases hji : j < i
          · rw [List.getElem?_append_left (by omega)] at hx hy
            obtain ⟨z1, t, z2, z3⟩ := hj j x y hx hy
            exact ⟨z1, t, z2, by rw [List.getElem?_append_left (by omega)]; exact z3⟩
          · have hjl := (List.getElem?_eq_some_iff.mp hy).1
            rw [List.length_append, allL] at hjl
            have ej : j = i := by simp at hjl; omega
            subst ej
            rw [List.getElem?_append_left (by omega), List.getElem?_append_right (by omega), hl1] at hx
            rw [List.getElem?_append_right (by omega), allL] at hy
            simp at hx hy
            subst hx hy
            refine ⟨by show hp.1 < hp.1 + run; omega, s, ?_, slopeB_get hl2⟩
            have e1 : hp.1 + run - hp.1 = run := by omega
            have e2 : hp.2 + s * run - hp.2 = s * run := by omega
            show slopeB (hp.1 + run - hp.1) (hp.2 + s * run - hp.2) = some s
            rw [e1, e2]
            exact slopeB_of s3s run1
      · rintro Γ w' ⟨ps0, hp, ss, g1, g2, g3, rfl, rfl, hl1, hl2, ⟨r1, r2, r3, r4⟩, hz, hb, hj⟩
        rw [rngD_len] at hl1 hl2
        walk_at "expr"
        refine ve_append ?_
        walk_at "go"
        refine ⟨⟨_, W.up_same⟩, ?_⟩
        walk_at "go"
        refine vx_seq rfl (atI_nat (n := 1) (map_get e1) rfl) ?_
        walk_at "go"
        generalize hsv : d1 / 2 % 3 - 1 = s
        have s3s : s3 s := by unfold s3; omega
        refine ⟨_, W.up_same, by rw [List.length_map]; show _ < 2 ^ 24; omega, ?_⟩
        rw [W.up_up]
        refine vss_frz 6 rfl W.up_same rfl ?_
        rw [W.del_up_id (by rw [W.up_ne hne]; exact hslw)]
        refine vss_frz 5 rfl W.up_same rfl ?_
        rw [W.del_up_id hpl]
        walk_at "ret"
        walk_at "go"
        obtain ⟨a, l, eal⟩ : ∃ a l, ps0 ++ [hp] = a :: l := by
          cases q : ps0 ++ [hp] with
          | nil => simp at q
          | cons a l => exact ⟨a, l, rfl⟩
        have ll : l.length = m := by
          have := congrArg List.length eal
          rw [List.length_append, hl1] at this
          simp at this; omega
        rw [eal] at hj hb hz ⊢
        obtain ⟨A, eA, eF⟩ := slps_run a l s ss (by omega) hj
        obtain ⟨k1, k2, k3⟩ := slps_full a l s A s3s eA
        have hA0 : A.1.1 = 0 := by
          obtain ⟨a', ha1, ha2⟩ := hz
          rw [k2]
          have : a = a' := by simpa using ha1
          rw [this]; exact ha2
        have len : A.2.length = m := by
          have := congrArg List.length k3
          rw [List.length_map, List.length_cons, List.length_cons] at this
          omega
        have q1 : (a :: l).map ptI = (A.1 :: A.2).map lq := by rw [← k3, List.map_map]; rfl
        have q2 : ss.map D.int ++ [D.int s] = (A.1 :: A.2).map slD := by
          rw [eF, show ss.map D.int ++ [D.int s] = (ss ++ [s]).map D.int by rw [List.map_append]; rfl]
          exact (zip_slD (a :: l) (ss ++ [s]) (by simp [hl2, ll])).symm
        have hfin := h A ⟨⟨hA0, k1⟩, fun q hq => by
          have hm' : (q.1, q.2.1) ∈ a :: l := by rw [← k3]; exact List.mem_map.mpr ⟨q, hq, rfl⟩
          exact hb _ hm'⟩ (by omega)
        unfold lineD at hfin
        rw [← q1, ← q2] at hfin
        exact hfin
end Wl

end

section
set_option maxRecDepth 100000
set_option maxHeartbeats 4000000
open PySem PySem.Spec PyProof.Rows L2 VL
local macro_rules | `(tactic| walk_at "ix") => `(tactic| first | with_reducible exact ix0 | with_reducible exact ix1 | with_reducible exact ix2 | with_reducible exact ix3 | with_reducible exact ix4 | with_reducible exact ix5 | with_reducible exact ix6 | with_reducible exact ix7 | with_reducible exact ix8 | with_reducible exact ix9 | with_reducible exact ix10 | with_reducible exact ix11 | with_reducible exact ix12 | with_reducible exact ix13 | with_reducible exact ix14 | with_reducible exact ix15 | with_reducible exact ix16)
local macro_rules | `(tactic| walk_at "num") => `(tactic| first | assumption | decide | omega | exact ⟨by decide, by decide⟩ | exact .inr ⟨by decide, by decide⟩ | exact .inl ⟨by decide, by decide⟩ | exact ⟨by omega, by omega, by omega⟩)
/- a name -/
local macro_rules | `(tactic| walk_at "name") => `(tactic| ((with_reducible refine' ve_nm ?hN ?hv ?hG ?_); (case hN => walk_at "ix"); (case hv => decide +kernel); (case hG => rfl)))
local macro_rules | `(tactic| walk_at "glob") => `(tactic| first
  | ((with_reducible refine' ve_gO ?hg ?hm ?_); (case hm => with_reducible assumption); (case hg => decide +kernel))
  | ((with_reducible refine' ve_gI ?hg ?hm ?_); (case hm => with_reducible assumption); (case hg => decide +kernel)))
local macro_rules | `(tactic| walk_at "tyname") => `(tactic| first
  | ((with_reducible refine' ve_ty "int" ?hg ?hm ?hv ?_); (case hg => decide +kernel); (case hm => exact (‹Blt _›).int); (case hv => exact bt_int))
  | ((with_reducible refine' ve_ty "bool" ?hg ?hm ?hv ?_); (case hg => decide +kernel); (case hm => exact (‹Blt _›).bool); (case hv => exact bt_bool))
  | ((with_reducible refine' ve_ty "str" ?hg ?hm ?hv ?_); (case hg => decide +kernel); (case hm => exact (‹Blt _›).str); (case hv => exact bt_str))
  | ((with_reducible refine' ve_ty "list" ?hg ?hm ?hv ?_); (case hg => decide +kernel); (case hm => exact (‹Blt _›).list); (case hv => exact bt_list))
  | ((with_reducible refine' ve_ty "tuple" ?hg ?hm ?hv ?_); (case hg => decide +kernel); (case hm => exact (‹Blt _›).tuple); (case hv => exact bt_tuple)))
local macro_rules | `(tactic| walk_at "blt") => `(tactic| first
  | ((with_reducible refine' blt1 "len" ?hg ?hm ?hv ?_ ?he); (case hg => decide +kernel); (case hm => exact (‹Blt _›).len); (case hv => exact bt_len); (case he => rfl))
  | ((with_reducible refine' blt1 "sum" ?hg ?hm ?hv ?_ ?he); (case hg => decide +kernel); (case hm => exact (‹Blt _›).sum); (case hv => exact bt_sum); (case he => rfl))
  | ((with_reducible refine' blt1 "abs" ?hg ?hm ?hv ?_ ?he); (case hg => decide +kernel); (case hm => exact (‹Blt _›).abs); (case hv => exact bt_abs); (case he => rfl))
  | ((with_reducible refine' blt1 "sorted" ?hg ?hm ?hv ?_ ?he); (case hg => decide +kernel); (case hm => exact (‹Blt _›).sorted); (case hv => exact bt_sorted); (case he => rfl))
  | ((with_reducible refine' blt1 "all" ?hg ?hm ?hv ?_ ?he); (case hg => decide +kernel); (case hm => exact (‹Blt _›).all); (case hv => exact bt_all); (case he => rfl))
  | ((with_reducible refine' blt1 "any" ?hg ?hm ?hv ?_ ?he); (case hg => decide +kernel); (case hm => exact (‹Blt _›).any); (case hv => exact bt_any); (case he => rfl))
  | ((with_reducible refine' blt1 "max" ?hg ?hm ?hv ?_ ?he); (case hg => decide +kernel); (case hm => exact (‹Blt _›).max); (case hv => exact bt_max); (case he => rfl))
  | ((with_reducible refine' blt1 "min" ?hg ?hm ?hv ?_ ?he); (case hg => decide +kernel); (case hm => exact (‹Blt _›).min); (case hv => exact bt_min); (case he => rfl))
  | ((with_reducible refine' blt2 "isinstance" ?hg ?hm ?hv ?_ ?he ?hf); (case hg => decide +kernel); (case hm => exact (‹Blt _›).isi); (case hv => exact bt_isi); (case he => rfl); (case hf => rfl))
  | ((with_reducible refine' blt2 "max" ?hg ?hm ?hv ?_ ?he ?hf); (case hg => decide +kernel); (case hm => exact (‹Blt _›).max); (case hv => exact bt_max); (case he => rfl); (case hf => rfl))
  | ((with_reducible refine' blt2 "min" ?hg ?hm ?hv ?_ ?he ?hf); (case hg => decide +kernel); (case hm => exact (‹Blt _›).min); (case hv => exact bt_min); (case he => rfl); (case hf => rfl))
  | ((with_reducible refine' bty1 "int" ?hg ?hm ?hv ?_ ?he); (case hg => decide +kernel); (case hm => exact (‹Blt _›).int); (case hv => exact bt_int); (case he => rfl))
  | ((with_reducible refine' bty1 "list" ?hg ?hm ?hv ?_ ?he); (case hg => decide +kernel); (case hm => exact (‹Blt _›).list); (case hv => exact bt_list); (case he => rfl))
  | ((with_reducible refine' bty1 "tuple" ?hg ?hm ?hv ?_ ?he); (case hg => decide +kernel); (case hm => exact (‹Blt _›).tuple); (case hv => exact bt_tuple); (case he => rfl))
  | ((with_reducible refine' bty1 "str" ?hg ?hm ?hv ?_ ?he); (case hg => decide +kernel); (case hm => exact (‹Blt _›).str); (case hv => exact bt_str); (case he => rfl)))
/- a call of a def of the text, its Callable in the context -/
local macro_rules | `(tactic| walk_at "call") => `(tactic| first
  | ((with_reducible refine' call1 ?h ?hc ?hj ?hg ?_ ?h1); (case h => with_reducible assumption); (case hc => rfl); (case hg => decide +kernel); (case hj => first | decide | omega); (case h1 => rfl))
  | ((with_reducible refine' call2 ?h ?hc ?hj ?hg ?_ ?h1 ?h2); (case h => with_reducible assumption); (case hc => rfl); (case hg => decide +kernel); (case hj => first | decide | omega); (case h1 => rfl); (case h2 => rfl))
  | ((with_reducible refine' call3 ?h ?hc ?hj ?hg ?_ ?h1 ?h2 ?h3); (case h => with_reducible assumption); (case hc => rfl); (case hg => decide +kernel); (case hj => first | decide | omega); (case h1 => rfl); (case h2 => rfl); (case h3 => rfl))
  | ((with_reducible refine' call4 ?h ?hc ?hj ?hg ?_ ?h1 ?h2 ?h3 ?h4); (case h => with_reducible assumption); (case hc => rfl); (case hg => decide +kernel); (case hj => first | decide | omega); (case h1 => rfl); (case h2 => rfl); (case h3 => rfl); (case h4 => rfl))
  | ((with_reducible refine' call0 ?h ?hc ?hj ?hg ?_); (case h => with_reducible assumption); (case hc => rfl); (case hg => decide +kernel); (case hj => first | decide | omega)))
/- one step -/
local macro_rules | `(tactic| walk_at "v") => `(tactic| first
  | with_reducible refine' asB_i ?_
  | with_reducible refine' asInt_i ?_
  | with_reducible refine' asObj_i ?_
  | with_reducible refine' if_t ?_
  | with_reducible refine' if_f ?_
  | with_reducible refine' if_nt ?_
  | with_reducible refine' if_nf ?_
  | ((with_reducible refine' if_dt ?h ?_); (case h => first | assumption | omega))
  | ((with_reducible refine' if_df ?h ?_); (case h => first | assumption | omega))
  | ((with_reducible refine' if_ndt ?h ?_); (case h => first | assumption | omega))
  | ((with_reducible refine' if_ndf ?h ?_); (case h => first | assumption | omega))
  | with_reducible refine' ve_int ?_
  | with_reducible refine' ve_str ?_
  | with_reducible refine' ve_bl ?_
  | with_reducible refine' ve_non ?_
  | walk_at "name"
  | with_reducible refine' ve_bin ?_
  | with_reducible refine' ve_cmp rfl ?_
  | with_reducible refine' vt_cmp rfl ?_
  | with_reducible refine' ve_not ?_
  | with_reducible refine' vt_not ?_
  | with_reducible refine' ve_and ?_
  | with_reducible refine' ve_or ?_
  | with_reducible refine' ve_one ?_
  | with_reducible refine' vw_and ?_
  | with_reducible refine' vw_or ?_
  | with_reducible refine' vw_and1 ?_
  | with_reducible refine' vw_or1 ?_
  | with_reducible refine' va_nil ?_
  | with_reducible refine' va_cons ?_ rfl
  | with_reducible refine' vo_add ?_
  | with_reducible refine' vo_sub ?_
  | with_reducible refine' vo_lt ?_
  | with_reducible refine' vo_le ?_
  | with_reducible refine' vo_gt ?_
  | with_reducible refine' vo_ge ?_
  | with_reducible refine' vo_eq ?_
  | with_reducible refine' vo_ne ?_
  | with_reducible refine' vo_eqS ?_
  | with_reducible refine' vo_neS ?_
  | with_reducible refine' vo_eqB ?_
  | with_reducible refine' vo_is ?_
  | with_reducible refine' vo_isnot ?_
  | with_reducible refine' vu_neg ?_
  | ((with_reducible refine' vo_mod ?h ?_); (case h => walk_at "num"))
  | ((with_reducible refine' vo_fdiv ?h ?_); (case h => walk_at "num"))
  | ((with_reducible refine' vo_mul ?h ?_); (case h => walk_at "num"))
  | ((with_reducible refine' vo_pow ?h ?_); (case h => walk_at "num"))
  | ((with_reducible refine' vo_shl ?h ?_); (case h => walk_at "num"))
  | ((with_reducible refine' ve_chain ?_ ?h); (case h => rfl))
  | ((with_reducible refine' vt_chain ?_ ?h); (case h => rfl))
  | with_reducible refine' ve_un ?_
  | with_reducible refine' ve_if ?_
  | with_reducible refine' vt_w (vw_and ?_)
  | with_reducible refine' vt_w (vw_or ?_)
  | ((with_reducible refine' and_len ?h ?_); (case h => exact len_small rfl))
  | walk_at "spec"
  | walk_at "call"
  | walk_at "blt"
  | ((with_reducible refine' ve_ix ?_ ?h); (case h => exact fun _ _ => rfl))
  | ((with_reducible refine' ve_tup ?_ ?h); (case h => exact pe_tup pa_w))
  | with_reducible refine' ve_lst ?_
  | walk_at "glob"
  | ((with_reducible refine' vt_tr ?_ ?he); (case he => intro _; rfl))
  | with_reducible refine' tr_bl ?_
  | with_reducible refine' tr_int ?_
  | with_reducible refine' tr_non ?_
  | with_reducible refine' tr_tup ?_
  | with_reducible refine' tr_lst ?_
  | walk_at "tyname"
  | ((with_reducible refine' vx_tup ?h ?_); (case h => rfl))
  | with_reducible refine' vcl_int ?_)
local macro_rules | `(tactic| walk_at "go") => `(tactic| repeat walk_at "v")
/- one statement: a name stored -/
local macro_rules | `(tactic| walk_at "let") => `(tactic| (refine' vss_cons (vs_lt ?hi ?hx ?_ ?hs); (case hi => walk_at "ix"); (case hx => decide +kernel); (case hs => rfl)))
local macro_rules | `(tactic| walk_at "ret") => `(tactic| refine' vss_cons (vs_ret ?_))
local macro_rules | `(tactic| walk_at "fld") => `(tactic| (refine' vss_cons (vs_fld ?_ ?hs); (case hs => rfl)))
local macro_rules | `(tactic| walk_at "if") => `(tactic| refine' vss_cons (vs_if ?_))
local macro_rules | `(tactic| walk_at "expr") => `(tactic| (refine' vss_cons (vs_expr ?_ ?hs); (case hs => rfl)))
local macro_rules | `(tactic| walk_at "nil") => `(tactic| refine' vss_nil ?_)
namespace Wl
open Wm
local macro_rules | `(tactic| walk_at "okn") => `(tactic| first | assumption | (refine' okn_R ?_ ?_ ?_ <;> omega) | (refine' okn_R21 ?_ ?_ ?_ <;> omega))
local macro_rules | `(tactic| walk_at "two") => `(tactic| (refine vg_two rfl (by walk_at "ix") (by decide +kernel) (by walk_at "ix") (by decide +kernel) ?_ rfl rfl rfl rfl))
local macro_rules | `(tactic| walk_at "blk") => `(tactic| exact ⟨rfl, by decide +kernel, by decide +kernel, by decide +kernel, by decide +kernel⟩)
local macro_rules | `(tactic| walk_at "spec") => `(tactic| first
  | with_reducible refine' asDy_i ?_
  | with_reducible refine' asW_i ?_
  | ((with_reducible refine' S_scaled_i ?ho ?_); (case ho => walk_at "okn"))
  | ((with_reducible refine' ve_dyT ?hT ?hc ?hj ?_ ?h1); (case hT => exact (‹Dy3 _ _›).d2.d1); (case hc => rfl); (case hj => decide); (case h1 => rfl))
  | ((with_reducible refine' ve_dyP ?hT ?hc ?hj ?_ ?h1); (case hT => exact (‹Dy3 _ _›).d2.d1); (case hc => rfl); (case hj => decide); (case h1 => rfl))
  | ((with_reducible refine' vo_dyadd ?hT ?hc ?hj ?hx ?hy ?hz ?_); (case hT => exact (‹Dy3 _ _›).d2); (case hc => rfl); (case hj => decide); (case hx => walk_at "okn"); (case hy => walk_at "okn"); (case hz => walk_at "okn"))
  | ((with_reducible refine' vu_dyneg ?hT ?hc ?hj ?hx ?_); (case hT => exact (‹Dy3 _ _›).d2); (case hc => rfl); (case hj => decide); (case hx => walk_at "okn"))
  | ((with_reducible refine' vo_dysub ?hT ?hc ?hj ?hx ?hy ?hz ?_); (case hT => assumption); (case hc => rfl); (case hj => decide); (case hx => walk_at "okn"); (case hy => walk_at "okn"); (case hz => walk_at "okn"))
  | ((with_reducible refine' ve_dyless _ ?hT ?hc ?hj ?_ ?h1 ?h2); (case hT => assumption); (case hc => rfl); (case hj => decide); (case h1 => rfl); (case h2 => rfl))
  | ((with_reducible refine' ve_dysame _ ?hT ?hc ?hj ?_ ?h1 ?h2); (case hT => assumption); (case hc => rfl); (case hj => decide); (case h1 => rfl); (case h2 => rfl))
  | ((with_reducible refine' ve_wat _ ?hT ?hc ?hj ?_ ?h1 ?h2); (case hT => assumption); (case hc => rfl); (case hj => decide); (case h1 => rfl); (case h2 => rfl))
  | ((with_reducible refine' ve_wsa _ ?hT ?hc ?hj ?_ ?h1 ?h2); (case hT => assumption); (case hc => rfl); (case hj => decide); (case h1 => rfl); (case h2 => rfl))
  | ((with_reducible refine' ve_wtu _ ?hT ?hc ?hj ?_ ?h1); (case hT => assumption); (case hc => rfl); (case hj => decide); (case h1 => rfl))
  | ((with_reducible refine' ve_wsl ?hT ?hc ?hj ?_ ?h1); (case hT => assumption); (case hc => rfl); (case hj => decide); (case h1 => rfl))
  | ((with_reducible refine' ve_dyhf _ ?hT ?hc ?hj ?_ ?h1); (case hT => assumption); (case hc => rfl); (case hj => decide); (case h1 => rfl))
  | ((with_reducible refine' ve_wpoF _ ?hT ?hc ?hj ?_ ?h1); (case hT => assumption); (case hc => rfl); (case hj => decide); (case h1 => rfl))
  | ((with_reducible refine' ve_wall ?hT ?hc ?hj ?hg ?_ ?h1 ?h2); (case hT => assumption); (case hc => rfl); (case hj => decide); (case hg => decide +kernel); (case h1 => rfl); (case h2 => rfl))
  | ((with_reducible refine' ok2_i ?hx ?hy ?_); (case hx => walk_at "okn"); (case hy => walk_at "okn")))
variable {E : EnvR}
local macro_rules | `(tactic| walk_at "spec") => `(tactic| first
  | with_reducible refine' asDy_i ?_
  | with_reducible refine' asW_i ?_
  | with_reducible refine' S_is_integer_i ?_
  | ((with_reducible refine' ve_wsl ?hT ?hc ?hj ?_ ?h1); (case hT => assumption); (case hc => rfl); (case hj => decide); (case h1 => rfl))
  | ((with_reducible refine' ve_dyT ?hT ?hc ?hj ?_ ?h1); (case hT => exact (‹Dy3 _ _›).d2.d1); (case hc => rfl); (case hj => decide); (case h1 => rfl))
  | ((with_reducible refine' ve_dyP ?hT ?hc ?hj ?_ ?h1); (case hT => exact (‹Dy3 _ _›).d2.d1); (case hc => rfl); (case hj => decide); (case h1 => rfl)))
/-! ### told -/
def S_told (C CW : Addr) : SpV := fun ds w P _ => ∃ A : Wal, ds = [wallD C CW (mrgW (scW A)), lineD A] ∧ LinW A ∧ A.2.length < 100000 ∧ P (.bl true) w
/-- the pieces that are kept, of the first i -/
def KP (A : Wal) (i : Nat) : List Pc := if i = 0 then [] else A.1 :: mrg A.1 (A.2.take (i - 1))
theorem KP_step {A : Wal} {i : Nat} {q : Pc} (hq : (A.1 :: A.2)[i]? = some q) : (i = 0 → KP A (i + 1) = [q]) ∧ ∀ u, 0 < i → (A.1 :: A.2)[i - 1]? = some u → KP A (i + 1) = KP A i ++ (if q.2.2 ≠ u.2.2 then [q] else []) := by
  constructor
  · intro h; subst h
    have : A.1 = q := by simpa using hq
    rw [← this]; rfl
  · intro u h0 hu
    obtain ⟨j, rfl⟩ : ∃ j, i = j + 1 := ⟨i - 1, by omega⟩
    have := mrg_step A.1 A.2 j q u (by simpa using hq) (by simpa using hu)
    show A.1 :: mrg A.1 (A.2.take (j + 1)) = A.1 :: mrg A.1 (A.2.take j) ++ _
    rw [this]; rfl
theorem KP_end (A : Wal) : KP A (A.2.length + 1) = A.1 :: mrg A.1 A.2 := by
  unfold KP
  rw [if_neg (by omega), Nat.add_sub_cancel, List.take_length]
theorem KP_sc (A : Wal) : (mrgW (scW A)).1 :: (mrgW (scW A)).2 = (A.1 :: mrg A.1 A.2).map scP := by
  show scP A.1 :: mrg (scP A.1) (A.2.map scP) = _
  rw [sc_mrg]; rfl
theorem told_last (A : Wal) : lastS (mrgW (scW A)) = lastS A := by
  show lastS ((scW A).1, mrg (scW A).1 (scW A).2) = _
  rw [(mrg_last _ _).1]
  exact sc_last A
theorem ok__told {f C CW CB : Addr} {fd : FuncData} (T : Li E C CW CB) (cp : Callable E "_law_is" 4 2 (S_is C)) (F : Fun E.K "_law_told" "_law_told" s__law_told f fd) : FnV E 5 f fd p__law_told (S_told C CW) := by
  have T0 := T.c
  have T1 := T.c.a
  have B := T1.B
  have D3 := T1.dy
  have gW := T.gW
  have ii := T.ii
  refine fnV F sc__law_told (fun ds w P R h => ?_) (fun c ds w P h => ?_)
  · obtain ⟨a, rfl, _⟩ := h; rfl
  · obtain ⟨A, rfl, hA, hl, h⟩ := h
    have hlD : lineD A = .tup [.lst ((A.1 :: A.2).map lq), .lst ((A.1 :: A.2).map slD)] := rfl
    rw [hlD]
    refine vss_cons (vs_setLcW 2 [("_law_k", 7)] rfl rfl (by walk_at "blk") rfl (by decide +kernel) (by decide +kernel) (by decide +kernel) (vi_range1 (by decide +kernel) B.range ?_))
    walk_at "go"
    refine vcl_len rfl ?_
    rw [List.length_map]
    walk_at "go"
    refine ⟨_, rfl, by rw [List.length_cons]; omega, by rw [List.length_cons]; omega, ?_⟩
    rw [Int.toNat_natCast]
    refine ⟨fun _ _ _ => True.intro, True.intro, fun i acc => ∃ ks : List Nat, acc = ks.map (fun k : Nat => D.int (k : Int)) ∧ ks.length ≤ i ∧ ks.map (fun k => (A.1 :: A.2)[k]?) = (KP A i).map some, ⟨[], rfl, Nat.le_refl _, rfl⟩, ?_, ?_⟩
    · rintro i dd acc D0 hdd hD0 ⟨ks, rfl, hkl, hk⟩
      obtain ⟨hi, rfl⟩ := rngD_get hdd
      obtain ⟨q, hq⟩ : ∃ q, (A.1 :: A.2)[i]? = some q := ⟨_, List.getElem?_eq_getElem hi⟩
      rw [List.length_cons] at hi
      obtain ⟨st0, st1⟩ := KP_step hq
      have yes : KP A (i + 1) = KP A i ++ [q] → ∃ ks' : List Nat, ks.map (fun k : Nat => D.int (k : Int)) ++ [D.int (0 + (i : Int))] = ks'.map (fun k : Nat => D.int (k : Int)) ∧ ks'.length ≤ i + 1 ∧ ks'.map (fun k => (A.1 :: A.2)[k]?) = (KP A (i + 1)).map some := fun e =>
        ⟨ks ++ [i], by rw [List.map_append, show ((0 : Int) + (i : Int)) = (i : Int) by omega]; rfl, by rw [List.length_append]; show _ + 1 ≤ _; omega, by rw [List.map_append, hk, e, List.map_append, List.map_cons, hq]; rfl⟩
      refine lct1 fun c1 => ?_
      refine vg_nm (by walk_at "ix") (by decide +kernel) ?_
      intro c2
      walk_at "go"
      refine ite_dec (fun h1 => ?_) (fun h1 => ?_)
      · have i0 : i = 0 := by omega
        walk_at "go"
        intro c3
        walk_at "go"
        refine ⟨by rw [List.length_map]; show _ < 2 ^ 24; omega, W.up_same, W.del_up_id hD0, yes ?_⟩
        rw [st0 i0, i0]; rfl
      · obtain ⟨u, hu⟩ : ∃ u, (A.1 :: A.2)[i - 1]? = some u := ⟨_, List.getElem?_eq_getElem (by rw [List.length_cons]; omega)⟩
        have st2 := st1 u (by omega) hu
        walk_at "go"
        refine vx_seq rfl (atI_nat (n := i) (map_get hq) (by omega)) ?_
        unfold slD
        walk_at "go"
        refine vx_seq rfl (atI_nat (n := i - 1) (map_get hu) (by omega)) ?_
        walk_at "go"
        refine ite_ndec (fun h3 => ?_) (fun h3 => ?_)
        · rw [if_pos h3] at st2
          intro c3
          walk_at "go"
          exact ⟨by rw [List.length_map]; show _ < 2 ^ 24; omega, W.up_same, W.del_up_id hD0, yes st2⟩
        · rw [if_neg (fun z => z h3), List.append_nil] at st2
          exact ⟨W.up_same, W.del_up_id hD0, ks, rfl, by omega, by rw [hk, st2]⟩
    · rintro acc ⟨ks, rfl, hkl, hk⟩
      rw [rngD_len, List.length_cons] at hkl
      rw [rngD_len, List.length_cons, KP_end] at hk
      have klen : ks.length = (mrg A.1 A.2).length + 1 := by
        have := congrArg List.length hk
        rw [List.length_map, List.length_map, List.length_cons] at this
        exact this
      have mlen := mrg_len A.1 A.2
      have xlen : (mrgW (scW A)).2.length = (mrg A.1 A.2).length := by
        have := congrArg List.length (KP_sc A)
        rw [List.length_cons, List.length_map, List.length_cons] at this
        omega
      walk_at "if"
      walk_at "go"
      refine vcl_isi B.clsG (tyd_ins T.ciW) rfl T.kW ?_
      walk_at "go"
      refine vx_seq rfl (last_map slD (List.cons_ne_nil _ _)) ?_
      rw [show slD ((A.1 :: A.2).getLast (List.cons_ne_nil _ _)) = .int (lastS A) from rfl]
      walk_at "go"
      refine ite_ndec (fun z => absurd (told_last A) z) (fun _ => ?_)
      walk_at "nil"
      refine vss_cons (vs_lt (by walk_at "ix") (by decide +kernel) (ve_wpo _ T0 rfl (by decide) ?_ rfl) rfl)
      walk_at "go"
      intro a ha
      walk_at "if"
      walk_at "go"
      refine isi_ty B.clsG (tyd_oL W.up_same) (by decide +kernel : kitB "list" "list" = some true) ?_
      walk_at "go"
      refine vcl_len (itemsD_of (seqD_obj W.up_same)) ?_
      walk_at "go"
      refine vcl_len rfl ?_
      rw [List.length_map, List.length_map, List.length_cons]
      walk_at "go"
      walk_at "nil"
      refine vss_cons (vs_for [4] rfl (vi_range1 (by decide +kernel) B.range ?_))
      walk_at "go"
      refine vcl_len rfl ?_
      rw [List.length_map]
      walk_at "go"
      refine ⟨_, rfl, by omega, by omega, ?_⟩
      rw [Int.toNat_natCast]
      refine ⟨fun i Γ w' => w' = w.up a (.lst (((mrgW (scW A)).1 :: (mrgW (scW A)).2).map (pcD C))) ∧ ∃ (g4 g5 g6 : Option D), Γ = [some (wallD C CW (mrgW (scW A))), some (.tup [.lst ((A.1 :: A.2).map lq), .lst ((A.1 :: A.2).map slD)]), some (.lst (ks.map fun k : Nat => D.int (k : Int))), some (.obj a), g4, g5, g6, none],
        ⟨rfl, none, none, none, rfl⟩, fun _ _ _ _ _ => True.intro, ?_, ?_⟩
      · rintro i dd Γ w' hdd ⟨rfl, g4, g5, g6, rfl⟩
        obtain ⟨hi, rfl⟩ := rngD_get hdd
        obtain ⟨kk, hkk⟩ : ∃ kk, ks[i]? = some kk := ⟨_, List.getElem?_eq_getElem hi⟩
        obtain ⟨q, hq⟩ : ∃ q, (A.1 :: mrg A.1 A.2)[i]? = some q := ⟨_, List.getElem?_eq_getElem (by rw [List.length_cons]; omega)⟩
        have hqk : (A.1 :: A.2)[kk]? = some q := by
          have := congrArg (fun l => l[i]?) hk
          simp only [List.getElem?_map, hkk, hq, Option.map_some, Option.some.injEq] at this
          exact this
        have hX : ((mrgW (scW A)).1 :: (mrgW (scW A)).2)[i]? = some (scP q) := by rw [KP_sc, List.getElem?_map, hq]; rfl
        refine vg_nm (by walk_at "ix") (by decide +kernel) ?_
        walk_at "let"
        walk_at "go"
        refine vx_seq (seqD_obj W.up_same) (atI_nat (n := i) (map_get hX) (by omega)) ?_
        rw [show pcD C (scP q) = .tup [dy C (q.1 * 1073741824), dy C (q.2.1 * 1073741824)] from rfl]
        walk_at "let"
        walk_at "go"
        refine vx_seq rfl (atI_nat (n := i) (map_get hkk) (by omega)) ?_
        refine vx_seq rfl (atI_nat (n := kk) (map_get hqk) rfl) ?_
        rw [show lq q = .tup [.int q.1, .int q.2.1] from rfl]
        walk_at "if"
        walk_at "go"
        refine isi_ty B.clsG tyd_tup (by decide +kernel : kitB "tuple" "tuple" = some true) ?_
        walk_at "go"
        refine vcl_len rfl ?_
        walk_at "go"
        refine ite_ndec (fun z => absurd rfl z) (fun _ => ?_)
        walk_at "nil"
        walk_at "if"
        walk_at "go"
        refine ⟨_, _, rfl, ?_⟩
        rw [show decide (q.1 * 1073741824 = q.1 * 1073741824) = true from decide_eq_true rfl]
        walk_at "go"
        refine ⟨_, _, rfl, ?_⟩
        rw [show decide (q.2.1 * 1073741824 = q.2.1 * 1073741824) = true from decide_eq_true rfl]
        walk_at "go"
        walk_at "nil"
        walk_at "nil"
        exact ⟨rfl, _, _, _, rfl⟩
      · rintro Γ w' ⟨rfl, g4, g5, g6, rfl⟩
        walk_at "expr"
        refine ve_append ?_
        walk_at "go"
        refine ⟨⟨_, W.up_same⟩, ?_⟩
        walk_at "go"
        refine vx_seq (seqD_obj W.up_same) (atI_nat (n := 0) rfl rfl) ?_
        refine ⟨_, W.up_same, by rw [List.length_map, List.length_cons]; show _ < 2 ^ 24; omega, ?_⟩
        walk_at "expr"
        refine ve_reverse ?_
        walk_at "go"
        refine ⟨_, W.up_same, ?_⟩
        walk_at "ret"
        refine ve_sub ?_
        walk_at "go"
        exact ⟨w, fun z m hz => by rw [W.up_up, W.up_up]; exact W.Sub.up ha z m hz, h⟩
/-! ### a number, a line read back -/
def S_number (C : Addr) : SpV := fun ds w P _ => ∃ v : Int, ds = [dy C (v * 1073741824)] ∧ v.natAbs ≤ 1000000000000 ∧ P (.int v) w
theorem num10 (v : Int) : pp (v * 1073741824) ≤ 10 ∧ pt (v * 1073741824) * 2 ^ (10 - pp (v * 1073741824)) = v ∧ (pt (v * 1073741824)).natAbs ≤ v.natAbs := by
  have e := red_pt (t := v) (p := 10) (by decide)
  rw [show (2 : Int) ^ (40 - 10) = 1073741824 from by decide] at e
  have h1 := red_le 10 v
  have h2 := red_val 10 v
  rw [e] at h1 h2
  refine ⟨h1, h2, ?_⟩
  conv => rhs; rw [← h2]
  rw [Int.natAbs_mul]
  exact Nat.le_mul_of_pos_right _ (Int.natAbs_pos.mpr (Int.ne_of_gt (two_pos _)))
theorem ok__number {f C CW CB : Addr} {fd : FuncData} (T : Li E C CW CB) (F : Fun E.K "_law_number" "_law_number" s__law_number f fd) : FnV E 4 f fd p__law_number (S_number C) := by
  have T1 := T.c.a
  have B := T1.B
  have D3 := T1.dy
  have gD := T.gD
  have ii := T.ii
  refine fnV F sc__law_number (fun ds w P R h => ?_) (fun c ds w P h => ?_)
  · obtain ⟨a, rfl, _⟩ := h; rfl
  · obtain ⟨v, rfl, hv, h⟩ := h
    obtain ⟨n1, n2, n3⟩ := num10 v
    generalize v * 1073741824 = n at *
    walk_at "if"
    walk_at "go"
    refine vcl_isi B.clsG (tyd_ins D3.d2.ci) rfl T.kD ?_
    walk_at "go"
    walk_at "nil"
    walk_at "if"
    walk_at "go"
    walk_at "nil"
    walk_at "ret"
    walk_at "go"
    show P _ _
    have e : (10 - ((pp n : Nat) : Int)).toNat = 10 - pp n := by omega
    rw [e, n2]
    exact h
end Wl

end

section
set_option maxRecDepth 100000
set_option maxHeartbeats 4000000
open PySem PySem.Spec PyProof.Rows L2 VL
local macro_rules | `(tactic| walk_at "ix") => `(tactic| first | with_reducible exact ix0 | with_reducible exact ix1 | with_reducible exact ix2 | with_reducible exact ix3 | with_reducible exact ix4 | with_reducible exact ix5 | with_reducible exact ix6 | with_reducible exact ix7 | with_reducible exact ix8 | with_reducible exact ix9 | with_reducible exact ix10 | with_reducible exact ix11 | with_reducible exact ix12 | with_reducible exact ix13 | with_reducible exact ix14 | with_reducible exact ix15 | with_reducible exact ix16)
local macro_rules | `(tactic| walk_at "num") => `(tactic| first | assumption | decide | omega | exact ⟨by decide, by decide⟩ | exact .inr ⟨by decide, by decide⟩ | exact .inl ⟨by decide, by decide⟩ | exact ⟨by omega, by omega, by omega⟩)
/- a name -/
local macro_rules | `(tactic| walk_at "name") => `(tactic| ((with_reducible refine' ve_nm ?hN ?hv ?hG ?_); (case hN => walk_at "ix"); (case hv => decide +kernel); (case hG => rfl)))
local macro_rules | `(tactic| walk_at "glob") => `(tactic| first
  | ((with_reducible refine' ve_gO ?hg ?hm ?_); (case hm => with_reducible assumption); (case hg => decide +kernel))
  | ((with_reducible refine' ve_gI ?hg ?hm ?_); (case hm => with_reducible assumption); (case hg => decide +kernel)))
local macro_rules | `(tactic| walk_at "tyname") => `(tactic| first
  | ((with_reducible refine' ve_ty "int" ?hg ?hm ?hv ?_); (case hg => decide +kernel); (case hm => exact (‹Blt _›).int); (case hv => exact bt_int))
  | ((with_reducible refine' ve_ty "bool" ?hg ?hm ?hv ?_); (case hg => decide +kernel); (case hm => exact (‹Blt _›).bool); (case hv => exact bt_bool))
  | ((with_reducible refine' ve_ty "str" ?hg ?hm ?hv ?_); (case hg => decide +kernel); (case hm => exact (‹Blt _›).str); (case hv => exact bt_str))
  | ((with_reducible refine' ve_ty "list" ?hg ?hm ?hv ?_); (case hg => decide +kernel); (case hm => exact (‹Blt _›).list); (case hv => exact bt_list))
  | ((with_reducible refine' ve_ty "tuple" ?hg ?hm ?hv ?_); (case hg => decide +kernel); (case hm => exact (‹Blt _›).tuple); (case hv => exact bt_tuple)))
local macro_rules | `(tactic| walk_at "blt") => `(tactic| first
  | ((with_reducible refine' blt1 "len" ?hg ?hm ?hv ?_ ?he); (case hg => decide +kernel); (case hm => exact (‹Blt _›).len); (case hv => exact bt_len); (case he => rfl))
  | ((with_reducible refine' blt1 "sum" ?hg ?hm ?hv ?_ ?he); (case hg => decide +kernel); (case hm => exact (‹Blt _›).sum); (case hv => exact bt_sum); (case he => rfl))
  | ((with_reducible refine' blt1 "abs" ?hg ?hm ?hv ?_ ?he); (case hg => decide +kernel); (case hm => exact (‹Blt _›).abs); (case hv => exact bt_abs); (case he => rfl))
  | ((with_reducible refine' blt1 "sorted" ?hg ?hm ?hv ?_ ?he); (case hg => decide +kernel); (case hm => exact (‹Blt _›).sorted); (case hv => exact bt_sorted); (case he => rfl))
  | ((with_reducible refine' blt1 "all" ?hg ?hm ?hv ?_ ?he); (case hg => decide +kernel); (case hm => exact (‹Blt _›).all); (case hv => exact bt_all); (case he => rfl))
  | ((with_reducible refine' blt1 "any" ?hg ?hm ?hv ?_ ?he); (case hg => decide +kernel); (case hm => exact (‹Blt _›).any); (case hv => exact bt_any); (case he => rfl))
  | ((with_reducible refine' blt1 "max" ?hg ?hm ?hv ?_ ?he); (case hg => decide +kernel); (case hm => exact (‹Blt _›).max); (case hv => exact bt_max); (case he => rfl))
  | ((with_reducible refine' blt1 "min" ?hg ?hm ?hv ?_ ?he); (case hg => decide +kernel); (case hm => exact (‹Blt _›).min); (case hv => exact bt_min); (case he => rfl))
  | ((with_reducible refine' blt2 "isinstance" ?hg ?hm ?hv ?_ ?he ?hf); (case hg => decide +kernel); (case hm => exact (‹Blt _›).isi); (case hv => exact bt_isi); (case he => rfl); (case hf => rfl))
  | ((with_reducible refine' blt2 "max" ?hg ?hm ?hv ?_ ?he ?hf); (case hg => decide +kernel); (case hm => exact (‹Blt _›).max); (case hv => exact bt_max); (case he => rfl); (case hf => rfl))
  | ((with_reducible refine' blt2 "min" ?hg ?hm ?hv ?_ ?he ?hf); (case hg => decide +kernel); (case hm => exact (‹Blt _›).min); (case hv => exact bt_min); (case he => rfl); (case hf => rfl))
  | ((with_reducible refine' bty1 "int" ?hg ?hm ?hv ?_ ?he); (case hg => decide +kernel); (case hm => exact (‹Blt _›).int); (case hv => exact bt_int); (case he => rfl))
  | ((with_reducible refine' bty1 "list" ?hg ?hm ?hv ?_ ?he); (case hg => decide +kernel); (case hm => exact (‹Blt _›).list); (case hv => exact bt_list); (case he => rfl))
  | ((with_reducible refine' bty1 "tuple" ?hg ?hm ?hv ?_ ?he); (case hg => decide +kernel); (case hm => exact (‹Blt _›).tuple); (case hv => exact bt_tuple); (case he => rfl))
  | ((with_reducible refine' bty1 "str" ?hg ?hm ?hv ?_ ?he); (case hg => decide +kernel); (case hm => exact (‹Blt _›).str); (case hv => exact bt_str); (case he => rfl)))
/- a call of a def of the text, its Callable in the context -/
local macro_rules | `(tactic| walk_at "call") => `(tactic| first
  | ((with_reducible refine' call1 ?h ?hc ?hj ?hg ?_ ?h1); (case h => with_reducible assumption); (case hc => rfl); (case hg => decide +kernel); (case hj => first | decide | omega); (case h1 => rfl))
  | ((with_reducible refine' call2 ?h ?hc ?hj ?hg ?_ ?h1 ?h2); (case h => with_reducible assumption); (case hc => rfl); (case hg => decide +kernel); (case hj => first | decide | omega); (case h1 => rfl); (case h2 => rfl))
  | ((with_reducible refine' call3 ?h ?hc ?hj ?hg ?_ ?h1 ?h2 ?h3); (case h => with_reducible assumption); (case hc => rfl); (case hg => decide +kernel); (case hj => first | decide | omega); (case h1 => rfl); (case h2 => rfl); (case h3 => rfl))
  | ((with_reducible refine' call4 ?h ?hc ?hj ?hg ?_ ?h1 ?h2 ?h3 ?h4); (case h => with_reducible assumption); (case hc => rfl); (case hg => decide +kernel); (case hj => first | decide | omega); (case h1 => rfl); (case h2 => rfl); (case h3 => rfl); (case h4 => rfl))
  | ((with_reducible refine' call0 ?h ?hc ?hj ?hg ?_); (case h => with_reducible assumption); (case hc => rfl); (case hg => decide +kernel); (case hj => first | decide | omega)))
/- one step -/
local macro_rules | `(tactic| walk_at "v") => `(tactic| first
  | with_reducible refine' asB_i ?_
  | with_reducible refine' asInt_i ?_
  | with_reducible refine' asObj_i ?_
  | with_reducible refine' if_t ?_
  | with_reducible refine' if_f ?_
  | with_reducible refine' if_nt ?_
  | with_reducible refine' if_nf ?_
  | ((with_reducible refine' if_dt ?h ?_); (case h => first | assumption | omega))
  | ((with_reducible refine' if_df ?h ?_); (case h => first | assumption | omega))
  | ((with_reducible refine' if_ndt ?h ?_); (case h => first | assumption | omega))
  | ((with_reducible refine' if_ndf ?h ?_); (case h => first | assumption | omega))
  | with_reducible refine' ve_int ?_
  | with_reducible refine' ve_str ?_
  | with_reducible refine' ve_bl ?_
  | with_reducible refine' ve_non ?_
  | walk_at "name"
  | with_reducible refine' ve_bin ?_
  | with_reducible refine' ve_cmp rfl ?_
  | with_reducible refine' vt_cmp rfl ?_
  | with_reducible refine' ve_not ?_
  | with_reducible refine' vt_not ?_
  | with_reducible refine' ve_and ?_
  | with_reducible refine' ve_or ?_
  | with_reducible refine' ve_one ?_
  | with_reducible refine' vw_and ?_
  | with_reducible refine' vw_or ?_
  | with_reducible refine' vw_and1 ?_
  | with_reducible refine' vw_or1 ?_
  | with_reducible refine' va_nil ?_
  | with_reducible refine' va_cons ?_ rfl
  | with_reducible refine' vo_add ?_
  | with_reducible refine' vo_sub ?_
  | with_reducible refine' vo_lt ?_
  | with_reducible refine' vo_le ?_
  | with_reducible refine' vo_gt ?_
  | with_reducible refine' vo_ge ?_
  | with_reducible refine' vo_eq ?_
  | with_reducible refine' vo_ne ?_
  | with_reducible refine' vo_eqS ?_
  | with_reducible refine' vo_neS ?_
  | with_reducible refine' vo_eqB ?_
  | with_reducible refine' vo_is ?_
  | with_reducible refine' vo_isnot ?_
  | with_reducible refine' vu_neg ?_
  | ((with_reducible refine' vo_mod ?h ?_); (case h => walk_at "num"))
  | ((with_reducible refine' vo_fdiv ?h ?_); (case h => walk_at "num"))
  | ((with_reducible refine' vo_mul ?h ?_); (case h => walk_at "num"))
  | ((with_reducible refine' vo_pow ?h ?_); (case h => walk_at "num"))
  | ((with_reducible refine' vo_shl ?h ?_); (case h => walk_at "num"))
  | ((with_reducible refine' ve_chain ?_ ?h); (case h => rfl))
  | ((with_reducible refine' vt_chain ?_ ?h); (case h => rfl))
  | with_reducible refine' ve_un ?_
  | with_reducible refine' ve_if ?_
  | with_reducible refine' vt_w (vw_and ?_)
  | with_reducible refine' vt_w (vw_or ?_)
  | ((with_reducible refine' and_len ?h ?_); (case h => exact len_small rfl))
  | walk_at "spec"
  | walk_at "call"
  | walk_at "blt"
  | ((with_reducible refine' ve_ix ?_ ?h); (case h => exact fun _ _ => rfl))
  | ((with_reducible refine' ve_tup ?_ ?h); (case h => exact pe_tup pa_w))
  | with_reducible refine' ve_lst ?_
  | walk_at "glob"
  | ((with_reducible refine' vt_tr ?_ ?he); (case he => intro _; rfl))
  | with_reducible refine' tr_bl ?_
  | with_reducible refine' tr_int ?_
  | with_reducible refine' tr_non ?_
  | with_reducible refine' tr_tup ?_
  | with_reducible refine' tr_lst ?_
  | walk_at "tyname"
  | ((with_reducible refine' vx_tup ?h ?_); (case h => rfl))
  | with_reducible refine' vcl_int ?_)
local macro_rules | `(tactic| walk_at "go") => `(tactic| repeat walk_at "v")
/- one statement: a name stored -/
local macro_rules | `(tactic| walk_at "let") => `(tactic| (refine' vss_cons (vs_lt ?hi ?hx ?_ ?hs); (case hi => walk_at "ix"); (case hx => decide +kernel); (case hs => rfl)))
local macro_rules | `(tactic| walk_at "ret") => `(tactic| refine' vss_cons (vs_ret ?_))
local macro_rules | `(tactic| walk_at "fld") => `(tactic| (refine' vss_cons (vs_fld ?_ ?hs); (case hs => rfl)))
local macro_rules | `(tactic| walk_at "if") => `(tactic| refine' vss_cons (vs_if ?_))
local macro_rules | `(tactic| walk_at "expr") => `(tactic| (refine' vss_cons (vs_expr ?_ ?hs); (case hs => rfl)))
local macro_rules | `(tactic| walk_at "nil") => `(tactic| refine' vss_nil ?_)
namespace Wl
open Wm
local macro_rules | `(tactic| walk_at "okn") => `(tactic| first | assumption | (refine' okn_R ?_ ?_ ?_ <;> omega) | (refine' okn_R21 ?_ ?_ ?_ <;> omega))
local macro_rules | `(tactic| walk_at "two") => `(tactic| (refine vg_two rfl (by walk_at "ix") (by decide +kernel) (by walk_at "ix") (by decide +kernel) ?_ rfl rfl rfl rfl))
local macro_rules | `(tactic| walk_at "blk") => `(tactic| exact ⟨rfl, by decide +kernel, by decide +kernel, by decide +kernel, by decide +kernel⟩)
local macro_rules | `(tactic| walk_at "spec") => `(tactic| first
  | with_reducible refine' asDy_i ?_
  | with_reducible refine' asW_i ?_
  | ((with_reducible refine' S_scaled_i ?ho ?_); (case ho => walk_at "okn"))
  | ((with_reducible refine' ve_dyT ?hT ?hc ?hj ?_ ?h1); (case hT => exact (‹Dy3 _ _›).d2.d1); (case hc => rfl); (case hj => decide); (case h1 => rfl))
  | ((with_reducible refine' ve_dyP ?hT ?hc ?hj ?_ ?h1); (case hT => exact (‹Dy3 _ _›).d2.d1); (case hc => rfl); (case hj => decide); (case h1 => rfl))
  | ((with_reducible refine' vo_dyadd ?hT ?hc ?hj ?hx ?hy ?hz ?_); (case hT => exact (‹Dy3 _ _›).d2); (case hc => rfl); (case hj => decide); (case hx => walk_at "okn"); (case hy => walk_at "okn"); (case hz => walk_at "okn"))
  | ((with_reducible refine' vu_dyneg ?hT ?hc ?hj ?hx ?_); (case hT => exact (‹Dy3 _ _›).d2); (case hc => rfl); (case hj => decide); (case hx => walk_at "okn"))
  | ((with_reducible refine' vo_dysub ?hT ?hc ?hj ?hx ?hy ?hz ?_); (case hT => assumption); (case hc => rfl); (case hj => decide); (case hx => walk_at "okn"); (case hy => walk_at "okn"); (case hz => walk_at "okn"))
  | ((with_reducible refine' ve_dyless _ ?hT ?hc ?hj ?_ ?h1 ?h2); (case hT => assumption); (case hc => rfl); (case hj => decide); (case h1 => rfl); (case h2 => rfl))
  | ((with_reducible refine' ve_dysame _ ?hT ?hc ?hj ?_ ?h1 ?h2); (case hT => assumption); (case hc => rfl); (case hj => decide); (case h1 => rfl); (case h2 => rfl))
  | ((with_reducible refine' ve_wat _ ?hT ?hc ?hj ?_ ?h1 ?h2); (case hT => assumption); (case hc => rfl); (case hj => decide); (case h1 => rfl); (case h2 => rfl))
  | ((with_reducible refine' ve_wsa _ ?hT ?hc ?hj ?_ ?h1 ?h2); (case hT => assumption); (case hc => rfl); (case hj => decide); (case h1 => rfl); (case h2 => rfl))
  | ((with_reducible refine' ve_wtu _ ?hT ?hc ?hj ?_ ?h1); (case hT => assumption); (case hc => rfl); (case hj => decide); (case h1 => rfl))
  | ((with_reducible refine' ve_wsl ?hT ?hc ?hj ?_ ?h1); (case hT => assumption); (case hc => rfl); (case hj => decide); (case h1 => rfl))
  | ((with_reducible refine' ve_dyhf _ ?hT ?hc ?hj ?_ ?h1); (case hT => assumption); (case hc => rfl); (case hj => decide); (case h1 => rfl))
  | ((with_reducible refine' ve_wpoF _ ?hT ?hc ?hj ?_ ?h1); (case hT => assumption); (case hc => rfl); (case hj => decide); (case h1 => rfl))
  | ((with_reducible refine' ve_wall ?hT ?hc ?hj ?hg ?_ ?h1 ?h2); (case hT => assumption); (case hc => rfl); (case hj => decide); (case hg => decide +kernel); (case h1 => rfl); (case h2 => rfl))
  | ((with_reducible refine' ok2_i ?hx ?hy ?_); (case hx => walk_at "okn"); (case hy => walk_at "okn")))
variable {E : EnvR}
local macro_rules | `(tactic| walk_at "spec") => `(tactic| first
  | with_reducible refine' asDy_i ?_
  | with_reducible refine' asW_i ?_
  | with_reducible refine' S_is_integer_i ?_
  | ((with_reducible refine' ve_wsl ?hT ?hc ?hj ?_ ?h1); (case hT => assumption); (case hc => rfl); (case hj => decide); (case h1 => rfl))
  | ((with_reducible refine' ve_wpoF _ ?hT ?hc ?hj ?_ ?h1); (case hT => assumption); (case hc => rfl); (case hj => decide); (case h1 => rfl)))
/-! ### a line read back -/
def S_line (C CW : Addr) : SpV := fun ds w P _ => ∃ A : Wal, ds = [wallD C CW (scW A)] ∧ LinW A ∧ A.2.length + 1 ≤ 400 ∧ (∀ q ∈ A.1 :: A.2, q.1.natAbs ≤ 500000000 ∧ q.2.1.natAbs ≤ 500000000) ∧ P (lineD A) w
theorem chn_ix : ∀ {r : List Pc} {p : Pc} {i : Nat} {u q : Pc}, Chn p r → (p :: r)[i]? = some u → (p :: r)[i + 1]? = some q → s3 u.2.2 ∧ u.1 < q.1 ∧ q.2.1 = ln u q.1
  | [], p, i, u, q, h, h1, h2 => by simp at h2
  | v :: r, p, 0, u, q, h, h1, h2 => by
    have e1 : p = u := by simpa using h1
    have e2 : v = q := by simpa using h2
    subst e1 e2
    exact ⟨h.1, h.2.1, h.2.2.1⟩
  | v :: r, p, i + 1, u, q, h, h1, h2 => chn_ix (r := r) (p := v) (i := i) h.2.2.2 (by simpa using h1) (by simpa using h2)
theorem inD_rise {s run : Int} (h : s3 s) : inD (.int (s * run)) [.int (-run), .int 0, .int run] = true := by
  show ((-run) == s * run || ((0 : Int) == s * run || (run == s * run || false))) = true
  rcases h with e | e | e <;> subst e
  · have : -run = -1 * run := by omega
    rw [← this]; simp
  · rw [Int.zero_mul]; simp
  · rw [Int.one_mul]; simp
theorem ok__line {f C CW CB : Addr} {fd : FuncData} (T : Li E C CW CB) (cp : Callable E "_law_number" 4 1 (S_number C)) (F : Fun E.K "_law_line" "_law_line" s__law_line f fd) : FnV E 5 f fd p__law_line (S_line C CW) := by
  have T0 := T.c
  have T1 := T.c.a
  have B := T1.B
  have D3 := T1.dy
  have gW := T.gW
  have ii := T.ii
  refine fnV F sc__law_line (fun ds w P R h => ?_) (fun c ds w P h => ?_)
  · obtain ⟨a, rfl, _⟩ := h; rfl
  · obtain ⟨A, rfl, hA, hl, hb, h⟩ := h
    have scm : (scW A).1 :: (scW A).2 = (A.1 :: A.2).map scP := rfl
    walk_at "if"
    walk_at "go"
    refine vcl_isi B.clsG (tyd_ins T.ciW) rfl T.kW ?_
    walk_at "go"
    walk_at "nil"
    walk_at "let"
    walk_at "go"
    rw [scm]
    walk_at "if"
    walk_at "go"
    refine isi_ty B.clsG tyd_lst (by decide +kernel : kitB "list" "list" = some true) ?_
    walk_at "go"
    refine vo_eqLen rfl rfl (by rw [List.length_map, List.length_map, List.length_cons]; simp) ?_
    walk_at "go"
    refine vcl_len rfl ?_
    rw [List.length_map, List.length_map, List.length_cons]
    walk_at "go"
    walk_at "nil"
    refine vss_cons (vs_lt (by walk_at "ix") (by decide +kernel) ?_ rfl)
    refine ve_tup ?_ (pe_tup pa_w)
    refine va_cons (ve_lstM (va_nil (and_len (len_small rfl) fun a1 ha1 => ?_))) rfl
    refine va_cons (ve_lstM (va_nil (and_len (len_small rfl) fun a2 ha2 => ?_))) rfl
    walk_at "go"
    have hne : a2 ≠ a1 := fun e => by subst e; rw [W.up_same] at ha2; cases ha2
    have ha2w : w a2 = none := by rw [W.up_ne hne] at ha2; exact ha2
    refine vss_cons (vs_for [3] rfl (vi_list ?_))
    walk_at "go"
    refine ⟨_, rfl, ?_⟩
    refine ⟨fun i Γ w' => w' = (w.up a1 (.lst (((A.1 :: A.2).take i).map lq))).up a2 (.lst (((A.1 :: A.2).take (i - 1)).map slD)) ∧ ∃ (g3 g4 g5 g6 g7 : Option D), Γ = [some (wallD C CW (scW A)), some (.lst (((A.1 :: A.2).map scP).map (pcD C))), some (.tup [.obj a1, .obj a2]), g3, g4, g5, g6, g7],
      ⟨rfl, none, none, none, none, none, rfl⟩, fun _ _ _ _ _ => True.intro, ?_, ?_⟩
    · rintro i dd Γ w' hdd ⟨rfl, g3, g4, g5, g6, g7, rfl⟩
      rw [List.map_map, List.getElem?_map] at hdd
      cases hq : (A.1 :: A.2)[i]? with
      | none => rw [hq] at hdd; cases hdd
      | some q =>
        rw [hq] at hdd
        cases hdd
        obtain ⟨b1, b2⟩ := hb q (List.mem_of_getElem? hq)
        have hil := (List.getElem?_eq_some_iff.mp hq).1
        rw [List.length_cons] at hil
        rw [show (pcD C ∘ scP) q = .tup [dy C (q.1 * 1073741824), dy C (q.2.1 * 1073741824)] from rfl]
        refine vg_nm (by walk_at "ix") (by decide +kernel) ?_
        walk_at "if"
        walk_at "go"
        refine isi_ty B.clsG tyd_tup (by decide +kernel : kitB "tuple" "tuple" = some true) ?_
        walk_at "go"
        refine vcl_len rfl ?_
        walk_at "go"
        refine ite_ndec (fun z => absurd rfl z) (fun _ => ?_)
        walk_at "nil"
        walk_at "let"
        walk_at "go"
        refine ⟨_, rfl, by omega, ?_⟩
        walk_at "let"
        walk_at "go"
        refine ⟨_, rfl, by omega, ?_⟩
        walk_at "if"
        walk_at "go"
        refine if_f ?_
        walk_at "go"
        refine if_f ?_
        walk_at "nil"
        have lk1 : ∀ {m n : MO}, ((w.up a1 m).up a2 n) a1 = some m := fun {m n} => by rw [W.up_ne (Ne.symm hne), W.up_same]
        have tk := take_map (f := lq) hq
        have fin : ∀ (sls : List D), sls = ((A.1 :: A.2).take (i + 1 - 1)).map slD → ((w.up a1 (.lst (((A.1 :: A.2).take i).map lq ++ [.tup [.int q.1, .int q.2.1]]))).up a2 (.lst sls)) = (w.up a1 (.lst (((A.1 :: A.2).take (i + 1)).map lq))).up a2 (.lst (((A.1 :: A.2).take (i + 1 - 1)).map slD)) := fun sls e => by
          rw [e, ← tk]; rfl
        refine vss_if (fun Γ w' => w' = (w.up a1 (.lst (((A.1 :: A.2).take i).map lq))).up a2 (.lst (((A.1 :: A.2).take (i + 1 - 1)).map slD)) ∧ ∃ (g6 g7 : Option D), Γ = [some (wallD C CW (scW A)), some (.lst (((A.1 :: A.2).map scP).map (pcD C))), some (.tup [.obj a1, .obj a2]), some (.tup [dy C (q.1 * 1073741824), dy C (q.2.1 * 1073741824)]), some (.int q.1), some (.int q.2.1), g6, g7]) ?_ ?_
        · walk_at "go"
          cases i with
          | zero =>
            have e0 : A.1 = q := by simpa using hq
            refine vo_neNil (lstD_obj lk1) rfl ?_
            walk_at "go"
            walk_at "if"
            walk_at "go"
            refine ite_ndec (fun z => absurd (by rw [← e0]; exact hA.z) z) (fun _ => ?_)
            walk_at "nil"
            walk_at "nil"
            exact ⟨rfl, _, _, rfl⟩
          | succ j =>
            obtain ⟨u, hu⟩ : ∃ u, (A.1 :: A.2)[j]? = some u := ⟨_, List.getElem?_eq_getElem (by rw [List.length_cons]; omega)⟩
            obtain ⟨c1, c2, c3⟩ := chn_ix hA.ch hu hq
            obtain ⟨b3, b4⟩ := hb u (List.mem_of_getElem? hu)
            have tl : ((A.1 :: A.2).take (j + 1)).map lq = (((A.1 :: A.2).take j) ++ [u]).map lq := by rw [List.take_add_one, hu]; rfl
            have tsl := take_map (f := slD) hu
            have rr : q.2.1 - u.2.1 = u.2.2 * (q.1 - u.1) := by rw [c3]; unfold ln; omega
            refine vo_neLen (lstD_obj lk1) rfl (by rw [tl, List.length_map, List.length_append]; simp) ?_
            walk_at "go"
            rw [tl]
            walk_at "let"
            walk_at "go"
            refine vx_seq (seqD_obj lk1) (last_snoc lq) ?_
            rw [show lq u = .tup [.int u.1, .int u.2.1] from rfl]
            walk_at "go"
            walk_at "let"
            walk_at "go"
            refine vx_seq (seqD_obj lk1) (last_snoc lq) ?_
            rw [show lq u = .tup [.int u.1, .int u.2.1] from rfl]
            walk_at "go"
            rw [rr]
            walk_at "if"
            walk_at "go"
            refine vo_notin rfl rfl rfl ?_
            rw [inD_rise c1]
            walk_at "go"
            walk_at "nil"
            walk_at "expr"
            refine ve_append ?_
            walk_at "go"
            refine ⟨⟨_, W.up_same⟩, ?_⟩
            walk_at "go"
            refine vo_fdiv ⟨by omega, by omega⟩ ?_
            rw [Int.mul_ediv_cancel _ (by omega)]
            refine ⟨_, W.up_same, by rw [List.length_map, List.length_take]; show _ < 2 ^ 24; omega, ?_⟩
            walk_at "nil"
            refine ⟨?_, _, _, rfl⟩
            rw [W.up_up, ← tl]
            have e : ((A.1 :: A.2).take (j + 1 - 1)).map slD ++ [D.int u.2.2] = ((A.1 :: A.2).take (j + 1 + 1 - 1)).map slD := tsl
            rw [e]
        · rintro Γ w' ⟨rfl, g6, g7, rfl⟩
          walk_at "expr"
          refine ve_append ?_
          walk_at "go"
          refine ⟨⟨_, lk1⟩, ?_⟩
          walk_at "go"
          refine ⟨_, lk1, by rw [List.length_map, List.length_take]; show _ < 2 ^ 24; omega, ?_⟩
          walk_at "nil"
          refine ⟨?_, _, _, _, _, _, rfl⟩
          rw [← fin _ rfl]
          funext z
          by_cases z1 : z = a1
          · rw [z1, W.up_same, W.up_ne (Ne.symm hne), W.up_same]
          · rw [W.up_ne z1]
            by_cases z2 : z = a2
            · rw [z2, W.up_same, W.up_same]
            · rw [W.up_ne z2, W.up_ne z2, W.up_ne z1, W.up_ne z1]
    · rintro Γ w' ⟨rfl, g3, g4, g5, g6, g7, rfl⟩
      rw [List.length_map, List.length_map, List.length_cons, Nat.add_sub_cancel]
      have t1 : (A.1 :: A.2).take (A.2.length + 1) = A.1 :: A.2 := List.take_of_length_le (by rw [List.length_cons]; exact Nat.le_refl _)
      have t2 : ((A.1 :: A.2).take A.2.length).map slD ++ [D.int (lastS A)] = (A.1 :: A.2).map slD := by
        have hg : (A.1 :: A.2)[A.2.length]? = some ((A.1 :: A.2).getLast (List.cons_ne_nil _ _)) := by
          rw [List.getLast_eq_getElem]; simp
        have := take_map (f := slD) hg
        rw [t1] at this
        exact this
      rw [t1]
      walk_at "expr"
      refine ve_append ?_
      walk_at "go"
      refine ⟨⟨_, W.up_same⟩, ?_⟩
      walk_at "go"
      rw [sc_last]
      refine ⟨_, W.up_same, by rw [List.length_map, List.length_take]; show _ < 2 ^ 24; omega, ?_⟩
      rw [W.up_up, t2]
      refine vss_frzT2 2 rfl (by rw [W.up_ne (Ne.symm hne)]; exact W.up_same) W.up_same hne ?_
      refine vss_subW (w' := w) (fun z m hz => ?_) ?_
      · have q1 : z ≠ a1 := fun e => by rw [e, ha1] at hz; cases hz
        have q2 : z ≠ a2 := fun e => by rw [e, ha2w] at hz; cases hz
        rw [W.del_ne q2, W.del_ne q1, W.up_ne q2, W.up_ne q1]; exact hz
      walk_at "ret"
      walk_at "go"
      exact h
end Wl

end

section
set_option maxRecDepth 100000
set_option maxHeartbeats 4000000
open PySem PySem.Spec PyProof.Rows L2 VL
local macro_rules | `(tactic| walk_at "ix") => `(tactic| first | with_reducible exact ix0 | with_reducible exact ix1 | with_reducible exact ix2 | with_reducible exact ix3 | with_reducible exact ix4 | with_reducible exact ix5 | with_reducible exact ix6 | with_reducible exact ix7 | with_reducible exact ix8 | with_reducible exact ix9 | with_reducible exact ix10 | with_reducible exact ix11 | with_reducible exact ix12 | with_reducible exact ix13 | with_reducible exact ix14 | with_reducible exact ix15 | with_reducible exact ix16)
local macro_rules | `(tactic| walk_at "num") => `(tactic| first | assumption | decide | omega | exact ⟨by decide, by decide⟩ | exact .inr ⟨by decide, by decide⟩ | exact .inl ⟨by decide, by decide⟩ | exact ⟨by omega, by omega, by omega⟩)
/- a name -/
local macro_rules | `(tactic| walk_at "name") => `(tactic| ((with_reducible refine' ve_nm ?hN ?hv ?hG ?_); (case hN => walk_at "ix"); (case hv => decide +kernel); (case hG => rfl)))
local macro_rules | `(tactic| walk_at "glob") => `(tactic| first
  | ((with_reducible refine' ve_gO ?hg ?hm ?_); (case hm => with_reducible assumption); (case hg => decide +kernel))
  | ((with_reducible refine' ve_gI ?hg ?hm ?_); (case hm => with_reducible assumption); (case hg => decide +kernel)))
local macro_rules | `(tactic| walk_at "tyname") => `(tactic| first
  | ((with_reducible refine' ve_ty "int" ?hg ?hm ?hv ?_); (case hg => decide +kernel); (case hm => exact (‹Blt _›).int); (case hv => exact bt_int))
  | ((with_reducible refine' ve_ty "bool" ?hg ?hm ?hv ?_); (case hg => decide +kernel); (case hm => exact (‹Blt _›).bool); (case hv => exact bt_bool))
  | ((with_reducible refine' ve_ty "str" ?hg ?hm ?hv ?_); (case hg => decide +kernel); (case hm => exact (‹Blt _›).str); (case hv => exact bt_str))
  | ((with_reducible refine' ve_ty "list" ?hg ?hm ?hv ?_); (case hg => decide +kernel); (case hm => exact (‹Blt _›).list); (case hv => exact bt_list))
  | ((with_reducible refine' ve_ty "tuple" ?hg ?hm ?hv ?_); (case hg => decide +kernel); (case hm => exact (‹Blt _›).tuple); (case hv => exact bt_tuple)))
local macro_rules | `(tactic| walk_at "blt") => `(tactic| first
  | ((with_reducible refine' blt1 "len" ?hg ?hm ?hv ?_ ?he); (case hg => decide +kernel); (case hm => exact (‹Blt _›).len); (case hv => exact bt_len); (case he => rfl))
  | ((with_reducible refine' blt1 "sum" ?hg ?hm ?hv ?_ ?he); (case hg => decide +kernel); (case hm => exact (‹Blt _›).sum); (case hv => exact bt_sum); (case he => rfl))
  | ((with_reducible refine' blt1 "abs" ?hg ?hm ?hv ?_ ?he); (case hg => decide +kernel); (case hm => exact (‹Blt _›).abs); (case hv => exact bt_abs); (case he => rfl))
  | ((with_reducible refine' blt1 "sorted" ?hg ?hm ?hv ?_ ?he); (case hg => decide +kernel); (case hm => exact (‹Blt _›).sorted); (case hv => exact bt_sorted); (case he => rfl))
  | ((with_reducible refine' blt1 "all" ?hg ?hm ?hv ?_ ?he); (case hg => decide +kernel); (case hm => exact (‹Blt _›).all); (case hv => exact bt_all); (case he => rfl))
  | ((with_reducible refine' blt1 "any" ?hg ?hm ?hv ?_ ?he); (case hg => decide +kernel); (case hm => exact (‹Blt _›).any); (case hv => exact bt_any); (case he => rfl))
  | ((with_reducible refine' blt1 "max" ?hg ?hm ?hv ?_ ?he); (case hg => decide +kernel); (case hm => exact (‹Blt _›).max); (case hv => exact bt_max); (case he => rfl))
  | ((with_reducible refine' blt1 "min" ?hg ?hm ?hv ?_ ?he); (case hg => decide +kernel); (case hm => exact (‹Blt _›).min); (case hv => exact bt_min); (case he => rfl))
  | ((with_reducible refine' blt2 "isinstance" ?hg ?hm ?hv ?_ ?he ?hf); (case hg => decide +kernel); (case hm => exact (‹Blt _›).isi); (case hv => exact bt_isi); (case he => rfl); (case hf => rfl))
  | ((with_reducible refine' blt2 "max" ?hg ?hm ?hv ?_ ?he ?hf); (case hg => decide +kernel); (case hm => exact (‹Blt _›).max); (case hv => exact bt_max); (case he => rfl); (case hf => rfl))
  | ((with_reducible refine' blt2 "min" ?hg ?hm ?hv ?_ ?he ?hf); (case hg => decide +kernel); (case hm => exact (‹Blt _›).min); (case hv => exact bt_min); (case he => rfl); (case hf => rfl))
  | ((with_reducible refine' bty1 "int" ?hg ?hm ?hv ?_ ?he); (case hg => decide +kernel); (case hm => exact (‹Blt _›).int); (case hv => exact bt_int); (case he => rfl))
  | ((with_reducible refine' bty1 "list" ?hg ?hm ?hv ?_ ?he); (case hg => decide +kernel); (case hm => exact (‹Blt _›).list); (case hv => exact bt_list); (case he => rfl))
  | ((with_reducible refine' bty1 "tuple" ?hg ?hm ?hv ?_ ?he); (case hg => decide +kernel); (case hm => exact (‹Blt _›).tuple); (case hv => exact bt_tuple); (case he => rfl))
  | ((with_reducible refine' bty1 "str" ?hg ?hm ?hv ?_ ?he); (case hg => decide +kernel); (case hm => exact (‹Blt _›).str); (case hv => exact bt_str); (case he => rfl)))
/- a call of a def of the text, its Callable in the context -/
local macro_rules | `(tactic| walk_at "call") => `(tactic| first
  | ((with_reducible refine' call1 ?h ?hc ?hj ?hg ?_ ?h1); (case h => with_reducible assumption); (case hc => rfl); (case hg => decide +kernel); (case hj => first | decide | omega); (case h1 => rfl))
  | ((with_reducible refine' call2 ?h ?hc ?hj ?hg ?_ ?h1 ?h2); (case h => with_reducible assumption); (case hc => rfl); (case hg => decide +kernel); (case hj => first | decide | omega); (case h1 => rfl); (case h2 => rfl))
  | ((with_reducible refine' call3 ?h ?hc ?hj ?hg ?_ ?h1 ?h2 ?h3); (case h => with_reducible assumption); (case hc => rfl); (case hg => decide +kernel); (case hj => first | decide | omega); (case h1 => rfl); (case h2 => rfl); (case h3 => rfl))
  | ((with_reducible refine' call4 ?h ?hc ?hj ?hg ?_ ?h1 ?h2 ?h3 ?h4); (case h => with_reducible assumption); (case hc => rfl); (case hg => decide +kernel); (case hj => first | decide | omega); (case h1 => rfl); (case h2 => rfl); (case h3 => rfl); (case h4 => rfl))
  | ((with_reducible refine' call0 ?h ?hc ?hj ?hg ?_); (case h => with_reducible assumption); (case hc => rfl); (case hg => decide +kernel); (case hj => first | decide | omega)))
/- one step -/
local macro_rules | `(tactic| walk_at "v") => `(tactic| first
  | with_reducible refine' asB_i ?_
  | with_reducible refine' asInt_i ?_
  | with_reducible refine' asObj_i ?_
  | with_reducible refine' if_t ?_
  | with_reducible refine' if_f ?_
  | with_reducible refine' if_nt ?_
  | with_reducible refine' if_nf ?_
  | ((with_reducible refine' if_dt ?h ?_); (case h => first | assumption | omega))
  | ((with_reducible refine' if_df ?h ?_); (case h => first | assumption | omega))
  | ((with_reducible refine' if_ndt ?h ?_); (case h => first | assumption | omega))
  | ((with_reducible refine' if_ndf ?h ?_); (case h => first | assumption | omega))
  | with_reducible refine' ve_int ?_
  | with_reducible refine' ve_str ?_
  | with_reducible refine' ve_bl ?_
  | with_reducible refine' ve_non ?_
  | walk_at "name"
  | with_reducible refine' ve_bin ?_
  | with_reducible refine' ve_cmp rfl ?_
  | with_reducible refine' vt_cmp rfl ?_
  | with_reducible refine' ve_not ?_
  | with_reducible refine' vt_not ?_
  | with_reducible refine' ve_and ?_
  | with_reducible refine' ve_or ?_
  | with_reducible refine' ve_one ?_
  | with_reducible refine' vw_and ?_
  | with_reducible refine' vw_or ?_
  | with_reducible refine' vw_and1 ?_
  | with_reducible refine' vw_or1 ?_
  | with_reducible refine' va_nil ?_
  | with_reducible refine' va_cons ?_ rfl
  | with_reducible refine' vo_add ?_
  | with_reducible refine' vo_sub ?_
  | with_reducible refine' vo_lt ?_
  | with_reducible refine' vo_le ?_
  | with_reducible refine' vo_gt ?_
  | with_reducible refine' vo_ge ?_
  | with_reducible refine' vo_eq ?_
  | with_reducible refine' vo_ne ?_
  | with_reducible refine' vo_eqS ?_
  | with_reducible refine' vo_neS ?_
  | with_reducible refine' vo_eqB ?_
  | with_reducible refine' vo_is ?_
  | with_reducible refine' vo_isnot ?_
  | with_reducible refine' vu_neg ?_
  | ((with_reducible refine' vo_mod ?h ?_); (case h => walk_at "num"))
  | ((with_reducible refine' vo_fdiv ?h ?_); (case h => walk_at "num"))
  | ((with_reducible refine' vo_mul ?h ?_); (case h => walk_at "num"))
  | ((with_reducible refine' vo_pow ?h ?_); (case h => walk_at "num"))
  | ((with_reducible refine' vo_shl ?h ?_); (case h => walk_at "num"))
  | ((with_reducible refine' ve_chain ?_ ?h); (case h => rfl))
  | ((with_reducible refine' vt_chain ?_ ?h); (case h => rfl))
  | with_reducible refine' ve_un ?_
  | with_reducible refine' ve_if ?_
  | with_reducible refine' vt_w (vw_and ?_)
  | with_reducible refine' vt_w (vw_or ?_)
  | ((with_reducible refine' and_len ?h ?_); (case h => exact len_small rfl))
  | walk_at "spec"
  | walk_at "call"
  | walk_at "blt"
  | ((with_reducible refine' ve_ix ?_ ?h); (case h => exact fun _ _ => rfl))
  | ((with_reducible refine' ve_tup ?_ ?h); (case h => exact pe_tup pa_w))
  | with_reducible refine' ve_lst ?_
  | walk_at "glob"
  | ((with_reducible refine' vt_tr ?_ ?he); (case he => intro _; rfl))
  | with_reducible refine' tr_bl ?_
  | with_reducible refine' tr_int ?_
  | with_reducible refine' tr_non ?_
  | with_reducible refine' tr_tup ?_
  | with_reducible refine' tr_lst ?_
  | walk_at "tyname"
  | ((with_reducible refine' vx_tup ?h ?_); (case h => rfl))
  | with_reducible refine' vcl_int ?_)
local macro_rules | `(tactic| walk_at "go") => `(tactic| repeat walk_at "v")
/- one statement: a name stored -/
local macro_rules | `(tactic| walk_at "let") => `(tactic| (refine' vss_cons (vs_lt ?hi ?hx ?_ ?hs); (case hi => walk_at "ix"); (case hx => decide +kernel); (case hs => rfl)))
local macro_rules | `(tactic| walk_at "ret") => `(tactic| refine' vss_cons (vs_ret ?_))
local macro_rules | `(tactic| walk_at "fld") => `(tactic| (refine' vss_cons (vs_fld ?_ ?hs); (case hs => rfl)))
local macro_rules | `(tactic| walk_at "if") => `(tactic| refine' vss_cons (vs_if ?_))
local macro_rules | `(tactic| walk_at "expr") => `(tactic| (refine' vss_cons (vs_expr ?_ ?hs); (case hs => rfl)))
local macro_rules | `(tactic| walk_at "nil") => `(tactic| refine' vss_nil ?_)
namespace Wl
open Wm
local macro_rules | `(tactic| walk_at "okn") => `(tactic| first | assumption | (refine' okn_R ?_ ?_ ?_ <;> omega) | (refine' okn_R21 ?_ ?_ ?_ <;> omega))
local macro_rules | `(tactic| walk_at "two") => `(tactic| (refine vg_two rfl (by walk_at "ix") (by decide +kernel) (by walk_at "ix") (by decide +kernel) ?_ rfl rfl rfl rfl))
local macro_rules | `(tactic| walk_at "blk") => `(tactic| exact ⟨rfl, by decide +kernel, by decide +kernel, by decide +kernel, by decide +kernel⟩)
local macro_rules | `(tactic| walk_at "spec") => `(tactic| first
  | with_reducible refine' asDy_i ?_
  | with_reducible refine' asW_i ?_
  | ((with_reducible refine' S_scaled_i ?ho ?_); (case ho => walk_at "okn"))
  | ((with_reducible refine' ve_dyT ?hT ?hc ?hj ?_ ?h1); (case hT => exact (‹Dy3 _ _›).d2.d1); (case hc => rfl); (case hj => decide); (case h1 => rfl))
  | ((with_reducible refine' ve_dyP ?hT ?hc ?hj ?_ ?h1); (case hT => exact (‹Dy3 _ _›).d2.d1); (case hc => rfl); (case hj => decide); (case h1 => rfl))
  | ((with_reducible refine' vo_dyadd ?hT ?hc ?hj ?hx ?hy ?hz ?_); (case hT => exact (‹Dy3 _ _›).d2); (case hc => rfl); (case hj => decide); (case hx => walk_at "okn"); (case hy => walk_at "okn"); (case hz => walk_at "okn"))
  | ((with_reducible refine' vu_dyneg ?hT ?hc ?hj ?hx ?_); (case hT => exact (‹Dy3 _ _›).d2); (case hc => rfl); (case hj => decide); (case hx => walk_at "okn"))
  | ((with_reducible refine' vo_dysub ?hT ?hc ?hj ?hx ?hy ?hz ?_); (case hT => assumption); (case hc => rfl); (case hj => decide); (case hx => walk_at "okn"); (case hy => walk_at "okn"); (case hz => walk_at "okn"))
  | ((with_reducible refine' ve_dyless _ ?hT ?hc ?hj ?_ ?h1 ?h2); (case hT => assumption); (case hc => rfl); (case hj => decide); (case h1 => rfl); (case h2 => rfl))
  | ((with_reducible refine' ve_dysame _ ?hT ?hc ?hj ?_ ?h1 ?h2); (case hT => assumption); (case hc => rfl); (case hj => decide); (case h1 => rfl); (case h2 => rfl))
  | ((with_reducible refine' ve_wat _ ?hT ?hc ?hj ?_ ?h1 ?h2); (case hT => assumption); (case hc => rfl); (case hj => decide); (case h1 => rfl); (case h2 => rfl))
  | ((with_reducible refine' ve_wsa _ ?hT ?hc ?hj ?_ ?h1 ?h2); (case hT => assumption); (case hc => rfl); (case hj => decide); (case h1 => rfl); (case h2 => rfl))
  | ((with_reducible refine' ve_wtu _ ?hT ?hc ?hj ?_ ?h1); (case hT => assumption); (case hc => rfl); (case hj => decide); (case h1 => rfl))
  | ((with_reducible refine' ve_wsl ?hT ?hc ?hj ?_ ?h1); (case hT => assumption); (case hc => rfl); (case hj => decide); (case h1 => rfl))
  | ((with_reducible refine' ve_dyhf _ ?hT ?hc ?hj ?_ ?h1); (case hT => assumption); (case hc => rfl); (case hj => decide); (case h1 => rfl))
  | ((with_reducible refine' ve_wpoF _ ?hT ?hc ?hj ?_ ?h1); (case hT => assumption); (case hc => rfl); (case hj => decide); (case h1 => rfl))
  | ((with_reducible refine' ve_wall ?hT ?hc ?hj ?hg ?_ ?h1 ?h2); (case hT => assumption); (case hc => rfl); (case hj => decide); (case hg => decide +kernel); (case h1 => rfl); (case h2 => rfl))
  | ((with_reducible refine' ok2_i ?hx ?hy ?_); (case hx => walk_at "okn"); (case hy => walk_at "okn")))
variable {E : EnvR}
local macro_rules | `(tactic| walk_at "spec") => `(tactic| first
  | with_reducible refine' asDy_i ?_
  | with_reducible refine' asW_i ?_
  | ((with_reducible refine' ve_wsl ?hT ?hc ?hj ?_ ?h1); (case hT => assumption); (case hc => rfl); (case hj => decide); (case h1 => rfl)))
/-! ### stands -/
structure LnOk (A : Wal) : Prop where
  li : LinW A
  ev : ∀ q ∈ A.1 :: A.2, q.1 % 2 = 0 ∧ q.1 ≤ 500000000 ∧ q.1.natAbs ≤ 500000000 ∧ q.2.1.natAbs ≤ 500000000
  len : A.2.length + 1 ≤ 400
/-- X is the highest (sg = 1) or the lowest (sg = -1) of L -/
structure Stn (X : Wal) (L : List Wal) (sg : Int) : Prop where
  x : LnOk X
  can : Can X.1 X.2
  l : ∀ A ∈ L, LnOk A
  few : L.length ≤ 6
  sg1 : sg = 1 ∨ sg = -1
  v1 : ∀ x, 0 ≤ x → ∃ A ∈ L, sg * V A x = sg * V X x
  v2 : ∀ x, 0 ≤ x → ∀ A ∈ L, sg * V A x ≤ sg * V X x
  s1 : ∃ A ∈ L, sg * lastS A = sg * lastS X
  s2 : ∀ A ∈ L, sg * lastS A ≤ sg * lastS X
def S_stands (C CW : Addr) : SpV := fun ds w P _ => ∃ (X : Wal) (L : List Wal) (sg : Int), ds = [wallD C CW (scW X), .lst (L.map lineD), .int sg] ∧ Stn X L sg ∧ P (.bl true) w
theorem can_ix : ∀ {r : List Pc} {p : Pc} {i : Nat} {u q : Pc}, Can p r → (p :: r)[i]? = some u → (p :: r)[i + 1]? = some q → q.2.2 ≠ u.2.2
  | [], p, i, u, q, h, h1, h2 => by simp at h2
  | v :: r, p, 0, u, q, h, h1, h2 => by
    have e1 : p = u := by simpa using h1
    have e2 : v = q := by simpa using h2
    subst e1 e2
    exact h.1
  | v :: r, p, i + 1, u, q, h, h1, h2 => can_ix (r := r) (p := v) (i := i) h.2 (by simpa using h1) (by simpa using h2)
theorem max_eq {α : Type} {L : List α} {f : α → Int} {m : Int} (h1 : ∃ A ∈ L, f A = m) (h2 : ∀ A ∈ L, f A ≤ m) {y : Int} (y1 : y ∈ L.map f) (y2 : ∀ z, z ∈ L.map f → z ≤ y) : y = m := by
  obtain ⟨A, hA, e⟩ := h1
  obtain ⟨B, hB, e2⟩ := List.mem_map.mp y1
  have := y2 _ (List.mem_map.mpr ⟨A, hA, rfl⟩)
  have := h2 B hB
  omega
theorem ok__stands {f C CW CB : Addr} {fd : FuncData} (T : Li E C CW CB) (cp : Callable E "_law_line" 5 1 (S_line C CW)) (cq : Callable E "_law_at" 2 2 S_lat) (F : Fun E.K "_law_stands" "_law_stands" s__law_stands f fd) : FnV E 6 f fd p__law_stands (S_stands C CW) := by
  have T0 := T.c
  have T1 := T.c.a
  have B := T1.B
  refine fnV F sc__law_stands (fun ds w P R h => ?_) (fun c ds w P h => ?_)
  · obtain ⟨a, _, _, rfl, _⟩ := h; rfl
  · obtain ⟨X, L, sg, rfl, st, h⟩ := h
    have few := st.few
    have sg1 := st.sg1
    have xl := st.x.len
    have Lne : 0 < L.length := by
      obtain ⟨A, hA, _⟩ := st.s1
      exact List.length_pos_of_mem hA
    walk_at "let"
    walk_at "go"
    refine ⟨X, rfl, st.x.li, xl, fun q hq => (st.x.ev q hq).2.2, ?_⟩
    walk_at "if"
    walk_at "go"
    have hlD : ∀ A : Wal, lineD A = .tup [.lst ((A.1 :: A.2).map lq), .lst ((A.1 :: A.2).map slD)] := fun A => rfl
    refine if_f ?_
    walk_at "go"
    refine ve_lcW [("_law_k", 6)] rfl (by walk_at "blk") (vi_range2 (by decide +kernel) B.range ?_)
    rw [hlD X]
    walk_at "go"
    refine vcl_len rfl ?_
    rw [List.length_map, List.length_cons]
    walk_at "go"
    refine ⟨1, _, rfl, by omega, ?_⟩
    have hn : (((X.2.length + 1 : Nat) : Int) - 1).toNat = X.2.length := by omega
    rw [hn]
    refine ⟨fun _ _ _ => True.intro, True.intro, fun i acc => acc = [], rfl, ?_, ?_⟩
    · rintro i dd acc D0 hdd hD0 rfl
      obtain ⟨hi, rfl⟩ := rngD_get hdd
      obtain ⟨u, hu⟩ : ∃ u, (X.1 :: X.2)[i]? = some u := ⟨_, List.getElem?_eq_getElem (by rw [List.length_cons]; omega)⟩
      obtain ⟨q, hq⟩ : ∃ q, (X.1 :: X.2)[i + 1]? = some q := ⟨_, List.getElem?_eq_getElem (by rw [List.length_cons]; omega)⟩
      have hne := can_ix st.can hu hq
      refine lct1 fun c1 => ?_
      refine vg_nm (by walk_at "ix") (by decide +kernel) ?_
      intro c2
      walk_at "go"
      refine vx_seq rfl (atI_nat (n := i + 1) (map_get hq) (by omega)) ?_
      unfold slD
      walk_at "go"
      refine vx_seq rfl (atI_nat (n := i) (map_get hu) (by omega)) ?_
      walk_at "go"
      exact ⟨W.up_same, W.del_up_id hD0, rfl⟩
    · rintro acc rfl
      refine vcl_len rfl ?_
      walk_at "go"
      refine ite_dec (fun z => absurd z (by simp)) (fun _ => ?_)
      walk_at "nil"
      rw [← hlD X]
      walk_at "let"
      walk_at "go"
      refine vss_cons (vs_for [5] rfl (vi_list (ve_bin ?_)))
      walk_at "go"
      refine vo_cat rfl rfl (by rw [List.length_map]; show _ ≤ 2 ^ 24; show L.length + 1 ≤ _; omega) ?_
      rw [show [lineD X] = [X].map lineD from rfl, ← List.map_append]
      refine ⟨_, rfl, ?_⟩
      have allok : ∀ A ∈ L ++ [X], LnOk A := fun A hA => by
        rcases List.mem_append.mp hA with z | z
        · exact st.l A z
        · rw [List.mem_singleton.mp z]; exact st.x
      refine ⟨fun i Γ w' => w' = w ∧ ∃ (hs : List Int) (g5 : Option D), Γ = [some (wallD C CW (scW X)), some (.lst (L.map lineD)), some (.int sg), some (lineD X), some (.lst (hs.map D.int)), g5, none, none, none, none] ∧ hs.length ≤ 400 * i ∧ ∀ x ∈ hs, x % 2 = 0 ∧ 0 ≤ x ∧ x ≤ 500000000,
        ⟨rfl, [], none, rfl, Nat.le_refl _, fun x hx => by simp at hx⟩, fun _ _ _ _ _ => True.intro, ?_, ?_⟩
      · rintro i dd Γ w' hdd ⟨rfl, hs, g5, rfl, hsl, hsx⟩
        rw [List.getElem?_map] at hdd
        cases hA : (L ++ [X])[i]? with
        | none => rw [hA] at hdd; cases hdd
        | some A =>
          rw [hA] at hdd
          cases hdd
          have okA := allok A (List.mem_of_getElem? hA)
          have alen := okA.len
          have hil := (List.getElem?_eq_some_iff.mp hA).1
          rw [List.length_append] at hil
          have hil2 : i < L.length + 1 := hil
          refine vg_nm (by walk_at "ix") (by decide +kernel) ?_
          walk_at "let"
          walk_at "go"
          refine ve_lcW [("_law_point", 9)] rfl (by walk_at "blk") (vi_list ?_)
          rw [hlD A]
          walk_at "go"
          refine ⟨_, rfl, fun _ _ _ => True.intro, True.intro, fun j acc => acc = (((A.1 :: A.2).take j).map fun q => D.int q.1), rfl, ?_, ?_⟩
          · rintro j d2 acc D0 hdd hD0 hacc
            rw [List.getElem?_map] at hdd
            cases hq : (A.1 :: A.2)[j]? with
            | none => rw [hq] at hdd; cases hdd
            | some q =>
              rw [hq] at hdd
              cases hdd
              have hjl := (List.getElem?_eq_some_iff.mp hq).1
              rw [List.length_cons] at hjl
              unfold lq
              refine lct0 fun c1 => ?_
              refine vg_nm (by walk_at "ix") (by decide +kernel) ?_
              intro c3
              walk_at "go"
              refine ⟨by rw [hacc, List.length_map, List.length_take]; show _ < 2 ^ 24; omega, W.up_same, W.del_up_id hD0, ?_⟩
              subst hacc
              exact take_map (f := fun q : Pc => D.int q.1) hq
          · rintro acc hacc
            rw [List.length_map, List.take_length] at hacc
            have e2 : acc = ((A.1 :: A.2).map fun q => q.1).map D.int := by rw [hacc, List.map_map]; rfl
            have lenA : ((A.1 :: A.2).map fun q => q.1).length = A.2.length + 1 := by rw [List.length_map, List.length_cons]
            refine vo_cat rfl rfl (by rw [e2, List.length_map, List.length_map, lenA]; show _ ≤ 2 ^ 24; omega) ?_
            rw [e2, ← List.map_append]
            walk_at "nil"
            refine ⟨rfl, hs ++ (A.1 :: A.2).map (fun q => q.1), _, rfl, by rw [List.length_append, lenA]; omega, fun x hx => ?_⟩
            rcases List.mem_append.mp hx with z | z
            · exact hsx x z
            · obtain ⟨q, hq, rfl⟩ := List.mem_map.mp z
              obtain ⟨e1, e2, _⟩ := okA.ev q hq
              exact ⟨e1, lin0 okA.li q hq, e2⟩
      · rintro Γ w' ⟨rfl, hs, g5, rfl, hsl, hsx⟩
        rw [List.length_map, List.length_append] at hsl
        have hsl2 : hs.length ≤ 400 * (L.length + 1) := hsl
        walk_at "let"
        walk_at "go"
        refine vcl_sortedI rfl fun ts hp hsr => ?_
        have tsx : ∀ x ∈ ts, x % 2 = 0 ∧ 0 ≤ x ∧ x ≤ 500000000 := fun x hx => hsx x (hp.mem_iff.mp hx)
        have tsl : ts.length = hs.length := hp.length_eq
        refine vss_cons (vs_for [6] rfl (vi_range1 (by decide +kernel) B.range ?_))
        walk_at "go"
        refine vcl_len rfl ?_
        rw [List.length_map]
        walk_at "go"
        refine ⟨_, rfl, by omega, by omega, ?_⟩
        rw [Int.toNat_natCast]
        refine ⟨fun i Γ w2 => w2 = w' ∧ ∃ (g5 g6 g7 g8 : Option D), Γ = [some (wallD C CW (scW X)), some (.lst (L.map lineD)), some (.int sg), some (lineD X), some (.lst (ts.map D.int)), g5, g6, g7, g8, none], ⟨rfl, g5, none, none, none, rfl⟩, fun _ _ _ _ _ => True.intro, ?_, ?_⟩
        · rintro i dd Γ w2 hdd ⟨rfl, g5, g6, g7, g8, rfl⟩
          obtain ⟨hi, rfl⟩ := rngD_get hdd
          obtain ⟨t, ht⟩ : ∃ t, ts[i]? = some t := ⟨_, List.getElem?_eq_getElem hi⟩
          obtain ⟨t1, t2, t3⟩ := tsx t (List.mem_of_getElem? ht)
          refine vg_nm (by walk_at "ix") (by decide +kernel) ?_
          walk_at "let"
          walk_at "go"
          refine vx_seq rfl (atI_nat (n := i) (map_get ht) (by omega)) ?_
          walk_at "go"
          refine vss_if (fun Γ w3 => w3 = w2 ∧ ∃ (af : Int), (af % 2 = 0 ∧ 0 ≤ af ∧ af ≤ 500000004) ∧ Γ = [some (wallD C CW (scW X)), some (.lst (L.map lineD)), some (.int sg), some (lineD X), some (.lst (ts.map D.int)), g5, some (.int (i : Int)), some (.int af), g8, none]) ?_ ?_
          · walk_at "go"
            refine vcl_len rfl ?_
            rw [List.length_map]
            walk_at "go"
            refine ite_dec (fun h1 => ?_) (fun h1 => ?_)
            · obtain ⟨e, he⟩ : ∃ e, ts[i + 1]? = some e := ⟨_, List.getElem?_eq_getElem (by omega)⟩
              obtain ⟨u1, u2, u3⟩ := tsx e (List.mem_of_getElem? he)
              walk_at "let"
              walk_at "go"
              refine vx_seq rfl (atI_nat (n := i + 1) (map_get he) (by omega)) ?_
              walk_at "nil"
              refine ⟨rfl, e, ⟨u1, u2, by omega⟩, ?_⟩
              rw [show ((0 : Int) + (i : Int)) = (i : Int) by omega]; rfl
            · walk_at "nil"
              refine ⟨rfl, t + 4, ⟨by omega, by omega, by omega⟩, ?_⟩
              rw [show ((0 : Int) + (i : Int)) = (i : Int) by omega]; rfl
          · rintro Γ w3 ⟨rfl, af, ⟨f1, f2, f3⟩, rfl⟩
            walk_at "if"
            walk_at "go"
            refine vx_seq rfl (atI_nat (n := i) (map_get ht) rfl) ?_
            walk_at "go"
            walk_at "nil"
            refine vss_one (vs_for [8] rfl (vi_list ?_))
            walk_at "go"
            refine vx_seq rfl (atI_nat (n := i) (map_get ht) rfl) ?_
            walk_at "go"
            refine vx_seq rfl (atI_nat (n := i) (map_get ht) rfl) ?_
            walk_at "go"
            refine ⟨_, rfl, ?_⟩
            refine ⟨fun j Γ w4 => w4 = w3 ∧ ∃ (g8 : Option D), Γ = [some (wallD C CW (scW X)), some (.lst (L.map lineD)), some (.int sg), some (lineD X), some (.lst (ts.map D.int)), g5, some (.int (i : Int)), some (.int af), g8, none], ⟨rfl, g8, rfl⟩, fun _ _ _ _ _ => True.intro, ?_, ?_⟩
            · rintro j dd Γ w4 hdd ⟨rfl, g8, rfl⟩
              obtain ⟨x, rfl, x0⟩ : ∃ x : Int, dd = .int x ∧ 0 ≤ x := by
                rcases j with _ | _ | _ | j
                · simp at hdd; exact ⟨t, hdd.symm, t2⟩
                · simp at hdd; exact ⟨(t + af) / 2, hdd.symm, by omega⟩
                · simp at hdd; exact ⟨af, hdd.symm, f2⟩
                · simp at hdd
              refine vg_nm (by walk_at "ix") (by decide +kernel) ?_
              walk_at "if"
              walk_at "go"
              refine ⟨X, x, rfl, st.x.li, by omega, x0, ?_⟩
              refine vo_mul (.inl (by omega)) ?_
              walk_at "go"
              refine ve_lcW [("_law_each", 5)] rfl (by walk_at "blk") (vi_list ?_)
              walk_at "go"
              refine ⟨_, rfl, fun _ _ _ => True.intro, True.intro, fun l acc => acc = ((L.take l).map fun A => D.int (sg * V A x)), rfl, ?_, ?_⟩
              · rintro l d2 acc D0 hdd hD0 hacc
                rw [List.getElem?_map] at hdd
                cases hA : L[l]? with
                | none => rw [hA] at hdd; cases hdd
                | some A =>
                  rw [hA] at hdd
                  cases hdd
                  have okA := st.l A (List.mem_of_getElem? hA)
                  have alen := okA.len
                  refine lct0 fun c1 => ?_
                  refine vg_nm (by walk_at "ix") (by decide +kernel) ?_
                  intro c3
                  walk_at "go"
                  refine ⟨A, x, rfl, okA.li, by omega, x0, ?_⟩
                  refine vo_mul (.inl (by omega)) ?_
                  refine ⟨by rw [hacc, List.length_map, List.length_take]; show _ < 2 ^ 24; omega, W.up_same, W.del_up_id hD0, ?_⟩
                  subst hacc
                  exact take_map (f := fun A => D.int (sg * V A x)) hA
              · rintro acc hacc
                rw [List.length_map, List.take_length] at hacc
                refine vcl_max (ns := L.map fun A => sg * V A x) rfl (by rw [hacc, List.map_map]; rfl) (by rw [List.length_map]; exact Lne) fun y y1 y2 => ?_
                have ey := max_eq (st.v1 x x0) (st.v2 x x0) y1 y2
                rw [ey]
                walk_at "go"
                walk_at "nil"
                walk_at "nil"
                exact ⟨rfl, _, rfl⟩
            · rintro Γ w4 ⟨rfl, g8, rfl⟩
              exact ⟨rfl, _, _, _, _, rfl⟩
        · rintro Γ w2 ⟨rfl, g5, g6, g7, g8, rfl⟩
          walk_at "ret"
          walk_at "go"
          refine vo_mul (.inl (by omega)) ?_
          walk_at "go"
          refine ve_lcW [("_law_each", 5)] rfl (by walk_at "blk") (vi_list ?_)
          walk_at "go"
          refine ⟨_, rfl, fun _ _ _ => True.intro, True.intro, fun l acc => acc = ((L.take l).map fun A => D.int (sg * lastS A)), rfl, ?_, ?_⟩
          · rintro l d2 acc D0 hdd hD0 hacc
            rw [List.getElem?_map] at hdd
            cases hA : L[l]? with
            | none => rw [hA] at hdd; cases hdd
            | some A =>
              rw [hA] at hdd
              cases hdd
              refine lct0 fun c1 => ?_
              refine vg_nm (by walk_at "ix") (by decide +kernel) ?_
              intro c3
              rw [hlD A]
              walk_at "go"
              refine vx_seq rfl (last_map slD (List.cons_ne_nil _ _)) ?_
              rw [show slD ((A.1 :: A.2).getLast (List.cons_ne_nil _ _)) = .int (lastS A) from rfl]
              refine vo_mul (.inl (by omega)) ?_
              refine ⟨by rw [hacc, List.length_map, List.length_take]; show _ < 2 ^ 24; omega, W.up_same, W.del_up_id hD0, ?_⟩
              subst hacc
              exact take_map (f := fun A => D.int (sg * lastS A)) hA
          · rintro acc hacc
            rw [List.length_map, List.take_length] at hacc
            refine vcl_max (ns := L.map fun A => sg * lastS A) rfl (by rw [hacc, List.map_map]; rfl) (by rw [List.length_map]; exact Lne) fun y y1 y2 => ?_
            have ey := max_eq st.s1 st.s2 y1 y2
            rw [ey]
            walk_at "go"
            rw [sc_last, decide_eq_true rfl]
            exact h
end Wl

end

section
set_option maxRecDepth 100000
set_option maxHeartbeats 4000000
open PySem PySem.Spec PyProof.Rows L2 VL
local macro_rules | `(tactic| walk_at "ix") => `(tactic| first | with_reducible exact ix0 | with_reducible exact ix1 | with_reducible exact ix2 | with_reducible exact ix3 | with_reducible exact ix4 | with_reducible exact ix5 | with_reducible exact ix6 | with_reducible exact ix7 | with_reducible exact ix8 | with_reducible exact ix9 | with_reducible exact ix10 | with_reducible exact ix11 | with_reducible exact ix12 | with_reducible exact ix13 | with_reducible exact ix14 | with_reducible exact ix15 | with_reducible exact ix16)
local macro_rules | `(tactic| walk_at "num") => `(tactic| first | assumption | decide | omega | exact ⟨by decide, by decide⟩ | exact .inr ⟨by decide, by decide⟩ | exact .inl ⟨by decide, by decide⟩ | exact ⟨by omega, by omega, by omega⟩)
/- a name -/
local macro_rules | `(tactic| walk_at "name") => `(tactic| ((with_reducible refine' ve_nm ?hN ?hv ?hG ?_); (case hN => walk_at "ix"); (case hv => decide +kernel); (case hG => rfl)))
local macro_rules | `(tactic| walk_at "glob") => `(tactic| first
  | ((with_reducible refine' ve_gO ?hg ?hm ?_); (case hm => with_reducible assumption); (case hg => decide +kernel))
  | ((with_reducible refine' ve_gI ?hg ?hm ?_); (case hm => with_reducible assumption); (case hg => decide +kernel)))
local macro_rules | `(tactic| walk_at "tyname") => `(tactic| first
  | ((with_reducible refine' ve_ty "int" ?hg ?hm ?hv ?_); (case hg => decide +kernel); (case hm => exact (‹Blt _›).int); (case hv => exact bt_int))
  | ((with_reducible refine' ve_ty "bool" ?hg ?hm ?hv ?_); (case hg => decide +kernel); (case hm => exact (‹Blt _›).bool); (case hv => exact bt_bool))
  | ((with_reducible refine' ve_ty "str" ?hg ?hm ?hv ?_); (case hg => decide +kernel); (case hm => exact (‹Blt _›).str); (case hv => exact bt_str))
  | ((with_reducible refine' ve_ty "list" ?hg ?hm ?hv ?_); (case hg => decide +kernel); (case hm => exact (‹Blt _›).list); (case hv => exact bt_list))
  | ((with_reducible refine' ve_ty "tuple" ?hg ?hm ?hv ?_); (case hg => decide +kernel); (case hm => exact (‹Blt _›).tuple); (case hv => exact bt_tuple)))
local macro_rules | `(tactic| walk_at "blt") => `(tactic| first
  | ((with_reducible refine' blt1 "len" ?hg ?hm ?hv ?_ ?he); (case hg => decide +kernel); (case hm => exact (‹Blt _›).len); (case hv => exact bt_len); (case he => rfl))
  | ((with_reducible refine' blt1 "sum" ?hg ?hm ?hv ?_ ?he); (case hg => decide +kernel); (case hm => exact (‹Blt _›).sum); (case hv => exact bt_sum); (case he => rfl))
  | ((with_reducible refine' blt1 "abs" ?hg ?hm ?hv ?_ ?he); (case hg => decide +kernel); (case hm => exact (‹Blt _›).abs); (case hv => exact bt_abs); (case he => rfl))
  | ((with_reducible refine' blt1 "sorted" ?hg ?hm ?hv ?_ ?he); (case hg => decide +kernel); (case hm => exact (‹Blt _›).sorted); (case hv => exact bt_sorted); (case he => rfl))
  | ((with_reducible refine' blt1 "all" ?hg ?hm ?hv ?_ ?he); (case hg => decide +kernel); (case hm => exact (‹Blt _›).all); (case hv => exact bt_all); (case he => rfl))
  | ((with_reducible refine' blt1 "any" ?hg ?hm ?hv ?_ ?he); (case hg => decide +kernel); (case hm => exact (‹Blt _›).any); (case hv => exact bt_any); (case he => rfl))
  | ((with_reducible refine' blt1 "max" ?hg ?hm ?hv ?_ ?he); (case hg => decide +kernel); (case hm => exact (‹Blt _›).max); (case hv => exact bt_max); (case he => rfl))
  | ((with_reducible refine' blt1 "min" ?hg ?hm ?hv ?_ ?he); (case hg => decide +kernel); (case hm => exact (‹Blt _›).min); (case hv => exact bt_min); (case he => rfl))
  | ((with_reducible refine' blt2 "isinstance" ?hg ?hm ?hv ?_ ?he ?hf); (case hg => decide +kernel); (case hm => exact (‹Blt _›).isi); (case hv => exact bt_isi); (case he => rfl); (case hf => rfl))
  | ((with_reducible refine' blt2 "max" ?hg ?hm ?hv ?_ ?he ?hf); (case hg => decide +kernel); (case hm => exact (‹Blt _›).max); (case hv => exact bt_max); (case he => rfl); (case hf => rfl))
  | ((with_reducible refine' blt2 "min" ?hg ?hm ?hv ?_ ?he ?hf); (case hg => decide +kernel); (case hm => exact (‹Blt _›).min); (case hv => exact bt_min); (case he => rfl); (case hf => rfl))
  | ((with_reducible refine' bty1 "int" ?hg ?hm ?hv ?_ ?he); (case hg => decide +kernel); (case hm => exact (‹Blt _›).int); (case hv => exact bt_int); (case he => rfl))
  | ((with_reducible refine' bty1 "list" ?hg ?hm ?hv ?_ ?he); (case hg => decide +kernel); (case hm => exact (‹Blt _›).list); (case hv => exact bt_list); (case he => rfl))
  | ((with_reducible refine' bty1 "tuple" ?hg ?hm ?hv ?_ ?he); (case hg => decide +kernel); (case hm => exact (‹Blt _›).tuple); (case hv => exact bt_tuple); (case he => rfl))
  | ((with_reducible refine' bty1 "str" ?hg ?hm ?hv ?_ ?he); (case hg => decide +kernel); (case hm => exact (‹Blt _›).str); (case hv => exact bt_str); (case he => rfl)))
/- a call of a def of the text, its Callable in the context -/
local macro_rules | `(tactic| walk_at "call") => `(tactic| first
  | ((with_reducible refine' call1 ?h ?hc ?hj ?hg ?_ ?h1); (case h => with_reducible assumption); (case hc => rfl); (case hg => decide +kernel); (case hj => first | decide | omega); (case h1 => rfl))
  | ((with_reducible refine' call2 ?h ?hc ?hj ?hg ?_ ?h1 ?h2); (case h => with_reducible assumption); (case hc => rfl); (case hg => decide +kernel); (case hj => first | decide | omega); (case h1 => rfl); (case h2 => rfl))
  | ((with_reducible refine' call3 ?h ?hc ?hj ?hg ?_ ?h1 ?h2 ?h3); (case h => with_reducible assumption); (case hc => rfl); (case hg => decide +kernel); (case hj => first | decide | omega); (case h1 => rfl); (case h2 => rfl); (case h3 => rfl))
  | ((with_reducible refine' call4 ?h ?hc ?hj ?hg ?_ ?h1 ?h2 ?h3 ?h4); (case h => with_reducible assumption); (case hc => rfl); (case hg => decide +kernel); (case hj => first | decide | omega); (case h1 => rfl); (case h2 => rfl); (case h3 => rfl); (case h4 => rfl))
  | ((with_reducible refine' call0 ?h ?hc ?hj ?hg ?_); (case h => with_reducible assumption); (case hc => rfl); (case hg => decide +kernel); (case hj => first | decide | omega)))
/- one step -/
local macro_rules | `(tactic| walk_at "v") => `(tactic| first
  | with_reducible refine' asB_i ?_
  | with_reducible refine' asInt_i ?_
  | with_reducible refine' asObj_i ?_
  | with_reducible refine' if_t ?_
  | with_reducible refine' if_f ?_
  | with_reducible refine' if_nt ?_
  | with_reducible refine' if_nf ?_
  | ((with_reducible refine' if_dt ?h ?_); (case h => first | assumption | omega))
  | ((with_reducible refine' if_df ?h ?_); (case h => first | assumption | omega))
  | ((with_reducible refine' if_ndt ?h ?_); (case h => first | assumption | omega))
  | ((with_reducible refine' if_ndf ?h ?_); (case h => first | assumption | omega))
  | with_reducible refine' ve_int ?_
  | with_reducible refine' ve_str ?_
  | with_reducible refine' ve_bl ?_
  | with_reducible refine' ve_non ?_
  | walk_at "name"
  | with_reducible refine' ve_bin ?_
  | with_reducible refine' ve_cmp rfl ?_
  | with_reducible refine' vt_cmp rfl ?_
  | with_reducible refine' ve_not ?_
  | with_reducible refine' vt_not ?_
  | with_reducible refine' ve_and ?_
  | with_reducible refine' ve_or ?_
  | with_reducible refine' ve_one ?_
  | with_reducible refine' vw_and ?_
  | with_reducible refine' vw_or ?_
  | with_reducible refine' vw_and1 ?_
  | with_reducible refine' vw_or1 ?_
  | with_reducible refine' va_nil ?_
  | with_reducible refine' va_cons ?_ rfl
  | with_reducible refine' vo_add ?_
  | with_reducible refine' vo_sub ?_
  | with_reducible refine' vo_lt ?_
  | with_reducible refine' vo_le ?_
  | with_reducible refine' vo_gt ?_
  | with_reducible refine' vo_ge ?_
  | with_reducible refine' vo_eq ?_
  | with_reducible refine' vo_ne ?_
  | with_reducible refine' vo_eqS ?_
  | with_reducible refine' vo_neS ?_
  | with_reducible refine' vo_eqB ?_
  | with_reducible refine' vo_is ?_
  | with_reducible refine' vo_isnot ?_
  | with_reducible refine' vu_neg ?_
  | ((with_reducible refine' vo_mod ?h ?_); (case h => walk_at "num"))
  | ((with_reducible refine' vo_fdiv ?h ?_); (case h => walk_at "num"))
  | ((with_reducible refine' vo_mul ?h ?_); (case h => walk_at "num"))
  | ((with_reducible refine' vo_pow ?h ?_); (case h => walk_at "num"))
  | ((with_reducible refine' vo_shl ?h ?_); (case h => walk_at "num"))
  | ((with_reducible refine' ve_chain ?_ ?h); (case h => rfl))
  | ((with_reducible refine' vt_chain ?_ ?h); (case h => rfl))
  | with_reducible refine' ve_un ?_
  | with_reducible refine' ve_if ?_
  | with_reducible refine' vt_w (vw_and ?_)
  | with_reducible refine' vt_w (vw_or ?_)
  | ((with_reducible refine' and_len ?h ?_); (case h => exact len_small rfl))
  | walk_at "spec"
  | walk_at "call"
  | walk_at "blt"
  | ((with_reducible refine' ve_ix ?_ ?h); (case h => exact fun _ _ => rfl))
  | ((with_reducible refine' ve_tup ?_ ?h); (case h => exact pe_tup pa_w))
  | with_reducible refine' ve_lst ?_
  | walk_at "glob"
  | ((with_reducible refine' vt_tr ?_ ?he); (case he => intro _; rfl))
  | with_reducible refine' tr_bl ?_
  | with_reducible refine' tr_int ?_
  | with_reducible refine' tr_non ?_
  | with_reducible refine' tr_tup ?_
  | with_reducible refine' tr_lst ?_
  | walk_at "tyname"
  | ((with_reducible refine' vx_tup ?h ?_); (case h => rfl))
  | with_reducible refine' vcl_int ?_)
local macro_rules | `(tactic| walk_at "go") => `(tactic| repeat walk_at "v")
/- one statement: a name stored -/
local macro_rules | `(tactic| walk_at "let") => `(tactic| (refine' vss_cons (vs_lt ?hi ?hx ?_ ?hs); (case hi => walk_at "ix"); (case hx => decide +kernel); (case hs => rfl)))
local macro_rules | `(tactic| walk_at "ret") => `(tactic| refine' vss_cons (vs_ret ?_))
local macro_rules | `(tactic| walk_at "fld") => `(tactic| (refine' vss_cons (vs_fld ?_ ?hs); (case hs => rfl)))
local macro_rules | `(tactic| walk_at "if") => `(tactic| refine' vss_cons (vs_if ?_))
local macro_rules | `(tactic| walk_at "expr") => `(tactic| (refine' vss_cons (vs_expr ?_ ?hs); (case hs => rfl)))
local macro_rules | `(tactic| walk_at "nil") => `(tactic| refine' vss_nil ?_)
namespace Wl
open Wm
local macro_rules | `(tactic| walk_at "okn") => `(tactic| first | assumption | (refine' okn_R ?_ ?_ ?_ <;> omega) | (refine' okn_R21 ?_ ?_ ?_ <;> omega))
local macro_rules | `(tactic| walk_at "two") => `(tactic| (refine vg_two rfl (by walk_at "ix") (by decide +kernel) (by walk_at "ix") (by decide +kernel) ?_ rfl rfl rfl rfl))
local macro_rules | `(tactic| walk_at "blk") => `(tactic| exact ⟨rfl, by decide +kernel, by decide +kernel, by decide +kernel, by decide +kernel⟩)
local macro_rules | `(tactic| walk_at "spec") => `(tactic| first
  | with_reducible refine' asDy_i ?_
  | with_reducible refine' asW_i ?_
  | ((with_reducible refine' S_scaled_i ?ho ?_); (case ho => walk_at "okn"))
  | ((with_reducible refine' ve_dyT ?hT ?hc ?hj ?_ ?h1); (case hT => exact (‹Dy3 _ _›).d2.d1); (case hc => rfl); (case hj => decide); (case h1 => rfl))
  | ((with_reducible refine' ve_dyP ?hT ?hc ?hj ?_ ?h1); (case hT => exact (‹Dy3 _ _›).d2.d1); (case hc => rfl); (case hj => decide); (case h1 => rfl))
  | ((with_reducible refine' vo_dyadd ?hT ?hc ?hj ?hx ?hy ?hz ?_); (case hT => exact (‹Dy3 _ _›).d2); (case hc => rfl); (case hj => decide); (case hx => walk_at "okn"); (case hy => walk_at "okn"); (case hz => walk_at "okn"))
  | ((with_reducible refine' vu_dyneg ?hT ?hc ?hj ?hx ?_); (case hT => exact (‹Dy3 _ _›).d2); (case hc => rfl); (case hj => decide); (case hx => walk_at "okn"))
  | ((with_reducible refine' vo_dysub ?hT ?hc ?hj ?hx ?hy ?hz ?_); (case hT => assumption); (case hc => rfl); (case hj => decide); (case hx => walk_at "okn"); (case hy => walk_at "okn"); (case hz => walk_at "okn"))
  | ((with_reducible refine' ve_dyless _ ?hT ?hc ?hj ?_ ?h1 ?h2); (case hT => assumption); (case hc => rfl); (case hj => decide); (case h1 => rfl); (case h2 => rfl))
  | ((with_reducible refine' ve_dysame _ ?hT ?hc ?hj ?_ ?h1 ?h2); (case hT => assumption); (case hc => rfl); (case hj => decide); (case h1 => rfl); (case h2 => rfl))
  | ((with_reducible refine' ve_wat _ ?hT ?hc ?hj ?_ ?h1 ?h2); (case hT => assumption); (case hc => rfl); (case hj => decide); (case h1 => rfl); (case h2 => rfl))
  | ((with_reducible refine' ve_wsa _ ?hT ?hc ?hj ?_ ?h1 ?h2); (case hT => assumption); (case hc => rfl); (case hj => decide); (case h1 => rfl); (case h2 => rfl))
  | ((with_reducible refine' ve_wtu _ ?hT ?hc ?hj ?_ ?h1); (case hT => assumption); (case hc => rfl); (case hj => decide); (case h1 => rfl))
  | ((with_reducible refine' ve_wsl ?hT ?hc ?hj ?_ ?h1); (case hT => assumption); (case hc => rfl); (case hj => decide); (case h1 => rfl))
  | ((with_reducible refine' ve_dyhf _ ?hT ?hc ?hj ?_ ?h1); (case hT => assumption); (case hc => rfl); (case hj => decide); (case h1 => rfl))
  | ((with_reducible refine' ve_wpoF _ ?hT ?hc ?hj ?_ ?h1); (case hT => assumption); (case hc => rfl); (case hj => decide); (case h1 => rfl))
  | ((with_reducible refine' ve_wall ?hT ?hc ?hj ?hg ?_ ?h1 ?h2); (case hT => assumption); (case hc => rfl); (case hj => decide); (case hg => decide +kernel); (case h1 => rfl); (case h2 => rfl))
  | ((with_reducible refine' ok2_i ?hx ?hy ?_); (case hx => walk_at "okn"); (case hy => walk_at "okn")))
variable {E : EnvR}
/-! ### what the law's walls are -/
/-- the lines of a script -/
structure LsOk (L : List Wal) (n most : Nat) : Prop where
  len : L.length = n
  dr : ∀ A ∈ L, Dr A ∧ A.2.length < most
  nm : (1 ≤ n ∧ n ≤ 4 ∧ most = 6) ∨ (5 ≤ n ∧ n ≤ 6 ∧ most = 3)
def shW (A : Wal) : Wal := scW (mrgW A)
theorem sh_bd {A : Wal} (h : Dr A) : BdW 4294967296 21474836480000 (shW A) := by
  refine ⟨sc_lin (mrgW_ok h.li).1, fun q hq => ?_⟩
  have hq' : q ∈ ((mrgW A).1 :: (mrgW A).2).map scP := hq
  obtain ⟨u, hu, rfl⟩ := List.mem_map.mp hq'
  obtain ⟨a, b, c, d, e, f⟩ := h.bd u (mrgW_mem u hu)
  refine ⟨?_, ?_, ?_, ?_, ?_, ?_⟩
  · show (4294967296 : Int) ∣ u.1 * 1073741824; omega
  · show (4294967296 : Int) ∣ u.2.1 * 1073741824; omega
  · show 0 ≤ u.1 * 1073741824; omega
  · show u.1 * 1073741824 ≤ 21474836480000; omega
  · show -21474836480000 ≤ u.2.1 * 1073741824; omega
  · show u.2.1 * 1073741824 ≤ 21474836480000; omega
theorem sh_V {A : Wal} (h : Dr A) {x : Int} (hx : 0 ≤ x) : V (shW A) (x * 1073741824) = V A x * 1073741824 := by
  unfold shW
  rw [sc_V, mrgW_V h.li hx]
theorem sh_can {A : Wal} (h : Dr A) : Can (shW A).1 (shW A).2 := sc_can (mrgW_ok h.li).2
theorem cnt_sh {most : Nat} : ∀ (L : List Wal), (∀ A ∈ L, A.2.length < most) → cntW (L.map shW) ≤ L.length * most
  | [], _ => by unfold cntW; simp
  | A :: L, h => by
    have ih := cnt_sh L fun U hU => h U (List.mem_cons_of_mem _ hU)
    have h1 := h A List.mem_cons_self
    have h2 := mrg_len A.1 A.2
    unfold cntW at *
    simp only [List.map_cons, List.sum_cons, List.length_cons]
    have e : (shW A).2.length = (mrg A.1 A.2).length := by show ((mrg A.1 A.2).map scP).length = _; rw [List.length_map]
    rw [e, Nat.succ_mul]
    omega
theorem LsOk.z {L : List Wal} {n most : Nat} (h : LsOk L n most) : cntW (L.map shW) ≤ 24 ∧ cntW (L.map shW) + cntW (L.map shW) * trg (L.map shW).length (L.map shW).length ≤ 390 := by
  have c := cnt_sh (most := most) L fun A hA => (h.dr A hA).2
  rw [h.len] at c
  rw [List.length_map, h.len]
  generalize cntW (L.map shW) = z at *
  rcases h.nm with ⟨h1, h2, h3⟩ | ⟨h1, h2, h3⟩
  · subst h3
    have : n = 1 ∨ n = 2 ∨ n = 3 ∨ n = 4 := by omega
    rcases this with e | e | e | e <;> subst e
    · rw [show trg 1 1 = 0 from rfl]; omega
    · rw [show trg 2 2 = 1 from rfl]; omega
    · rw [show trg 3 3 = 3 from rfl]; omega
    · rw [show trg 4 4 = 6 from rfl]; omega
  · subst h3
    have : n = 5 ∨ n = 6 := by omega
    rcases this with e | e <;> subst e
    · rw [show trg 5 5 = 10 from rfl]; omega
    · rw [show trg 6 6 = 15 from rfl]; omega
theorem LsOk.hi {L : List Wal} {n most : Nat} (h : LsOk L n most) : HiOk 2147483648 21474836480000 (L.map shW) := by
  obtain ⟨z1, z2⟩ := h.z
  refine ⟨fun e => ?_, fun A hA => ?_, by decide, by decide, by decide, by omega, by omega⟩
  · have := congrArg List.length e
    rw [List.length_map, h.len] at this
    have := h.nm
    simp at *; omega
  · obtain ⟨U, hU, rfl⟩ := List.mem_map.mp hA
    exact sh_bd (h.dr U hU).1
/-- a high or a low wall told by its places -/
structure Top (H : Wal) (L : List Wal) (sg : Int) : Prop where
  bd : BdW 2147483648 128849018880000 H
  can : Can H.1 H.2
  v1 : ∀ x, 0 ≤ x → ∃ A ∈ L, sg * V (shW A) x = sg * V H x
  v2 : ∀ x, 0 ≤ x → ∀ A ∈ L, sg * V (shW A) x ≤ sg * V H x
  len : H.2.length + 1 ≤ 390
theorem LsOk.high {L : List Wal} {n most : Nat} (h : LsOk L n most) {H : Wal} (r : HiRes 2147483648 21474836480000 (L.map shW) H) : Top H L 1 := by
  have rl := r.len
  obtain ⟨z1, z2⟩ := h.z
  refine ⟨r.bd, r.can, fun x hx => ?_, fun x hx A hA => ?_, by omega⟩
  · obtain ⟨⟨B, hB, e⟩, _⟩ := topv_ok x h.hi.ne
    obtain ⟨A, hA, rfl⟩ := List.mem_map.mp hB
    exact ⟨A, hA, by rw [r.val x hx, e]⟩
  · have := (topv_ok x h.hi.ne).2 _ (List.mem_map.mpr ⟨A, hA, rfl⟩)
    rw [r.val x hx]; omega
theorem LsOk.low {L : List Wal} {n most : Nat} (h : LsOk L n most) {H : Wal} (r : HiRes 2147483648 21474836480000 ((L.map shW).map ngW) H) : Top (ngW H) L (-1) := by
  have rl := r.len
  rw [cnt_ng, List.length_map] at rl
  obtain ⟨z1, z2⟩ := h.z
  have ne := h.hi.ng.ne
  refine ⟨ng_bd r.bd, ng_can r.can, fun x hx => ?_, fun x hx A hA => ?_, by show (H.2.map ngP).length + 1 ≤ _; rw [List.length_map]; omega⟩
  · obtain ⟨⟨B, hB, e⟩, _⟩ := topv_ok x ne
    obtain ⟨U, hU, rfl⟩ := List.mem_map.mp hB
    obtain ⟨A, hA, rfl⟩ := List.mem_map.mp hU
    refine ⟨A, hA, ?_⟩
    rw [ng_V, r.val x hx, e, ng_V]; omega
  · have := (topv_ok x ne).2 _ (List.mem_map.mpr ⟨_, List.mem_map.mpr ⟨A, hA, rfl⟩, rfl⟩)
    rw [ng_V] at this
    rw [ng_V, r.val x hx]; omega
theorem Top.dn {H : Wal} {L : List Wal} {sg : Int} (t : Top H L sg) : scW (dnW H) = H := dn_sc fun q hq => by
  obtain ⟨a, b, _⟩ := t.bd.bd q hq
  exact ⟨by omega, by omega⟩
theorem Top.ln {H : Wal} {L : List Wal} {sg : Int} (t : Top H L sg) : LnOk (dnW H) ∧ Can (dnW H).1 (dnW H).2 := by
  have e := t.dn
  have c1 : Chn (scP (dnW H).1) ((dnW H).2.map scP) := by
    have := t.bd.li.ch
    rw [← e] at this; exact this
  have z1 : (dnW H).1.1 = 0 := by show H.1.1 / 1073741824 = 0; rw [t.bd.li.z]; rfl
  have l1 := t.len
  refine ⟨⟨⟨z1, sc_chn' c1⟩, fun q hq => ?_, by show (H.2.map dnP).length + 1 ≤ _; rw [List.length_map]; omega⟩, ?_⟩
  · have hq' : q ∈ (H.1 :: H.2).map dnP := hq
    obtain ⟨u, hu, rfl⟩ := List.mem_map.mp hq'
    obtain ⟨a, b, c, d, e, f⟩ := t.bd.bd u hu
    refine ⟨?_, ?_, ?_, ?_⟩
    · show u.1 / 1073741824 % 2 = 0; omega
    · show u.1 / 1073741824 ≤ _; omega
    · show (u.1 / 1073741824).natAbs ≤ _; omega
    · show (u.2.1 / 1073741824).natAbs ≤ _; omega
  · have := t.can
    rw [← e] at this
    exact sc_can' this
theorem dr_ln {A : Wal} (h : Dr A) (hl : A.2.length < 6) : LnOk A := ⟨h.li, fun q hq => by
  obtain ⟨a, b, c, d, e, f⟩ := h.bd q hq
  exact ⟨by omega, by omega, by omega, by omega⟩, by omega⟩
theorem Top.stn {H : Wal} {L : List Wal} {sg : Int} {n most : Nat} (t : Top H L sg) (h : LsOk L n most) (hg : sg = 1 ∨ sg = -1) : Stn (dnW H) L sg := by
  obtain ⟨ln, can⟩ := t.ln
  have e := t.dn
  have ll := h.len
  have drl : ∀ A ∈ L, LnOk A := fun A hA => dr_ln (h.dr A hA).1 (by have := (h.dr A hA).2; have := h.nm; omega)
  have vH : ∀ x, 0 ≤ x → V H (x * 1073741824) = V (dnW H) x * 1073741824 := fun x hx => by
    have := sc_V (dnW H) x
    rw [e] at this; exact this
  have v1 : ∀ x, 0 ≤ x → ∃ A ∈ L, sg * V A x = sg * V (dnW H) x := fun x hx => by
    obtain ⟨A, hA, q⟩ := t.v1 (x * 1073741824) (by omega)
    rw [vH x hx, sh_V (h.dr A hA).1 hx] at q
    exact ⟨A, hA, by rcases hg with g | g <;> rw [g] at q ⊢ <;> omega⟩
  have v2 : ∀ x, 0 ≤ x → ∀ A ∈ L, sg * V A x ≤ sg * V (dnW H) x := fun x hx A hA => by
    have q := t.v2 (x * 1073741824) (by omega) A hA
    rw [vH x hx, sh_V (h.dr A hA).1 hx] at q
    rcases hg with g | g <;> rw [g] at q ⊢ <;> omega
  obtain ⟨s1, s2⟩ := last_of hg (B := 500000000) (by decide) ln.li (fun q hq => by obtain ⟨a, b, c, d⟩ := ln.ev q hq; exact ⟨by omega, by omega, by omega⟩) (fun A hA => (drl A hA).li)
    (fun A hA q hq => by obtain ⟨a, b, c, d⟩ := (drl A hA).ev q hq; exact ⟨by omega, by omega, by omega⟩) v1 v2
  exact ⟨ln, can, drl, by have := h.nm; omega, hg, v1, v2, s1, s2⟩
theorem LsOk.rev {L : List Wal} {n most : Nat} (h : LsOk L n most) : LsOk L.reverse n most := ⟨by rw [List.length_reverse]; exact h.len, fun A hA => h.dr A (List.mem_reverse.mp hA), h.nm⟩
theorem Top.rev {H : Wal} {L : List Wal} {sg : Int} (t : Top H L.reverse sg) : Top H L sg :=
  ⟨t.bd, t.can, fun x hx => by obtain ⟨A, hA, e⟩ := t.v1 x hx; exact ⟨A, List.mem_reverse.mp hA, e⟩, fun x hx A hA => t.v2 x hx A (List.mem_reverse.mpr hA), t.len⟩
/-- the highest of walls below one of them is this one -/
theorem hi_same {Ks : List Wal} {R X : Wal} (hX : X ∈ Ks) (liX : LinW X) (canX : Can X.1 X.2) (hle : ∀ x, 0 ≤ x → ∀ K ∈ Ks, V K x ≤ V X x) {m B : Int} (r : HiRes m B Ks R) : R = X :=
  uniqW r.bd.li r.can liX canX fun x hx => by rw [r.val x hx]; exact (topv_uniq ⟨X, hX, rfl⟩ (hle x hx)).symm
theorem bd_up {m m' B B' : Int} {A : Wal} (h : BdW m B A) (hm : m' ∣ m) (hB : B ≤ B') : BdW m' B' A := ⟨h.li, fun q hq => by
  obtain ⟨a, b, c, d, e, f⟩ := h.bd q hq
  exact ⟨Int.dvd_trans hm a, Int.dvd_trans hm b, c, by omega, by omega, by omega⟩⟩
theorem hi_three {H1 H2 H3 : Wal} (b1 : BdW 2147483648 128849018880000 H1) (b2 : BdW 2147483648 128849018880000 H2) (b3 : BdW 2147483648 128849018880000 H3) (l1 : H1.2.length + 1 ≤ 390) (l2 : H2.2.length + 1 ≤ 390) (l3 : H3.2.length + 1 ≤ 390) : HiOk 1073741824 128849018880000 [H1, H2, H3] := by
  have c : cntW [H1, H2, H3] ≤ 1170 := by unfold cntW; simp only [List.map_cons, List.map_nil, List.sum_cons, List.sum_nil]; omega
  refine ⟨by simp, fun A hA => ?_, by decide, by decide, by decide, by omega, ?_⟩
  · simp at hA
    rcases hA with e | e | e <;> rw [e] <;> assumption
  · rw [show trg ([H1, H2, H3] : List Wal).length ([H1, H2, H3] : List Wal).length = 3 from rfl]; omega
theorem hi_two {H1 H2 : Wal} (b1 : BdW 2147483648 128849018880000 H1) (b2 : BdW 2147483648 128849018880000 H2) (l1 : H1.2.length + 1 ≤ 390) (l2 : H2.2.length + 1 ≤ 390) : HiOk 1073741824 128849018880000 [H1, H2] := by
  have c : cntW [H1, H2] ≤ 780 := by unfold cntW; simp only [List.map_cons, List.map_nil, List.sum_cons, List.sum_nil]; omega
  refine ⟨by simp, fun A hA => ?_, by decide, by decide, by decide, by omega, ?_⟩
  · simp at hA
    rcases hA with e | e <;> rw [e] <;> assumption
  · rw [show trg ([H1, H2] : List Wal).length ([H1, H2] : List Wal).length = 1 from rfl]; omega
end Wl

end

section
set_option maxRecDepth 100000
set_option maxHeartbeats 4000000
open PySem PySem.Spec PyProof.Rows L2 VL
local macro_rules | `(tactic| walk_at "ix") => `(tactic| first | with_reducible exact ix0 | with_reducible exact ix1 | with_reducible exact ix2 | with_reducible exact ix3 | with_reducible exact ix4 | with_reducible exact ix5 | with_reducible exact ix6 | with_reducible exact ix7 | with_reducible exact ix8 | with_reducible exact ix9 | with_reducible exact ix10 | with_reducible exact ix11 | with_reducible exact ix12 | with_reducible exact ix13 | with_reducible exact ix14 | with_reducible exact ix15 | with_reducible exact ix16)
local macro_rules | `(tactic| walk_at "num") => `(tactic| first | assumption | decide | omega | exact ⟨by decide, by decide⟩ | exact .inr ⟨by decide, by decide⟩ | exact .inl ⟨by decide, by decide⟩ | exact ⟨by omega, by omega, by omega⟩)
/- a name -/
local macro_rules | `(tactic| walk_at "name") => `(tactic| ((with_reducible refine' ve_nm ?hN ?hv ?hG ?_); (case hN => walk_at "ix"); (case hv => decide +kernel); (case hG => rfl)))
local macro_rules | `(tactic| walk_at "glob") => `(tactic| first
  | ((with_reducible refine' ve_gO ?hg ?hm ?_); (case hm => with_reducible assumption); (case hg => decide +kernel))
  | ((with_reducible refine' ve_gI ?hg ?hm ?_); (case hm => with_reducible assumption); (case hg => decide +kernel)))
local macro_rules | `(tactic| walk_at "tyname") => `(tactic| first
  | ((with_reducible refine' ve_ty "int" ?hg ?hm ?hv ?_); (case hg => decide +kernel); (case hm => exact (‹Blt _›).int); (case hv => exact bt_int))
  | ((with_reducible refine' ve_ty "bool" ?hg ?hm ?hv ?_); (case hg => decide +kernel); (case hm => exact (‹Blt _›).bool); (case hv => exact bt_bool))
  | ((with_reducible refine' ve_ty "str" ?hg ?hm ?hv ?_); (case hg => decide +kernel); (case hm => exact (‹Blt _›).str); (case hv => exact bt_str))
  | ((with_reducible refine' ve_ty "list" ?hg ?hm ?hv ?_); (case hg => decide +kernel); (case hm => exact (‹Blt _›).list); (case hv => exact bt_list))
  | ((with_reducible refine' ve_ty "tuple" ?hg ?hm ?hv ?_); (case hg => decide +kernel); (case hm => exact (‹Blt _›).tuple); (case hv => exact bt_tuple)))
local macro_rules | `(tactic| walk_at "blt") => `(tactic| first
  | ((with_reducible refine' blt1 "len" ?hg ?hm ?hv ?_ ?he); (case hg => decide +kernel); (case hm => exact (‹Blt _›).len); (case hv => exact bt_len); (case he => rfl))
  | ((with_reducible refine' blt1 "sum" ?hg ?hm ?hv ?_ ?he); (case hg => decide +kernel); (case hm => exact (‹Blt _›).sum); (case hv => exact bt_sum); (case he => rfl))
  | ((with_reducible refine' blt1 "abs" ?hg ?hm ?hv ?_ ?he); (case hg => decide +kernel); (case hm => exact (‹Blt _›).abs); (case hv => exact bt_abs); (case he => rfl))
  | ((with_reducible refine' blt1 "sorted" ?hg ?hm ?hv ?_ ?he); (case hg => decide +kernel); (case hm => exact (‹Blt _›).sorted); (case hv => exact bt_sorted); (case he => rfl))
  | ((with_reducible refine' blt1 "all" ?hg ?hm ?hv ?_ ?he); (case hg => decide +kernel); (case hm => exact (‹Blt _›).all); (case hv => exact bt_all); (case he => rfl))
  | ((with_reducible refine' blt1 "any" ?hg ?hm ?hv ?_ ?he); (case hg => decide +kernel); (case hm => exact (‹Blt _›).any); (case hv => exact bt_any); (case he => rfl))
  | ((with_reducible refine' blt1 "max" ?hg ?hm ?hv ?_ ?he); (case hg => decide +kernel); (case hm => exact (‹Blt _›).max); (case hv => exact bt_max); (case he => rfl))
  | ((with_reducible refine' blt1 "min" ?hg ?hm ?hv ?_ ?he); (case hg => decide +kernel); (case hm => exact (‹Blt _›).min); (case hv => exact bt_min); (case he => rfl))
  | ((with_reducible refine' blt2 "isinstance" ?hg ?hm ?hv ?_ ?he ?hf); (case hg => decide +kernel); (case hm => exact (‹Blt _›).isi); (case hv => exact bt_isi); (case he => rfl); (case hf => rfl))
  | ((with_reducible refine' blt2 "max" ?hg ?hm ?hv ?_ ?he ?hf); (case hg => decide +kernel); (case hm => exact (‹Blt _›).max); (case hv => exact bt_max); (case he => rfl); (case hf => rfl))
  | ((with_reducible refine' blt2 "min" ?hg ?hm ?hv ?_ ?he ?hf); (case hg => decide +kernel); (case hm => exact (‹Blt _›).min); (case hv => exact bt_min); (case he => rfl); (case hf => rfl))
  | ((with_reducible refine' bty1 "int" ?hg ?hm ?hv ?_ ?he); (case hg => decide +kernel); (case hm => exact (‹Blt _›).int); (case hv => exact bt_int); (case he => rfl))
  | ((with_reducible refine' bty1 "list" ?hg ?hm ?hv ?_ ?he); (case hg => decide +kernel); (case hm => exact (‹Blt _›).list); (case hv => exact bt_list); (case he => rfl))
  | ((with_reducible refine' bty1 "tuple" ?hg ?hm ?hv ?_ ?he); (case hg => decide +kernel); (case hm => exact (‹Blt _›).tuple); (case hv => exact bt_tuple); (case he => rfl))
  | ((with_reducible refine' bty1 "str" ?hg ?hm ?hv ?_ ?he); (case hg => decide +kernel); (case hm => exact (‹Blt _›).str); (case hv => exact bt_str); (case he => rfl)))
/- a call of a def of the text, its Callable in the context -/
local macro_rules | `(tactic| walk_at "call") => `(tactic| first
  | ((with_reducible refine' call1 ?h ?hc ?hj ?hg ?_ ?h1); (case h => with_reducible assumption); (case hc => rfl); (case hg => decide +kernel); (case hj => first | decide | omega); (case h1 => rfl))
  | ((with_reducible refine' call2 ?h ?hc ?hj ?hg ?_ ?h1 ?h2); (case h => with_reducible assumption); (case hc => rfl); (case hg => decide +kernel); (case hj => first | decide | omega); (case h1 => rfl); (case h2 => rfl))
  | ((with_reducible refine' call3 ?h ?hc ?hj ?hg ?_ ?h1 ?h2 ?h3); (case h => with_reducible assumption); (case hc => rfl); (case hg => decide +kernel); (case hj => first | decide | omega); (case h1 => rfl); (case h2 => rfl); (case h3 => rfl))
  | ((with_reducible refine' call4 ?h ?hc ?hj ?hg ?_ ?h1 ?h2 ?h3 ?h4); (case h => with_reducible assumption); (case hc => rfl); (case hg => decide +kernel); (case hj => first | decide | omega); (case h1 => rfl); (case h2 => rfl); (case h3 => rfl); (case h4 => rfl))
  | ((with_reducible refine' call0 ?h ?hc ?hj ?hg ?_); (case h => with_reducible assumption); (case hc => rfl); (case hg => decide +kernel); (case hj => first | decide | omega)))
/- one step -/
local macro_rules | `(tactic| walk_at "v") => `(tactic| first
  | with_reducible refine' asB_i ?_
  | with_reducible refine' asInt_i ?_
  | with_reducible refine' asObj_i ?_
  | with_reducible refine' if_t ?_
  | with_reducible refine' if_f ?_
  | with_reducible refine' if_nt ?_
  | with_reducible refine' if_nf ?_
  | ((with_reducible refine' if_dt ?h ?_); (case h => first | assumption | omega))
  | ((with_reducible refine' if_df ?h ?_); (case h => first | assumption | omega))
  | ((with_reducible refine' if_ndt ?h ?_); (case h => first | assumption | omega))
  | ((with_reducible refine' if_ndf ?h ?_); (case h => first | assumption | omega))
  | with_reducible refine' ve_int ?_
  | with_reducible refine' ve_str ?_
  | with_reducible refine' ve_bl ?_
  | with_reducible refine' ve_non ?_
  | walk_at "name"
  | with_reducible refine' ve_bin ?_
  | with_reducible refine' ve_cmp rfl ?_
  | with_reducible refine' vt_cmp rfl ?_
  | with_reducible refine' ve_not ?_
  | with_reducible refine' vt_not ?_
  | with_reducible refine' ve_and ?_
  | with_reducible refine' ve_or ?_
  | with_reducible refine' ve_one ?_
  | with_reducible refine' vw_and ?_
  | with_reducible refine' vw_or ?_
  | with_reducible refine' vw_and1 ?_
  | with_reducible refine' vw_or1 ?_
  | with_reducible refine' va_nil ?_
  | with_reducible refine' va_cons ?_ rfl
  | with_reducible refine' vo_add ?_
  | with_reducible refine' vo_sub ?_
  | with_reducible refine' vo_lt ?_
  | with_reducible refine' vo_le ?_
  | with_reducible refine' vo_gt ?_
  | with_reducible refine' vo_ge ?_
  | with_reducible refine' vo_eq ?_
  | with_reducible refine' vo_ne ?_
  | with_reducible refine' vo_eqS ?_
  | with_reducible refine' vo_neS ?_
  | with_reducible refine' vo_eqB ?_
  | with_reducible refine' vo_is ?_
  | with_reducible refine' vo_isnot ?_
  | with_reducible refine' vu_neg ?_
  | ((with_reducible refine' vo_mod ?h ?_); (case h => walk_at "num"))
  | ((with_reducible refine' vo_fdiv ?h ?_); (case h => walk_at "num"))
  | ((with_reducible refine' vo_mul ?h ?_); (case h => walk_at "num"))
  | ((with_reducible refine' vo_pow ?h ?_); (case h => walk_at "num"))
  | ((with_reducible refine' vo_shl ?h ?_); (case h => walk_at "num"))
  | ((with_reducible refine' ve_chain ?_ ?h); (case h => rfl))
  | ((with_reducible refine' vt_chain ?_ ?h); (case h => rfl))
  | with_reducible refine' ve_un ?_
  | with_reducible refine' ve_if ?_
  | with_reducible refine' vt_w (vw_and ?_)
  | with_reducible refine' vt_w (vw_or ?_)
  | ((with_reducible refine' and_len ?h ?_); (case h => exact len_small rfl))
  | walk_at "spec"
  | walk_at "call"
  | walk_at "blt"
  | ((with_reducible refine' ve_ix ?_ ?h); (case h => exact fun _ _ => rfl))
  | ((with_reducible refine' ve_tup ?_ ?h); (case h => exact pe_tup pa_w))
  | with_reducible refine' ve_lst ?_
  | walk_at "glob"
  | ((with_reducible refine' vt_tr ?_ ?he); (case he => intro _; rfl))
  | with_reducible refine' tr_bl ?_
  | with_reducible refine' tr_int ?_
  | with_reducible refine' tr_non ?_
  | with_reducible refine' tr_tup ?_
  | with_reducible refine' tr_lst ?_
  | walk_at "tyname"
  | ((with_reducible refine' vx_tup ?h ?_); (case h => rfl))
  | with_reducible refine' vcl_int ?_)
local macro_rules | `(tactic| walk_at "go") => `(tactic| repeat walk_at "v")
/- one statement: a name stored -/
local macro_rules | `(tactic| walk_at "let") => `(tactic| (refine' vss_cons (vs_lt ?hi ?hx ?_ ?hs); (case hi => walk_at "ix"); (case hx => decide +kernel); (case hs => rfl)))
local macro_rules | `(tactic| walk_at "ret") => `(tactic| refine' vss_cons (vs_ret ?_))
local macro_rules | `(tactic| walk_at "fld") => `(tactic| (refine' vss_cons (vs_fld ?_ ?hs); (case hs => rfl)))
local macro_rules | `(tactic| walk_at "if") => `(tactic| refine' vss_cons (vs_if ?_))
local macro_rules | `(tactic| walk_at "expr") => `(tactic| (refine' vss_cons (vs_expr ?_ ?hs); (case hs => rfl)))
local macro_rules | `(tactic| walk_at "nil") => `(tactic| refine' vss_nil ?_)
namespace Wl
open Wm
local macro_rules | `(tactic| walk_at "okn") => `(tactic| first | assumption | (refine' okn_R ?_ ?_ ?_ <;> omega) | (refine' okn_R21 ?_ ?_ ?_ <;> omega))
local macro_rules | `(tactic| walk_at "two") => `(tactic| (refine vg_two rfl (by walk_at "ix") (by decide +kernel) (by walk_at "ix") (by decide +kernel) ?_ rfl rfl rfl rfl))
local macro_rules | `(tactic| walk_at "blk") => `(tactic| exact ⟨rfl, by decide +kernel, by decide +kernel, by decide +kernel, by decide +kernel⟩)
local macro_rules | `(tactic| walk_at "spec") => `(tactic| first
  | with_reducible refine' asDy_i ?_
  | with_reducible refine' asW_i ?_
  | ((with_reducible refine' S_scaled_i ?ho ?_); (case ho => walk_at "okn"))
  | ((with_reducible refine' ve_dyT ?hT ?hc ?hj ?_ ?h1); (case hT => exact (‹Dy3 _ _›).d2.d1); (case hc => rfl); (case hj => decide); (case h1 => rfl))
  | ((with_reducible refine' ve_dyP ?hT ?hc ?hj ?_ ?h1); (case hT => exact (‹Dy3 _ _›).d2.d1); (case hc => rfl); (case hj => decide); (case h1 => rfl))
  | ((with_reducible refine' vo_dyadd ?hT ?hc ?hj ?hx ?hy ?hz ?_); (case hT => exact (‹Dy3 _ _›).d2); (case hc => rfl); (case hj => decide); (case hx => walk_at "okn"); (case hy => walk_at "okn"); (case hz => walk_at "okn"))
  | ((with_reducible refine' vu_dyneg ?hT ?hc ?hj ?hx ?_); (case hT => exact (‹Dy3 _ _›).d2); (case hc => rfl); (case hj => decide); (case hx => walk_at "okn"))
  | ((with_reducible refine' vo_dysub ?hT ?hc ?hj ?hx ?hy ?hz ?_); (case hT => assumption); (case hc => rfl); (case hj => decide); (case hx => walk_at "okn"); (case hy => walk_at "okn"); (case hz => walk_at "okn"))
  | ((with_reducible refine' ve_dyless _ ?hT ?hc ?hj ?_ ?h1 ?h2); (case hT => assumption); (case hc => rfl); (case hj => decide); (case h1 => rfl); (case h2 => rfl))
  | ((with_reducible refine' ve_dysame _ ?hT ?hc ?hj ?_ ?h1 ?h2); (case hT => assumption); (case hc => rfl); (case hj => decide); (case h1 => rfl); (case h2 => rfl))
  | ((with_reducible refine' ve_wat _ ?hT ?hc ?hj ?_ ?h1 ?h2); (case hT => assumption); (case hc => rfl); (case hj => decide); (case h1 => rfl); (case h2 => rfl))
  | ((with_reducible refine' ve_wsa _ ?hT ?hc ?hj ?_ ?h1 ?h2); (case hT => assumption); (case hc => rfl); (case hj => decide); (case h1 => rfl); (case h2 => rfl))
  | ((with_reducible refine' ve_wtu _ ?hT ?hc ?hj ?_ ?h1); (case hT => assumption); (case hc => rfl); (case hj => decide); (case h1 => rfl))
  | ((with_reducible refine' ve_wsl ?hT ?hc ?hj ?_ ?h1); (case hT => assumption); (case hc => rfl); (case hj => decide); (case h1 => rfl))
  | ((with_reducible refine' ve_dyhf _ ?hT ?hc ?hj ?_ ?h1); (case hT => assumption); (case hc => rfl); (case hj => decide); (case h1 => rfl))
  | ((with_reducible refine' ve_wpoF _ ?hT ?hc ?hj ?_ ?h1); (case hT => assumption); (case hc => rfl); (case hj => decide); (case h1 => rfl))
  | ((with_reducible refine' ve_wall ?hT ?hc ?hj ?hg ?_ ?h1 ?h2); (case hT => assumption); (case hc => rfl); (case hj => decide); (case hg => decide +kernel); (case h1 => rfl); (case h2 => rfl))
  | ((with_reducible refine' ok2_i ?hx ?hy ?_); (case hx => walk_at "okn"); (case hy => walk_at "okn")))
variable {E : EnvR}
local macro_rules | `(tactic| walk_at "spec") => `(tactic| fail)
theorem sh_len {A : Wal} (h : A.2.length < 6) : (shW A).2.length + 1 ≤ 390 := by
  have := mrg_len A.1 A.2
  have e : (shW A).2.length = (mrg A.1 A.2).length := by show ((mrg A.1 A.2).map scP).length = _; rw [List.length_map]
  omega
theorem ok_law {f C CW CB : Addr} {fd : FuncData} (T : Li E C CW CB) (c1 : Callable E "_law_cell" 1 2 S_cell) (c2 : Callable E "_law_drawn" 2 3 S_drawn) (c3 : Callable E "_law_shut" 9 1 (S_shut C CW)) (c4 : Callable E "highest" 9 1 (S_highest C CW)) (c5 : Callable E "lowest" 10 1 (S_lowest C CW))
    (c6 : Callable E "_law_stands" 6 3 (S_stands C CW)) (c7 : Callable E "_law_told" 5 2 (S_told C CW)) (c8 : Callable E "_law_line" 5 1 (S_line C CW)) (F : Fun E.K "law" "law" s_law f fd) : FnV E 12 f fd p_law SLaw := by
  have T0 := T.c
  have T1 := T.c.a
  have B := T1.B
  refine fnV F sc_law (fun ds w P R h => ?_) (fun c ds w P h => ?_)
  · obtain ⟨a, rfl, _⟩ := h; rfl
  · obtain ⟨ns, rfl, hns, h⟩ := h
    walk_at "let"
    walk_at "go"
    refine ⟨ns, 0, rfl, by decide, by decide, fun v => ?_⟩
    walk_at "go"
    walk_at "let"
    walk_at "go"
    walk_at "let"
    walk_at "go"
    generalize hcv : v % 96 = cv
    have cv0 : 0 ≤ cv := by omega
    refine vss_if (fun Γ w' => w' = w ∧ ∃ (n most : Nat), ((1 ≤ n ∧ n ≤ 4 ∧ most = 6) ∨ (5 ≤ n ∧ n ≤ 6 ∧ most = 3)) ∧ Γ = [some (.scr ns), some (.int cv), some (.int (n : Int)), some (.int (most : Int)), none, none, none, none, none, none, none]) ?_ ?_
    · walk_at "go"
      refine ite_dec (fun h1 => ?_) (fun h1 => ?_)
      · walk_at "let"
        walk_at "go"
        walk_at "let"
        walk_at "go"
        walk_at "nil"
        refine ⟨rfl, (5 + cv % 2).toNat, 3, .inr ⟨by omega, by omega, rfl⟩, ?_⟩
        rw [show (((5 + cv % 2).toNat : Nat) : Int) = 5 + cv % 2 by omega]; rfl
      · walk_at "nil"
        refine ⟨rfl, (1 + cv % 4).toNat, 6, .inl ⟨by omega, by omega, rfl⟩, ?_⟩
        rw [show (((1 + cv % 4).toNat : Nat) : Int) = 1 + cv % 4 by omega]; rfl
    rintro Γ w ⟨rfl, n, most, nm, rfl⟩
    have nb : n ≤ 6 := by omega
    have mb : 1 ≤ most ∧ most ≤ 6 := by omega
    refine vss_cons (vs_setLcW 4 [("_law_k", 8)] rfl rfl (by walk_at "blk") rfl (by decide +kernel) (by decide +kernel) (by decide +kernel) (vi_range1 (by decide +kernel) B.range ?_))
    walk_at "go"
    refine ⟨_, rfl, by omega, by omega, ?_⟩
    rw [Int.toNat_natCast]
    refine ⟨fun _ _ _ => True.intro, True.intro, fun i acc => ∃ Ls : List Wal, acc = Ls.map lineD ∧ Ls.length = i ∧ ∀ A ∈ Ls, Dr A ∧ A.2.length < most, ⟨[], rfl, rfl, fun A hA => by simp at hA⟩, ?_, ?_⟩
    · rintro i dd acc D0 hdd hD0 ⟨Ls, rfl, hLl, hLs⟩
      obtain ⟨hi, rfl⟩ := rngD_get hdd
      refine lct0 fun q1 => ?_
      refine vg_nm (by walk_at "ix") (by decide +kernel) ?_
      intro q2
      walk_at "go"
      refine ⟨ns, _, rfl, by omega, by omega, fun v1 => ?_⟩
      walk_at "go"
      refine ⟨ns, _, rfl, by omega, by omega, fun v2 => ?_⟩
      walk_at "go"
      refine ⟨v1, v2, most, rfl, mb.1, mb.2, fun A hA hAl => ?_⟩
      refine ⟨by rw [List.length_map]; show _ < 2 ^ 24; omega, W.up_same, W.del_up_id hD0, Ls ++ [A], by rw [List.map_append]; rfl, by rw [List.length_append, hLl]; rfl, fun U hU => ?_⟩
      rcases List.mem_append.mp hU with z | z
      · exact hLs U z
      · rw [List.mem_singleton.mp z]; exact ⟨hA, hAl⟩
    rintro acc ⟨L, rfl, hLl, hLs⟩
    rw [rngD_len] at hLl
    have ok : LsOk L n most := ⟨hLl, hLs, nm⟩
    have dl : ∀ A ∈ L, A.2.length < 6 := fun A hA => by have := (hLs A hA).2; omega
    refine vss_cons (vs_setLcWM 5 [("_law_line_here", 10)] rfl rfl (by walk_at "blk") rfl (by decide +kernel) (by decide +kernel) (by decide +kernel) (vi_list ?_))
    walk_at "go"
    refine ⟨_, rfl, fun _ _ _ => True.intro, True.intro, fun i acc => acc = (L.take i).map (fun A => wallD C CW (shW A)), rfl, ?_, ?_⟩
    · intro i dd acc D0 hdd hD0 hacc
      rw [List.getElem?_map] at hdd
      cases hA : L[i]? with
      | none => rw [hA] at hdd; cases hdd
      | some A =>
        rw [hA] at hdd
        cases hdd
        have hAm := List.mem_of_getElem? hA
        obtain ⟨dA, lA⟩ := hLs A hAm
        refine lct0 fun q1 => ?_
        refine vg_nm (by walk_at "ix") (by decide +kernel) ?_
        intro q2
        walk_at "go"
        refine ⟨A, rfl, dA.li, by omega, fun q hq => ?_, ?_⟩
        · obtain ⟨a, b, c, d, e, f⟩ := dA.bd q hq
          exact ⟨by omega, by omega⟩
        rw [sc_mrgW]
        refine ⟨by rw [hacc, List.length_map, List.length_take]; show _ < 2 ^ 24; omega, W.up_same, W.del_up_id hD0, ?_⟩
        subst hacc
        exact take_map (f := fun A => wallD C CW (shW A)) hA
    rintro acc sl hsl rfl
    rw [List.length_map, List.take_length]
    have eSh : ∀ M : List Wal, M.map (fun A => wallD C CW (shW A)) = (M.map shW).map (wallD C CW) := fun M => by rw [List.map_map]; rfl
    have cl : ∀ M : List Wal, (∀ A ∈ M, A ∈ L) → ∀ A ∈ M.map shW, Can A.1 A.2 ∧ A.2.length < 100000 := fun M hM A hA => by
      obtain ⟨U, hU, rfl⟩ := List.mem_map.mp hA
      exact ⟨sh_can (hLs U (hM U hU)).1, by have := sh_len (dl U (hM U hU)); omega⟩
    walk_at "let"
    walk_at "go"
    refine ⟨_, L.map shW, 2147483648, 21474836480000, rfl, by rw [← eSh]; exact seqD_obj W.up_same, ok.hi, fun H hH => ?_⟩
    have tH := ok.high hH
    walk_at "let"
    walk_at "go"
    refine ⟨_, L.map shW, 2147483648, 21474836480000, rfl, by rw [← eSh]; exact seqD_obj W.up_same, ok.hi, cl L fun _ z => z, fun G hG => ?_⟩
    have tG := ok.low hG
    generalize ngW G = LW at tG
    have sH := tH.stn ok (.inl rfl)
    have sG := tG.stn ok (.inr rfl)
    walk_at "if"
    walk_at "go"
    refine ⟨dnW H, L, 1, by rw [tH.dn], sH, ?_⟩
    walk_at "go"
    refine ⟨dnW LW, L, -1, by rw [tG.dn], sG, ?_⟩
    walk_at "go"
    refine vcl_len (itemsD_of (seqD_obj W.up_same)) ?_
    rw [List.length_map, hLl]
    walk_at "go"
    walk_at "nil"
    refine vss_cons (vs_for [8] rfl (vi_range1 (by decide +kernel) B.range ?_))
    walk_at "go"
    refine ⟨_, rfl, by omega, by omega, ?_⟩
    rw [Int.toNat_natCast]
    refine ⟨fun i Γ w2 => w2 = w.up sl (.lst (L.map fun A => wallD C CW (shW A))) ∧ ∃ (g8 : Option D), Γ = [some (.scr ns), some (.int cv), some (.int (n : Int)), some (.int (most : Int)), some (.lst (L.map lineD)), some (.obj sl), some (wallD C CW H), some (wallD C CW LW), g8, none, none], ⟨rfl, _, rfl⟩, fun _ _ _ _ _ => True.intro, ?_, ?_⟩
    · rintro i dd Γ w2 hdd ⟨rfl, g8, rfl⟩
      obtain ⟨hi, rfl⟩ := rngD_get hdd
      obtain ⟨A, hA⟩ : ∃ A, L[i]? = some A := ⟨_, List.getElem?_eq_getElem (by omega)⟩
      obtain ⟨dA, lA⟩ := hLs A (List.mem_of_getElem? hA)
      refine vg_nm (by walk_at "ix") (by decide +kernel) ?_
      walk_at "if"
      walk_at "go"
      refine vx_seq (seqD_obj W.up_same) (atI_nat (n := i) (map_get hA) (by omega)) ?_
      walk_at "go"
      refine vx_seq rfl (atI_nat (n := i) (map_get hA) (by omega)) ?_
      walk_at "go"
      refine ⟨A, by rw [sc_mrgW]; rfl, dA.li, by omega, ?_⟩
      walk_at "go"
      walk_at "nil"
      walk_at "nil"
      exact ⟨rfl, _, rfl⟩
    · rintro Γ w2 ⟨rfl, g8, rfl⟩
      walk_at "expr"
      refine ve_reverse ?_
      walk_at "go"
      refine ⟨_, W.up_same, ?_⟩
      rw [W.up_up, ← List.map_reverse]
      have okR := ok.rev
      walk_at "if"
      walk_at "go"
      refine ⟨_, L.reverse.map shW, 2147483648, 21474836480000, rfl, by rw [← eSh]; exact seqD_obj W.up_same, okR.hi, fun H2 hH2 => ?_⟩
      have tH2 := (okR.high hH2).rev
      walk_at "go"
      refine ⟨dnW H2, L, 1, by rw [tH2.dn], tH2.stn ok (.inl rfl), ?_⟩
      walk_at "go"
      refine ⟨_, L.reverse.map shW, 2147483648, 21474836480000, rfl, by rw [← eSh]; exact seqD_obj W.up_same, okR.hi, cl L.reverse fun _ z => List.mem_reverse.mp z, fun G2 hG2 => ?_⟩
      have tG2 := (okR.low hG2).rev
      walk_at "go"
      refine ⟨dnW (ngW G2), L, -1, by rw [tG2.dn], tG2.stn ok (.inr rfl), ?_⟩
      walk_at "go"
      walk_at "nil"
      obtain ⟨Z, R, hR⟩ : ∃ Z R, L.reverse = Z :: R := by
        cases q : L.reverse with
        | nil =>
          have := congrArg List.length q
          rw [List.length_reverse, hLl] at this
          simp at this; omega
        | cons Z R => exact ⟨Z, R, rfl⟩
      have hL2 : L = R.reverse ++ [Z] := by
        have := congrArg List.reverse hR
        rw [List.reverse_reverse, List.reverse_cons] at this
        exact this
      have hZ : Z ∈ L := by rw [hL2]; simp
      obtain ⟨dZ, lZ⟩ := hLs Z hZ
      have zb := bd_up (sh_bd dZ) (m' := 2147483648) (B' := 128849018880000) (by decide) (by decide)
      rw [hR]
      walk_at "let"
      walk_at "go"
      refine vx_seq (seqD_obj W.up_same) (atI_nat (n := 0) rfl rfl) ?_
      walk_at "go"
      refine vx_seq (seqD_obj W.up_same) (atI_nat (n := 0) rfl rfl) ?_
      walk_at "go"
      refine ⟨_, [shW Z, LW, shW Z], 1073741824, 128849018880000, rfl, rfl, hi_three zb tG.bd zb (sh_len (dl Z hZ)) tG.len (sh_len (dl Z hZ)), fun Ag hAg => ?_⟩
      have eAg : Ag = shW Z := hi_same List.mem_cons_self zb.li (sh_can dZ) (fun x hx K hK => by
        simp at hK
        rcases hK with e | e | e
        · rw [e]; exact Int.le_refl _
        · have := tG.v2 x hx Z hZ; rw [e]; omega
        · rw [e]; exact Int.le_refl _) hAg
      subst eAg
      walk_at "ret"
      walk_at "go"
      refine vx_seq rfl (i := -1) (d := lineD Z) (by rw [hL2]; exact last_snoc lineD) ?_
      walk_at "go"
      refine ⟨Z, by rw [sc_mrgW]; rfl, dZ.li, by omega, ?_⟩
      walk_at "go"
      refine ⟨_, [H, LW], 1073741824, 128849018880000, rfl, rfl, hi_two tH.bd tG.bd tH.len tG.len, fun Bg hBg => ?_⟩
      have eBg : Bg = H := hi_same List.mem_cons_self tH.bd.li tH.can (fun x hx K hK => by
        simp at hK
        rcases hK with e | e
        · rw [e]; exact Int.le_refl _
        · have a1 := tG.v2 x hx Z hZ
          have a2 := tH.v2 x hx Z hZ
          rw [e]; omega) hBg
      subst eBg
      obtain ⟨lnH, canH⟩ := tH.ln
      have lnl := lnH.len
      walk_at "go"
      refine ⟨dnW Bg, by rw [tH.dn], lnH.li, lnl, fun q hq => (lnH.ev q hq).2.2, ?_⟩
      walk_at "go"
      refine ⟨dnW Bg, ?_, lnH.li, by omega, ?_⟩
      · have e : mrgW (scW (dnW Bg)) = Bg := by
          rw [tH.dn]
          show (Bg.1, mrg Bg.1 Bg.2) = Bg
          rw [mrg_id tH.can]
        rw [e]
      exact h _
end Wl

end

section
set_option maxRecDepth 100000
set_option maxHeartbeats 4000000
open PySem PySem.Spec PyProof.Rows L2 VL
local macro_rules | `(tactic| walk_at "ix") => `(tactic| first | with_reducible exact ix0 | with_reducible exact ix1 | with_reducible exact ix2 | with_reducible exact ix3 | with_reducible exact ix4 | with_reducible exact ix5 | with_reducible exact ix6 | with_reducible exact ix7 | with_reducible exact ix8 | with_reducible exact ix9 | with_reducible exact ix10 | with_reducible exact ix11 | with_reducible exact ix12 | with_reducible exact ix13 | with_reducible exact ix14 | with_reducible exact ix15 | with_reducible exact ix16)
local macro_rules | `(tactic| walk_at "num") => `(tactic| first | assumption | decide | omega | exact ⟨by decide, by decide⟩ | exact .inr ⟨by decide, by decide⟩ | exact .inl ⟨by decide, by decide⟩ | exact ⟨by omega, by omega, by omega⟩)
/- a name -/
local macro_rules | `(tactic| walk_at "name") => `(tactic| ((with_reducible refine' ve_nm ?hN ?hv ?hG ?_); (case hN => walk_at "ix"); (case hv => decide +kernel); (case hG => rfl)))
local macro_rules | `(tactic| walk_at "glob") => `(tactic| first
  | ((with_reducible refine' ve_gO ?hg ?hm ?_); (case hm => with_reducible assumption); (case hg => decide +kernel))
  | ((with_reducible refine' ve_gI ?hg ?hm ?_); (case hm => with_reducible assumption); (case hg => decide +kernel)))
local macro_rules | `(tactic| walk_at "tyname") => `(tactic| first
  | ((with_reducible refine' ve_ty "int" ?hg ?hm ?hv ?_); (case hg => decide +kernel); (case hm => exact (‹Blt _›).int); (case hv => exact bt_int))
  | ((with_reducible refine' ve_ty "bool" ?hg ?hm ?hv ?_); (case hg => decide +kernel); (case hm => exact (‹Blt _›).bool); (case hv => exact bt_bool))
  | ((with_reducible refine' ve_ty "str" ?hg ?hm ?hv ?_); (case hg => decide +kernel); (case hm => exact (‹Blt _›).str); (case hv => exact bt_str))
  | ((with_reducible refine' ve_ty "list" ?hg ?hm ?hv ?_); (case hg => decide +kernel); (case hm => exact (‹Blt _›).list); (case hv => exact bt_list))
  | ((with_reducible refine' ve_ty "tuple" ?hg ?hm ?hv ?_); (case hg => decide +kernel); (case hm => exact (‹Blt _›).tuple); (case hv => exact bt_tuple)))
local macro_rules | `(tactic| walk_at "blt") => `(tactic| first
  | ((with_reducible refine' blt1 "len" ?hg ?hm ?hv ?_ ?he); (case hg => decide +kernel); (case hm => exact (‹Blt _›).len); (case hv => exact bt_len); (case he => rfl))
  | ((with_reducible refine' blt1 "sum" ?hg ?hm ?hv ?_ ?he); (case hg => decide +kernel); (case hm => exact (‹Blt _›).sum); (case hv => exact bt_sum); (case he => rfl))
  | ((with_reducible refine' blt1 "abs" ?hg ?hm ?hv ?_ ?he); (case hg => decide +kernel); (case hm => exact (‹Blt _›).abs); (case hv => exact bt_abs); (case he => rfl))
  | ((with_reducible refine' blt1 "sorted" ?hg ?hm ?hv ?_ ?he); (case hg => decide +kernel); (case hm => exact (‹Blt _›).sorted); (case hv => exact bt_sorted); (case he => rfl))
  | ((with_reducible refine' blt1 "all" ?hg ?hm ?hv ?_ ?he); (case hg => decide +kernel); (case hm => exact (‹Blt _›).all); (case hv => exact bt_all); (case he => rfl))
  | ((with_reducible refine' blt1 "any" ?hg ?hm ?hv ?_ ?he); (case hg => decide +kernel); (case hm => exact (‹Blt _›).any); (case hv => exact bt_any); (case he => rfl))
  | ((with_reducible refine' blt1 "max" ?hg ?hm ?hv ?_ ?he); (case hg => decide +kernel); (case hm => exact (‹Blt _›).max); (case hv => exact bt_max); (case he => rfl))
  | ((with_reducible refine' blt1 "min" ?hg ?hm ?hv ?_ ?he); (case hg => decide +kernel); (case hm => exact (‹Blt _›).min); (case hv => exact bt_min); (case he => rfl))
  | ((with_reducible refine' blt2 "isinstance" ?hg ?hm ?hv ?_ ?he ?hf); (case hg => decide +kernel); (case hm => exact (‹Blt _›).isi); (case hv => exact bt_isi); (case he => rfl); (case hf => rfl))
  | ((with_reducible refine' blt2 "max" ?hg ?hm ?hv ?_ ?he ?hf); (case hg => decide +kernel); (case hm => exact (‹Blt _›).max); (case hv => exact bt_max); (case he => rfl); (case hf => rfl))
  | ((with_reducible refine' blt2 "min" ?hg ?hm ?hv ?_ ?he ?hf); (case hg => decide +kernel); (case hm => exact (‹Blt _›).min); (case hv => exact bt_min); (case he => rfl); (case hf => rfl))
  | ((with_reducible refine' bty1 "int" ?hg ?hm ?hv ?_ ?he); (case hg => decide +kernel); (case hm => exact (‹Blt _›).int); (case hv => exact bt_int); (case he => rfl))
  | ((with_reducible refine' bty1 "list" ?hg ?hm ?hv ?_ ?he); (case hg => decide +kernel); (case hm => exact (‹Blt _›).list); (case hv => exact bt_list); (case he => rfl))
  | ((with_reducible refine' bty1 "tuple" ?hg ?hm ?hv ?_ ?he); (case hg => decide +kernel); (case hm => exact (‹Blt _›).tuple); (case hv => exact bt_tuple); (case he => rfl))
  | ((with_reducible refine' bty1 "str" ?hg ?hm ?hv ?_ ?he); (case hg => decide +kernel); (case hm => exact (‹Blt _›).str); (case hv => exact bt_str); (case he => rfl)))
/- a call of a def of the text, its Callable in the context -/
local macro_rules | `(tactic| walk_at "call") => `(tactic| first
  | ((with_reducible refine' call1 ?h ?hc ?hj ?hg ?_ ?h1); (case h => with_reducible assumption); (case hc => rfl); (case hg => decide +kernel); (case hj => first | decide | omega); (case h1 => rfl))
  | ((with_reducible refine' call2 ?h ?hc ?hj ?hg ?_ ?h1 ?h2); (case h => with_reducible assumption); (case hc => rfl); (case hg => decide +kernel); (case hj => first | decide | omega); (case h1 => rfl); (case h2 => rfl))
  | ((with_reducible refine' call3 ?h ?hc ?hj ?hg ?_ ?h1 ?h2 ?h3); (case h => with_reducible assumption); (case hc => rfl); (case hg => decide +kernel); (case hj => first | decide | omega); (case h1 => rfl); (case h2 => rfl); (case h3 => rfl))
  | ((with_reducible refine' call4 ?h ?hc ?hj ?hg ?_ ?h1 ?h2 ?h3 ?h4); (case h => with_reducible assumption); (case hc => rfl); (case hg => decide +kernel); (case hj => first | decide | omega); (case h1 => rfl); (case h2 => rfl); (case h3 => rfl); (case h4 => rfl))
  | ((with_reducible refine' call0 ?h ?hc ?hj ?hg ?_); (case h => with_reducible assumption); (case hc => rfl); (case hg => decide +kernel); (case hj => first | decide | omega)))
/- one step -/
local macro_rules | `(tactic| walk_at "v") => `(tactic| first
  | with_reducible refine' asB_i ?_
  | with_reducible refine' asInt_i ?_
  | with_reducible refine' asObj_i ?_
  | with_reducible refine' if_t ?_
  | with_reducible refine' if_f ?_
  | with_reducible refine' if_nt ?_
  | with_reducible refine' if_nf ?_
  | ((with_reducible refine' if_dt ?h ?_); (case h => first | assumption | omega))
  | ((with_reducible refine' if_df ?h ?_); (case h => first | assumption | omega))
  | ((with_reducible refine' if_ndt ?h ?_); (case h => first | assumption | omega))
  | ((with_reducible refine' if_ndf ?h ?_); (case h => first | assumption | omega))
  | with_reducible refine' ve_int ?_
  | with_reducible refine' ve_str ?_
  | with_reducible refine' ve_bl ?_
  | with_reducible refine' ve_non ?_
  | walk_at "name"
  | with_reducible refine' ve_bin ?_
  | with_reducible refine' ve_cmp rfl ?_
  | with_reducible refine' vt_cmp rfl ?_
  | with_reducible refine' ve_not ?_
  | with_reducible refine' vt_not ?_
  | with_reducible refine' ve_and ?_
  | with_reducible refine' ve_or ?_
  | with_reducible refine' ve_one ?_
  | with_reducible refine' vw_and ?_
  | with_reducible refine' vw_or ?_
  | with_reducible refine' vw_and1 ?_
  | with_reducible refine' vw_or1 ?_
  | with_reducible refine' va_nil ?_
  | with_reducible refine' va_cons ?_ rfl
  | with_reducible refine' vo_add ?_
  | with_reducible refine' vo_sub ?_
  | with_reducible refine' vo_lt ?_
  | with_reducible refine' vo_le ?_
  | with_reducible refine' vo_gt ?_
  | with_reducible refine' vo_ge ?_
  | with_reducible refine' vo_eq ?_
  | with_reducible refine' vo_ne ?_
  | with_reducible refine' vo_eqS ?_
  | with_reducible refine' vo_neS ?_
  | with_reducible refine' vo_eqB ?_
  | with_reducible refine' vo_is ?_
  | with_reducible refine' vo_isnot ?_
  | with_reducible refine' vu_neg ?_
  | ((with_reducible refine' vo_mod ?h ?_); (case h => walk_at "num"))
  | ((with_reducible refine' vo_fdiv ?h ?_); (case h => walk_at "num"))
  | ((with_reducible refine' vo_mul ?h ?_); (case h => walk_at "num"))
  | ((with_reducible refine' vo_pow ?h ?_); (case h => walk_at "num"))
  | ((with_reducible refine' vo_shl ?h ?_); (case h => walk_at "num"))
  | ((with_reducible refine' ve_chain ?_ ?h); (case h => rfl))
  | ((with_reducible refine' vt_chain ?_ ?h); (case h => rfl))
  | with_reducible refine' ve_un ?_
  | with_reducible refine' ve_if ?_
  | with_reducible refine' vt_w (vw_and ?_)
  | with_reducible refine' vt_w (vw_or ?_)
  | ((with_reducible refine' and_len ?h ?_); (case h => exact len_small rfl))
  | walk_at "spec"
  | walk_at "call"
  | walk_at "blt"
  | ((with_reducible refine' ve_ix ?_ ?h); (case h => exact fun _ _ => rfl))
  | ((with_reducible refine' ve_tup ?_ ?h); (case h => exact pe_tup pa_w))
  | with_reducible refine' ve_lst ?_
  | walk_at "glob"
  | ((with_reducible refine' vt_tr ?_ ?he); (case he => intro _; rfl))
  | with_reducible refine' tr_bl ?_
  | with_reducible refine' tr_int ?_
  | with_reducible refine' tr_non ?_
  | with_reducible refine' tr_tup ?_
  | with_reducible refine' tr_lst ?_
  | walk_at "tyname"
  | ((with_reducible refine' vx_tup ?h ?_); (case h => rfl))
  | with_reducible refine' vcl_int ?_)
local macro_rules | `(tactic| walk_at "go") => `(tactic| repeat walk_at "v")
/- one statement: a name stored -/
local macro_rules | `(tactic| walk_at "let") => `(tactic| (refine' vss_cons (vs_lt ?hi ?hx ?_ ?hs); (case hi => walk_at "ix"); (case hx => decide +kernel); (case hs => rfl)))
local macro_rules | `(tactic| walk_at "ret") => `(tactic| refine' vss_cons (vs_ret ?_))
local macro_rules | `(tactic| walk_at "fld") => `(tactic| (refine' vss_cons (vs_fld ?_ ?hs); (case hs => rfl)))
local macro_rules | `(tactic| walk_at "if") => `(tactic| refine' vss_cons (vs_if ?_))
local macro_rules | `(tactic| walk_at "expr") => `(tactic| (refine' vss_cons (vs_expr ?_ ?hs); (case hs => rfl)))
local macro_rules | `(tactic| walk_at "nil") => `(tactic| refine' vss_nil ?_)
namespace Wl
open Wm
local macro_rules | `(tactic| walk_at "spec") => `(tactic| first
  | with_reducible refine' S_is_integer_i ?_
  | ((with_reducible refine' S_reduced_i ?h ?_); (case h => omega)))
variable {E : EnvR}
theorem ok_initD {f C CB : Addr} {fd : FuncData} {dvs : List V} {kws : List (Str × V)} (T : DyT E C CB) (F : FunD E.K "__init__" "Dyadic.__init__" (defArgs s_Dyadic___init__) (defBody s_Dyadic___init__) (defScope s_Dyadic___init__) dvs kws f fd) (c1 : Callable E "is_integer" 1 1 S_is_integer) (c2 : Callable E "reduced" 1 2 S_reduced) : FnV E 2 f fd p_Dyadic___init__ (S_Dyinit C) := by
  refine fnVD F sc_Dyadic___init__ (fun ds w P R h => ?_) (fun c ds w P h => ?_)
  · unfold S_Dyinit at h; split at h <;> first | rfl | exact h.elim
  · unfold S_Dyinit at h
    split at h
    · rename_i x t p
      obtain ⟨⟨h1, h2, h3⟩, hw, h4⟩ := h
      obtain ⟨tt, htm⟩ := T.tm
      obtain ⟨tp, hpm⟩ := T.pm
      have B := T.B
      walk_at "if"
      walk_at "go"
      walk_at "nil"
      walk_at "if"
      walk_at "go"
      walk_at "nil"
      walk_at "let"
      walk_at "go"
      walk_at "fld"
      walk_at "go"
      refine ⟨C, [], hw, T.cl, T.nT, by decide, ?_⟩
      walk_at "fld"
      walk_at "go"
      refine ⟨C, _, W.up_same, T.cl, T.nP, by show 1 < 1000; decide, ?_⟩
      walk_at "nil"
      show P .non _
      have e : putD "_power" (.int ((red t p.toNat).2 : Int)) (putD "_top" (.int (red t p.toNat).1) []) = dyF (t * 2 ^ (40 - p.toNat)) := by
        rw [put_nil, put_there k_tp', put_nil, red_pt (by omega)]
      rw [W.up_up, e]
      exact h4
    · exact h.elim
theorem kit_self {K : PySem.W.Frag} {C : Addr} : PySem.W.kitOne K (.ref C) (.ref C) = some true := by
  unfold PySem.W.kitOne
  have e : (Value.ref C == Value.ref C) = true := by first | rfl | simp | exact beq_self_eq_true _
  rw [if_pos e]
theorem all_mk {l : PySem.W.OpenLaw} {w : World} {K : PySem.W.Frag} {h : Heap} {mg : Str → Option Value} {fa C CW CB : Addr} (X : K.In h) (G : h.Ns mainGlobals mg) (hfa : mg "law" = some (.ref fa))
    {fis_integer : Addr} {odis_integer anis_integer : Option Addr} {osis_integer : Array (Option Value)} {ocis_integer kVis_integer dcis_integer pmis_integer cdis_integer ctis_integer : Value} {freduced : Addr} {odreduced anreduced : Option Addr} {osreduced : Array (Option Value)} {ocreduced kVreduced dcreduced pmreduced cdreduced ctreduced : Value} {fscaled : Addr} {odscaled anscaled : Option Addr} {osscaled : Array (Option Value)} {ocscaled kVscaled dcscaled pmscaled cdscaled ctscaled : Value} {fslope_between : Addr} {odslope_between anslope_between : Option Addr} {osslope_between : Array (Option Value)} {ocslope_between kVslope_between dcslope_between pmslope_between cdslope_between ctslope_between : Value} {ftimes : Addr} {odtimes antimes : Option Addr} {ostimes : Array (Option Value)} {octimes kVtimes dctimes pmtimes cdtimes cttimes : Value} {fall_heats : Addr} {odall_heats anall_heats : Option Addr} {osall_heats : Array (Option Value)} {ocall_heats kVall_heats dcall_heats pmall_heats cdall_heats ctall_heats : Value} {fcrossing : Addr} {odcrossing ancrossing : Option Addr} {oscrossing : Array (Option Value)} {occrossing kVcrossing dccrossing pmcrossing cdcrossing ctcrossing : Value} {fcrossings : Addr} {odcrossings ancrossings : Option Addr} {oscrossings : Array (Option Value)} {occrossings kVcrossings dccrossings pmcrossings cdcrossings ctcrossings : Value} {fhighest : Addr} {odhighest anhighest : Option Addr} {oshighest : Array (Option Value)} {ochighest kVhighest dchighest pmhighest cdhighest cthighest : Value} {ftop_of : Addr} {odtop_of antop_of : Option Addr} {ostop_of : Array (Option Value)} {octop_of kVtop_of dctop_of pmtop_of cdtop_of cttop_of : Value} {flowest : Addr} {odlowest anlowest : Option Addr} {oslowest : Array (Option Value)} {oclowest kVlowest dclowest pmlowest cdlowest ctlowest : Value} {f_law_cell : Addr} {od_law_cell an_law_cell : Option Addr} {os_law_cell : Array (Option Value)} {oc_law_cell kV_law_cell dc_law_cell pm_law_cell cd_law_cell ct_law_cell : Value} {f_law_digits : Addr} {od_law_digits an_law_digits : Option Addr} {os_law_digits : Array (Option Value)} {oc_law_digits kV_law_digits dc_law_digits pm_law_digits cd_law_digits ct_law_digits : Value} {f_law_is_integer : Addr} {od_law_is_integer an_law_is_integer : Option Addr} {os_law_is_integer : Array (Option Value)} {oc_law_is_integer kV_law_is_integer dc_law_is_integer pm_law_is_integer cd_law_is_integer ct_law_is_integer : Value} {f_law_plain : Addr} {od_law_plain an_law_plain : Option Addr} {os_law_plain : Array (Option Value)} {oc_law_plain kV_law_plain dc_law_plain pm_law_plain cd_law_plain ct_law_plain : Value} {f_law_pairs : Addr} {od_law_pairs an_law_pairs : Option Addr} {os_law_pairs : Array (Option Value)} {oc_law_pairs kV_law_pairs dc_law_pairs pm_law_pairs cd_law_pairs ct_law_pairs : Value} {f_law_shut : Addr} {od_law_shut an_law_shut : Option Addr} {os_law_shut : Array (Option Value)} {oc_law_shut kV_law_shut dc_law_shut pm_law_shut cd_law_shut ct_law_shut : Value} {f_law_is : Addr} {od_law_is an_law_is : Option Addr} {os_law_is : Array (Option Value)} {oc_law_is kV_law_is dc_law_is pm_law_is cd_law_is ct_law_is : Value} {f_law_told : Addr} {od_law_told an_law_told : Option Addr} {os_law_told : Array (Option Value)} {oc_law_told kV_law_told dc_law_told pm_law_told cd_law_told ct_law_told : Value} {f_law_place : Addr} {od_law_place an_law_place : Option Addr} {os_law_place : Array (Option Value)} {oc_law_place kV_law_place dc_law_place pm_law_place cd_law_place ct_law_place : Value} {f_law_at : Addr} {od_law_at an_law_at : Option Addr} {os_law_at : Array (Option Value)} {oc_law_at kV_law_at dc_law_at pm_law_at cd_law_at ct_law_at : Value} {f_law_drawn : Addr} {od_law_drawn an_law_drawn : Option Addr} {os_law_drawn : Array (Option Value)} {oc_law_drawn kV_law_drawn dc_law_drawn pm_law_drawn cd_law_drawn ct_law_drawn : Value} {f_law_number : Addr} {od_law_number an_law_number : Option Addr} {os_law_number : Array (Option Value)} {oc_law_number kV_law_number dc_law_number pm_law_number cd_law_number ct_law_number : Value} {f_law_line : Addr} {od_law_line an_law_line : Option Addr} {os_law_line : Array (Option Value)} {oc_law_line kV_law_line dc_law_line pm_law_line cd_law_line ct_law_line : Value} {f_law_stands : Addr} {od_law_stands an_law_stands : Option Addr} {os_law_stands : Array (Option Value)} {oc_law_stands kV_law_stands dc_law_stands pm_law_stands cd_law_stands ct_law_stands : Value} {flaw : Addr} {odlaw anlaw : Option Addr} {oslaw : Array (Option Value)} {oclaw kVlaw dclaw pmlaw cdlaw ctlaw : Value} {fDyadic_UinitU : Addr} {odDyadic_UinitU anDyadic_UinitU : Option Addr} {osDyadic_UinitU : Array (Option Value)} {ocDyadic_UinitU kVDyadic_UinitU dcDyadic_UinitU pmDyadic_UinitU cdDyadic_UinitU ctDyadic_UinitU : Value} {fT : Addr} {ocT : Value} {odT : Option Addr} {osT : Array (Option Value)} {tkT : Tok} {nT : Nat} {fDyadic_top : Addr} {odDyadic_top anDyadic_top : Option Addr} {osDyadic_top : Array (Option Value)} {ocDyadic_top kVDyadic_top dcDyadic_top pmDyadic_top cdDyadic_top ctDyadic_top : Value} {pDyadic_top : Addr} {rDyadic_top : List Value} {fDyadic_power : Addr} {odDyadic_power anDyadic_power : Option Addr} {osDyadic_power : Array (Option Value)} {ocDyadic_power kVDyadic_power dcDyadic_power pmDyadic_power cdDyadic_power ctDyadic_power : Value} {pDyadic_power : Addr} {rDyadic_power : List Value} {fDyadic_UaddU : Addr} {odDyadic_UaddU anDyadic_UaddU : Option Addr} {osDyadic_UaddU : Array (Option Value)} {ocDyadic_UaddU kVDyadic_UaddU dcDyadic_UaddU pmDyadic_UaddU cdDyadic_UaddU ctDyadic_UaddU : Value} {fDyadic_UnegU : Addr} {odDyadic_UnegU anDyadic_UnegU : Option Addr} {osDyadic_UnegU : Array (Option Value)} {ocDyadic_UnegU kVDyadic_UnegU dcDyadic_UnegU pmDyadic_UnegU cdDyadic_UnegU ctDyadic_UnegU : Value} {fDyadic_UsubU : Addr} {odDyadic_UsubU anDyadic_UsubU : Option Addr} {osDyadic_UsubU : Array (Option Value)} {ocDyadic_UsubU kVDyadic_UsubU dcDyadic_UsubU pmDyadic_UsubU cdDyadic_UsubU ctDyadic_UsubU : Value} {fDyadic_less : Addr} {odDyadic_less anDyadic_less : Option Addr} {osDyadic_less : Array (Option Value)} {ocDyadic_less kVDyadic_less dcDyadic_less pmDyadic_less cdDyadic_less ctDyadic_less : Value} {fDyadic_same : Addr} {odDyadic_same anDyadic_same : Option Addr} {osDyadic_same : Array (Option Value)} {ocDyadic_same kVDyadic_same dcDyadic_same pmDyadic_same cdDyadic_same ctDyadic_same : Value} {fDyadic_half : Addr} {odDyadic_half anDyadic_half : Option Addr} {osDyadic_half : Array (Option Value)} {ocDyadic_half kVDyadic_half dcDyadic_half pmDyadic_half cdDyadic_half ctDyadic_half : Value} {fWall_UinitU : Addr} {odWall_UinitU anWall_UinitU : Option Addr} {osWall_UinitU : Array (Option Value)} {ocWall_UinitU kVWall_UinitU dcWall_UinitU pmWall_UinitU cdWall_UinitU ctWall_UinitU : Value} {fWall_points : Addr} {odWall_points anWall_points : Option Addr} {osWall_points : Array (Option Value)} {ocWall_points kVWall_points dcWall_points pmWall_points cdWall_points ctWall_points : Value} {fWall_slope : Addr} {odWall_slope anWall_slope : Option Addr} {osWall_slope : Array (Option Value)} {ocWall_slope kVWall_slope dcWall_slope pmWall_slope cdWall_slope ctWall_slope : Value} {pWall_slope : Addr} {rWall_slope : List Value} {fWall_at : Addr} {odWall_at anWall_at : Option Addr} {osWall_at : Array (Option Value)} {ocWall_at kVWall_at dcWall_at pmWall_at cdWall_at ctWall_at : Value} {fWall_slope_at : Addr} {odWall_slope_at anWall_slope_at : Option Addr} {osWall_slope_at : Array (Option Value)} {ocWall_slope_at kVWall_slope_at dcWall_slope_at pmWall_slope_at cdWall_slope_at ctWall_slope_at : Value} {fWall_turned : Addr} {odWall_turned anWall_turned : Option Addr} {osWall_turned : Array (Option Value)} {ocWall_turned kVWall_turned dcWall_turned pmWall_turned cdWall_turned ctWall_turned : Value} {fWallUplace : Addr} {odWallUplace anWallUplace : Option Addr} {osWallUplace : Array (Option Value)} {ocWallUplace kVWallUplace dcWallUplace pmWallUplace cdWallUplace ctWallUplace : Value} {tTM tPM tSC : Tok}
    (ais_integer : PySem.W.nsIn K mainGlobals "is_integer" = some (some (.ref fis_integer)))
    (lis_integer : K.lookup fis_integer = some ⟨ocis_integer, odis_integer, .func (PySem.W.fnOf "is_integer" "is_integer" (defArgs s_is_integer) (defBody s_is_integer) (defScope s_is_integer) .none kVis_integer dcis_integer pmis_integer anis_integer cdis_integer ctis_integer), osis_integer⟩)
    (cis_integer : PySem.W.codeIn K cdis_integer "is_integer" = true)
    (kis_integer : PySem.W.keepIn K (.ref fis_integer) = true)
    (areduced : PySem.W.nsIn K mainGlobals "reduced" = some (some (.ref freduced)))
    (lreduced : K.lookup freduced = some ⟨ocreduced, odreduced, .func (PySem.W.fnOf "reduced" "reduced" (defArgs s_reduced) (defBody s_reduced) (defScope s_reduced) .none kVreduced dcreduced pmreduced anreduced cdreduced ctreduced), osreduced⟩)
    (creduced : PySem.W.codeIn K cdreduced "reduced" = true)
    (kreduced : PySem.W.keepIn K (.ref freduced) = true)
    (ascaled : PySem.W.nsIn K mainGlobals "scaled" = some (some (.ref fscaled)))
    (lscaled : K.lookup fscaled = some ⟨ocscaled, odscaled, .func (PySem.W.fnOf "scaled" "scaled" (defArgs s_scaled) (defBody s_scaled) (defScope s_scaled) .none kVscaled dcscaled pmscaled anscaled cdscaled ctscaled), osscaled⟩)
    (cscaled : PySem.W.codeIn K cdscaled "scaled" = true)
    (kscaled : PySem.W.keepIn K (.ref fscaled) = true)
    (aslope_between : PySem.W.nsIn K mainGlobals "slope_between" = some (some (.ref fslope_between)))
    (lslope_between : K.lookup fslope_between = some ⟨ocslope_between, odslope_between, .func (PySem.W.fnOf "slope_between" "slope_between" (defArgs s_slope_between) (defBody s_slope_between) (defScope s_slope_between) .none kVslope_between dcslope_between pmslope_between anslope_between cdslope_between ctslope_between), osslope_between⟩)
    (cslope_between : PySem.W.codeIn K cdslope_between "slope_between" = true)
    (kslope_between : PySem.W.keepIn K (.ref fslope_between) = true)
    (atimes : PySem.W.nsIn K mainGlobals "times" = some (some (.ref ftimes)))
    (ltimes : K.lookup ftimes = some ⟨octimes, odtimes, .func (PySem.W.fnOf "times" "times" (defArgs s_times) (defBody s_times) (defScope s_times) .none kVtimes dctimes pmtimes antimes cdtimes cttimes), ostimes⟩)
    (ctimes : PySem.W.codeIn K cdtimes "times" = true)
    (ktimes : PySem.W.keepIn K (.ref ftimes) = true)
    (aall_heats : PySem.W.nsIn K mainGlobals "all_heats" = some (some (.ref fall_heats)))
    (lall_heats : K.lookup fall_heats = some ⟨ocall_heats, odall_heats, .func (PySem.W.fnOf "all_heats" "all_heats" (defArgs s_all_heats) (defBody s_all_heats) (defScope s_all_heats) .none kVall_heats dcall_heats pmall_heats anall_heats cdall_heats ctall_heats), osall_heats⟩)
    (call_heats : PySem.W.codeIn K cdall_heats "all_heats" = true)
    (kall_heats : PySem.W.keepIn K (.ref fall_heats) = true)
    (acrossing : PySem.W.nsIn K mainGlobals "crossing" = some (some (.ref fcrossing)))
    (lcrossing : K.lookup fcrossing = some ⟨occrossing, odcrossing, .func (PySem.W.fnOf "crossing" "crossing" (defArgs s_crossing) (defBody s_crossing) (defScope s_crossing) .none kVcrossing dccrossing pmcrossing ancrossing cdcrossing ctcrossing), oscrossing⟩)
    (ccrossing : PySem.W.codeIn K cdcrossing "crossing" = true)
    (kcrossing : PySem.W.keepIn K (.ref fcrossing) = true)
    (acrossings : PySem.W.nsIn K mainGlobals "crossings" = some (some (.ref fcrossings)))
    (lcrossings : K.lookup fcrossings = some ⟨occrossings, odcrossings, .func (PySem.W.fnOf "crossings" "crossings" (defArgs s_crossings) (defBody s_crossings) (defScope s_crossings) .none kVcrossings dccrossings pmcrossings ancrossings cdcrossings ctcrossings), oscrossings⟩)
    (ccrossings : PySem.W.codeIn K cdcrossings "crossings" = true)
    (kcrossings : PySem.W.keepIn K (.ref fcrossings) = true)
    (ahighest : PySem.W.nsIn K mainGlobals "highest" = some (some (.ref fhighest)))
    (lhighest : K.lookup fhighest = some ⟨ochighest, odhighest, .func (PySem.W.fnOf "highest" "highest" (defArgs s_highest) (defBody s_highest) (defScope s_highest) .none kVhighest dchighest pmhighest anhighest cdhighest cthighest), oshighest⟩)
    (chighest : PySem.W.codeIn K cdhighest "highest" = true)
    (khighest : PySem.W.keepIn K (.ref fhighest) = true)
    (atop_of : PySem.W.nsIn K mainGlobals "top_of" = some (some (.ref ftop_of)))
    (ltop_of : K.lookup ftop_of = some ⟨octop_of, odtop_of, .func (PySem.W.fnOf "top_of" "top_of" (defArgs s_top_of) (defBody s_top_of) (defScope s_top_of) .none kVtop_of dctop_of pmtop_of antop_of cdtop_of cttop_of), ostop_of⟩)
    (ctop_of : PySem.W.codeIn K cdtop_of "top_of" = true)
    (ktop_of : PySem.W.keepIn K (.ref ftop_of) = true)
    (alowest : PySem.W.nsIn K mainGlobals "lowest" = some (some (.ref flowest)))
    (llowest : K.lookup flowest = some ⟨oclowest, odlowest, .func (PySem.W.fnOf "lowest" "lowest" (defArgs s_lowest) (defBody s_lowest) (defScope s_lowest) .none kVlowest dclowest pmlowest anlowest cdlowest ctlowest), oslowest⟩)
    (clowest : PySem.W.codeIn K cdlowest "lowest" = true)
    (klowest : PySem.W.keepIn K (.ref flowest) = true)
    (a_law_cell : PySem.W.nsIn K mainGlobals "_law_cell" = some (some (.ref f_law_cell)))
    (l_law_cell : K.lookup f_law_cell = some ⟨oc_law_cell, od_law_cell, .func (PySem.W.fnOf "_law_cell" "_law_cell" (defArgs s__law_cell) (defBody s__law_cell) (defScope s__law_cell) .none kV_law_cell dc_law_cell pm_law_cell an_law_cell cd_law_cell ct_law_cell), os_law_cell⟩)
    (c_law_cell : PySem.W.codeIn K cd_law_cell "_law_cell" = true)
    (k_law_cell : PySem.W.keepIn K (.ref f_law_cell) = true)
    (a_law_digits : PySem.W.nsIn K mainGlobals "_law_digits" = some (some (.ref f_law_digits)))
    (l_law_digits : K.lookup f_law_digits = some ⟨oc_law_digits, od_law_digits, .func (PySem.W.fnOf "_law_digits" "_law_digits" (defArgs s__law_digits) (defBody s__law_digits) (defScope s__law_digits) .none kV_law_digits dc_law_digits pm_law_digits an_law_digits cd_law_digits ct_law_digits), os_law_digits⟩)
    (c_law_digits : PySem.W.codeIn K cd_law_digits "_law_digits" = true)
    (k_law_digits : PySem.W.keepIn K (.ref f_law_digits) = true)
    (a_law_is_integer : PySem.W.nsIn K mainGlobals "_law_is_integer" = some (some (.ref f_law_is_integer)))
    (l_law_is_integer : K.lookup f_law_is_integer = some ⟨oc_law_is_integer, od_law_is_integer, .func (PySem.W.fnOf "_law_is_integer" "_law_is_integer" (defArgs s__law_is_integer) (defBody s__law_is_integer) (defScope s__law_is_integer) .none kV_law_is_integer dc_law_is_integer pm_law_is_integer an_law_is_integer cd_law_is_integer ct_law_is_integer), os_law_is_integer⟩)
    (c_law_is_integer : PySem.W.codeIn K cd_law_is_integer "_law_is_integer" = true)
    (k_law_is_integer : PySem.W.keepIn K (.ref f_law_is_integer) = true)
    (a_law_plain : PySem.W.nsIn K mainGlobals "_law_plain" = some (some (.ref f_law_plain)))
    (l_law_plain : K.lookup f_law_plain = some ⟨oc_law_plain, od_law_plain, .func (PySem.W.fnOf "_law_plain" "_law_plain" (defArgs s__law_plain) (defBody s__law_plain) (defScope s__law_plain) .none kV_law_plain dc_law_plain pm_law_plain an_law_plain cd_law_plain ct_law_plain), os_law_plain⟩)
    (c_law_plain : PySem.W.codeIn K cd_law_plain "_law_plain" = true)
    (k_law_plain : PySem.W.keepIn K (.ref f_law_plain) = true)
    (a_law_pairs : PySem.W.nsIn K mainGlobals "_law_pairs" = some (some (.ref f_law_pairs)))
    (l_law_pairs : K.lookup f_law_pairs = some ⟨oc_law_pairs, od_law_pairs, .func (PySem.W.fnOf "_law_pairs" "_law_pairs" (defArgs s__law_pairs) (defBody s__law_pairs) (defScope s__law_pairs) .none kV_law_pairs dc_law_pairs pm_law_pairs an_law_pairs cd_law_pairs ct_law_pairs), os_law_pairs⟩)
    (c_law_pairs : PySem.W.codeIn K cd_law_pairs "_law_pairs" = true)
    (k_law_pairs : PySem.W.keepIn K (.ref f_law_pairs) = true)
    (a_law_shut : PySem.W.nsIn K mainGlobals "_law_shut" = some (some (.ref f_law_shut)))
    (l_law_shut : K.lookup f_law_shut = some ⟨oc_law_shut, od_law_shut, .func (PySem.W.fnOf "_law_shut" "_law_shut" (defArgs s__law_shut) (defBody s__law_shut) (defScope s__law_shut) .none kV_law_shut dc_law_shut pm_law_shut an_law_shut cd_law_shut ct_law_shut), os_law_shut⟩)
    (c_law_shut : PySem.W.codeIn K cd_law_shut "_law_shut" = true)
    (k_law_shut : PySem.W.keepIn K (.ref f_law_shut) = true)
    (a_law_is : PySem.W.nsIn K mainGlobals "_law_is" = some (some (.ref f_law_is)))
    (l_law_is : K.lookup f_law_is = some ⟨oc_law_is, od_law_is, .func (PySem.W.fnOf "_law_is" "_law_is" (defArgs s__law_is) (defBody s__law_is) (defScope s__law_is) .none kV_law_is dc_law_is pm_law_is an_law_is cd_law_is ct_law_is), os_law_is⟩)
    (c_law_is : PySem.W.codeIn K cd_law_is "_law_is" = true)
    (k_law_is : PySem.W.keepIn K (.ref f_law_is) = true)
    (a_law_told : PySem.W.nsIn K mainGlobals "_law_told" = some (some (.ref f_law_told)))
    (l_law_told : K.lookup f_law_told = some ⟨oc_law_told, od_law_told, .func (PySem.W.fnOf "_law_told" "_law_told" (defArgs s__law_told) (defBody s__law_told) (defScope s__law_told) .none kV_law_told dc_law_told pm_law_told an_law_told cd_law_told ct_law_told), os_law_told⟩)
    (c_law_told : PySem.W.codeIn K cd_law_told "_law_told" = true)
    (k_law_told : PySem.W.keepIn K (.ref f_law_told) = true)
    (a_law_place : PySem.W.nsIn K mainGlobals "_law_place" = some (some (.ref f_law_place)))
    (l_law_place : K.lookup f_law_place = some ⟨oc_law_place, od_law_place, .func (PySem.W.fnOf "_law_place" "_law_place" (defArgs s__law_place) (defBody s__law_place) (defScope s__law_place) .none kV_law_place dc_law_place pm_law_place an_law_place cd_law_place ct_law_place), os_law_place⟩)
    (c_law_place : PySem.W.codeIn K cd_law_place "_law_place" = true)
    (k_law_place : PySem.W.keepIn K (.ref f_law_place) = true)
    (a_law_at : PySem.W.nsIn K mainGlobals "_law_at" = some (some (.ref f_law_at)))
    (l_law_at : K.lookup f_law_at = some ⟨oc_law_at, od_law_at, .func (PySem.W.fnOf "_law_at" "_law_at" (defArgs s__law_at) (defBody s__law_at) (defScope s__law_at) .none kV_law_at dc_law_at pm_law_at an_law_at cd_law_at ct_law_at), os_law_at⟩)
    (c_law_at : PySem.W.codeIn K cd_law_at "_law_at" = true)
    (k_law_at : PySem.W.keepIn K (.ref f_law_at) = true)
    (a_law_drawn : PySem.W.nsIn K mainGlobals "_law_drawn" = some (some (.ref f_law_drawn)))
    (l_law_drawn : K.lookup f_law_drawn = some ⟨oc_law_drawn, od_law_drawn, .func (PySem.W.fnOf "_law_drawn" "_law_drawn" (defArgs s__law_drawn) (defBody s__law_drawn) (defScope s__law_drawn) .none kV_law_drawn dc_law_drawn pm_law_drawn an_law_drawn cd_law_drawn ct_law_drawn), os_law_drawn⟩)
    (c_law_drawn : PySem.W.codeIn K cd_law_drawn "_law_drawn" = true)
    (k_law_drawn : PySem.W.keepIn K (.ref f_law_drawn) = true)
    (a_law_number : PySem.W.nsIn K mainGlobals "_law_number" = some (some (.ref f_law_number)))
    (l_law_number : K.lookup f_law_number = some ⟨oc_law_number, od_law_number, .func (PySem.W.fnOf "_law_number" "_law_number" (defArgs s__law_number) (defBody s__law_number) (defScope s__law_number) .none kV_law_number dc_law_number pm_law_number an_law_number cd_law_number ct_law_number), os_law_number⟩)
    (c_law_number : PySem.W.codeIn K cd_law_number "_law_number" = true)
    (k_law_number : PySem.W.keepIn K (.ref f_law_number) = true)
    (a_law_line : PySem.W.nsIn K mainGlobals "_law_line" = some (some (.ref f_law_line)))
    (l_law_line : K.lookup f_law_line = some ⟨oc_law_line, od_law_line, .func (PySem.W.fnOf "_law_line" "_law_line" (defArgs s__law_line) (defBody s__law_line) (defScope s__law_line) .none kV_law_line dc_law_line pm_law_line an_law_line cd_law_line ct_law_line), os_law_line⟩)
    (c_law_line : PySem.W.codeIn K cd_law_line "_law_line" = true)
    (k_law_line : PySem.W.keepIn K (.ref f_law_line) = true)
    (a_law_stands : PySem.W.nsIn K mainGlobals "_law_stands" = some (some (.ref f_law_stands)))
    (l_law_stands : K.lookup f_law_stands = some ⟨oc_law_stands, od_law_stands, .func (PySem.W.fnOf "_law_stands" "_law_stands" (defArgs s__law_stands) (defBody s__law_stands) (defScope s__law_stands) .none kV_law_stands dc_law_stands pm_law_stands an_law_stands cd_law_stands ct_law_stands), os_law_stands⟩)
    (c_law_stands : PySem.W.codeIn K cd_law_stands "_law_stands" = true)
    (k_law_stands : PySem.W.keepIn K (.ref f_law_stands) = true)
    (alaw : PySem.W.nsIn K mainGlobals "law" = some (some (.ref flaw)))
    (llaw : K.lookup flaw = some ⟨oclaw, odlaw, .func (PySem.W.fnOf "law" "law" (defArgs s_law) (defBody s_law) (defScope s_law) .none kVlaw dclaw pmlaw anlaw cdlaw ctlaw), oslaw⟩)
    (claw : PySem.W.codeIn K cdlaw "law" = true)
    (klaw : PySem.W.keepIn K (.ref flaw) = true)
    (lT : K.lookup fT = some ⟨ocT, odT, .seq #[.int 0 tkT] nT, osT⟩)
    (aDyadic_UinitU : PySem.W.findIn K (.ref C) "__init__" = some (some (.ref fDyadic_UinitU)))
    (iDyadic_UinitU : PySem.W.isFn K (.ref fDyadic_UinitU) = true)
    (lDyadic_UinitU : K.lookup fDyadic_UinitU = some ⟨ocDyadic_UinitU, odDyadic_UinitU, .func (PySem.W.fnOf "__init__" "Dyadic.__init__" (defArgs s_Dyadic___init__) (defBody s_Dyadic___init__) (defScope s_Dyadic___init__) (.ref fT) kVDyadic_UinitU dcDyadic_UinitU pmDyadic_UinitU anDyadic_UinitU cdDyadic_UinitU ctDyadic_UinitU), osDyadic_UinitU⟩)
    (cDyadic_UinitU : PySem.W.codeIn K cdDyadic_UinitU "Dyadic.__init__" = true)
    (kDyadic_UinitU : PySem.W.keepIn K (.ref fDyadic_UinitU) = true)
    (aDyadic_top : PySem.W.findIn K (.ref C) "top" = some (some (.ref pDyadic_top)))
    (gDyadic_top : PySem.W.specialIn K (.ref pDyadic_top) "__get__" = some (some (.builtin "property.__get__")))
    (tDyadic_top : PySem.W.takesIn K (.ref pDyadic_top) = some true)
    (qDyadic_top : PySem.W.recIn K pDyadic_top "property" = some (.ref fDyadic_top :: rDyadic_top))
    (lDyadic_top : K.lookup fDyadic_top = some ⟨ocDyadic_top, odDyadic_top, .func (PySem.W.fnOf "top" "Dyadic.top" (defArgs s_Dyadic_top) (defBody s_Dyadic_top) (defScope s_Dyadic_top) .none kVDyadic_top dcDyadic_top pmDyadic_top anDyadic_top cdDyadic_top ctDyadic_top), osDyadic_top⟩)
    (cDyadic_top : PySem.W.codeIn K cdDyadic_top "Dyadic.top" = true)
    (kDyadic_top : PySem.W.keepIn K (.ref fDyadic_top) = true)
    (aDyadic_power : PySem.W.findIn K (.ref C) "power" = some (some (.ref pDyadic_power)))
    (gDyadic_power : PySem.W.specialIn K (.ref pDyadic_power) "__get__" = some (some (.builtin "property.__get__")))
    (tDyadic_power : PySem.W.takesIn K (.ref pDyadic_power) = some true)
    (qDyadic_power : PySem.W.recIn K pDyadic_power "property" = some (.ref fDyadic_power :: rDyadic_power))
    (lDyadic_power : K.lookup fDyadic_power = some ⟨ocDyadic_power, odDyadic_power, .func (PySem.W.fnOf "power" "Dyadic.power" (defArgs s_Dyadic_power) (defBody s_Dyadic_power) (defScope s_Dyadic_power) .none kVDyadic_power dcDyadic_power pmDyadic_power anDyadic_power cdDyadic_power ctDyadic_power), osDyadic_power⟩)
    (cDyadic_power : PySem.W.codeIn K cdDyadic_power "Dyadic.power" = true)
    (kDyadic_power : PySem.W.keepIn K (.ref fDyadic_power) = true)
    (aDyadic_UaddU : PySem.W.findIn K (.ref C) "__add__" = some (some (.ref fDyadic_UaddU)))
    (iDyadic_UaddU : PySem.W.isFn K (.ref fDyadic_UaddU) = true)
    (lDyadic_UaddU : K.lookup fDyadic_UaddU = some ⟨ocDyadic_UaddU, odDyadic_UaddU, .func (PySem.W.fnOf "__add__" "Dyadic.__add__" (defArgs s_Dyadic___add__) (defBody s_Dyadic___add__) (defScope s_Dyadic___add__) .none kVDyadic_UaddU dcDyadic_UaddU pmDyadic_UaddU anDyadic_UaddU cdDyadic_UaddU ctDyadic_UaddU), osDyadic_UaddU⟩)
    (cDyadic_UaddU : PySem.W.codeIn K cdDyadic_UaddU "Dyadic.__add__" = true)
    (kDyadic_UaddU : PySem.W.keepIn K (.ref fDyadic_UaddU) = true)
    (aDyadic_UnegU : PySem.W.findIn K (.ref C) "__neg__" = some (some (.ref fDyadic_UnegU)))
    (iDyadic_UnegU : PySem.W.isFn K (.ref fDyadic_UnegU) = true)
    (lDyadic_UnegU : K.lookup fDyadic_UnegU = some ⟨ocDyadic_UnegU, odDyadic_UnegU, .func (PySem.W.fnOf "__neg__" "Dyadic.__neg__" (defArgs s_Dyadic___neg__) (defBody s_Dyadic___neg__) (defScope s_Dyadic___neg__) .none kVDyadic_UnegU dcDyadic_UnegU pmDyadic_UnegU anDyadic_UnegU cdDyadic_UnegU ctDyadic_UnegU), osDyadic_UnegU⟩)
    (cDyadic_UnegU : PySem.W.codeIn K cdDyadic_UnegU "Dyadic.__neg__" = true)
    (kDyadic_UnegU : PySem.W.keepIn K (.ref fDyadic_UnegU) = true)
    (aDyadic_UsubU : PySem.W.findIn K (.ref C) "__sub__" = some (some (.ref fDyadic_UsubU)))
    (iDyadic_UsubU : PySem.W.isFn K (.ref fDyadic_UsubU) = true)
    (lDyadic_UsubU : K.lookup fDyadic_UsubU = some ⟨ocDyadic_UsubU, odDyadic_UsubU, .func (PySem.W.fnOf "__sub__" "Dyadic.__sub__" (defArgs s_Dyadic___sub__) (defBody s_Dyadic___sub__) (defScope s_Dyadic___sub__) .none kVDyadic_UsubU dcDyadic_UsubU pmDyadic_UsubU anDyadic_UsubU cdDyadic_UsubU ctDyadic_UsubU), osDyadic_UsubU⟩)
    (cDyadic_UsubU : PySem.W.codeIn K cdDyadic_UsubU "Dyadic.__sub__" = true)
    (kDyadic_UsubU : PySem.W.keepIn K (.ref fDyadic_UsubU) = true)
    (aDyadic_less : PySem.W.findIn K (.ref C) "less" = some (some (.ref fDyadic_less)))
    (iDyadic_less : PySem.W.isFn K (.ref fDyadic_less) = true)
    (lDyadic_less : K.lookup fDyadic_less = some ⟨ocDyadic_less, odDyadic_less, .func (PySem.W.fnOf "less" "Dyadic.less" (defArgs s_Dyadic_less) (defBody s_Dyadic_less) (defScope s_Dyadic_less) .none kVDyadic_less dcDyadic_less pmDyadic_less anDyadic_less cdDyadic_less ctDyadic_less), osDyadic_less⟩)
    (cDyadic_less : PySem.W.codeIn K cdDyadic_less "Dyadic.less" = true)
    (kDyadic_less : PySem.W.keepIn K (.ref fDyadic_less) = true)
    (aDyadic_same : PySem.W.findIn K (.ref C) "same" = some (some (.ref fDyadic_same)))
    (iDyadic_same : PySem.W.isFn K (.ref fDyadic_same) = true)
    (lDyadic_same : K.lookup fDyadic_same = some ⟨ocDyadic_same, odDyadic_same, .func (PySem.W.fnOf "same" "Dyadic.same" (defArgs s_Dyadic_same) (defBody s_Dyadic_same) (defScope s_Dyadic_same) .none kVDyadic_same dcDyadic_same pmDyadic_same anDyadic_same cdDyadic_same ctDyadic_same), osDyadic_same⟩)
    (cDyadic_same : PySem.W.codeIn K cdDyadic_same "Dyadic.same" = true)
    (kDyadic_same : PySem.W.keepIn K (.ref fDyadic_same) = true)
    (aDyadic_half : PySem.W.findIn K (.ref C) "half" = some (some (.ref fDyadic_half)))
    (iDyadic_half : PySem.W.isFn K (.ref fDyadic_half) = true)
    (lDyadic_half : K.lookup fDyadic_half = some ⟨ocDyadic_half, odDyadic_half, .func (PySem.W.fnOf "half" "Dyadic.half" (defArgs s_Dyadic_half) (defBody s_Dyadic_half) (defScope s_Dyadic_half) .none kVDyadic_half dcDyadic_half pmDyadic_half anDyadic_half cdDyadic_half ctDyadic_half), osDyadic_half⟩)
    (cDyadic_half : PySem.W.codeIn K cdDyadic_half "Dyadic.half" = true)
    (kDyadic_half : PySem.W.keepIn K (.ref fDyadic_half) = true)
    (aWall_UinitU : PySem.W.findIn K (.ref CW) "__init__" = some (some (.ref fWall_UinitU)))
    (iWall_UinitU : PySem.W.isFn K (.ref fWall_UinitU) = true)
    (lWall_UinitU : K.lookup fWall_UinitU = some ⟨ocWall_UinitU, odWall_UinitU, .func (PySem.W.fnOf "__init__" "Wall.__init__" (defArgs s_Wall___init__) (defBody s_Wall___init__) (defScope s_Wall___init__) .none kVWall_UinitU dcWall_UinitU pmWall_UinitU anWall_UinitU cdWall_UinitU ctWall_UinitU), osWall_UinitU⟩)
    (cWall_UinitU : PySem.W.codeIn K cdWall_UinitU "Wall.__init__" = true)
    (kWall_UinitU : PySem.W.keepIn K (.ref fWall_UinitU) = true)
    (aWall_points : PySem.W.findIn K (.ref CW) "points" = some (some (.ref fWall_points)))
    (iWall_points : PySem.W.isFn K (.ref fWall_points) = true)
    (lWall_points : K.lookup fWall_points = some ⟨ocWall_points, odWall_points, .func (PySem.W.fnOf "points" "Wall.points" (defArgs s_Wall_points) (defBody s_Wall_points) (defScope s_Wall_points) .none kVWall_points dcWall_points pmWall_points anWall_points cdWall_points ctWall_points), osWall_points⟩)
    (cWall_points : PySem.W.codeIn K cdWall_points "Wall.points" = true)
    (kWall_points : PySem.W.keepIn K (.ref fWall_points) = true)
    (aWall_slope : PySem.W.findIn K (.ref CW) "slope" = some (some (.ref pWall_slope)))
    (gWall_slope : PySem.W.specialIn K (.ref pWall_slope) "__get__" = some (some (.builtin "property.__get__")))
    (tWall_slope : PySem.W.takesIn K (.ref pWall_slope) = some true)
    (qWall_slope : PySem.W.recIn K pWall_slope "property" = some (.ref fWall_slope :: rWall_slope))
    (lWall_slope : K.lookup fWall_slope = some ⟨ocWall_slope, odWall_slope, .func (PySem.W.fnOf "slope" "Wall.slope" (defArgs s_Wall_slope) (defBody s_Wall_slope) (defScope s_Wall_slope) .none kVWall_slope dcWall_slope pmWall_slope anWall_slope cdWall_slope ctWall_slope), osWall_slope⟩)
    (cWall_slope : PySem.W.codeIn K cdWall_slope "Wall.slope" = true)
    (kWall_slope : PySem.W.keepIn K (.ref fWall_slope) = true)
    (aWall_at : PySem.W.findIn K (.ref CW) "at" = some (some (.ref fWall_at)))
    (iWall_at : PySem.W.isFn K (.ref fWall_at) = true)
    (lWall_at : K.lookup fWall_at = some ⟨ocWall_at, odWall_at, .func (PySem.W.fnOf "at" "Wall.at" (defArgs s_Wall_at) (defBody s_Wall_at) (defScope s_Wall_at) .none kVWall_at dcWall_at pmWall_at anWall_at cdWall_at ctWall_at), osWall_at⟩)
    (cWall_at : PySem.W.codeIn K cdWall_at "Wall.at" = true)
    (kWall_at : PySem.W.keepIn K (.ref fWall_at) = true)
    (aWall_slope_at : PySem.W.findIn K (.ref CW) "slope_at" = some (some (.ref fWall_slope_at)))
    (iWall_slope_at : PySem.W.isFn K (.ref fWall_slope_at) = true)
    (lWall_slope_at : K.lookup fWall_slope_at = some ⟨ocWall_slope_at, odWall_slope_at, .func (PySem.W.fnOf "slope_at" "Wall.slope_at" (defArgs s_Wall_slope_at) (defBody s_Wall_slope_at) (defScope s_Wall_slope_at) .none kVWall_slope_at dcWall_slope_at pmWall_slope_at anWall_slope_at cdWall_slope_at ctWall_slope_at), osWall_slope_at⟩)
    (cWall_slope_at : PySem.W.codeIn K cdWall_slope_at "Wall.slope_at" = true)
    (kWall_slope_at : PySem.W.keepIn K (.ref fWall_slope_at) = true)
    (aWall_turned : PySem.W.findIn K (.ref CW) "turned" = some (some (.ref fWall_turned)))
    (iWall_turned : PySem.W.isFn K (.ref fWall_turned) = true)
    (lWall_turned : K.lookup fWall_turned = some ⟨ocWall_turned, odWall_turned, .func (PySem.W.fnOf "turned" "Wall.turned" (defArgs s_Wall_turned) (defBody s_Wall_turned) (defScope s_Wall_turned) .none kVWall_turned dcWall_turned pmWall_turned anWall_turned cdWall_turned ctWall_turned), osWall_turned⟩)
    (cWall_turned : PySem.W.codeIn K cdWall_turned "Wall.turned" = true)
    (kWall_turned : PySem.W.keepIn K (.ref fWall_turned) = true)
    (aWallUplace : PySem.W.findIn K (.ref CW) "_place" = some (some (.ref fWallUplace)))
    (iWallUplace : PySem.W.isFn K (.ref fWallUplace) = true)
    (lWallUplace : K.lookup fWallUplace = some ⟨ocWallUplace, odWallUplace, .func (PySem.W.fnOf "_place" "Wall._place" (defArgs s_Wall__place) (defBody s_Wall__place) (defScope s_Wall__place) .none kVWallUplace dcWallUplace pmWallUplace anWallUplace cdWallUplace ctWallUplace), osWallUplace⟩)
    (cWallUplace : PySem.W.codeIn K cdWallUplace "Wall._place" = true)
    (kWallUplace : PySem.W.keepIn K (.ref fWallUplace) = true)
    (aC : PySem.W.nsIn K mainGlobals "Dyadic" = some (some (.ref C)))
    (pgC : PySem.W.plainGet K C Str.empty = true)
    (hdC : PySem.W.hasDictIn K C = true)
    (poC : PySem.W.plainOver K C = true)
    (saC : PySem.W.findIn K (.ref C) "__setattr__" = some (some (.builtin "object.__setattr__")))
    (mkC : PySem.W.makesIn K C = true)
    (kcC : PySem.W.keepIn K (.ref C) = true)
    (haC : PySem.W.findIn K (.ref C) "__class__" = some (some (.builtin "object.__class__")))
    (hmC : PySem.W.mroIn K C (.type "object") = some true)
    (aCW : PySem.W.nsIn K mainGlobals "Wall" = some (some (.ref CW)))
    (pgCW : PySem.W.plainGet K CW Str.empty = true)
    (hdCW : PySem.W.hasDictIn K CW = true)
    (poCW : PySem.W.plainOver K CW = true)
    (saCW : PySem.W.findIn K (.ref CW) "__setattr__" = some (some (.builtin "object.__setattr__")))
    (mkCW : PySem.W.makesIn K CW = true)
    (kcCW : PySem.W.keepIn K (.ref CW) = true)
    (haCW : PySem.W.findIn K (.ref CW) "__class__" = some (some (.builtin "object.__class__")))
    (hmCW : PySem.W.mroIn K CW (.type "object") = some true)
    (sfC : PySem.W.selfFirst K C = true)
    (nC_top : PySem.W.findIn K (.ref C) "_top" = some none)
    (nC_power : PySem.W.findIn K (.ref C) "_power" = some none)
    (nCW_points : PySem.W.findIn K (.ref CW) "_points" = some none)
    (nCW_slopes : PySem.W.findIn K (.ref CW) "_slopes" = some none)
    (vTM : PySem.W.nsIn K mainGlobals "TOP_MOST" = some (some (.int 1000000000000 tTM)))
    (vPM : PySem.W.nsIn K mainGlobals "POWER_MOST" = some (some (.int 40 tPM)))
    (vSC : PySem.W.nsIn K mainGlobals "SCALE" = some (some (.int 40 tSC)))
    (aCB : PySem.W.nsIn K mainGlobals "BadValue" = some (some (.ref CB)))
    (kCB : PySem.W.keepIn K (.ref CB) = true)
    (bCB : PySem.W.subIn K (.ref CB) (.type "BaseException") = some true)
    (tCB : PySem.W.typeIn K (.ref CB) = some (.type "type"))
    (xCB : PySem.W.excIn K CB [.type "ValueError", .type "Exception", .type "BaseException", .type "object"] "ValueError.__new__" = true)
    (z_len : PySem.W.nsIn K mainGlobals "len" = some none)
    (z_int : PySem.W.nsIn K mainGlobals "int" = some none)
    (z_isinstance : PySem.W.nsIn K mainGlobals "isinstance" = some none)
    (z_range : PySem.W.nsIn K mainGlobals "range" = some none)
    (z_max : PySem.W.nsIn K mainGlobals "max" = some none)
    (z_min : PySem.W.nsIn K mainGlobals "min" = some none)
    (z_sorted : PySem.W.nsIn K mainGlobals "sorted" = some none)
    (z_list : PySem.W.nsIn K mainGlobals "list" = some none)
    (z_tuple : PySem.W.nsIn K mainGlobals "tuple" = some none)
    (z_sum : PySem.W.nsIn K mainGlobals "sum" = some none)
    (z_abs : PySem.W.nsIn K mainGlobals "abs" = some none)
    (z_str : PySem.W.nsIn K mainGlobals "str" = some none)
    (z_all : PySem.W.nsIn K mainGlobals "all" = some none)
    (z_any : PySem.W.nsIn K mainGlobals "any" = some none)
    (z_enumerate : PySem.W.nsIn K mainGlobals "enumerate" = some none)
    (z_bool : PySem.W.nsIn K mainGlobals "bool" = some none)
    (hnG : PySem.W.specialIn K (.builtin "object.__class__") "__get__" = some (some (.builtin "getset_descriptor.__get__")))
    (htG : PySem.W.takesIn K (.builtin "object.__class__") = some true)
    : ∃ fd : FuncData, (∀ (s : Shared) (v : Value), BindsTo s fd ⟨[v], []⟩ [("_law_script", v)]) ∧ ∀ base : Heap, K.In base → base.Ns mainGlobals mg → FnV ⟨l.prog, w, K, mg, base⟩ 12 fa fd ["_law_script"] SLaw := by
  have e := hfa.symm.trans (PySem.W.mg_of X G alaw)
  cases e
  have Fis_integer := fun_mk (st := s_is_integer) lis_integer cis_integer kis_integer
  have bis_integer := Fis_integer.binds (ps := p_is_integer) fun _ _ _ _ _ _ us hl => match us, hl with | [_], _ => rfl
  have Freduced := fun_mk (st := s_reduced) lreduced creduced kreduced
  have breduced := Freduced.binds (ps := p_reduced) fun _ _ _ _ _ _ us hl => match us, hl with | [_, _], _ => rfl
  have Fscaled := fun_mk (st := s_scaled) lscaled cscaled kscaled
  have bscaled := Fscaled.binds (ps := p_scaled) fun _ _ _ _ _ _ us hl => match us, hl with | [_], _ => rfl
  have Fslope_between := fun_mk (st := s_slope_between) lslope_between cslope_between kslope_between
  have bslope_between := Fslope_between.binds (ps := p_slope_between) fun _ _ _ _ _ _ us hl => match us, hl with | [_, _], _ => rfl
  have Ftimes := fun_mk (st := s_times) ltimes ctimes ktimes
  have btimes := Ftimes.binds (ps := p_times) fun _ _ _ _ _ _ us hl => match us, hl with | [_, _], _ => rfl
  have Fall_heats := fun_mk (st := s_all_heats) lall_heats call_heats kall_heats
  have ball_heats := Fall_heats.binds (ps := p_all_heats) fun _ _ _ _ _ _ us hl => match us, hl with | [_], _ => rfl
  have Fcrossing := fun_mk (st := s_crossing) lcrossing ccrossing kcrossing
  have bcrossing := Fcrossing.binds (ps := p_crossing) fun _ _ _ _ _ _ us hl => match us, hl with | [_, _, _, _], _ => rfl
  have Fcrossings := fun_mk (st := s_crossings) lcrossings ccrossings kcrossings
  have bcrossings := Fcrossings.binds (ps := p_crossings) fun _ _ _ _ _ _ us hl => match us, hl with | [_], _ => rfl
  have Fhighest := fun_mk (st := s_highest) lhighest chighest khighest
  have bhighest := Fhighest.binds (ps := p_highest) fun _ _ _ _ _ _ us hl => match us, hl with | [_], _ => rfl
  have Ftop_of := fun_mk (st := s_top_of) ltop_of ctop_of ktop_of
  have btop_of := Ftop_of.binds (ps := p_top_of) fun _ _ _ _ _ _ us hl => match us, hl with | [_, _], _ => rfl
  have Flowest := fun_mk (st := s_lowest) llowest clowest klowest
  have blowest := Flowest.binds (ps := p_lowest) fun _ _ _ _ _ _ us hl => match us, hl with | [_], _ => rfl
  have F_law_cell := fun_mk (st := s__law_cell) l_law_cell c_law_cell k_law_cell
  have b_law_cell := F_law_cell.binds (ps := p__law_cell) fun _ _ _ _ _ _ us hl => match us, hl with | [_, _], _ => rfl
  have F_law_digits := fun_mk (st := s__law_digits) l_law_digits c_law_digits k_law_digits
  have b_law_digits := F_law_digits.binds (ps := p__law_digits) fun _ _ _ _ _ _ us hl => match us, hl with | [_, _], _ => rfl
  have F_law_is_integer := fun_mk (st := s__law_is_integer) l_law_is_integer c_law_is_integer k_law_is_integer
  have b_law_is_integer := F_law_is_integer.binds (ps := p__law_is_integer) fun _ _ _ _ _ _ us hl => match us, hl with | [_], _ => rfl
  have F_law_plain := fun_mk (st := s__law_plain) l_law_plain c_law_plain k_law_plain
  have b_law_plain := F_law_plain.binds (ps := p__law_plain) fun _ _ _ _ _ _ us hl => match us, hl with | [_, _], _ => rfl
  have F_law_pairs := fun_mk (st := s__law_pairs) l_law_pairs c_law_pairs k_law_pairs
  have b_law_pairs := F_law_pairs.binds (ps := p__law_pairs) fun _ _ _ _ _ _ us hl => match us, hl with | [_], _ => rfl
  have F_law_shut := fun_mk (st := s__law_shut) l_law_shut c_law_shut k_law_shut
  have b_law_shut := F_law_shut.binds (ps := p__law_shut) fun _ _ _ _ _ _ us hl => match us, hl with | [_], _ => rfl
  have F_law_is := fun_mk (st := s__law_is) l_law_is c_law_is k_law_is
  have b_law_is := F_law_is.binds (ps := p__law_is) fun _ _ _ _ _ _ us hl => match us, hl with | [_, _], _ => rfl
  have F_law_told := fun_mk (st := s__law_told) l_law_told c_law_told k_law_told
  have b_law_told := F_law_told.binds (ps := p__law_told) fun _ _ _ _ _ _ us hl => match us, hl with | [_, _], _ => rfl
  have F_law_place := fun_mk (st := s__law_place) l_law_place c_law_place k_law_place
  have b_law_place := F_law_place.binds (ps := p__law_place) fun _ _ _ _ _ _ us hl => match us, hl with | [_, _], _ => rfl
  have F_law_at := fun_mk (st := s__law_at) l_law_at c_law_at k_law_at
  have b_law_at := F_law_at.binds (ps := p__law_at) fun _ _ _ _ _ _ us hl => match us, hl with | [_, _], _ => rfl
  have F_law_drawn := fun_mk (st := s__law_drawn) l_law_drawn c_law_drawn k_law_drawn
  have b_law_drawn := F_law_drawn.binds (ps := p__law_drawn) fun _ _ _ _ _ _ us hl => match us, hl with | [_, _, _], _ => rfl
  have F_law_number := fun_mk (st := s__law_number) l_law_number c_law_number k_law_number
  have b_law_number := F_law_number.binds (ps := p__law_number) fun _ _ _ _ _ _ us hl => match us, hl with | [_], _ => rfl
  have F_law_line := fun_mk (st := s__law_line) l_law_line c_law_line k_law_line
  have b_law_line := F_law_line.binds (ps := p__law_line) fun _ _ _ _ _ _ us hl => match us, hl with | [_], _ => rfl
  have F_law_stands := fun_mk (st := s__law_stands) l_law_stands c_law_stands k_law_stands
  have b_law_stands := F_law_stands.binds (ps := p__law_stands) fun _ _ _ _ _ _ us hl => match us, hl with | [_, _, _], _ => rfl
  have Flaw := fun_mk (st := s_law) llaw claw klaw
  have blaw := Flaw.binds (ps := p_law) fun _ _ _ _ _ _ us hl => match us, hl with | [_], _ => rfl
  have FDyadic_UinitU : FunD K "__init__" "Dyadic.__init__" (defArgs s_Dyadic___init__) (defBody s_Dyadic___init__) (defScope s_Dyadic___init__) [.int 0] [] fDyadic_UinitU (PySem.W.fnOf "__init__" "Dyadic.__init__" (defArgs s_Dyadic___init__) (defBody s_Dyadic___init__) (defScope s_Dyadic___init__) (.ref fT) kVDyadic_UinitU dcDyadic_UinitU pmDyadic_UinitU anDyadic_UinitU cdDyadic_UinitU ctDyadic_UinitU) := ⟨⟨ocDyadic_UinitU, odDyadic_UinitU, .ref fT, kVDyadic_UinitU, dcDyadic_UinitU, pmDyadic_UinitU, anDyadic_UinitU, cdDyadic_UinitU, ctDyadic_UinitU, osDyadic_UinitU, rfl, lDyadic_UinitU, cDyadic_UinitU, .inr ⟨by simp, fT, _, [.int 0 tkT], nT, rfl, lT, rfl, .cons ⟨tkT, rfl⟩ .nil⟩, .inl rfl⟩, kDyadic_UinitU⟩
  obtain ⟨ds2, vd2, b2Dyadic_UinitU⟩ := FDyadic_UinitU.binds1 (ps := p_Dyadic___init__) 3 1 (by simp) rfl (fun T kV doc pm an cdv ct us its h1 h2 => match us, its, h1, h2 with | [_, _, _], [_], _, _ => ⟨_, rfl, rfl⟩)
  obtain ⟨ds1, vd1, b1Dyadic_UinitU⟩ := FDyadic_UinitU.binds1 (ps := p_Dyadic___init__) 2 0 (by simp) rfl (fun T kV doc pm an cdv ct us its h1 h2 => match us, its, h1, h2 with | [_, _], [_], _, _ => ⟨_, rfl, rfl⟩)
  cases vd2
  have b2Dyadic_UinitU : Binds K _ p_Dyadic___init__ [] := b2Dyadic_UinitU
  have FDyadic_top := fun_mk (st := s_Dyadic_top) lDyadic_top cDyadic_top kDyadic_top
  have bDyadic_top := FDyadic_top.binds (ps := p_Dyadic_top) fun _ _ _ _ _ _ us hl => match us, hl with | [_], _ => rfl
  have FDyadic_power := fun_mk (st := s_Dyadic_power) lDyadic_power cDyadic_power kDyadic_power
  have bDyadic_power := FDyadic_power.binds (ps := p_Dyadic_power) fun _ _ _ _ _ _ us hl => match us, hl with | [_], _ => rfl
  have FDyadic_UaddU := fun_mk (st := s_Dyadic___add__) lDyadic_UaddU cDyadic_UaddU kDyadic_UaddU
  have bDyadic_UaddU := FDyadic_UaddU.binds (ps := p_Dyadic___add__) fun _ _ _ _ _ _ us hl => match us, hl with | [_, _], _ => rfl
  have FDyadic_UnegU := fun_mk (st := s_Dyadic___neg__) lDyadic_UnegU cDyadic_UnegU kDyadic_UnegU
  have bDyadic_UnegU := FDyadic_UnegU.binds (ps := p_Dyadic___neg__) fun _ _ _ _ _ _ us hl => match us, hl with | [_], _ => rfl
  have FDyadic_UsubU := fun_mk (st := s_Dyadic___sub__) lDyadic_UsubU cDyadic_UsubU kDyadic_UsubU
  have bDyadic_UsubU := FDyadic_UsubU.binds (ps := p_Dyadic___sub__) fun _ _ _ _ _ _ us hl => match us, hl with | [_, _], _ => rfl
  have FDyadic_less := fun_mk (st := s_Dyadic_less) lDyadic_less cDyadic_less kDyadic_less
  have bDyadic_less := FDyadic_less.binds (ps := p_Dyadic_less) fun _ _ _ _ _ _ us hl => match us, hl with | [_, _], _ => rfl
  have FDyadic_same := fun_mk (st := s_Dyadic_same) lDyadic_same cDyadic_same kDyadic_same
  have bDyadic_same := FDyadic_same.binds (ps := p_Dyadic_same) fun _ _ _ _ _ _ us hl => match us, hl with | [_, _], _ => rfl
  have FDyadic_half := fun_mk (st := s_Dyadic_half) lDyadic_half cDyadic_half kDyadic_half
  have bDyadic_half := FDyadic_half.binds (ps := p_Dyadic_half) fun _ _ _ _ _ _ us hl => match us, hl with | [_], _ => rfl
  have FWall_UinitU := fun_mk (st := s_Wall___init__) lWall_UinitU cWall_UinitU kWall_UinitU
  have bWall_UinitU := FWall_UinitU.binds (ps := p_Wall___init__) fun _ _ _ _ _ _ us hl => match us, hl with | [_, _, _], _ => rfl
  have FWall_points := fun_mk (st := s_Wall_points) lWall_points cWall_points kWall_points
  have bWall_points := FWall_points.binds (ps := p_Wall_points) fun _ _ _ _ _ _ us hl => match us, hl with | [_], _ => rfl
  have FWall_slope := fun_mk (st := s_Wall_slope) lWall_slope cWall_slope kWall_slope
  have bWall_slope := FWall_slope.binds (ps := p_Wall_slope) fun _ _ _ _ _ _ us hl => match us, hl with | [_], _ => rfl
  have FWall_at := fun_mk (st := s_Wall_at) lWall_at cWall_at kWall_at
  have bWall_at := FWall_at.binds (ps := p_Wall_at) fun _ _ _ _ _ _ us hl => match us, hl with | [_, _], _ => rfl
  have FWall_slope_at := fun_mk (st := s_Wall_slope_at) lWall_slope_at cWall_slope_at kWall_slope_at
  have bWall_slope_at := FWall_slope_at.binds (ps := p_Wall_slope_at) fun _ _ _ _ _ _ us hl => match us, hl with | [_, _], _ => rfl
  have FWall_turned := fun_mk (st := s_Wall_turned) lWall_turned cWall_turned kWall_turned
  have bWall_turned := FWall_turned.binds (ps := p_Wall_turned) fun _ _ _ _ _ _ us hl => match us, hl with | [_], _ => rfl
  have FWallUplace := fun_mk (st := s_Wall__place) lWallUplace cWallUplace kWallUplace
  have bWallUplace := FWallUplace.binds (ps := p_Wall__place) fun _ _ _ _ _ _ us hl => match us, hl with | [_, _], _ => rfl
  refine ⟨_, fun s v => BindsTo.of_eq (fd := PySem.W.fnOf "law" "law" (defArgs s_law) (defBody s_law) (defScope s_law) .none kVlaw dclaw pmlaw anlaw cdlaw ctlaw) rfl, fun base _ _ => ?_⟩
  let E : EnvR := ⟨l.prog, w, K, mg, base⟩
  show FnV E 12 _ _ _ _
  have B : Blt E := ⟨PySem.W.mg_none_of X G z_len, PySem.W.mg_none_of X G z_int, PySem.W.mg_none_of X G z_isinstance, PySem.W.mg_none_of X G z_range, PySem.W.mg_none_of X G z_max, PySem.W.mg_none_of X G z_min, PySem.W.mg_none_of X G z_sorted, PySem.W.mg_none_of X G z_list, PySem.W.mg_none_of X G z_tuple, PySem.W.mg_none_of X G z_sum, PySem.W.mg_none_of X G z_abs, PySem.W.mg_none_of X G z_str, PySem.W.mg_none_of X G z_all, PySem.W.mg_none_of X G z_any, PySem.W.mg_none_of X G z_enumerate, PySem.W.mg_none_of X G z_bool, ⟨hnG, htG⟩⟩
  have clC : Cls E.K C := ⟨pgC, hdC, poC, saC⟩
  have clW : Cls E.K CW := ⟨pgCW, hdCW, poCW, saCW⟩
  have XB : ExcF E "BadValue" CB := ⟨PySem.W.mg_of X G aCB, xCB, kCB, bCB, tCB⟩
  have vis_integer := ok_is_integer (E := E) B Fis_integer
  have cis_integer : Callable E "is_integer" 1 1 _ := callable_fn (x := "is_integer") (n := 1) vis_integer (PySem.W.mg_of X G ais_integer) kis_integer bis_integer .nil (dds := []) (fun _ => .nil) (by decide +kernel)
  simp only [List.append_nil] at cis_integer
  have vreduced := ok_reduced (E := E) Freduced
  have creduced : Callable E "reduced" 1 2 _ := callable_fn (x := "reduced") (n := 2) vreduced (PySem.W.mg_of X G areduced) kreduced breduced .nil (dds := []) (fun _ => .nil) (by decide +kernel)
  simp only [List.append_nil] at creduced
  have DT : DyT E C CB := ⟨B, clC, nC_top, nC_power, ⟨tTM, PySem.W.mg_of X G vTM⟩, ⟨tPM, PySem.W.mg_of X G vPM⟩⟩
  have vInit := ok_initD (E := E) DT FDyadic_UinitU cis_integer creduced
  have mC : Mk E.K C fDyadic_UinitU := ⟨mkC, aDyadic_UinitU, iDyadic_UinitU, kcC⟩
  have mk1 : Callable E "Dyadic" 3 1 fun ds w P R => mkSpec C (S_Dyinit C) (ds ++ [.int 0]) w P R := callable_mk (x := "Dyadic") (n := 1) mC vInit (PySem.W.mg_of X G aC) b1Dyadic_UinitU vd1 (dds := [.int 0]) (fun _ => .cons (.int 0) .nil) (by decide +kernel)
  have mk2 : Callable E "Dyadic" 3 2 fun ds w P R => mkSpec C (S_Dyinit C) (ds ++ []) w P R := callable_mk (x := "Dyadic") (n := 2) mC vInit (PySem.W.mg_of X G aC) b2Dyadic_UinitU .nil (dds := []) (fun _ => .nil) (by decide +kernel)
  have PDyadic_top : PropV E C "top" 1 (S_Dytop C) := ⟨pDyadic_top, fDyadic_top, _, _, clC, ⟨aDyadic_top, gDyadic_top, tDyadic_top, rDyadic_top, qDyadic_top⟩, ok_top (E := E) DT FDyadic_top, bDyadic_top⟩
  have PDyadic_power : PropV E C "power" 1 (S_Dypower C) := ⟨pDyadic_power, fDyadic_power, _, _, clC, ⟨aDyadic_power, gDyadic_power, tDyadic_power, rDyadic_power, qDyadic_power⟩, ok_power (E := E) DT FDyadic_power, bDyadic_power⟩
  have D1 : Dy1 E C := ⟨clC, nC_top, nC_power, creduced, mk1, mk2, PDyadic_top, PDyadic_power⟩
  have oAdd : OwnBin E .Add C 4 (S_Dyadd C) := ⟨fDyadic_UaddU, _, _, ok_add (E := E) B D1 FDyadic_UaddU, bDyadic_UaddU, sfC, aDyadic_UaddU, iDyadic_UaddU, fun ds w P R ⟨a, b, e, h1, h2, h3, h⟩ => ⟨a, b, e, h1, h2, h3, True.intro, h⟩⟩
  have oNeg : OwnNeg E C 4 (S_Dyneg C) := ⟨fDyadic_UnegU, _, _, ok_neg (E := E) D1 FDyadic_UnegU, bDyadic_UnegU, aDyadic_UnegU, iDyadic_UnegU⟩
  have D2 : Dy2 E C := ⟨B, D1, ⟨clC, haC, hmC⟩, oAdd, oNeg⟩
  have oSub : OwnBin E .Sub C 5 (S_Dysub C) := ⟨fDyadic_UsubU, _, _, ok_sub (E := E) D2 FDyadic_UsubU, bDyadic_UsubU, sfC, aDyadic_UsubU, iDyadic_UsubU, fun ds w P R ⟨a, b, e, h1, h2, h3, h⟩ => ⟨a, b, e, h1, h2, h3, True.intro, h⟩⟩
  have MDyadic_less : MethV E C "less" 3 (S_Dyless C) := ⟨fDyadic_less, _, _, [], [], [], _, clC, ⟨aDyadic_less, iDyadic_less, kDyadic_less⟩, ok_less (E := E) D2 FDyadic_less, bDyadic_less, .nil, fun _ => .nil, fun ds w P R h => by rw [List.append_nil]; exact h⟩
  have MDyadic_same : MethV E C "same" 3 (S_Dysame C) := ⟨fDyadic_same, _, _, [], [], [], _, clC, ⟨aDyadic_same, iDyadic_same, kDyadic_same⟩, ok_same (E := E) D2 FDyadic_same, bDyadic_same, .nil, fun _ => .nil, fun ds w P R h => by rw [List.append_nil]; exact h⟩
  have MDyadic_half : MethV E C "half" 4 (S_Dyhalf C) := ⟨fDyadic_half, _, _, [], [], [], _, clC, ⟨aDyadic_half, iDyadic_half, kDyadic_half⟩, ok_half (E := E) D2 FDyadic_half, bDyadic_half, .nil, fun _ => .nil, fun ds w P R h => by rw [List.append_nil]; exact h⟩
  have D3 : Dy3 E C := ⟨D2, oSub, MDyadic_less, MDyadic_same⟩
  have vscaled := ok_scaled (E := E) D3 tSC (PySem.W.mg_of X G vSC) Fscaled
  have cscaled : Callable E "scaled" 3 1 _ := callable_fn (x := "scaled") (n := 1) vscaled (PySem.W.mg_of X G ascaled) kscaled bscaled .nil (dds := []) (fun _ => .nil) (by decide +kernel)
  simp only [List.append_nil] at cscaled
  have vtimes := ok_times (E := E) D3 Ftimes
  have ctimes : Callable E "times" 5 2 _ := callable_fn (x := "times") (n := 2) vtimes (PySem.W.mg_of X G atimes) ktimes btimes .nil (dds := []) (fun _ => .nil) (by decide +kernel)
  simp only [List.append_nil] at ctimes
  have vslope_between := ok_slope (E := E) D3 XB ctimes Fslope_between
  have cslope_between : Callable E "slope_between" 6 2 _ := callable_fn (x := "slope_between") (n := 2) vslope_between (PySem.W.mg_of X G aslope_between) kslope_between bslope_between .nil (dds := []) (fun _ => .nil) (by decide +kernel)
  simp only [List.append_nil] at cslope_between
  have vWinit := ok_winit (E := E) B D3 XB clW nCW_points nCW_slopes cslope_between FWall_UinitU
  have mW : Mk E.K CW fWall_UinitU := ⟨mkCW, aWall_UinitU, iWall_UinitU, kcCW⟩
  have mkw : Callable E "Wall" 8 2 fun ds w P R => mkSpec CW (S_Winit C CW CB) (ds ++ []) w P R := callable_mk (x := "Wall") (n := 2) mW vWinit (PySem.W.mg_of X G aCW) bWall_UinitU .nil (dds := []) (fun _ => .nil) (by decide +kernel)
  have A : Wa E C CW CB := ⟨B, D3, clW, nCW_points, nCW_slopes, mkw, ctimes⟩
  have MWallUplace : MethV E CW "_place" 5 (S_place C CW CB) := ⟨fWallUplace, _, _, [], [], [], _, clW, ⟨aWallUplace, iWallUplace, kWallUplace⟩, ok_place (E := E) XB A FWallUplace, bWallUplace, .nil, fun _ => .nil, fun ds w P R h => by rw [List.append_nil]; exact h⟩
  have Ab : Wb E C CW CB := ⟨A, MWallUplace⟩
  have MWall_at : MethV E CW "at" 6 (S_at C CW CB) := ⟨fWall_at, _, _, [], [], [], _, clW, ⟨aWall_at, iWall_at, kWall_at⟩, ok_at (E := E) Ab FWall_at, bWall_at, .nil, fun _ => .nil, fun ds w P R h => by rw [List.append_nil]; exact h⟩
  have MWall_slope_at : MethV E CW "slope_at" 6 (S_slope_at C CW CB) := ⟨fWall_slope_at, _, _, [], [], [], _, clW, ⟨aWall_slope_at, iWall_slope_at, kWall_slope_at⟩, ok_slope_at (E := E) Ab FWall_slope_at, bWall_slope_at, .nil, fun _ => .nil, fun ds w P R h => by rw [List.append_nil]; exact h⟩
  have MWall_points : MethV E CW "points" 1 (S_points C CW) := ⟨fWall_points, _, _, [], [], [], _, clW, ⟨aWall_points, iWall_points, kWall_points⟩, ok_points (E := E) A FWall_points, bWall_points, .nil, fun _ => .nil, fun ds w P R h => by rw [List.append_nil]; exact h⟩
  have PWall_slope : PropV E CW "slope" 1 (S_slope_p C CW) := ⟨pWall_slope, fWall_slope, _, _, clW, ⟨aWall_slope, gWall_slope, tWall_slope, rWall_slope, qWall_slope⟩, ok_slope_p (E := E) A FWall_slope, bWall_slope⟩
  have MWall_turned : MethV E CW "turned" 9 (S_turned C CW) := ⟨fWall_turned, _, _, [], [], [], _, clW, ⟨aWall_turned, iWall_turned, kWall_turned⟩, ok_turned (E := E) A PWall_slope FWall_turned, bWall_turned, .nil, fun _ => .nil, fun ds w P R h => by rw [List.append_nil]; exact h⟩
  have Ac : Wc E C CW CB := ⟨A, MWall_at, MWall_slope_at, MWall_points, MWall_turned, PWall_slope, MDyadic_half⟩
  have vall_heats := ok_all_heats (E := E) Ac cscaled Fall_heats
  have call_heats : Callable E "all_heats" 4 1 _ := callable_fn (x := "all_heats") (n := 1) vall_heats (PySem.W.mg_of X G aall_heats) kall_heats ball_heats .nil (dds := []) (fun _ => .nil) (by decide +kernel)
  simp only [List.append_nil] at call_heats
  have vcrossing := ok_crossing (E := E) Ac Fcrossing
  have ccrossing : Callable E "crossing" 7 4 _ := callable_fn (x := "crossing") (n := 4) vcrossing (PySem.W.mg_of X G acrossing) kcrossing bcrossing .nil (dds := []) (fun _ => .nil) (by decide +kernel)
  simp only [List.append_nil] at ccrossing
  have vcrossings := ok_crossings (E := E) Ac cscaled call_heats ccrossing Fcrossings
  have ccrossings : Callable E "crossings" 8 1 _ := callable_fn (x := "crossings") (n := 1) vcrossings (PySem.W.mg_of X G acrossings) kcrossings bcrossings .nil (dds := []) (fun _ => .nil) (by decide +kernel)
  simp only [List.append_nil] at ccrossings
  have vtop_of := ok_top_of (E := E) Ac Ftop_of
  have ctop_of : Callable E "top_of" 7 2 _ := callable_fn (x := "top_of") (n := 2) vtop_of (PySem.W.mg_of X G atop_of) ktop_of btop_of .nil (dds := []) (fun _ => .nil) (by decide +kernel)
  simp only [List.append_nil] at ctop_of
  have vhighest := ok_highest (E := E) Ac cscaled call_heats ccrossings ctop_of Fhighest
  have chighest : Callable E "highest" 9 1 _ := callable_fn (x := "highest") (n := 1) vhighest (PySem.W.mg_of X G ahighest) khighest bhighest .nil (dds := []) (fun _ => .nil) (by decide +kernel)
  simp only [List.append_nil] at chighest
  have vlowest := ok_lowest (E := E) Ac chighest Flowest
  have clowest : Callable E "lowest" 10 1 _ := callable_fn (x := "lowest") (n := 1) vlowest (PySem.W.mg_of X G alowest) klowest blowest .nil (dds := []) (fun _ => .nil) (by decide +kernel)
  simp only [List.append_nil] at clowest
  have v_law_is_integer := ok__is_integer (E := E) B F_law_is_integer
  have c_law_is_integer : Callable E "_law_is_integer" 2 1 _ := callable_fn (x := "_law_is_integer") (n := 1) v_law_is_integer (PySem.W.mg_of X G a_law_is_integer) k_law_is_integer b_law_is_integer .nil (dds := []) (fun _ => .nil) (by decide +kernel)
  simp only [List.append_nil] at c_law_is_integer
  have Al : Li E C CW CB := ⟨Ac, PySem.W.mg_of X G aC, PySem.W.mg_of X G aCW, ⟨clW, haCW, hmCW⟩, kit_self, kit_self, c_law_is_integer⟩
  have v_law_cell := ok__cell (E := E) B F_law_cell
  have c_law_cell : Callable E "_law_cell" 1 2 _ := callable_fn (x := "_law_cell") (n := 2) v_law_cell (PySem.W.mg_of X G a_law_cell) k_law_cell b_law_cell .nil (dds := []) (fun _ => .nil) (by decide +kernel)
  simp only [List.append_nil] at c_law_cell
  have v_law_digits := ok__digits (E := E) B F_law_digits
  have c_law_digits : Callable E "_law_digits" 1 2 _ := callable_fn (x := "_law_digits") (n := 2) v_law_digits (PySem.W.mg_of X G a_law_digits) k_law_digits b_law_digits .nil (dds := []) (fun _ => .nil) (by decide +kernel)
  simp only [List.append_nil] at c_law_digits
  have v_law_plain := ok__plain (E := E) B F_law_plain
  have c_law_plain : Callable E "_law_plain" 1 2 _ := callable_fn (x := "_law_plain") (n := 2) v_law_plain (PySem.W.mg_of X G a_law_plain) k_law_plain b_law_plain .nil (dds := []) (fun _ => .nil) (by decide +kernel)
  simp only [List.append_nil] at c_law_plain
  have v_law_pairs := ok__pairs (E := E) D3 F_law_pairs
  have c_law_pairs : Callable E "_law_pairs" 4 1 _ := callable_fn (x := "_law_pairs") (n := 1) v_law_pairs (PySem.W.mg_of X G a_law_pairs) k_law_pairs b_law_pairs .nil (dds := []) (fun _ => .nil) (by decide +kernel)
  simp only [List.append_nil] at c_law_pairs
  have v_law_shut := ok__shut (E := E) Al c_law_pairs F_law_shut
  have c_law_shut : Callable E "_law_shut" 9 1 _ := callable_fn (x := "_law_shut") (n := 1) v_law_shut (PySem.W.mg_of X G a_law_shut) k_law_shut b_law_shut .nil (dds := []) (fun _ => .nil) (by decide +kernel)
  simp only [List.append_nil] at c_law_shut
  have v_law_is := ok__is (E := E) Al c_law_plain F_law_is
  have c_law_is : Callable E "_law_is" 4 2 _ := callable_fn (x := "_law_is") (n := 2) v_law_is (PySem.W.mg_of X G a_law_is) k_law_is b_law_is .nil (dds := []) (fun _ => .nil) (by decide +kernel)
  simp only [List.append_nil] at c_law_is
  have v_law_told := ok__told (E := E) Al c_law_is F_law_told
  have c_law_told : Callable E "_law_told" 5 2 _ := callable_fn (x := "_law_told") (n := 2) v_law_told (PySem.W.mg_of X G a_law_told) k_law_told b_law_told .nil (dds := []) (fun _ => .nil) (by decide +kernel)
  simp only [List.append_nil] at c_law_told
  have v_law_place := ok__place (E := E) B F_law_place
  have c_law_place : Callable E "_law_place" 1 2 _ := callable_fn (x := "_law_place") (n := 2) v_law_place (PySem.W.mg_of X G a_law_place) k_law_place b_law_place .nil (dds := []) (fun _ => .nil) (by decide +kernel)
  simp only [List.append_nil] at c_law_place
  have v_law_at := ok__lat (E := E) c_law_place F_law_at
  have c_law_at : Callable E "_law_at" 2 2 _ := callable_fn (x := "_law_at") (n := 2) v_law_at (PySem.W.mg_of X G a_law_at) k_law_at b_law_at .nil (dds := []) (fun _ => .nil) (by decide +kernel)
  simp only [List.append_nil] at c_law_at
  have v_law_drawn := ok__drawn (E := E) B c_law_digits F_law_drawn
  have c_law_drawn : Callable E "_law_drawn" 2 3 _ := callable_fn (x := "_law_drawn") (n := 3) v_law_drawn (PySem.W.mg_of X G a_law_drawn) k_law_drawn b_law_drawn .nil (dds := []) (fun _ => .nil) (by decide +kernel)
  simp only [List.append_nil] at c_law_drawn
  have v_law_number := ok__number (E := E) Al F_law_number
  have c_law_number : Callable E "_law_number" 4 1 _ := callable_fn (x := "_law_number") (n := 1) v_law_number (PySem.W.mg_of X G a_law_number) k_law_number b_law_number .nil (dds := []) (fun _ => .nil) (by decide +kernel)
  simp only [List.append_nil] at c_law_number
  have v_law_line := ok__line (E := E) Al c_law_number F_law_line
  have c_law_line : Callable E "_law_line" 5 1 _ := callable_fn (x := "_law_line") (n := 1) v_law_line (PySem.W.mg_of X G a_law_line) k_law_line b_law_line .nil (dds := []) (fun _ => .nil) (by decide +kernel)
  simp only [List.append_nil] at c_law_line
  have v_law_stands := ok__stands (E := E) Al c_law_line c_law_at F_law_stands
  have c_law_stands : Callable E "_law_stands" 6 3 _ := callable_fn (x := "_law_stands") (n := 3) v_law_stands (PySem.W.mg_of X G a_law_stands) k_law_stands b_law_stands .nil (dds := []) (fun _ => .nil) (by decide +kernel)
  simp only [List.append_nil] at c_law_stands
  exact ok_law (E := E) Al c_law_cell c_law_drawn c_law_shut chighest clowest c_law_stands c_law_told c_law_line Flaw
end Wl

end

section
open PySem PySem.W PyProof.Rows
set_option maxRecDepth 100000 in
set_option maxHeartbeats 0 in
theorem PySem.Challenge.cw_sumsplay_k48_highest_and_lowest_holds : PySem.Challenge.rw_sumsplay_k48_highest_and_lowest.Holds := by
  w_on; o_law; k_head; (case hw => w_witness2)
  k_fill
  refine VL.law_walk (l := PySem.Challenge.rw_sumsplay_k48_highest_and_lowest) (k := 12) (x := "_law_script") rfl rfl ⟨rfl, by decide, by decide⟩ (fun w h Y => PySem.W.kIn_of Y) ?F
  case F =>
    intro w mg fa h KX G hmg
    refine' Wl.all_mk KX G hmg ?ais_integer ?lis_integer ?cis_integer ?kis_integer ?areduced ?lreduced ?creduced ?kreduced ?ascaled ?lscaled ?cscaled ?kscaled ?aslope_between ?lslope_between ?cslope_between ?kslope_between ?atimes ?ltimes ?ctimes ?ktimes ?aall_heats ?lall_heats ?call_heats ?kall_heats ?acrossing ?lcrossing ?ccrossing ?kcrossing ?acrossings ?lcrossings ?ccrossings ?kcrossings ?ahighest ?lhighest ?chighest ?khighest ?atop_of ?ltop_of ?ctop_of ?ktop_of ?alowest ?llowest ?clowest ?klowest ?a_law_cell ?l_law_cell ?c_law_cell ?k_law_cell ?a_law_digits ?l_law_digits ?c_law_digits ?k_law_digits ?a_law_is_integer ?l_law_is_integer ?c_law_is_integer ?k_law_is_integer ?a_law_plain ?l_law_plain ?c_law_plain ?k_law_plain ?a_law_pairs ?l_law_pairs ?c_law_pairs ?k_law_pairs ?a_law_shut ?l_law_shut ?c_law_shut ?k_law_shut ?a_law_is ?l_law_is ?c_law_is ?k_law_is ?a_law_told ?l_law_told ?c_law_told ?k_law_told ?a_law_place ?l_law_place ?c_law_place ?k_law_place ?a_law_at ?l_law_at ?c_law_at ?k_law_at ?a_law_drawn ?l_law_drawn ?c_law_drawn ?k_law_drawn ?a_law_number ?l_law_number ?c_law_number ?k_law_number ?a_law_line ?l_law_line ?c_law_line ?k_law_line ?a_law_stands ?l_law_stands ?c_law_stands ?k_law_stands ?alaw ?llaw ?claw ?klaw ?lT ?aDyadic_UinitU ?iDyadic_UinitU ?lDyadic_UinitU ?cDyadic_UinitU ?kDyadic_UinitU ?aDyadic_top ?gDyadic_top ?tDyadic_top ?qDyadic_top ?lDyadic_top ?cDyadic_top ?kDyadic_top ?aDyadic_power ?gDyadic_power ?tDyadic_power ?qDyadic_power ?lDyadic_power ?cDyadic_power ?kDyadic_power ?aDyadic_UaddU ?iDyadic_UaddU ?lDyadic_UaddU ?cDyadic_UaddU ?kDyadic_UaddU ?aDyadic_UnegU ?iDyadic_UnegU ?lDyadic_UnegU ?cDyadic_UnegU ?kDyadic_UnegU ?aDyadic_UsubU ?iDyadic_UsubU ?lDyadic_UsubU ?cDyadic_UsubU ?kDyadic_UsubU ?aDyadic_less ?iDyadic_less ?lDyadic_less ?cDyadic_less ?kDyadic_less ?aDyadic_same ?iDyadic_same ?lDyadic_same ?cDyadic_same ?kDyadic_same ?aDyadic_half ?iDyadic_half ?lDyadic_half ?cDyadic_half ?kDyadic_half ?aWall_UinitU ?iWall_UinitU ?lWall_UinitU ?cWall_UinitU ?kWall_UinitU ?aWall_points ?iWall_points ?lWall_points ?cWall_points ?kWall_points ?aWall_slope ?gWall_slope ?tWall_slope ?qWall_slope ?lWall_slope ?cWall_slope ?kWall_slope ?aWall_at ?iWall_at ?lWall_at ?cWall_at ?kWall_at ?aWall_slope_at ?iWall_slope_at ?lWall_slope_at ?cWall_slope_at ?kWall_slope_at ?aWall_turned ?iWall_turned ?lWall_turned ?cWall_turned ?kWall_turned ?aWallUplace ?iWallUplace ?lWallUplace ?cWallUplace ?kWallUplace ?aC ?pgC ?hdC ?poC ?saC ?mkC ?kcC ?haC ?hmC ?aCW ?pgCW ?hdCW ?poCW ?saCW ?mkCW ?kcCW ?haCW ?hmCW ?sfC ?nC_top ?nC_power ?nCW_points ?nCW_slopes ?vTM ?vPM ?vSC ?aCB ?kCB ?bCB ?tCB ?xCB ?z_len ?z_int ?z_isinstance ?z_range ?z_max ?z_min ?z_sorted ?z_list ?z_tuple ?z_sum ?z_abs ?z_str ?z_all ?z_any ?z_enumerate ?z_bool ?hnG ?htG
    (case aC => k_is)
    (case aCW => k_is)
    (case aCB => k_is)
    (case ais_integer => k_is)
    (case lis_integer => k_is)
    (case cis_integer => k_is)
    (case kis_integer => k_is)
    (case areduced => k_is)
    (case lreduced => k_is)
    (case creduced => k_is)
    (case kreduced => k_is)
    (case ascaled => k_is)
    (case lscaled => k_is)
    (case cscaled => k_is)
    (case kscaled => k_is)
    (case aslope_between => k_is)
    (case lslope_between => k_is)
    (case cslope_between => k_is)
    (case kslope_between => k_is)
    (case atimes => k_is)
    (case ltimes => k_is)
    (case ctimes => k_is)
    (case ktimes => k_is)
    (case aall_heats => k_is)
    (case lall_heats => k_is)
    (case call_heats => k_is)
    (case kall_heats => k_is)
    (case acrossing => k_is)
    (case lcrossing => k_is)
    (case ccrossing => k_is)
    (case kcrossing => k_is)
    (case acrossings => k_is)
    (case lcrossings => k_is)
    (case ccrossings => k_is)
    (case kcrossings => k_is)
    (case ahighest => k_is)
    (case lhighest => k_is)
    (case chighest => k_is)
    (case khighest => k_is)
    (case atop_of => k_is)
    (case ltop_of => k_is)
    (case ctop_of => k_is)
    (case ktop_of => k_is)
    (case alowest => k_is)
    (case llowest => k_is)
    (case clowest => k_is)
    (case klowest => k_is)
    (case a_law_cell => k_is)
    (case l_law_cell => k_is)
    (case c_law_cell => k_is)
    (case k_law_cell => k_is)
    (case a_law_digits => k_is)
    (case l_law_digits => k_is)
    (case c_law_digits => k_is)
    (case k_law_digits => k_is)
    (case a_law_is_integer => k_is)
    (case l_law_is_integer => k_is)
    (case c_law_is_integer => k_is)
    (case k_law_is_integer => k_is)
    (case a_law_plain => k_is)
    (case l_law_plain => k_is)
    (case c_law_plain => k_is)
    (case k_law_plain => k_is)
    (case a_law_pairs => k_is)
    (case l_law_pairs => k_is)
    (case c_law_pairs => k_is)
    (case k_law_pairs => k_is)
    (case a_law_shut => k_is)
    (case l_law_shut => k_is)
    (case c_law_shut => k_is)
    (case k_law_shut => k_is)
    (case a_law_is => k_is)
    (case l_law_is => k_is)
    (case c_law_is => k_is)
    (case k_law_is => k_is)
    (case a_law_told => k_is)
    (case l_law_told => k_is)
    (case c_law_told => k_is)
    (case k_law_told => k_is)
    (case a_law_place => k_is)
    (case l_law_place => k_is)
    (case c_law_place => k_is)
    (case k_law_place => k_is)
    (case a_law_at => k_is)
    (case l_law_at => k_is)
    (case c_law_at => k_is)
    (case k_law_at => k_is)
    (case a_law_drawn => k_is)
    (case l_law_drawn => k_is)
    (case c_law_drawn => k_is)
    (case k_law_drawn => k_is)
    (case a_law_number => k_is)
    (case l_law_number => k_is)
    (case c_law_number => k_is)
    (case k_law_number => k_is)
    (case a_law_line => k_is)
    (case l_law_line => k_is)
    (case c_law_line => k_is)
    (case k_law_line => k_is)
    (case a_law_stands => k_is)
    (case l_law_stands => k_is)
    (case c_law_stands => k_is)
    (case k_law_stands => k_is)
    (case alaw => k_is)
    (case llaw => k_is)
    (case claw => k_is)
    (case klaw => k_is)
    (case aDyadic_UinitU => k_is)
    (case iDyadic_UinitU => k_is)
    (case lDyadic_UinitU => k_is)
    (case cDyadic_UinitU => k_is)
    (case kDyadic_UinitU => k_is)
    (case aDyadic_top => k_is)
    (case gDyadic_top => k_is)
    (case tDyadic_top => k_is)
    (case qDyadic_top => k_is)
    (case lDyadic_top => k_is)
    (case cDyadic_top => k_is)
    (case kDyadic_top => k_is)
    (case aDyadic_power => k_is)
    (case gDyadic_power => k_is)
    (case tDyadic_power => k_is)
    (case qDyadic_power => k_is)
    (case lDyadic_power => k_is)
    (case cDyadic_power => k_is)
    (case kDyadic_power => k_is)
    (case aDyadic_UaddU => k_is)
    (case iDyadic_UaddU => k_is)
    (case lDyadic_UaddU => k_is)
    (case cDyadic_UaddU => k_is)
    (case kDyadic_UaddU => k_is)
    (case aDyadic_UnegU => k_is)
    (case iDyadic_UnegU => k_is)
    (case lDyadic_UnegU => k_is)
    (case cDyadic_UnegU => k_is)
    (case kDyadic_UnegU => k_is)
    (case aDyadic_UsubU => k_is)
    (case iDyadic_UsubU => k_is)
    (case lDyadic_UsubU => k_is)
    (case cDyadic_UsubU => k_is)
    (case kDyadic_UsubU => k_is)
    (case aDyadic_less => k_is)
    (case iDyadic_less => k_is)
    (case lDyadic_less => k_is)
    (case cDyadic_less => k_is)
    (case kDyadic_less => k_is)
    (case aDyadic_same => k_is)
    (case iDyadic_same => k_is)
    (case lDyadic_same => k_is)
    (case cDyadic_same => k_is)
    (case kDyadic_same => k_is)
    (case aDyadic_half => k_is)
    (case iDyadic_half => k_is)
    (case lDyadic_half => k_is)
    (case cDyadic_half => k_is)
    (case kDyadic_half => k_is)
    (case aWall_UinitU => k_is)
    (case iWall_UinitU => k_is)
    (case lWall_UinitU => k_is)
    (case cWall_UinitU => k_is)
    (case kWall_UinitU => k_is)
    (case aWall_points => k_is)
    (case iWall_points => k_is)
    (case lWall_points => k_is)
    (case cWall_points => k_is)
    (case kWall_points => k_is)
    (case aWall_slope => k_is)
    (case gWall_slope => k_is)
    (case tWall_slope => k_is)
    (case qWall_slope => k_is)
    (case lWall_slope => k_is)
    (case cWall_slope => k_is)
    (case kWall_slope => k_is)
    (case aWall_at => k_is)
    (case iWall_at => k_is)
    (case lWall_at => k_is)
    (case cWall_at => k_is)
    (case kWall_at => k_is)
    (case aWall_slope_at => k_is)
    (case iWall_slope_at => k_is)
    (case lWall_slope_at => k_is)
    (case cWall_slope_at => k_is)
    (case kWall_slope_at => k_is)
    (case aWall_turned => k_is)
    (case iWall_turned => k_is)
    (case lWall_turned => k_is)
    (case cWall_turned => k_is)
    (case kWall_turned => k_is)
    (case aWallUplace => k_is)
    (case iWallUplace => k_is)
    (case lWallUplace => k_is)
    (case cWallUplace => k_is)
    (case kWallUplace => k_is)
    (case pgC => k_is)
    (case hdC => k_is)
    (case poC => k_is)
    (case saC => k_is)
    (case mkC => k_is)
    (case kcC => k_is)
    (case haC => k_is)
    (case hmC => k_is)
    (case pgCW => k_is)
    (case hdCW => k_is)
    (case poCW => k_is)
    (case saCW => k_is)
    (case mkCW => k_is)
    (case kcCW => k_is)
    (case haCW => k_is)
    (case hmCW => k_is)
    (case sfC => k_is)
    (case nC_top => k_is)
    (case nC_power => k_is)
    (case nCW_points => k_is)
    (case nCW_slopes => k_is)
    (case vTM => k_is)
    (case vPM => k_is)
    (case vSC => k_is)
    (case kCB => k_is)
    (case bCB => k_is)
    (case tCB => k_is)
    (case xCB => k_exc)
    (case z_len => k_is)
    (case z_int => k_is)
    (case z_isinstance => k_is)
    (case z_range => k_is)
    (case z_max => k_is)
    (case z_min => k_is)
    (case z_sorted => k_is)
    (case z_list => k_is)
    (case z_tuple => k_is)
    (case z_sum => k_is)
    (case z_abs => k_is)
    (case z_str => k_is)
    (case z_all => k_is)
    (case z_any => k_is)
    (case z_enumerate => k_is)
    (case z_bool => k_is)
    (case hnG => k_is)
    (case htG => k_is)
    (case lT => k_is)

end
