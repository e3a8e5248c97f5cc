import PyProof.Rows.All
import Wide.All
import OpenK.AllK
import Wide.FinOn
import PySem.Challenge.RW_leastlabour_k02_whole_ratios_written_and
import HandS.ForMost
import HandS.ForExc
import HandS.Defaults
import HandS.Style
import HandS.IsInst
import HandS.Gcd
import HandS.Flow
import HandS.Wide
import HandS.Rev
import HandS.Zip
import HandS.Text
import PyProof.StrOps2
import HandS.TupAny
import HandS.ExcInit
import HandS.ExcField
import HandS.ExcIs
import HandS.TryMany
import HandS.TryOnly
import KE.KExcIs
import HandS.MakeKw
import HandS.ExcOwn
import HandS.HeadHook4
import HandS.Comp
import HandS.Ends
import HandS.More
import HandS.Dict
import PyProof.ReprRoads
import PyProof.FitsInt
import HandS.FStr
import HandS.HeadEnd
import KE.IntTextText
import PyProof.StrLawsAffix
import KE.KStateDown
import HandS.Head0
import HandS.Head1
import HandS.Head2
import HandS.Head3
import HandS.HeadHook1
import HandS.HeadHook2
set_option Elab.async false
set_option linter.all false
set_option maxRecDepth 100000
set_option maxHeartbeats 4000000
/-! PvA: values as pure data, what represents them in the abstract heap. -/
namespace Pv
open PySem PySem.Spec PyProof.Rows L2

/-- a value as data: never changed -/
inductive D where
  | non | bl (b : Bool) | int (i : Int) | str (x : Str)
  | tup (xs : List D) | lst (xs : List D) | ins (c : Nat) (fs : List (Nat × D)) | dic
/-- owned data: a list or an instance that may be changed, at a place of its own -/
inductive O where
  | sh (d : D) | lst (xs : List O) | ins (c : Nat) (fs : List (Nat × O))
mutual
def O.view : O → D
  | .sh d => d
  | .lst xs => .lst (O.viewL xs)
  | .ins c fs => .ins c (O.viewF fs)
def O.viewL : List O → List D
  | [] => []
  | o :: os => O.view o :: O.viewL os
def O.viewF : List (Nat × O) → List (Nat × D)
  | [] => []
  | (k, o) :: os => (k, O.view o) :: O.viewF os
end
theorem viewL_map : ∀ os : List O, O.viewL os = os.map O.view
  | [] => by rw [O.viewL]; rfl
  | o :: os => by rw [O.viewL, viewL_map os]; rfl
theorem viewF_map : ∀ os : List (Nat × O), O.viewF os = os.map fun p => (p.1, p.2.view)
  | [] => by rw [O.viewF]; rfl
  | (k, o) :: os => by rw [O.viewF, viewF_map os]; rfl
/-- the inner places given up -/
def O.flat : O → O
  | .sh d => .sh d
  | .lst xs => .lst (xs.map fun o => .sh o.view)
  | .ins c fs => .ins c (fs.map fun p => (p.1, .sh p.2.view))

/-- names of attributes by number, classes' addresses by number -/
structure Tb where
  K : PySem.W.Frag
  nm : List Str
  ca : Nat → Addr
  flo : Hp
  pin : List (Nat × V)

mutual
inductive Rep (T : Tb) (C : Hp) : D → V → Prop
  | non : Rep T C .non .non
  | bl (b : Bool) : Rep T C (.bl b) (.bl b)
  | int (i : Int) : Rep T C (.int i) (.int i)
  | str (x : Str) : Rep T C (.str x) (.str x)
  | tup {a : Addr} {vs : List V} {ds : List D} (h : SqT T.K C a vs) (r : RepL T C ds vs) : Rep T C (.tup ds) (.ref a)
  | lst {a : Addr} {vs : List V} {ds : List D} (h : SqL T.K C a vs) (r : RepL T C ds vs) : Rep T C (.lst ds) (.ref a)
  | ins {a dx : Addr} {c : Nat} {fs : List (Str × V)} {fd : List (Nat × D)} (h : C a = some (.ins (T.ca c) dx fs)) (r : RepF T C fd fs) : Rep T C (.ins c fd) (.ref a)
  | dic {a : Addr} (h : C a = some (.dK [])) : Rep T C .dic (.ref a)
inductive RepL (T : Tb) (C : Hp) : List D → List V → Prop
  | nil : RepL T C [] []
  | cons {d : D} {v : V} {ds : List D} {vs : List V} (h : Rep T C d v) (r : RepL T C ds vs) : RepL T C (d :: ds) (v :: vs)
inductive RepF (T : Tb) (C : Hp) : List (Nat × D) → List (Str × V) → Prop
  | nil : RepF T C [] []
  | cons {k : Nat} {f : Str} {d : D} {v : V} {ds : List (Nat × D)} {vs : List (Str × V)} (n : T.nm[k]? = some f) (h : Rep T C d v) (r : RepF T C ds vs) : RepF T C ((k, d) :: ds) ((f, v) :: vs)
end

/-- all of the one stands in the other -/
def Sub (C H : Hp) : Prop := ∀ a o, C a = some o → H a = some o
theorem Sub.refl (C : Hp) : Sub C C := fun _ _ e => e
theorem Sub.trans {A B C : Hp} (a : Sub A B) (b : Sub B C) : Sub A C := fun _ _ e => b _ _ (a _ _ e)
theorem Sub.none {C H : Hp} (s : Sub C H) {a : Addr} (h : H a = none) : C a = none := by
  cases e : C a with
  | none => rfl
  | some o => rw [s a o e] at h; cases h
theorem Sub.sqT {K : PySem.W.Frag} {C H : Hp} {a : Addr} {vs : List V} (s : Sub C H) (h : SqT K C a vs) : SqT K H a vs := by
  rcases h with (h | ⟨o, h⟩) | h
  · exact .inl (.inl (s _ _ h))
  · exact .inl (.inr ⟨o, s _ _ h⟩)
  · exact .inr h
theorem Sub.sqL {K : PySem.W.Frag} {C H : Hp} {a : Addr} {vs : List V} (s : Sub C H) (h : SqL K C a vs) : SqL K H a vs := by
  rcases h with (h | ⟨o, h⟩) | h
  · exact .inl (.inl (s _ _ h))
  · exact .inl (.inr ⟨o, s _ _ h⟩)
  · exact .inr h

mutual
theorem Rep.mono {T : Tb} {C C' : Hp} (s : Sub C C') : ∀ {d : D} {v : V}, Rep T C d v → Rep T C' d v
  | _, _, .non => .non
  | _, _, .bl b => .bl b
  | _, _, .int i => .int i
  | _, _, .str x => .str x
  | _, _, .tup h r => .tup (s.sqT h) (RepL.mono s r)
  | _, _, .lst h r => .lst (s.sqL h) (RepL.mono s r)
  | _, _, .ins h r => .ins (s _ _ h) (RepF.mono s r)
  | _, _, .dic h => .dic (s _ _ h)
theorem RepL.mono {T : Tb} {C C' : Hp} (s : Sub C C') : ∀ {ds : List D} {vs : List V}, RepL T C ds vs → RepL T C' ds vs
  | _, _, .nil => .nil
  | _, _, .cons h r => .cons (Rep.mono s h) (RepL.mono s r)
theorem RepF.mono {T : Tb} {C C' : Hp} (s : Sub C C') : ∀ {ds : List (Nat × D)} {vs : List (Str × V)}, RepF T C ds vs → RepF T C' ds vs
  | _, _, .nil => .nil
  | _, _, .cons n h r => .cons n (Rep.mono s h) (RepF.mono s r)
end
section
variable {T : Tb} {C : Hp}
theorem RepL.length : ∀ {ds : List D} {vs : List V}, RepL T C ds vs → ds.length = vs.length
  | _, _, .nil => rfl
  | _, _, .cons _ r => congrArg (· + 1) (RepL.length r)
theorem RepL.get : ∀ {ds : List D} {vs : List V} {i : Nat} {d : D}, RepL T C ds vs → ds[i]? = some d → ∃ v, vs[i]? = some v ∧ Rep T C d v
  | _, _, _, _, .nil, e => by simp at e
  | _, _, 0, _, .cons h _, e => by simp at e; subst e; exact ⟨_, rfl, h⟩
  | _, _, i + 1, d, .cons _ r, e => by
    obtain ⟨v, h1, h2⟩ := RepL.get (i := i) (d := d) r (by simpa using e)
    exact ⟨v, by simpa using h1, h2⟩
theorem RepL.get' : ∀ {ds : List D} {vs : List V} {i : Nat} {v : V}, RepL T C ds vs → vs[i]? = some v → ∃ d, ds[i]? = some d ∧ Rep T C d v
  | _, _, _, _, .nil, e => by simp at e
  | _, _, 0, _, .cons h _, e => by simp at e; subst e; exact ⟨_, rfl, h⟩
  | _, _, i + 1, v, .cons _ r, e => by
    obtain ⟨d, h1, h2⟩ := RepL.get' (i := i) (v := v) r (by simpa using e)
    exact ⟨d, by simpa using h1, h2⟩
theorem RepL.append : ∀ {ds es : List D} {vs ws : List V}, RepL T C ds vs → RepL T C es ws → RepL T C (ds ++ es) (vs ++ ws)
  | _, _, _, _, .nil, s => s
  | _, _, _, _, .cons h r, s => .cons h (RepL.append r s)
theorem RepL.take : ∀ {ds : List D} {vs : List V} (n : Nat), RepL T C ds vs → RepL T C (ds.take n) (vs.take n)
  | _, _, 0, _ => .nil
  | _, _, _ + 1, .nil => .nil
  | _, _, n + 1, .cons h r => .cons h (RepL.take n r)
theorem RepL.drop : ∀ {ds : List D} {vs : List V} (n : Nat), RepL T C ds vs → RepL T C (ds.drop n) (vs.drop n)
  | _, _, 0, r => r
  | _, _, _ + 1, .nil => .nil
  | _, _, n + 1, .cons _ r => RepL.drop n r
theorem RepL.set : ∀ {ds : List D} {vs : List V} (i : Nat) {d : D} {v : V}, RepL T C ds vs → Rep T C d v → RepL T C (ds.set i d) (vs.set i v)
  | _, _, _, _, _, .nil, _ => .nil
  | _, _, 0, _, _, .cons _ r, q => .cons q r
  | _, _, i + 1, _, _, .cons h r, q => .cons h (RepL.set i r q)
theorem RepL.reverse : ∀ {ds : List D} {vs : List V}, RepL T C ds vs → RepL T C ds.reverse vs.reverse
  | _, _, .nil => .nil
  | _, _, .cons h r => by
    rw [List.reverse_cons, List.reverse_cons]
    exact (RepL.reverse r).append (.cons h .nil)
theorem RepF.get : ∀ {ds : List (Nat × D)} {vs : List (Str × V)} {k : Nat} {f : Str} {d : D}, T.nm.Nodup → RepF T C ds vs → T.nm[k]? = some f → ds.lookup k = some d → ∃ v, vs.lookup f = some v ∧ Rep T C d v
  | _, _, _, _, _, _, .nil, _, e => by simp at e
  | _, _, k, f, d, nd, .cons (k := j) (f := g) n h r, hk, e => by
    rw [List.lookup_cons] at e ⊢
    by_cases z : k = j
    · subst z
      rw [n] at hk; cases hk
      simp at e ⊢
      subst e
      exact h
    · have zf : f ≠ g := fun q => z (nodup_ix nd hk (q ▸ n))
      have z1 : (k == j) = false := by simpa using z
      have z2 : (f == g) = false := by simpa using zf
      rw [z1] at e; rw [z2]
      exact RepF.get nd r hk e
theorem RepF.none : ∀ {ds : List (Nat × D)} {vs : List (Str × V)} {k : Nat} {f : Str}, T.nm.Nodup → RepF T C ds vs → T.nm[k]? = some f → ds.lookup k = none → vs.lookup f = none
  | _, _, _, _, _, .nil, _, e => by simp
  | _, _, k, f, nd, .cons (k := j) (f := g) n h r, hk, e => by
    rw [List.lookup_cons] at e ⊢
    by_cases z : k = j
    · subst z
      simp at e
    · have zf : f ≠ g := fun q => z (nodup_ix nd hk (q ▸ n))
      have z1 : (k == j) = false := by simpa using z
      have z2 : (f == g) = false := by simpa using zf
      rw [z1] at e; rw [z2]
      exact RepF.none nd r hk e
theorem RepF.length : ∀ {ds : List (Nat × D)} {vs : List (Str × V)}, RepF T C ds vs → ds.length = vs.length
  | _, _, .nil => rfl
  | _, _, .cons _ _ r => congrArg (· + 1) (RepF.length r)
end

mutual
/-- owned data, its own places -/
inductive ORep (T : Tb) (C H : Hp) : O → V → List Addr → Prop
  | sh {d : D} {v : V} (r : Rep T C d v) : ORep T C H (.sh d) v []
  | lst {p : Addr} {vs : List V} {os : List O} {f : List Addr} (h : H p = some (.lst vs)) (r : ORepL T C H os vs f) : ORep T C H (.lst os) (.ref p) (p :: f)
  | ins {p dx : Addr} {c : Nat} {fs : List (Str × V)} {os : List (Nat × O)} {f : List Addr} (h : H p = some (.ins (T.ca c) dx fs)) (r : ORepF T C H os fs f) : ORep T C H (.ins c os) (.ref p) (p :: f)
inductive ORepL (T : Tb) (C H : Hp) : List O → List V → List Addr → Prop
  | nil : ORepL T C H [] [] []
  | cons {o : O} {v : V} {os : List O} {vs : List V} {f g : List Addr} (h : ORep T C H o v f) (r : ORepL T C H os vs g) : ORepL T C H (o :: os) (v :: vs) (f ++ g)
inductive ORepF (T : Tb) (C H : Hp) : List (Nat × O) → List (Str × V) → List Addr → Prop
  | nil : ORepF T C H [] [] []
  | cons {k : Nat} {n : Str} {o : O} {v : V} {os : List (Nat × O)} {vs : List (Str × V)} {f g : List Addr} (hn : T.nm[k]? = some n) (h : ORep T C H o v f) (r : ORepF T C H os vs g) : ORepF T C H ((k, o) :: os) ((n, v) :: vs) (f ++ g)
end

mutual
/-- places at which nothing changed -/
theorem ORep.keep {T : Tb} {C C' H H' : Hp} (s : Sub C C') : ∀ {o : O} {v : V} {f : List Addr}, ORep T C H o v f → (∀ p ∈ f, ∀ u, H p = some u → H' p = some u) → ORep T C' H' o v f
  | _, _, _, .sh r, _ => .sh (r.mono s)
  | _, _, _, .lst h r, k => .lst (k _ List.mem_cons_self _ h) (ORepL.keep s r fun p hp => k p (List.mem_cons_of_mem _ hp))
  | _, _, _, .ins h r, k => .ins (k _ List.mem_cons_self _ h) (ORepF.keep s r fun p hp => k p (List.mem_cons_of_mem _ hp))
theorem ORepL.keep {T : Tb} {C C' H H' : Hp} (s : Sub C C') : ∀ {o : List O} {v : List V} {f : List Addr}, ORepL T C H o v f → (∀ p ∈ f, ∀ u, H p = some u → H' p = some u) → ORepL T C' H' o v f
  | _, _, _, .nil, _ => .nil
  | _, _, _, .cons h r, k => .cons (ORep.keep s h fun p hp => k p (List.mem_append_left _ hp)) (ORepL.keep s r fun p hp => k p (List.mem_append_right _ hp))
theorem ORepF.keep {T : Tb} {C C' H H' : Hp} (s : Sub C C') : ∀ {o : List (Nat × O)} {v : List (Str × V)} {f : List Addr}, ORepF T C H o v f → (∀ p ∈ f, ∀ u, H p = some u → H' p = some u) → ORepF T C' H' o v f
  | _, _, _, .nil, _ => .nil
  | _, _, _, .cons n h r, k => .cons n (ORep.keep s h fun p hp => k p (List.mem_append_left _ hp)) (ORepF.keep s r fun p hp => k p (List.mem_append_right _ hp))
end
mutual
/-- each own place holds something -/
theorem ORep.there {T : Tb} {C H : Hp} : ∀ {o : O} {v : V} {f : List Addr}, ORep T C H o v f → ∀ p ∈ f, ∃ u, H p = some u
  | _, _, _, .sh _, p, hp => by simp at hp
  | _, _, _, .lst h r, p, hp => by
    rcases List.mem_cons.mp hp with rfl | hp
    · exact ⟨_, h⟩
    · exact ORepL.there r p hp
  | _, _, _, .ins h r, p, hp => by
    rcases List.mem_cons.mp hp with rfl | hp
    · exact ⟨_, h⟩
    · exact ORepF.there r p hp
theorem ORepL.there {T : Tb} {C H : Hp} : ∀ {o : List O} {v : List V} {f : List Addr}, ORepL T C H o v f → ∀ p ∈ f, ∃ u, H p = some u
  | _, _, _, .nil, p, hp => by simp at hp
  | _, _, _, .cons h r, p, hp => (List.mem_append.mp hp).elim (ORep.there h p) (ORepL.there r p)
theorem ORepF.there {T : Tb} {C H : Hp} : ∀ {o : List (Nat × O)} {v : List (Str × V)} {f : List Addr}, ORepF T C H o v f → ∀ p ∈ f, ∃ u, H p = some u
  | _, _, _, .nil, p, hp => by simp at hp
  | _, _, _, .cons _ h r, p, hp => (List.mem_append.mp hp).elim (ORep.there h p) (ORepF.there r p)
end
mutual
/-- the places given up: from then on data -/
theorem ORep.close {T : Tb} {C C' H : Hp} (s : Sub C C') : ∀ {o : O} {v : V} {f : List Addr}, ORep T C H o v f → (∀ p ∈ f, ∀ u, H p = some u → C' p = some u) → Rep T C' o.view v
  | _, _, _, .sh r, _ => by rw [O.view]; exact r.mono s
  | _, _, _, .lst h r, k => by
    rw [O.view]
    exact .lst (SqL.of (k _ List.mem_cons_self _ h)) (ORepL.close s r fun p hp => k p (List.mem_cons_of_mem _ hp))
  | _, _, _, .ins h r, k => by
    rw [O.view]
    exact .ins (k _ List.mem_cons_self _ h) (ORepF.close s r fun p hp => k p (List.mem_cons_of_mem _ hp))
theorem ORepL.close {T : Tb} {C C' H : Hp} (s : Sub C C') : ∀ {o : List O} {v : List V} {f : List Addr}, ORepL T C H o v f → (∀ p ∈ f, ∀ u, H p = some u → C' p = some u) → RepL T C' (O.viewL o) v
  | _, _, _, .nil, _ => by rw [O.viewL]; exact .nil
  | _, _, _, .cons h r, k => by
    rw [O.viewL]
    exact .cons (ORep.close s h fun p hp => k p (List.mem_append_left _ hp)) (ORepL.close s r fun p hp => k p (List.mem_append_right _ hp))
theorem ORepF.close {T : Tb} {C C' H : Hp} (s : Sub C C') : ∀ {o : List (Nat × O)} {v : List (Str × V)} {f : List Addr}, ORepF T C H o v f → (∀ p ∈ f, ∀ u, H p = some u → C' p = some u) → RepF T C' (O.viewF o) v
  | _, _, _, .nil, _ => by rw [O.viewF]; exact .nil
  | _, _, _, .cons n h r, k => by
    rw [O.viewF]
    exact .cons n (ORep.close s h fun p hp => k p (List.mem_append_left _ hp)) (ORepF.close s r fun p hp => k p (List.mem_append_right _ hp))
end
section
variable {T : Tb} {C H : Hp}
theorem ORepL.shs : ∀ {ds : List D} {vs : List V}, RepL T C ds vs → ORepL T C H (ds.map .sh) vs []
  | _, _, .nil => .nil
  | _, _, .cons h r => by
    have := ORepL.cons (H := H) (.sh h) (ORepL.shs r)
    simpa using this
theorem ORepF.shs : ∀ {ds : List (Nat × D)} {vs : List (Str × V)}, RepF T C ds vs → ORepF T C H (ds.map fun p => (p.1, .sh p.2)) vs []
  | _, _, .nil => .nil
  | _, _, .cons n h r => by
    have := ORepF.cons (H := H) n (.sh h) (ORepF.shs r)
    simpa using this
theorem ORepL.length : ∀ {os : List O} {vs : List V} {f : List Addr}, ORepL T C H os vs f → os.length = vs.length
  | _, _, _, .nil => rfl
  | _, _, _, .cons _ r => congrArg (· + 1) (ORepL.length r)
theorem ORepF.length : ∀ {os : List (Nat × O)} {vs : List (Str × V)} {f : List Addr}, ORepF T C H os vs f → os.length = vs.length
  | _, _, _, .nil => rfl
  | _, _, _, .cons _ _ r => congrArg (· + 1) (ORepF.length r)
/-- the footprint of a flat one -/
theorem ORep.flat_of {C' : Hp} {o : O} {v : V} {f : List Addr} (s : Sub C C') (h : ORep T C H o v f) (k : ∀ p ∈ f.tail, ∀ u, H p = some u → C' p = some u) : ∃ g, ORep T C' H o.flat v g ∧ (g = [] ∧ f = [] ∨ ∃ p r, f = p :: r ∧ g = [p]) := by
  cases h with
  | sh r => exact ⟨[], .sh (r.mono s), .inl ⟨rfl, rfl⟩⟩
  | lst h r =>
    refine ⟨[_], ?_, .inr ⟨_, _, rfl, rfl⟩⟩
    have q := ORepL.close s r k
    rw [viewL_map] at q
    have := ORep.lst h (ORepL.shs q)
    simpa [O.flat, List.map_map, Function.comp_def] using this
  | ins h r =>
    refine ⟨[_], ?_, .inr ⟨_, _, rfl, rfl⟩⟩
    have q := ORepF.close s r k
    rw [viewF_map] at q
    have := ORep.ins h (ORepF.shs q)
    simpa [O.flat, List.map_map, Function.comp_def] using this
end
end Pv

set_option Elab.async false
set_option linter.all false
set_option maxRecDepth 100000
set_option maxHeartbeats 4000000
set_option autoImplicit false
/-! PvB: environments of owned data, what they lean on, what is kept. -/
namespace Pv
open PySem PySem.Spec PyProof.Rows L2

abbrev St := L2.St
abbrev Env := List (Option O)
abbrev Ft := Nat → List Addr
def Own (F : Ft) (p : Addr) : Prop := ∃ i, p ∈ F i
def updF (F : Ft) (i : Nat) (f : List Addr) : Ft := fun j => if j = i then f else F j
theorem updF_same {F : Ft} {i : Nat} {f : List Addr} : updF F i f i = f := by unfold updF; rw [if_pos rfl]
theorem updF_ne {F : Ft} {i j : Nat} {f : List Addr} (h : j ≠ i) : updF F i f j = F j := by unfold updF; rw [if_neg h]
theorem own_updF {F : Ft} {i : Nat} {f : List Addr} {p : Addr} (h : Own (updF F i f) p) : p ∈ f ∨ Own F p := by
  obtain ⟨j, hj⟩ := h
  by_cases e : j = i
  · subst e; rw [updF_same] at hj; exact .inl hj
  · rw [updF_ne e] at hj; exact .inr ⟨j, hj⟩

/-- given up -/
def cl (C H : Hp) (S : List Addr) : Hp := fun p => if p ∈ S then H p else C p
section
variable {C H : Hp} {S : List Addr}
theorem cl_in {p : Addr} (h : p ∈ S) : cl C H S p = H p := by unfold cl; rw [if_pos h]
theorem cl_out {p : Addr} (h : p ∉ S) : cl C H S p = C p := by unfold cl; rw [if_neg h]
theorem cl_sub (s : Sub C H) : Sub C (cl C H S) := fun a o e => by
  by_cases h : a ∈ S
  · rw [cl_in h]; exact s a o e
  · rw [cl_out h]; exact e
theorem cl_le (s : Sub C H) : Sub (cl C H S) H := fun a o e => by
  by_cases h : a ∈ S
  · rw [cl_in h] at e; exact e
  · rw [cl_out h] at e; exact s a o e
theorem cl_at {p : Addr} {u : HO} (h : p ∈ S) (e : H p = some u) : cl C H S p = some u := by rw [cl_in h]; exact e
end

structure Wd (T : Tb) (C H : Hp) (E : Env) (σ : St) (F : Ft) : Prop where
  flo : Sub T.flo C
  pin : ∀ q ∈ T.pin, σ[q.1]? = some (some q.2)
  sub : Sub C H
  len : E.length = σ.length
  rep : ∀ i o, E[i]? = some (some o) → ∃ v, σ[i]? = some (some v) ∧ ORep T C H o v (F i)
  emp : ∀ i, (∀ o, E[i]? ≠ some (some o)) → F i = []
  nd : ∀ i, (F i).Nodup
  dj : ∀ i j p, p ∈ F i → p ∈ F j → i = j
  out : ∀ i p, p ∈ F i → C p = none

structure Fr (C H : Hp) (own : Addr → Prop) (C' H' : Hp) (own' : Addr → Prop) : Prop where
  cl : Sub C C'
  fo : ∀ p o, H p = some o → C p = none → ¬ own p → H' p = some o ∧ C' p = none ∧ ¬ own' p
theorem Fr.refl {C H : Hp} {a : Addr → Prop} : Fr C H a C H a := ⟨Sub.refl _, fun _ _ h c n => ⟨h, c, n⟩⟩
theorem Fr.trans {C H C1 H1 C2 H2 : Hp} {a b b' c : Addr → Prop} (x : Fr C H a C1 H1 b) (y : Fr C1 H1 b' C2 H2 c) (h : ∀ p, b' p → b p) : Fr C H a C2 H2 c :=
  ⟨x.cl.trans y.cl, fun p o e n q =>
    let ⟨e1, n1, q1⟩ := x.fo p o e n q
    y.fo p o e1 n1 fun z => q1 (h p z)⟩
theorem Fr.weak {C H C1 H1 : Hp} {a a' b b' : Addr → Prop} (x : Fr C H a C1 H1 b) (h : ∀ p, a p → a' p) (h' : ∀ p, b' p → b p) : Fr C H a' C1 H1 b' :=
  ⟨x.cl, fun p o e n q =>
    let ⟨e1, n1, q1⟩ := x.fo p o e n fun z => q (h p z)
    ⟨e1, n1, fun z => q1 (h' p z)⟩⟩
theorem Fr.close {C H : Hp} {a b : Addr → Prop} {S : List Addr} (s : Sub C H) (hS : ∀ p ∈ S, a p) (hb : ∀ p, b p → a p) : Fr C H a (Pv.cl C H S) H b :=
  ⟨cl_sub s, fun p o e n q => ⟨e, by rw [cl_out fun z => q (hS p z)]; exact n, fun z => q (hb p z)⟩⟩

theorem none_of_sub {C H : Hp} (s : Sub C H) {a : Addr} (h : H a = none) : C a = none := s.none h
/-- new places alone -/
structure Grow (C H C' H' : Hp) (f : List Addr) : Prop where
  h : Sub H H'
  c : Sub C C'
  n : ∀ p o, H p = some o → C p = none → C' p = none
  s : Sub C' H'
  nd : f.Nodup
  f : ∀ p ∈ f, H p = none ∧ C' p = none
theorem Grow.refl {C H : Hp} (s : Sub C H) : Grow C H C H [] := ⟨Sub.refl _, Sub.refl _, fun _ _ _ h => h, s, List.nodup_nil, fun p hp => by simp at hp⟩
theorem sub_upd {H : Hp} {p : Addr} {o : HO} (h : H p = none) : Sub H (upd H p o) := fun a u e => by
  rw [upd_ne (ne_of_none e h)]; exact e
/-- a new tuple -/
theorem Grow.tup {C H : Hp} {p : Addr} {o : HO} (s : Sub C H) (h : H p = none) : Grow C H (upd C p o) (upd H p o) [] :=
  ⟨sub_upd h, sub_upd (s.none h), fun q u e n => by rw [upd_ne (ne_of_none e h)]; exact n, fun a u e => by
    by_cases z : a = p
    · subst z; rw [upd_same] at e ⊢; exact e
    · rw [upd_ne z] at e ⊢; exact s a u e, List.nodup_nil, fun p hp => by simp at hp⟩
/-- a new list, owned -/
theorem Grow.own {C H : Hp} {p : Addr} {o : HO} (s : Sub C H) (h : H p = none) : Grow C H C (upd H p o) [p] :=
  ⟨sub_upd h, Sub.refl _, fun _ _ _ n => n, s.trans (sub_upd h), by simp, fun q hq => by
    rw [List.mem_singleton] at hq; subst hq
    exact ⟨h, s.none h⟩⟩
theorem Grow.fr {C H C' H' : Hp} {f : List Addr} {own own' : Addr → Prop} (g : Grow C H C' H' f) (h : ∀ p, own' p → own p ∨ p ∈ f) : Fr C H own C' H' own' :=
  ⟨g.c, fun p o e n q => ⟨g.h p o e, g.n p o e n, fun z => (h p z).elim q fun z => by rw [(g.f p z).1] at e; cases e⟩⟩
theorem Grow.trans {C H C1 H1 C2 H2 : Hp} {f g : List Addr} (x : Grow C H C1 H1 f) (y : Grow C1 H1 C2 H2 g) (hf : ∀ p ∈ f, ∃ u, H1 p = some u) : Grow C H C2 H2 (f ++ g) :=
  ⟨x.h.trans y.h, x.c.trans y.c, fun p o e n => y.n p o (x.h p o e) (x.n p o e n), y.s, (by
    refine List.nodup_append.mpr ⟨x.nd, y.nd, fun a ha b hb e => ?_⟩
    subst e
    obtain ⟨u, hu⟩ := hf a ha
    rw [(y.f a hb).1] at hu; cases hu), fun p hp => by
    rcases List.mem_append.mp hp with z | z
    · obtain ⟨u, hu⟩ := hf p z
      exact ⟨(x.f p z).1, y.n p u hu (x.f p z).2⟩
    · exact ⟨none_of_sub x.h (y.f p z).1, (y.f p z).2⟩⟩

section
variable {T : Tb} {C H C' H' : Hp} {E : Env} {σ : St} {F : Ft}
theorem Wd.own_there (w : Wd T C H E σ F) {i : Nat} {p : Addr} (h : p ∈ F i) : ∃ u, H p = some u := by
  by_cases e : ∃ o, E[i]? = some (some o)
  · obtain ⟨o, e⟩ := e
    obtain ⟨v, _, r⟩ := w.rep i o e
    exact r.there p h
  · rw [w.emp i fun o z => e ⟨o, z⟩] at h
    simp at h
theorem Wd.move (w : Wd T C H E σ F) (c : Sub C C') (s : Sub C' H') (k : ∀ p, Own F p → ∀ u, H p = some u → H' p = some u) (n : ∀ p, Own F p → C' p = none) : Wd T C' H' E σ F :=
  ⟨w.flo.trans c, w.pin, s, w.len, fun i o e => let ⟨v, e1, r⟩ := w.rep i o e; ⟨v, e1, r.keep c fun p hp u hu => k p ⟨i, hp⟩ u hu⟩, w.emp, w.nd, w.dj, fun i p hp => n p ⟨i, hp⟩⟩
theorem Wd.grow {f : List Addr} (w : Wd T C H E σ F) (g : Grow C H C' H' f) : Wd T C' H' E σ F :=
  w.move g.c g.s (fun p _ u e => g.h p u e) fun p ⟨i, hp⟩ => let ⟨u, hu⟩ := w.own_there hp; g.n p u hu (w.out i p hp)
/-- what was foreign is kept: a state that lies apart -/
theorem Wd.apart {own own' : Addr → Prop} (w : Wd T C H E σ F) (x : Fr C H own C' H' own') (s : Sub C' H') (h : ∀ p, Own F p → ¬ own p) : Wd T C' H' E σ F :=
  w.move x.cl s (fun p hp u e => (x.fo p u e (let ⟨i, q⟩ := hp; w.out i p q) (h p hp)).1) fun p hp =>
    let ⟨i, q⟩ := hp
    let ⟨u, hu⟩ := w.own_there q
    (x.fo p u hu (w.out i p q) (h p hp)).2.1
theorem set_get {α : Type} {l : List α} {i j : Nat} {a b : α} (h : (l.set i a)[j]? = some b) : (j = i ∧ a = b) ∨ (j ≠ i ∧ l[j]? = some b) := by
  by_cases e : j = i
  · subst e
    rw [List.getElem?_set_self'] at h
    cases q : l[j]? with
    | none => rw [q] at h; simp at h
    | some c => rw [q] at h; simp at h; exact .inl ⟨rfl, h⟩
  · rw [List.getElem?_set_ne (Ne.symm e)] at h
    exact .inr ⟨e, h⟩
/-- slot i holds another thing (σ' the slots' values) -/
theorem Wd.put {σ' : St} {i : Nat} {o : O} {v : V} {f : List Addr} (w : Wd T C H E σ F) (hl : σ'.length = σ.length) (hs : ∀ j, j ≠ i → σ'[j]? = σ[j]?) (hi : σ'[i]? = some (some v)) (r : ORep T C H o v f) (nf : f.Nodup) (hC : ∀ p ∈ f, C p = none)
    (hd : ∀ j, j ≠ i → ∀ p ∈ f, p ∉ F j) (hpin : ∀ q ∈ T.pin, σ'[q.1]? = some (some q.2)) : Wd T C H (E.set i (some o)) σ' (updF F i f) where
  flo := w.flo
  pin := hpin
  sub := w.sub
  len := by rw [List.length_set, hl]; exact w.len
  rep := fun j u e => by
    rcases set_get e with ⟨ji, e'⟩ | ⟨ne, e⟩
    · subst ji
      cases e'
      exact ⟨v, hi, by rw [updF_same]; exact r⟩
    · rw [hs j ne, updF_ne ne]
      exact w.rep j u e
  emp := fun j h => by
    by_cases e : j = i
    · subst e
      have lt : j < E.length := by
        rw [w.len, ← hl]
        exact (List.getElem?_eq_some_iff.mp hi).1
      exact absurd (by rw [List.getElem?_set_self lt]) (h o)
    · rw [updF_ne e]
      refine w.emp j fun u q => h u ?_
      rw [List.getElem?_set_ne (Ne.symm e)]; exact q
  nd := fun j => by
    by_cases e : j = i
    · subst e; rw [updF_same]; exact nf
    · rw [updF_ne e]; exact w.nd j
  dj := fun j k p h1 h2 => by
    by_cases e1 : j = i
    · by_cases e2 : k = i
      · exact e1.trans e2.symm
      · subst e1
        rw [updF_same] at h1; rw [updF_ne e2] at h2
        exact absurd h2 (hd k e2 p h1)
    · by_cases e2 : k = i
      · subst e2
        rw [updF_same] at h2; rw [updF_ne e1] at h1
        exact absurd h1 (hd j e1 p h2)
      · rw [updF_ne e1] at h1; rw [updF_ne e2] at h2
        exact w.dj j k p h1 h2
  out := fun j p h => by
    by_cases e : j = i
    · subst e; rw [updF_same] at h; exact hC p h
    · rw [updF_ne e] at h; exact w.out j p h
/-- slot i holds nothing that is known -/
theorem Wd.drop {σ' : St} {i : Nat} (w : Wd T C H E σ F) (hl : σ'.length = σ.length) (hs : ∀ j, j ≠ i → σ'[j]? = σ[j]?) (hpin : ∀ q ∈ T.pin, σ'[q.1]? = some (some q.2)) : Wd T C H (E.set i none) σ' (updF F i []) where
  flo := w.flo
  pin := hpin
  sub := w.sub
  len := by rw [List.length_set, hl]; exact w.len
  rep := fun j u e => by
    rcases set_get e with ⟨ji, e⟩ | ⟨ne, e⟩
    · cases e
    · rw [hs j ne, updF_ne ne]
      exact w.rep j u e
  emp := fun j h => by
    by_cases e : j = i
    · subst e; rw [updF_same]
    · rw [updF_ne e]
      refine w.emp j fun u q => h u ?_
      rw [List.getElem?_set_ne (Ne.symm e)]; exact q
  nd := fun j => by
    by_cases e : j = i
    · subst e; rw [updF_same]; exact List.nodup_nil
    · rw [updF_ne e]; exact w.nd j
  dj := fun j k p h1 h2 => by
    by_cases e1 : j = i
    · subst e1; rw [updF_same] at h1; simp at h1
    · by_cases e2 : k = i
      · subst e2; rw [updF_same] at h2; simp at h2
      · rw [updF_ne e1] at h1; rw [updF_ne e2] at h2
        exact w.dj j k p h1 h2
  out := fun j p h => by
    by_cases e : j = i
    · subst e; rw [updF_same] at h; simp at h
    · rw [updF_ne e] at h; exact w.out j p h
theorem Wd.put0 {i : Nat} {o : O} {v : V} {f : List Addr} (w : Wd T C H E σ F) (hi : σ[i]? = some (some v)) (r : ORep T C H o v f) (nf : f.Nodup) (hC : ∀ p ∈ f, C p = none)
    (hd : ∀ j, j ≠ i → ∀ p ∈ f, p ∉ F j) : Wd T C H (E.set i (some o)) σ (updF F i f) := w.put rfl (fun _ _ => rfl) hi r nf hC hd w.pin
theorem Wd.putS {i : Nat} {o : O} {v : V} {f : List Addr} (w : Wd T C H E σ F) (hi : i < σ.length) (r : ORep T C H o v f) (nf : f.Nodup) (hC : ∀ p ∈ f, C p = none)
    (hd : ∀ j, j ≠ i → ∀ p ∈ f, p ∉ F j) (hpk : ∀ q ∈ T.pin, q.1 ≠ i) : Wd T C H (E.set i (some o)) (σ.set i (some v)) (updF F i f) :=
  w.put (by simp) (fun j e => List.getElem?_set_ne (Ne.symm e)) (by simp [hi]) r nf hC hd fun q hq => by rw [List.getElem?_set_ne (Ne.symm (hpk q hq))]; exact w.pin q hq
theorem Wd.drop0 {i : Nat} (w : Wd T C H E σ F) : Wd T C H (E.set i none) σ (updF F i []) := w.drop rfl (fun _ _ => rfl) w.pin
theorem Wd.dropS {i : Nat} {x : Option V} (w : Wd T C H E σ F) (hpk : ∀ q ∈ T.pin, q.1 ≠ i) : Wd T C H (E.set i none) (σ.set i x) (updF F i []) := w.drop (by simp) (fun j e => List.getElem?_set_ne (Ne.symm e)) fun q hq => by rw [List.getElem?_set_ne (Ne.symm (hpk q hq))]; exact w.pin q hq
/-- places of S (own ones of slot i, or of none) given up -/
theorem Wd.close {i : Nat} {S : List Addr} {o o' : O} {v : V} {g : List Addr} (w : Wd T C H E σ F) (e : E[i]? = some (some o)) (hv : σ[i]? = some (some v)) (hS : ∀ p ∈ S, p ∈ F i) (r : ORep T (cl C H S) H o' v g) (hg : ∀ p ∈ g, p ∈ F i ∧ p ∉ S) (ng : g.Nodup) :
    Wd T (cl C H S) H (E.set i (some o')) σ (updF F i g) := by
  have w1 := w.drop0 (i := i)
  have w2 : Wd T (cl C H S) H (E.set i none) σ (updF F i []) := w1.move (cl_sub w.sub) (cl_le w.sub) (fun _ _ _ e => e) fun p ⟨j, hp⟩ => by
    by_cases z : j = i
    · subst z; rw [updF_same] at hp; simp at hp
    · rw [updF_ne z] at hp
      rw [cl_out fun q => z (w.dj j i p hp (hS p q))]
      exact w.out j p hp
  have w3 := w2.put0 (i := i) hv r ng (fun p hp => by rw [cl_out (hg p hp).2]; exact w.out i p (hg p hp).1) fun j hj p hp q => by
    rw [updF_ne hj] at q
    exact hj (w.dj j i p q (hg p hp).1)
  have e2 : (E.set i none).set i (some o') = E.set i (some o') := by simp
  have e3 : updF (updF F i []) i g = updF F i g := by
    funext j
    by_cases z : j = i
    · subst z; rw [updF_same, updF_same]
    · rw [updF_ne z, updF_ne z, updF_ne z]
  rw [e2, e3] at w3
  exact w3
theorem Wd.closeAll {i : Nat} {o : O} (w : Wd T C H E σ F) (e : E[i]? = some (some o)) : ∃ v, σ[i]? = some (some v) ∧ Rep T (cl C H (F i)) o.view v ∧ Wd T (cl C H (F i)) H (E.set i (some (.sh o.view))) σ (updF F i []) := by
  obtain ⟨v, hv, r⟩ := w.rep i o e
  have q : Rep T (cl C H (F i)) o.view v := r.close (cl_sub w.sub) fun p hp u hu => cl_at hp hu
  exact ⟨v, hv, q, w.close e hv (fun _ h => h) (.sh q) (fun p hp => by simp at hp) List.nodup_nil⟩
theorem Wd.flat {i : Nat} {o : O} (w : Wd T C H E σ F) (e : E[i]? = some (some o)) : ∃ v g, σ[i]? = some (some v) ∧ ORep T (cl C H (F i).tail) H o.flat v g ∧ Wd T (cl C H (F i).tail) H (E.set i (some o.flat)) σ (updF F i g) ∧ (∀ p ∈ g, p ∈ F i) := by
  obtain ⟨v, hv, r⟩ := w.rep i o e
  obtain ⟨g, q, hg⟩ := r.flat_of (cl_sub w.sub) fun p hp u hu => cl_at hp hu
  have nd := w.nd i
  have hgs : ∀ p ∈ g, p ∈ F i ∧ p ∉ (F i).tail := fun p hp => by
    rcases hg with ⟨rfl, _⟩ | ⟨a, l, ef, rfl⟩
    · simp at hp
    · rw [List.mem_singleton] at hp
      subst hp
      rw [ef] at nd ⊢
      exact ⟨List.mem_cons_self, (List.nodup_cons.mp nd).1⟩
  have ng : g.Nodup := by
    rcases hg with ⟨rfl, _⟩ | ⟨a, l, _, rfl⟩
    · exact List.nodup_nil
    · simp
  exact ⟨v, g, hv, q, w.close e hv (fun p hp => List.mem_of_mem_tail hp) q hgs ng, fun p hp => (hgs p hp).1⟩
end

/-! ### what an expression gives: a value, or what a slot holds -/
inductive A where
  | val (o : O) | slot (i : Nat)
inductive ARep (T : Tb) (C H : Hp) (σ : St) : A → V → List Addr → Prop
  | val {o : O} {v : V} {f : List Addr} (r : ORep T C H o v f) : ARep T C H σ (.val o) v f
  | slot {i : Nat} {v : V} (h : σ[i]? = some (some v)) : ARep T C H σ (.slot i) v []
inductive AL (T : Tb) (C H : Hp) (σ : St) : List A → List V → List Addr → Prop
  | nil : AL T C H σ [] [] []
  | cons {a : A} {v : V} {as : List A} {vs : List V} {f g : List Addr} (h : ARep T C H σ a v f) (r : AL T C H σ as vs g) : AL T C H σ (a :: as) (v :: vs) (f ++ g)
section
variable {T : Tb} {C H C' H' : Hp} {σ : St}
theorem ARep.keep (s : Sub C C') {a : A} {v : V} {f : List Addr} (h : ARep T C H σ a v f) (k : ∀ p ∈ f, ∀ u, H p = some u → H' p = some u) : ARep T C' H' σ a v f := by
  cases h with
  | val r => exact .val (r.keep s k)
  | slot h => exact .slot h
theorem AL.keep (s : Sub C C') : ∀ {as : List A} {vs : List V} {f : List Addr}, AL T C H σ as vs f → (∀ p ∈ f, ∀ u, H p = some u → H' p = some u) → AL T C' H' σ as vs f
  | _, _, _, .nil, _ => .nil
  | _, _, _, .cons h r, k => .cons (h.keep s fun p hp => k p (List.mem_append_left _ hp)) (AL.keep s r fun p hp => k p (List.mem_append_right _ hp))
theorem ARep.there {a : A} {v : V} {f : List Addr} (h : ARep T C H σ a v f) : ∀ p ∈ f, ∃ u, H p = some u := by
  cases h with
  | val r => exact r.there
  | slot h => intro p hp; simp at hp
theorem AL.there : ∀ {as : List A} {vs : List V} {f : List Addr}, AL T C H σ as vs f → ∀ p ∈ f, ∃ u, H p = some u
  | _, _, _, .nil, p, hp => by simp at hp
  | _, _, _, .cons h r, p, hp => (List.mem_append.mp hp).elim (h.there p) (AL.there r p)
end

/-- one result, and the state behind it -/
structure R1 (T : Tb) (C H : Hp) (F : Ft) (σ : St) (C' H' : Hp) (E' : Env) (F' : Ft) (a : A) (v : V) (f : List Addr) : Prop where
  wd : Wd T C' H' E' σ F'
  ar : ARep T C' H' σ a v f
  nd : f.Nodup
  ot : ∀ p ∈ f, C' p = none ∧ ¬ Own F' p
  fr : Fr C H (Own F) C' H' (fun p => Own F' p ∨ p ∈ f)
structure Rs (T : Tb) (C H : Hp) (F : Ft) (σ : St) (C' H' : Hp) (E' : Env) (F' : Ft) (as : List A) (vs : List V) (f : List Addr) : Prop where
  wd : Wd T C' H' E' σ F'
  al : AL T C' H' σ as vs f
  nd : f.Nodup
  ot : ∀ p ∈ f, C' p = none ∧ ¬ Own F' p
  fr : Fr C H (Own F) C' H' (fun p => Own F' p ∨ p ∈ f)
section
variable {T : Tb} {C H C1 H1 C2 H2 : Hp} {F F1 F2 : Ft} {σ : St} {E E1 E2 : Env} {a : A} {as : List A} {v : V} {vs : List V} {f f1 f2 : List Addr}
theorem Rs.nil (w : Wd T C H E σ F) : Rs T C H F σ C H E F [] [] [] := ⟨w, .nil, List.nodup_nil, fun p hp => by simp at hp, Fr.refl.weak (fun _ z => z) fun p z => z.elim id fun q => by simp at q⟩
theorem Rs.cons (x : R1 T C H F σ C1 H1 E1 F1 a v f1) (y : Rs T C1 H1 F1 σ C2 H2 E2 F2 as vs f2) : Rs T C H F σ C2 H2 E2 F2 (a :: as) (v :: vs) (f1 ++ f2) := by
  have k : ∀ p ∈ f1, ∀ u, H1 p = some u → H2 p = some u ∧ C2 p = none ∧ ¬ (Own F2 p ∨ p ∈ f2) := fun p hp u hu => y.fr.fo p u hu (x.ot p hp).1 (x.ot p hp).2
  refine ⟨y.wd, .cons (x.ar.keep y.fr.cl fun p hp u hu => (k p hp u hu).1) y.al, List.nodup_append.mpr ⟨x.nd, y.nd, fun p hp q hq e => ?_⟩, fun p hp => ?_, ?_⟩
  · subst e
    obtain ⟨u, hu⟩ := x.ar.there p hp
    exact (k p hp u hu).2.2 (.inr hq)
  · rcases List.mem_append.mp hp with hp | hp
    · obtain ⟨u, hu⟩ := x.ar.there p hp
      exact ⟨(k p hp u hu).2.1, fun z => (k p hp u hu).2.2 (.inl z)⟩
    · exact y.ot p hp
  · refine ⟨x.fr.cl.trans y.fr.cl, fun p o e n q => ?_⟩
    obtain ⟨e1, n1, q1⟩ := x.fr.fo p o e n q
    obtain ⟨e2, n2, q2⟩ := y.fr.fo p o e1 n1 fun z => q1 (.inl z)
    refine ⟨e2, n2, fun z => ?_⟩
    rcases z with z | z
    · exact q2 (.inl z)
    · rcases List.mem_append.mp z with z | z
      · exact q1 (.inr z)
      · exact q2 (.inr z)
theorem Rs.one (x : R1 T C H F σ C1 H1 E1 F1 a v f) : Rs T C H F σ C1 H1 E1 F1 [a] [v] f := by
  have := Rs.cons x (Rs.nil x.wd)
  simpa using this
theorem R1.self (w : Wd T C H E σ F) (r : ARep T C H σ a v []) : R1 T C H F σ C H E F a v [] := ⟨w, r, List.nodup_nil, fun p hp => by simp at hp, Fr.refl.weak (fun _ z => z) fun p z => z.elim id fun q => by simp at q⟩
/-- behind a step that made new things alone -/
theorem R1.grow (w : Wd T C1 H1 E1 σ F1) (g : Grow C1 H1 C2 H2 f) (r : ARep T C2 H2 σ a v f) (x : Fr C H (Own F) C1 H1 (Own F1)) : R1 T C H F σ C2 H2 E1 F1 a v f :=
  ⟨w.grow g, r, g.nd, fun p hp => ⟨(g.f p hp).2, fun ⟨i, hi⟩ => by
    obtain ⟨u, hu⟩ := w.own_there hi
    rw [(g.f p hp).1] at hu; cases hu⟩, x.trans (g.fr fun p z => z) fun _ z => z⟩
end

/-! ### reading -/
inductive VRep (T : Tb) (C H : Hp) : D → V → Prop
  | rep {d : D} {v : V} (r : Rep T C d v) : VRep T C H d v
  | lst {p : Addr} {vs : List V} {ds : List D} (h : H p = some (.lst vs)) (r : RepL T C ds vs) : VRep T C H (.lst ds) (.ref p)
  | ins {p dx : Addr} {c : Nat} {fs : List (Str × V)} {fd : List (Nat × D)} (h : H p = some (.ins (T.ca c) dx fs)) (r : RepF T C fd fs) : VRep T C H (.ins c fd) (.ref p)
inductive VL (T : Tb) (C H : Hp) : List D → List V → Prop
  | nil : VL T C H [] []
  | cons {d : D} {v : V} {ds : List D} {vs : List V} (h : VRep T C H d v) (r : VL T C H ds vs) : VL T C H (d :: ds) (v :: vs)
section
variable {T : Tb} {C C' H H' : Hp}
theorem VRep.mono (s : Sub C C') (hs : Sub H H') {d : D} {v : V} (h : VRep T C H d v) : VRep T C' H' d v := by
  cases h with
  | rep r => exact .rep (r.mono s)
  | lst h r => exact .lst (hs _ _ h) (r.mono s)
  | ins h r => exact .ins (hs _ _ h) (r.mono s)
theorem VL.mono (s : Sub C C') (hs : Sub H H') : ∀ {ds : List D} {vs : List V}, VL T C H ds vs → VL T C' H' ds vs
  | _, _, .nil => .nil
  | _, _, .cons h r => .cons (h.mono s hs) (VL.mono s hs r)
theorem VRep.of_flat {o : O} {v : V} {f : List Addr} (s : Sub C C') (h : ORep T C H o v f) (k : ∀ p ∈ f.tail, ∀ u, H p = some u → C' p = some u) : VRep T C' H o.view v := by
  cases h with
  | sh r => rw [O.view]; exact .rep (r.mono s)
  | lst h r => rw [O.view]; exact .lst h (ORepL.close s r k)
  | ins h r => rw [O.view]; exact .ins h (ORepF.close s r k)
end
/-- the things as data, for an operation that only reads -/
def dViews : Env → List A → (List D → Env → Prop) → Prop
  | E, [], K => K [] E
  | E, .val o :: r, K => dViews E r fun ds E' => K (o.view :: ds) E'
  | E, .slot i :: r, K => match E[i]? with
    | some (some o) => dViews (E.set i (some o.flat)) r fun ds E' => K (o.view :: ds) E'
    | _ => False
theorem views {T : Tb} {H : Hp} {σ : St} : ∀ {as : List A} {vs : List V} {f : List Addr} {C : Hp} {E : Env} {F : Ft} {K : List D → Env → Prop}, Wd T C H E σ F → AL T C H σ as vs f → f.Nodup → (∀ p ∈ f, C p = none ∧ ¬ Own F p) → dViews E as K →
    ∃ C' E' F' ds, Wd T C' H E' σ F' ∧ VL T C' H ds vs ∧ K ds E' ∧ Fr C H (fun p => Own F p ∨ p ∈ f) C' H (Own F')
  | [], _, _, C, E, F, K, w, .nil, _, _, h => ⟨C, E, F, [], w, .nil, h, Fr.refl.weak (fun p z => .inl z) fun _ z => z⟩
  | .val o :: as, _, _, C, E, F, K, w, .cons (f := f) (g := g) (.val r) rs, nd, ot, h => by
    obtain ⟨n1, n2, n3⟩ := List.nodup_append.mp nd
    have w1 : Wd T (cl C H f.tail) H E σ F := w.move (cl_sub w.sub) (cl_le w.sub) (fun _ _ _ e => e) fun p hp => by
      rw [cl_out fun z => (ot p (List.mem_append_left _ (List.mem_of_mem_tail z))).2 hp]
      obtain ⟨i, hi⟩ := hp
      exact w.out i p hi
    have q : VRep T (cl C H f.tail) H o.view _ := VRep.of_flat (cl_sub w.sub) r fun p hp u hu => cl_at hp hu
    obtain ⟨C', E', F', ds, w', vl, k, fr⟩ := views (C := cl C H f.tail) w1 (rs.keep (cl_sub w.sub) fun _ _ _ e => e) n2 (fun p hp => ⟨by rw [cl_out fun z => n3 p (List.mem_of_mem_tail z) p hp rfl]; exact (ot p (List.mem_append_right _ hp)).1, (ot p (List.mem_append_right _ hp)).2⟩) h
    refine ⟨C', E', F', o.view :: ds, w', .cons (q.mono fr.cl (Sub.refl _)) vl, k, ?_⟩
    refine (Fr.close (b := fun p => Own F p ∨ p ∈ g) w.sub (fun p hp => .inr (List.mem_append_left _ (List.mem_of_mem_tail hp))) fun p hp => ?_).trans fr fun _ z => z
    exact hp.elim .inl fun z => .inr (List.mem_append_right _ z)
  | .slot i :: as, _, _, C, E, F, K, w, .cons (g := g) (v := v1) (.slot hv) rs, nd, ot, h => by
    have nd' : g.Nodup := by simpa using nd
    have ot' : ∀ p ∈ g, C p = none ∧ ¬ Own F p := fun p hp => ot p (by simpa using hp)
    unfold dViews at h
    split at h
    · rename_i o e
      obtain ⟨v, g1, hv', q, w1, hg⟩ := w.flat e
      rw [hv] at hv'
      have e1 := Option.some.inj (Option.some.inj hv')
      subst e1
      have qv : VRep T (cl C H (F i).tail) H o.view v1 := by
        obtain ⟨v2, hv2, r⟩ := w.rep i o e
        rw [hv] at hv2
        have e2 := Option.some.inj (Option.some.inj hv2)
        subst e2
        exact VRep.of_flat (cl_sub w.sub) r fun p hp u hu => cl_at hp hu
      have sub2 : ∀ p, Own (updF F i g1) p → Own F p := fun p z => (own_updF z).elim (fun z => ⟨i, hg p z⟩) id
      obtain ⟨C', E', F', ds, w', vl, k, fr⟩ := views w1 (rs.keep (cl_sub w.sub) fun _ _ _ e => e) nd' (fun p hp => ⟨by rw [cl_out fun z => (ot' p hp).2 ⟨i, List.mem_of_mem_tail z⟩]; exact (ot' p hp).1, fun z => (ot' p hp).2 (sub2 p z)⟩) h
      refine ⟨C', E', F', o.view :: ds, w', .cons (qv.mono fr.cl (Sub.refl _)) vl, k, ?_⟩
      refine (Fr.close (b := fun p => Own (updF F i g1) p ∨ p ∈ g) w.sub (fun p hp => .inl ⟨i, List.mem_of_mem_tail hp⟩) fun p hp => ?_).trans fr fun _ z => z
      exact hp.elim (fun z => .inl (sub2 p z)) fun z => .inr (by simpa using z)
    · exact h.elim
end Pv

set_option Elab.async false
set_option linter.all false
set_option maxRecDepth 100000
set_option maxHeartbeats 4000000
set_option autoImplicit false
/-! PvC: the judgements over environments; expressions. -/
namespace Pv
open PySem PySem.Spec PyProof.Rows L2

/-- an exception as data: its class, its fields -/
structure Er where
  c : Nat
  fs : List (Nat × D)
structure ERep (T : Tb) (C : Hp) (e : Er) (cls : Value) (d : Option Addr) : Prop where
  cls : cls = .ref (T.ca e.c)
  fs : (e.fs = [] ∧ d = none) ∨ ∃ (dd : Addr) (fs : List (Str × V)), d = some dd ∧ C dd = some (.xd fs) ∧ ∀ k x, e.fs.lookup k = some x → ∃ n v, T.nm[k]? = some n ∧ fs.lookup n = some v ∧ Rep T C x v
theorem ERep.mono {T : Tb} {C C' : Hp} {e : Er} {cls : Value} {d : Option Addr} (s : Sub C C') (h : ERep T C e cls d) : ERep T C' e cls d :=
  ⟨h.cls, h.fs.elim .inl fun ⟨dd, fs, a, b, c⟩ => .inr ⟨dd, fs, a, s _ _ b, fun k x q => let ⟨n, v, q1, q2, q3⟩ := c k x q; ⟨n, v, q1, q2, q3.mono s⟩⟩⟩

abbrev KA := A → Env → Prop
abbrev KX := Er → Env → Prop
abbrev DE := Env → KA → KX → Prop
abbrev DT := Env → (Bool → Env → Prop) → KX → Prop
abbrev DA := Env → (List A → Env → Prop) → KX → Prop

theorem Fr.side {C H C1 H1 C2 H2 : Hp} {a b b2 : Addr → Prop} {f : List Addr} (x : Fr C H a C1 H1 fun p => b p ∨ p ∈ f) (y : Fr C1 H1 b C2 H2 b2) : Fr C H a C2 H2 fun p => b2 p ∨ p ∈ f :=
  ⟨x.cl.trans y.cl, fun p o e n q =>
    let ⟨e1, n1, z1⟩ := x.fo p o e n q
    let ⟨e2, n2, z2⟩ := y.fo p o e1 n1 fun z => z1 (.inl z)
    ⟨e2, n2, fun z => z.elim z2 fun z => z1 (.inr z)⟩⟩
def XC (T : Tb) (W : WX) (C H : Hp) (F : Ft) (σ : St) (KE : KX) : Prop :=
  ∀ C' H' E' F' e cls d, Wd T C' H' E' σ F' → Fr C H (Own F) C' H' (Own F') → ERep T C' e cls d → KE e E' → W cls d σ H'
theorem XC.step {T : Tb} {W : WX} {C H C1 H1 : Hp} {F F1 : Ft} {σ : St} {KE : KX} {own : Addr → Prop} (x : XC T W C H F σ KE) (y : Fr C H (Own F) C1 H1 own) (h : ∀ p, Own F1 p → own p) : XC T W C1 H1 F1 σ KE :=
  fun C' H' E' F' e cls d w z r k => x C' H' E' F' e cls d w (y.trans z h) r k

def PreE (T : Tb) (W : WX) (f : DE) : TE := fun σ H Q => ∃ C E F KR KE, Wd T C H E σ F ∧ f E KR KE ∧ (∀ C' H' E' F' a v g, R1 T C H F σ C' H' E' F' a v g → KR a E' → Q v H') ∧ XC T W C H F σ KE
def PreA (T : Tb) (W : WX) (f : DA) : TA := fun σ H Q => ∃ C E F KR KE, Wd T C H E σ F ∧ f E KR KE ∧ (∀ C' H' E' F' as vs g, Rs T C H F σ C' H' E' F' as vs g → KR as E' → Q vs H') ∧ XC T W C H F σ KE
def PreT (T : Tb) (W : WX) (f : DT) : TT := fun σ H Q => ∃ C E F KR KE, Wd T C H E σ F ∧ f E KR KE ∧ (∀ C' H' E' F' b, Wd T C' H' E' σ F' → Fr C H (Own F) C' H' (Own F') → KR b E' → Q b H') ∧ XC T W C H F σ KE

theorem _root_.L2.PE.imp {X : Cx} {e : Expr} {t t' : TE} (h : PE X e t) (k : ∀ σ H Q, t' σ H Q → t σ H Q) : PE X e t' := ⟨fun pins s σ H Q I q => h.run pins s σ H Q I (k σ H Q q)⟩
theorem _root_.L2.PT.imp {X : Cx} {e : Expr} {t t' : TT} (h : PT X e t) (k : ∀ σ H Q, t' σ H Q → t σ H Q) : PT X e t' := ⟨fun pins s σ H Q I q => h.run pins s σ H Q I (k σ H Q q)⟩
theorem _root_.L2.PW.imp {X : Cx} {e : Expr} {t t' : TT} (h : PW X e t) (k : ∀ σ H Q, t' σ H Q → t σ H Q) : PW X e t' := ⟨fun wh pins s σ H Q I q => h.run wh pins s σ H Q I (k σ H Q q)⟩
theorem _root_.L2.PA.imp {X : Cx} {e : List Expr} {t t' : TA} (h : PA X e t) (k : ∀ σ H Q, t' σ H Q → t σ H Q) : PA X e t' := ⟨fun p pins s σ H Q I q => h.run p pins s σ H Q I (k σ H Q q)⟩
theorem _root_.L2.PS.imp {X : Cx} {e : Stmt} {t t' : TS} (h : PS X e t) (k : ∀ D σ H, t' D σ H → t D σ H) : PS X e t' := ⟨fun pins s σ H D I q => h.run pins s σ H D I (k D σ H q)⟩
theorem _root_.L2.PSs.imp {X : Cx} {e : List Stmt} {t t' : TS} (h : PSs X e t) (k : ∀ D σ H, t' D σ H → t D σ H) : PSs X e t' := ⟨fun pins s σ H D I q => h.run pins s σ H D I (k D σ H q)⟩

abbrev SE (T : Tb) (X : Cx) (W : WX) (f : DE) (e : Expr) : Prop := PE X e (PreE T W f)
abbrev SA (T : Tb) (X : Cx) (W : WX) (f : DA) (es : List Expr) : Prop := PA X es (PreA T W f)
abbrev ST (T : Tb) (X : Cx) (W : WX) (f : DT) (e : Expr) : Prop := PT X e (PreT T W f)

/-! ### constants, names -/
def dC (d : D) : DE := fun E KR _ => KR (.val (.sh d)) E
def dVar (i : Nat) : DE := fun E KR _ => match E[i]? with
  | some (some _) => KR (.slot i) E
  | _ => False
def dBad : DE := fun _ _ _ => False
section
variable {T : Tb} {X : Cx} {W : WX}
theorem pre_c {d : D} {v : V} (r : ∀ C, Rep T C d v) {σ : St} {H : Hp} {Q : VK} (h : PreE T W (dC d) σ H Q) : Q v H := by
  obtain ⟨C, E, F, KR, KE, w, k, hq, _⟩ := h
  exact hq C H E F _ _ [] (R1.self w (.val (.sh (r C)))) k
theorem se_int {i : Int} {j pos} : SE T X W (dC (.int i)) (.Constant (.int i) j pos) := pe_int.imp fun _ _ _ h => pre_c (fun _ => .int i) h
theorem se_bl {b : Bool} {j pos} : SE T X W (dC (.bl b)) (.Constant (.bool b) j pos) := pe_bl.imp fun _ _ _ h => pre_c (fun _ => .bl b) h
theorem se_non {j pos} : SE T X W (dC .non) (.Constant .none j pos) := pe_non.imp fun _ _ _ h => pre_c (fun _ => .non) h
theorem se_str {x : Str} {j pos} : SE T X W (dC (.str x)) (.Constant (.str x) j pos) := pe_str.imp fun _ _ _ h => pre_c (fun _ => .str x) h
theorem se_glob {x : Str} {d : D} {v : V} {u : Value} {pos} (hg : Gl X x) (hm : X.mg x = some u) (r : RelV v u) (rd : ∀ C, Rep T C d v) (hd : (x == ("__debug__" : Str)) = false) : SE T X W (dC d) (.Name x pos) :=
  (pe_glob hg hm r hd).imp fun _ _ _ h => pre_c rd h
theorem se_var {i : Nat} {x : Str} {pos} (hN : X.N[i]? = some x) (hv : Vis X.env.scope x) (hd : (x == ("__debug__" : Str)) = false) (hcd : (x == ("__classdict__" : Str)) = false) : SE T X W (dVar i) (.Name x pos) := by
  refine (pe_var hN hv hd hcd).imp fun σ H Q h => ?_
  obtain ⟨C, E, F, KR, KE, w, k, hq, _⟩ := h
  unfold dVar at k
  split at k
  · rename_i o e
    obtain ⟨v, hv, _⟩ := w.rep i o e
    exact ⟨v, hv, hq C H E F _ v [] (R1.self w (.slot hv)) k⟩
  · exact k.elim
theorem se_bad {e : Expr} : SE T X W dBad e := ⟨fun pins s σ H Q I ⟨_, _, _, _, _, _, k, _⟩ => k.elim⟩
end

/-! ### argument lists -/
def dNil : DA := fun E KR _ => KR [] E
def dCons (f : DE) (g : DA) : DA := fun E KR KE => f E (fun a E1 => g E1 (fun as E2 => KR (a :: as) E2) KE) KE
section
variable {T : Tb} {X : Cx} {W : WX} {f : DE} {g : DA} {e : Expr} {es : List Expr}
theorem sa_nil : SA T X W dNil [] := pa_nil.imp fun σ H Q h => by
  obtain ⟨C, E, F, KR, KE, w, k, hq, _⟩ := h
  exact hq C H E F [] [] [] (Rs.nil w) k
/-- the one, then the others -/
theorem pre_cons {σ : St} {H : Hp} {Q : List V → Hp → Prop} (h : PreA T W (dCons f g) σ H Q) : PreE T W f σ H fun x H1 => PreA T W g σ H1 fun xs H2 => Q (x :: xs) H2 := by
  obtain ⟨C, E, F, KR, KE, w, k, hq, hx⟩ := h
  refine ⟨C, E, F, _, KE, w, k, fun C1 H1 E1 F1 a v f1 x k1 => ?_, hx⟩
  refine ⟨C1, E1, F1, _, KE, x.wd, k1, fun C2 H2 E2 F2 as vs f2 y k2 => hq C2 H2 E2 F2 _ _ _ (Rs.cons x y) k2, hx.step x.fr fun _ z => .inl z⟩
theorem sa_cons (he : SE T X W f e) (hr : SA T X W g es) (hs : starEach (e :: es) X.env = (false, eval e X.env) :: starEach es X.env) : SA T X W (dCons f g) (e :: es) :=
  (pa_cons he hr hs).imp fun σ H Q h => pre_cons h
end

/-! ### built-in operations: they read, and make new things -/
abbrev G := List D → (O → Prop) → Prop
def BI (T : Tb) (r : List V → Hp → VK → Prop) (g : G) : Prop := ∀ (C H : Hp) (vs : List V) (ds : List D) (Q : VK) (K : O → Prop), Sub C H → VL T C H ds vs → g ds K →
  (∀ C' H' o v f, Grow C H C' H' f → ORep T C' H' o v f → K o → Q v H') → r vs H Q
/-- the operation g on what the arguments give -/
def dB (g : G) (fs : DA) : DE := fun E KR KE => fs E (fun as E1 => dViews E1 as fun ds E2 => g ds fun o => KR (.val o) E2) KE
section
variable {T : Tb} {X : Cx} {W : WX} {g : G} {r : List V → Hp → VK → Prop}
theorem fin_bi {C H C1 H1 : Hp} {F F1 : Ft} {σ : St} {E1 : Env} {as : List A} {vs : List V} {f : List Addr} {KR : KA} {Q : VK} (hb : BI T r g) (x : Rs T C H F σ C1 H1 E1 F1 as vs f) (k : dViews E1 as fun ds E2 => g ds fun o => KR (.val o) E2)
    (hq : ∀ C' H' E' F' a v f', R1 T C H F σ C' H' E' F' a v f' → KR a E' → Q v H') : r vs H1 Q := by
  obtain ⟨C2, E2, F2, ds, w2, vl, k2, fr2⟩ := views x.wd x.al x.nd x.ot k
  refine hb C2 H1 vs ds Q _ w2.sub vl k2 fun C3 H3 o v f3 gr ro ko => ?_
  exact hq C3 H3 E2 F2 (.val o) v f3 (R1.grow w2 gr (.val ro) (x.fr.trans fr2 fun p z => z)) ko
/-- over an argument list -/
theorem pre_bi {fs : DA} {σ : St} {H : Hp} {Q : VK} (hb : BI T r g) (h : PreE T W (dB g fs) σ H Q) : PreA T W fs σ H fun vs H1 => r vs H1 Q := by
  obtain ⟨C, E, F, KR, KE, w, k, hq, hx⟩ := h
  exact ⟨C, E, F, _, KE, w, k, fun C1 H1 E1 F1 as vs f1 x k1 => fin_bi hb x k1 hq, hx⟩
def r1 (r : V → Hp → VK → Prop) : List V → Hp → VK → Prop := fun vs H Q => match vs with
  | [x] => r x H Q
  | _ => False
def r2 (r : R2) : List V → Hp → VK → Prop := fun vs H Q => match vs with
  | [x, y] => r x y H Q
  | _ => False
/-- over two expressions -/
theorem pre_bi2 {fa fb : DE} {r : R2} {σ : St} {H : Hp} {Q : VK} (hb : BI T (r2 r) g) (h : PreE T W (dB g (dCons fa (dCons fb dNil))) σ H Q) : PreE T W fa σ H fun x H1 => PreE T W fb σ H1 fun y H2 => r x y H2 Q := by
  obtain ⟨C, E, F, KR, KE, w, k, hq, hx⟩ := h
  refine ⟨C, E, F, _, KE, w, k, fun C1 H1 E1 F1 a v f1 x k1 => ?_, hx⟩
  refine ⟨C1, E1, F1, _, KE, x.wd, k1, fun C2 H2 E2 F2 a2 v2 f2 y k2 => ?_, hx.step x.fr fun _ z => .inl z⟩
  exact fin_bi (r := r2 r) hb (Rs.cons x (Rs.one y)) k2 hq
theorem pre_bi1 {fa : DE} {r : V → Hp → VK → Prop} {σ : St} {H : Hp} {Q : VK} (hb : BI T (r1 r) g) (h : PreE T W (dB g (dCons fa dNil)) σ H Q) : PreE T W fa σ H fun x H1 => r x H1 Q := by
  obtain ⟨C, E, F, KR, KE, w, k, hq, hx⟩ := h
  refine ⟨C, E, F, _, KE, w, k, fun C1 H1 E1 F1 a v f1 x k1 => ?_, hx⟩
  exact fin_bi (r := r1 r) hb (Rs.one x) k1 hq
variable {a b : Expr} {fa fb : DE} {pos : Pos}
theorem se_op {op : Operator} {r : R2} (ho : OpR X (binaryOp op) r) (hb : BI T (r2 r) g) (ha : SE T X W fa a) (h2 : SE T X W fb b) : SE T X W (dB g (dCons fa (dCons fb dNil))) (.BinOp a op b pos) :=
  (pe_op ho ha h2).imp fun σ H Q h => pre_bi2 hb h
theorem se_cmp {op : CmpOp} {r : R2} (ho : OpR X (compareOp op) r) (hb : BI T (r2 r) g) (ha : SE T X W fa a) (h2 : SE T X W fb b) (hm : behindInMarks op b = false) : SE T X W (dB g (dCons fa (dCons fb dNil))) (.Compare a [op] [b] pos) :=
  (pe_cmpR ho ha h2 hm).imp fun σ H Q h => pre_bi2 hb h
theorem se_un {op : UnaryOp} {r : V → Hp → VK → Prop} (ho : UnR X (unaryOp op) r) (hb : BI T (r1 r) g) (ha : SE T X W fa a) : SE T X W (dB g (dCons fa dNil)) (.UnaryOp op a pos) :=
  (pe_un ho ha).imp fun σ H Q h => pre_bi1 hb h
theorem se_ix {r : R2} (hr : IxR X r) (hb : BI T (r2 r) g) (ha : SE T X W fa a) (h2 : SE T X W fb b) (hs : PlainIx b) : SE T X W (dB g (dCons fa (dCons fb dNil))) (.Subscript a b pos) :=
  (pe_ix hr ha h2 hs).imp fun σ H Q h => pre_bi2 hb h
variable {x : Str} {p : Pos} {e : Expr} {es : List Expr} {fs : DA} {id : String}
theorem se_callB {r : List V → Hp → VK → Prop} (hc : CallR X (.builtin id) r) (hb : BI T r g) (hg : Gl X x) (hm : X.mg x = none) (hv : bootBuiltins x = some (.builtin id)) (ha : SA T X W fs (e :: es)) (hn : x ≠ "__name__") (hdb : (x == ("__debug__" : Str)) = false)
    (he : starEach (e :: es) X.env = (false, eval e X.env) :: starEach es X.env) (hpl : (backTo pos (starEach es X.env)).any (·.1) = false) : SE T X W (dB g fs) (.Call (.Name x p) (e :: es) [] pos) :=
  (pe_callB hc hg hm hv ha hn hdb he hpl).imp fun σ H Q h => pre_bi hb h
theorem se_callTy {r : List V → Hp → VK → Prop} {t : String} (hc : CallR X (.type t) r) (hb : BI T r g) (hg : Gl X x) (hm : X.mg x = none) (hv : bootBuiltins x = some (.type t)) (ha : SA T X W fs (e :: es)) (hn : x ≠ "__name__") (hdb : (x == ("__debug__" : Str)) = false)
    (he : starEach (e :: es) X.env = (false, eval e X.env) :: starEach es X.env) (hpl : (backTo pos (starEach es X.env)).any (·.1) = false) : SE T X W (dB g fs) (.Call (.Name x p) (e :: es) [] pos) :=
  (pe_callTy hc hg hm hv ha hn hdb he hpl).imp fun σ H Q h => pre_bi hb h
theorem se_callBfun {r : List V → Hp → VK → Prop} (hc : CallR X (.builtin id) r) (hb : BI T r g) (hg : Gl X x) (hm : X.mg x = some (.builtin id)) (ha : SA T X W fs (e :: es)) (hdb : (x == ("__debug__" : Str)) = false)
    (he : starEach (e :: es) X.env = (false, eval e X.env) :: starEach es X.env) (hpl : (backTo pos (starEach es X.env)).any (·.1) = false) : SE T X W (dB g fs) (.Call (.Name x p) (e :: es) [] pos) :=
  (pe_callBfun hc hg hm ha hdb he hpl).imp fun σ H Q h => pre_bi hb h
end

/-! ### captured things: tuples, lists -/
/-- a thing that is to stand in another or under a name: owned, or given up -/
def capO : Env → A → (O → Env → Prop) → Prop
  | E, .val o, K => K o E
  | E, .slot i, K => match E[i]? with
    | some (some (.sh d)) => K (.sh d) E
    | some (some o) => K (.sh o.view) (E.set i (some (.sh o.view)))
    | _ => False
def capOs : Env → List A → (List O → Env → Prop) → Prop
  | E, [], K => K [] E
  | E, a :: as, K => capO E a fun o E1 => capOs E1 as fun os E2 => K (o :: os) E2
/-- .. as data -/
def capDs (E : Env) (as : List A) (K : List D → Env → Prop) : Prop := capOs E as fun os E1 => K (os.map O.view) E1
theorem own_upd_nil {F : Ft} {i : Nat} {p : Addr} (h : Own (updF F i []) p) : Own F p ∧ p ∉ F i ∨ Own F p := by
  rcases own_updF h with z | z
  · simp at z
  · exact .inr z
theorem own_clear {T : Tb} {C H : Hp} {E : Env} {σ : St} {F : Ft} (w : Wd T C H E σ F) {i : Nat} {p : Addr} (h : Own (updF F i []) p) : Own F p ∧ p ∉ F i := by
  obtain ⟨j, hj⟩ := h
  by_cases e : j = i
  · subst e; rw [updF_same] at hj; simp at hj
  · rw [updF_ne e] at hj
    exact ⟨⟨j, hj⟩, fun q => e (w.dj j i p hj q)⟩
theorem cap_ok {T : Tb} {H : Hp} {σ : St} {a : A} {v : V} {f : List Addr} {C : Hp} {E : Env} {F : Ft} {K : O → Env → Prop} (w : Wd T C H E σ F) (r : ARep T C H σ a v f) (ot : ∀ p ∈ f, C p = none ∧ ¬ Own F p) (k : capO E a K) :
    ∃ C' E' F' o, Wd T C' H E' σ F' ∧ ORep T C' H o v f ∧ K o E' ∧ Fr C H (Own F) C' H (Own F') ∧ (∀ p, Own F' p → Own F p) ∧ (∀ p, ¬ Own F p → C' p = C p) := by
  cases r with
  | val r => exact ⟨C, E, F, _, w, r, k, Fr.refl, fun _ z => z, fun _ _ => rfl⟩
  | @slot i v hv =>
    simp only [capO] at k
    split at k
    · rename_i d e
      obtain ⟨v2, hv2, r2⟩ := w.rep i _ e
      rw [hv] at hv2
      have e1 := Option.some.inj (Option.some.inj hv2)
      subst e1
      have r3 : ORep T C H (.sh d) v [] := by
        generalize F i = g at r2
        cases r2 with
        | sh r => exact .sh r
      exact ⟨C, E, F, _, w, r3, k, Fr.refl, fun _ z => z, fun _ _ => rfl⟩
    · rename_i o _ e
      obtain ⟨v2, hv2, q, w2⟩ := w.closeAll e
      rw [hv] at hv2
      have e1 := Option.some.inj (Option.some.inj hv2)
      subst e1
      have sub2 : ∀ p, Own (updF F i []) p → Own F p := fun p z => (own_clear w z).1
      refine ⟨_, _, _, _, w2, .sh q, k, Fr.close w.sub (fun p hp => ⟨i, hp⟩) sub2, sub2, fun p hp => cl_out fun z => hp ⟨i, z⟩⟩
    · exact k.elim
theorem caps_ok {T : Tb} {H : Hp} {σ : St} : ∀ {as : List A} {vs : List V} {f : List Addr} {C : Hp} {E : Env} {F : Ft} {K : List O → Env → Prop}, Wd T C H E σ F → AL T C H σ as vs f → (∀ p ∈ f, C p = none ∧ ¬ Own F p) → capOs E as K →
    ∃ C' E' F' os, Wd T C' H E' σ F' ∧ ORepL T C' H os vs f ∧ K os E' ∧ Fr C H (Own F) C' H (Own F') ∧ (∀ p, Own F' p → Own F p) ∧ (∀ p, ¬ Own F p → C' p = C p)
  | [], _, _, C, E, F, K, w, .nil, _, k => ⟨C, E, F, [], w, .nil, k, Fr.refl, fun _ z => z, fun _ _ => rfl⟩
  | a :: as, _, _, C, E, F, K, w, .cons (f := f1) (g := f2) r rs, ot, k => by
    obtain ⟨C1, E1, F1, o, w1, ro, k1, fr1, s1, n1⟩ := cap_ok w r (fun p hp => ot p (List.mem_append_left _ hp)) k
    obtain ⟨C2, E2, F2, os, w2, ros, k2, fr2, s2, n2⟩ := caps_ok w1 (rs.keep fr1.cl fun _ _ _ e => e) (fun p hp => ⟨by rw [n1 p (ot p (List.mem_append_right _ hp)).2]; exact (ot p (List.mem_append_right _ hp)).1, fun z => (ot p (List.mem_append_right _ hp)).2 (s1 p z)⟩) k1
    exact ⟨C2, E2, F2, o :: os, w2, .cons (ro.keep fr2.cl fun _ _ _ e => e) ros, k2, fr1.trans fr2 fun _ z => z, fun p z => s1 p (s2 p z), fun p hp => (n2 p fun z => hp (s1 p z)).trans (n1 p hp)⟩
def dLst (fs : DA) : DE := fun E KR KE => fs E (fun as E1 => capOs E1 as fun os E2 => os.length ≤ sizeLine ∧ KR (.val (.lst os)) E2) KE
def dTup (fs : DA) : DE := fun E KR KE => fs E (fun as E1 => capOs E1 as fun os E2 => os.length ≤ sizeLine ∧ KR (.val (.sh (.tup (os.map O.view)))) E2) KE
section
variable {T : Tb} {X : Cx} {W : WX} {es : List Expr} {fs : DA} {pos : Pos}
theorem upd_mono {C H : Hp} {p : Addr} {o : HO} (s : Sub C H) (h : H p = none) : Sub (upd C p o) (upd H p o) := (Grow.tup (o := o) s h).s
theorem se_lst (h : SA T X W fs es) : SE T X W (dLst fs) (.List es pos) := (pe_lst h).imp fun σ H Q h => by
  obtain ⟨C, E, F, KR, KE, w, k, hq, hx⟩ := h
  refine ⟨C, E, F, _, KE, w, k, fun C1 H1 E1 F1 as vs f1 x k1 => ?_, hx⟩
  obtain ⟨C2, E2, F2, os, w2, ro, ⟨sz, k2⟩, fr2, s2, n2⟩ := caps_ok x.wd x.al x.ot k1
  refine ⟨by rw [← ro.length]; exact sz, fun p hp => ?_⟩
  have ne : p ∉ f1 := fun z => by
    obtain ⟨u, hu⟩ := ro.there p z
    rw [hp] at hu; cases hu
  have gr : Grow C2 H1 C2 (upd H1 p (.lst vs)) [p] := Grow.own w2.sub hp
  have ro2 : ORep T C2 (upd H1 p (.lst vs)) (.lst os) (.ref p) (p :: f1) := .lst upd_same (ro.keep (Sub.refl _) fun q hq u hu => gr.h q u hu)
  have w3 := w2.grow gr
  have op : ¬ Own F2 p := fun ⟨i, hi⟩ => by
    obtain ⟨u, hu⟩ := w2.own_there hi
    rw [hp] at hu; cases hu
  have ot2 : ∀ q ∈ f1, C2 q = none ∧ ¬ Own F2 q := fun q hq => ⟨by rw [n2 q (x.ot q hq).2]; exact (x.ot q hq).1, fun z => (x.ot q hq).2 (s2 q z)⟩
  refine hq C2 _ E2 F2 _ _ (p :: f1) ⟨w3, .val ro2, List.nodup_cons.mpr ⟨ne, x.nd⟩, fun q hq => ?_, ?_⟩ k2
  · rcases List.mem_cons.mp hq with rfl | hq
    · exact ⟨w2.sub.none hp, op⟩
    · exact ot2 q hq
  · have z := x.fr.side fr2
    refine ⟨z.cl, fun q o e n y => ?_⟩
    obtain ⟨e2, n2', z2⟩ := z.fo q o e n y
    refine ⟨gr.h q o e2, n2', fun y => ?_⟩
    rcases y with y | y
    · exact z2 (.inl y)
    · rcases List.mem_cons.mp y with rfl | y
      · rw [hp] at e2; cases e2
      · exact z2 (.inr y)
theorem se_tup {x1} (h : SA T X W fs es) : SE T X W (dTup fs) (.Tuple es x1 pos) := (pe_tup h).imp fun σ H Q h => by
  obtain ⟨C, E, F, KR, KE, w, k, hq, hx⟩ := h
  refine ⟨C, E, F, _, KE, w, k, fun C1 H1 E1 F1 as vs f1 x k1 => ?_, hx⟩
  obtain ⟨C2, E2, F2, os, w2, ro, ⟨sz, k2⟩, fr2, s2, n2⟩ := caps_ok x.wd x.al x.ot k1
  refine ⟨by rw [← ro.length]; exact sz, fun p hp => ?_⟩
  have ot2 : ∀ q ∈ f1, C2 q = none ∧ ¬ Own F2 q := fun q hq => ⟨by rw [n2 q (x.ot q hq).2]; exact (x.ot q hq).1, fun z => (x.ot q hq).2 (s2 q z)⟩
  -- the own places of the items are given up
  have w3 : Wd T (cl C2 H1 f1) H1 E2 σ F2 := w2.move (cl_sub w2.sub) (cl_le w2.sub) (fun _ _ _ e => e) fun q hq => by
    rw [cl_out fun z => (ot2 q z).2 hq]
    obtain ⟨i, hi⟩ := hq
    exact w2.out i q hi
  have rl : RepL T (cl C2 H1 f1) (os.map O.view) vs := by
    rw [← viewL_map]
    exact ORepL.close (cl_sub w2.sub) ro fun q hq u hu => cl_at hq hu
  have gr : Grow (cl C2 H1 f1) H1 (upd (cl C2 H1 f1) p (.tup vs)) (upd H1 p (.tup vs)) [] := Grow.tup w3.sub hp
  have rt : Rep T (upd (cl C2 H1 f1) p (.tup vs)) (.tup (os.map O.view)) (.ref p) := .tup (SqT.of upd_same) (rl.mono gr.c)
  refine hq _ _ E2 F2 _ _ [] (R1.grow w3 gr (.val (.sh rt)) ?_) k2
  exact (x.fr.side fr2).trans (Fr.close (a := fun p => Own F2 p ∨ p ∈ f1) (b := Own F2) w2.sub (fun p hp => .inr hp) fun p hp => .inl hp) fun _ z => z
end
end Pv

set_option Elab.async false
set_option linter.all false
set_option maxRecDepth 100000
set_option maxHeartbeats 4000000
set_option autoImplicit false
/-! PvD: calls of own defs, of own classes; conditions. -/
namespace Pv
open PySem PySem.Spec PyProof.Rows L2

/-- what a def does, as data: the arguments; behind it the result and the arguments as they are left -/
abbrev Spec := List O → (O → List O → Prop) → (Er → List O → Prop) → Prop
def spS (T : Tb) (S : Spec) : Sp := fun vs H Q EX => ∃ C os f KR KE, Sub C H ∧ ORepL T C H os vs f ∧ f.Nodup ∧ (∀ p ∈ f, C p = none) ∧ S os KR KE ∧
  (∀ C' H' o v g os' f', Sub C' H' → ORep T C' H' o v g → ORepL T C' H' os' vs f' → (f' ++ g).Nodup → (∀ p ∈ f' ++ g, C' p = none) → Fr C H (· ∈ f) C' H' (· ∈ f' ++ g) → KR o os' → Q v H') ∧
  (∀ C' H' e cls d os' f', Sub C' H' → ORepL T C' H' os' vs f' → f'.Nodup → (∀ p ∈ f', C' p = none) → Fr C H (· ∈ f) C' H' (· ∈ f') → ERep T C' e cls d → KE e os' → EX cls d H')

/-- the arguments handed over: what a slot owns goes with it -/
def dTake : Env → List A → (List O → Env → Prop) → Prop
  | E, [], K => K [] E
  | E, .val o :: r, K => dTake E r fun os E' => K (o :: os) E'
  | E, .slot i :: r, K => match E[i]? with
    | some (some (.sh d)) => dTake E r fun os E' => K (.sh d :: os) E'
    | some (some o) => dTake (E.set i none) r fun os E' => K (o :: os) E'
    | _ => False
/-- .. and handed back -/
def dPut : Env → List A → List O → Env
  | E, .val _ :: r, _ :: os => dPut E r os
  | E, .slot i :: r, o :: os => match E[i]? with
    | some none => dPut (E.set i (some o)) r os
    | _ => dPut E r os
  | E, _, _ => E
section
variable {T : Tb}
theorem take_ok {H : Hp} {σ : St} {C : Hp} : ∀ {as : List A} {vs : List V} {f : List Addr} {E : Env} {F : Ft} {K : List O → Env → Prop}, Wd T C H E σ F → AL T C H σ as vs f → f.Nodup → (∀ p ∈ f, C p = none ∧ ¬ Own F p) → dTake E as K →
    ∃ E' F' os g, Wd T C H E' σ F' ∧ ORepL T C H os vs g ∧ g.Nodup ∧ (∀ p ∈ g, C p = none ∧ ¬ Own F' p) ∧ (∀ p ∈ g, Own F p ∨ p ∈ f) ∧ (∀ p, Own F' p → Own F p) ∧ K os E'
  | [], _, _, E, F, K, w, .nil, _, _, h => ⟨E, F, [], [], w, .nil, List.nodup_nil, fun p hp => by simp at hp, fun p hp => by simp at hp, fun _ z => z, h⟩
  | .val o :: as, _, _, E, F, K, w, .cons (f := f1) (g := f2) (.val r) rs, nd, ot, h => by
    obtain ⟨n1, n2, n3⟩ := List.nodup_append.mp nd
    obtain ⟨E', F', os, g, w', ros, ng, og, lg, lF, k⟩ := take_ok w rs n2 (fun p hp => ot p (List.mem_append_right _ hp)) h
    refine ⟨E', F', o :: os, f1 ++ g, w', .cons r ros, List.nodup_append.mpr ⟨n1, ng, fun p hp q hq e => ?_⟩, fun p hp => ?_, fun p hp => ?_, lF, k⟩
    · subst e
      rcases lg p hq with z | z
      · exact (ot p (List.mem_append_left _ hp)).2 z
      · exact n3 p hp p z rfl
    · rcases List.mem_append.mp hp with z | z
      · exact ⟨(ot p (List.mem_append_left _ z)).1, fun y => (ot p (List.mem_append_left _ z)).2 (lF p y)⟩
      · exact og p z
    · rcases List.mem_append.mp hp with z | z
      · exact .inr (List.mem_append_left _ z)
      · exact (lg p z).elim .inl fun y => .inr (List.mem_append_right _ y)
  | .slot i :: as, _, _, E, F, K, w, .cons (g := f2) (v := v1) (.slot hv) rs, nd, ot, h => by
    have nd' : f2.Nodup := by simpa using nd
    have ot' : ∀ p ∈ f2, C p = none ∧ ¬ Own F p := fun p hp => ot p (by simpa using hp)
    simp only [dTake] at h
    split at h
    · rename_i d e
      obtain ⟨v2, hv2, r2⟩ := w.rep i _ e
      rw [hv] at hv2
      have e1 := Option.some.inj (Option.some.inj hv2)
      subst e1
      have r3 : ORep T C H (.sh d) v1 [] := by
        generalize F i = g at r2
        cases r2 with
        | sh r => exact .sh r
      obtain ⟨E', F', os, g, w', ros, ng, og, lg, lF, k⟩ := take_ok w rs nd' ot' h
      exact ⟨E', F', .sh d :: os, [] ++ g, w', .cons r3 ros, by simpa using ng, fun p hp => og p (by simpa using hp), fun p hp => by simpa using lg p (by simpa using hp), lF, k⟩
    · rename_i o _ e
      obtain ⟨v2, hv2, r2⟩ := w.rep i _ e
      rw [hv] at hv2
      have e1 := Option.some.inj (Option.some.inj hv2)
      subst e1
      have w1 := w.drop0 (i := i)
      obtain ⟨E', F', os, g, w', ros, ng, og, lg, lF, k⟩ := take_ok w1 rs nd' (fun p hp => ⟨(ot' p hp).1, fun z => (ot' p hp).2 (own_clear w z).1⟩) h
      refine ⟨E', F', o :: os, F i ++ g, w', .cons r2 ros, List.nodup_append.mpr ⟨w.nd i, ng, fun p hp q hq e => ?_⟩, fun p hp => ?_, fun p hp => ?_, fun p z => (own_clear w (lF p z)).1, k⟩
      · subst e
        rcases lg p hq with z | z
        · exact (own_clear w z).2 hp
        · exact (ot' p z).2 ⟨i, hp⟩
      · rcases List.mem_append.mp hp with z | z
        · exact ⟨w.out i p z, fun y => (own_clear w (lF p y)).2 z⟩
        · exact og p z
      · rcases List.mem_append.mp hp with z | z
        · exact .inl ⟨i, z⟩
        · exact (lg p z).elim (fun y => .inl (own_clear w y).1) fun y => .inr (by simpa using y)
    · exact h.elim
theorem put_ok {H H0 C C0 : Hp} {σ : St} : ∀ {as : List A} {vs : List V} {f0 : List Addr} {ws : List V} {os : List O} {f : List Addr} {E : Env} {F : Ft}, AL T C0 H0 σ as vs f0 → Wd T C H E σ F → ORepL T C H os (vs ++ ws) f → f.Nodup → (∀ p ∈ f, C p = none ∧ ¬ Own F p) →
    ∃ F', Wd T C H (dPut E as os) σ F' ∧ ∀ p, Own F' p → Own F p ∨ p ∈ f
  | [], _, _, ws, os, f, E, F, .nil, w, _, _, _ => by
    refine ⟨F, ?_, fun p z => .inl z⟩
    unfold dPut
    exact w
  | .val _ :: as, _, _, ws, _, _, E, F, .cons (.val _) rs, w, .cons (f := f1) (g := f2) (o := o) (os := os) r ros, nd, ot => by
    obtain ⟨n1, n2, n3⟩ := List.nodup_append.mp nd
    obtain ⟨F', w', l⟩ := put_ok (f := f2) rs w ros n2 fun p hp => ot p (List.mem_append_right _ hp)
    exact ⟨F', by simp only [dPut]; exact w', fun p z => (l p z).elim .inl fun y => .inr (List.mem_append_right _ y)⟩
  | .slot i :: as, _, _, ws, _, _, E, F, .cons (.slot hv) rs, w, .cons (f := f1) (g := f2) (o := o) (os := os) r ros, nd, ot => by
    obtain ⟨n1, n2, n3⟩ := List.nodup_append.mp nd
    simp only [dPut]
    split
    · have w1 := w.put0 (i := i) hv r n1 (fun p hp => (ot p (List.mem_append_left _ hp)).1) fun j _ p hp q => (ot p (List.mem_append_left _ hp)).2 ⟨j, q⟩
      obtain ⟨F', w', l⟩ := put_ok (f := f2) rs w1 ros n2 fun p hp => ⟨(ot p (List.mem_append_right _ hp)).1, fun z => (own_updF z).elim (fun y => n3 p y p hp rfl) (ot p (List.mem_append_right _ hp)).2⟩
      refine ⟨F', w', fun p z => ?_⟩
      rcases l p z with y | y
      · exact (own_updF y).elim (fun x => .inr (List.mem_append_left _ x)) .inl
      · exact .inr (List.mem_append_right _ y)
    · obtain ⟨F', w', l⟩ := put_ok (f := f2) rs w ros n2 fun p hp => ot p (List.mem_append_right _ hp)
      exact ⟨F', w', fun p z => (l p z).elim .inl fun y => .inr (List.mem_append_right _ y)⟩

def dCall (S : Spec) (dds : List D) (fs : DA) : DE := fun E KR KE => fs E (fun as E1 => dTake E1 as fun os E2 => S (os ++ dds.map .sh) (fun o os' => KR (.val o) (dPut E2 as os')) (fun e os' => KE e (dPut E2 as os'))) KE
theorem ORepL.append {C H : Hp} : ∀ {os os' : List O} {vs vs' : List V} {f g : List Addr}, ORepL T C H os vs f → ORepL T C H os' vs' g → ORepL T C H (os ++ os') (vs ++ vs') (f ++ g)
  | _, _, _, _, _, _, .nil, s => s
  | _, _, _, _, _, _, .cons h r, s => by
    have := ORepL.cons h (ORepL.append r s)
    simpa using this
/-- behind the call, the caller's state -/
theorem back_ok {C H C1 H1 C3 H3 : Hp} {F F1 F2 : Ft} {σ : St} {E1 E2 : Env} {as : List A} {vs ws : List V} {f g : List Addr} {os' : List O} {f' gr : List Addr} (x : Rs T C H F σ C1 H1 E1 F1 as vs f)
    (w2 : Wd T C1 H1 E2 σ F2) (og : ∀ p ∈ g, C1 p = none ∧ ¬ Own F2 p) (lg : ∀ p ∈ g, Own F1 p ∨ p ∈ f) (lF : ∀ p, Own F2 p → Own F1 p)
    (s3 : Sub C3 H3) (ros : ORepL T C3 H3 os' (vs ++ ws) f') (nd : (f' ++ gr).Nodup) (n3 : ∀ p ∈ f' ++ gr, C3 p = none) (fr : Fr C1 H1 (· ∈ g) C3 H3 (· ∈ f' ++ gr)) :
    ∃ F3, Wd T C3 H3 (dPut E2 as os') σ F3 ∧ (∀ p ∈ gr, ¬ Own F3 p) ∧ Fr C H (Own F) C3 H3 (fun p => Own F3 p ∨ p ∈ gr) := by
  have far : ∀ p, Own F2 p → p ∉ f' ++ gr := fun p hp => by
    obtain ⟨i, hi⟩ := hp
    obtain ⟨u, hu⟩ := w2.own_there hi
    exact (fr.fo p u hu (w2.out i p hi) fun z => (og p z).2 ⟨i, hi⟩).2.2
  have w3 : Wd T C3 H3 E2 σ F2 := w2.apart fr s3 fun p hp z => (og p z).2 hp
  obtain ⟨n1, n2, n4⟩ := List.nodup_append.mp nd
  obtain ⟨F3, w4, l⟩ := put_ok x.al w3 ros n1 fun p hp => ⟨n3 p (List.mem_append_left _ hp), fun z => far p z (List.mem_append_left _ hp)⟩
  refine ⟨F3, w4, fun p hp z => ?_, ?_⟩
  · rcases l p z with y | y
    · exact far p y (List.mem_append_right _ hp)
    · exact n4 p y p hp rfl
  · refine ⟨x.fr.cl.trans fr.cl, fun p o e n q => ?_⟩
    obtain ⟨e1, m1, q1⟩ := x.fr.fo p o e n q
    obtain ⟨e2, m2, q2⟩ := fr.fo p o e1 m1 fun z => q1 (lg p z)
    refine ⟨e2, m2, fun z => ?_⟩
    rcases z with z | z
    · rcases l p z with y | y
      · exact q1 (.inl (lF p y))
      · exact q2 (List.mem_append_left _ y)
    · exact q2 (List.mem_append_right _ z)
theorem call_ok {W : WX} {S : Spec} {dds : List D} {dvs : List V} {C H C1 H1 : Hp} {F F1 : Ft} {σ : St} {E1 : Env} {as : List A} {vs : List V} {f : List Addr} {KR : KA} {KE : KX} {Q : VK} (rd : ∀ C, RepL T C dds dvs) (x : Rs T C H F σ C1 H1 E1 F1 as vs f)
    (k : dTake E1 as fun os E2 => S (os ++ dds.map .sh) (fun o os' => KR (.val o) (dPut E2 as os')) (fun e os' => KE e (dPut E2 as os')))
    (hq : ∀ C' H' E' F' a v g, R1 T C H F σ C' H' E' F' a v g → KR a E' → Q v H') (hx : XC T W C H F σ KE) : spS T S (vs ++ dvs) H1 Q (fun cls d H' => W cls d σ H') := by
  obtain ⟨E2, F2, os, g, w2, ros, ng, og, lg, lF, k2⟩ := take_ok x.wd x.al x.nd x.ot k
  have rall : ORepL T C1 H1 (os ++ dds.map .sh) (vs ++ dvs) g := by
    have := ros.append (ORepL.shs (H := H1) (rd C1))
    simpa using this
  refine ⟨C1, _, g, _, _, w2.sub, rall, ng, fun p hp => (og p hp).1, k2, fun C3 H3 o v gr os' f' s3 ro ros' nd n3 fr kr => ?_, fun C3 H3 e cls d os' f' s3 ros' nd n3 fr er ke => ?_⟩
  · obtain ⟨F3, w4, ot, fr3⟩ := back_ok x w2 og lg lF s3 ros' nd n3 fr
    exact hq C3 H3 _ F3 _ v gr ⟨w4, .val ro, (List.nodup_append.mp nd).2.1, fun p hp => ⟨n3 p (List.mem_append_right _ hp), ot p hp⟩, fr3⟩ kr
  · obtain ⟨F3, w4, ot, fr3⟩ := back_ok (gr := []) x w2 og lg lF s3 ros' (by simpa using nd) (by simpa using n3) (by simpa using fr)
    exact hx C3 H3 _ F3 e cls d w4 (fr3.weak (fun _ z => z) fun p z => .inl z) er ke
end
section
variable {X : Cx} {CX : CXT} {k : Nat} {f : Addr} {fd : FuncData} {ps : List Str} {sp : Sp} {dvs : List V} {ds : List Value} {E : St → XK} {x : Str} {p pos : Pos} {e : Expr} {es : List Expr} {t : TA}
theorem run_fnD {pins : List (Addr × Obj)} {σ : St} {H : Hp} {s : Shared} {Q : VK} {us : List Value} {vs : List V} (F : FnOk X.prog X.w X.K X.mg X.base CX k f fd ps sp) (hr : Room k X.A) (hb : Binds X.K fd ps ds) (hd : Vals dvs ds) (hx : PassesAt CX X σ (E σ))
    (I : Inv X pins σ H s) (r : Vals vs us) (h : sp (vs ++ dvs) H Q (E σ)) : wpAny (model X.prog X.w) X.A (call (.ref f) us) (EP X pins σ Q) X.xe s := by
  have r2 : Vals (vs ++ dvs) (us ++ ds) := r.append hd
  have hl : (us ++ ds).length = ps.length := by rw [← r2.length]; exact F.len _ _ _ _ h
  refine wpAny_call (codeAny_mono (F.run X.A X.stack s H ⟨us, []⟩ (us ++ ds) (vs ++ dvs) Q (E σ) hr I.env0 (hb s us I.kIn hl) r2 h) fun r s' hq => ?_)
  cases r with
  | error e => exact hx pins H s e s' I hq
  | ok fl =>
    cases fl with
    | ret u => exact I.after hq
    | next => exact False.elim hq
    | brk => exact False.elim hq
    | cont => exact False.elim hq
def tCallD (sp : Sp) (dvs : List V) (E : St → XK) (t : TA) : TE := fun σ H Q => t σ H fun vs H1 => sp (vs ++ dvs) H1 Q (E σ)
theorem pe_callD (F : FnOk X.prog X.w X.K X.mg X.base CX k f fd ps sp) (hr : Room k X.A) (hg : Gl X x) (hm : X.mg x = some (.ref f)) (hk : PySem.W.keepIn X.K (.ref f) = true) (hb : Binds X.K fd ps ds) (hd : Vals dvs ds) (hx : ∀ σ, PassesAt CX X σ (E σ))
    (ha : PA X (e :: es) t) (hdb : (x == ("__debug__" : Str)) = false) (he : starEach (e :: es) X.env = (false, eval e X.env) :: starEach es X.env) (hpl : (backTo pos (starEach es X.env)).any (·.1) = false) :
    PE X (.Call (.Name x p) (e :: es) [] pos) (tCallD sp dvs E t) := by
  refine ⟨fun pins s σ H Q I h => ?_⟩
  refine wpAny_Call_Name_kw (ld_glob I hg hm ?_ hdb)
  refine PySem.W.callWith_K (h₀ := X.base) I.ok.mod.kin hk (thn (ha.run pos pins s σ H _ I h) fun us s1 ⟨vs, H1, I1, r, q⟩ => ⟨I1.kIn, ?_⟩) he hpl
  exact run_fnD F hr hb hd (hx σ) I1 r q
theorem se_call {T : Tb} {W : WX} {S : Spec} {dds : List D} {fs : DA} (F : FnOk X.prog X.w X.K X.mg X.base (L2.CX X.prog X.w) k f fd ps (spS T S)) (hr : Room k X.A) (hg : Gl X x) (hm : X.mg x = some (.ref f)) (hk : PySem.W.keepIn X.K (.ref f) = true) (hb : Binds X.K fd ps ds) (hd : Vals dvs ds)
    (rd : ∀ C, RepL T C dds dvs) (tk : Takes X W) (ha : SA T X W fs (e :: es)) (hdb : (x == ("__debug__" : Str)) = false) (he : starEach (e :: es) X.env = (false, eval e X.env) :: starEach es X.env) (hpl : (backTo pos (starEach es X.env)).any (·.1) = false) :
    SE T X W (dCall S dds fs) (.Call (.Name x p) (e :: es) [] pos) :=
  (pe_callD F hr hg hm hk hb hd (fun σ => passAt tk σ) ha hdb he hpl).imp fun σ H Q h => by
    obtain ⟨C, E, F, KR, KE, w, k, hq, hx⟩ := h
    exact ⟨C, E, F, _, KE, w, k, fun C1 H1 E1 F1 as vs f1 x k1 => call_ok rd x k1 hq hx, hx⟩
end

/-! ### conditions -/
/-- truth of data: none where it is not told -/
def truD : D → (Bool → Prop) → Prop
  | .non, K => K false
  | .bl b, K => K b
  | .int i, K => K (i != 0)
  | .str x, K => x.length ≤ sizeLine ∧ K ((x.length : Int) != 0)
  | .tup xs, K => K (!xs.isEmpty)
  | .lst xs, K => K (!xs.isEmpty)
  | .ins .., _ => False
  | .dic, _ => False
def dTru (f : DE) : DT := fun E KB KE => f E (fun a E1 => dViews E1 [a] fun ds E2 => match ds with
  | [d] => truD d fun b => KB b E2
  | _ => False) KE
section
variable {T : Tb} {X : Cx} {W : WX}
theorem VRep.seqL {C H : Hp} (s : Sub C H) {ds : List D} {v : V} (h : VRep T C H (.lst ds) v) : ∃ p vs, v = .ref p ∧ SqL T.K H p vs ∧ RepL T C ds vs := by
  cases h with
  | rep r => cases r with | lst h r => exact ⟨_, _, rfl, s.sqL h, r⟩
  | lst h r => exact ⟨_, _, rfl, SqL.of h, r⟩
theorem VRep.seqT {C H : Hp} (s : Sub C H) {ds : List D} {v : V} (h : VRep T C H (.tup ds) v) : ∃ p vs, v = .ref p ∧ SqT T.K H p vs ∧ RepL T C ds vs := by
  cases h with
  | rep r => cases r with | tup h r => exact ⟨_, _, rfl, s.sqT h, r⟩
theorem VRep.insI {C H : Hp} (s : Sub C H) {c : Nat} {fd : List (Nat × D)} {v : V} (h : VRep T C H (.ins c fd) v) : ∃ p dx fs, v = .ref p ∧ H p = some (.ins (T.ca c) dx fs) ∧ RepF T C fd fs := by
  cases h with
  | rep r => cases r with | ins h r => exact ⟨_, _, _, rfl, s _ _ h, r⟩
  | ins h r => exact ⟨_, _, _, rfl, h, r⟩
theorem VRep.dicI {C H : Hp} (s : Sub C H) {v : V} (h : VRep T C H .dic v) : ∃ p, v = .ref p ∧ H p = some (.dK []) := by
  cases h with
  | rep r => cases r with | dic h => exact ⟨_, rfl, s _ _ h⟩
theorem VRep.int {C H : Hp} {i : Int} {v : V} (h : VRep T C H (.int i) v) : v = .int i := by
  cases h with
  | rep r => cases r; rfl
theorem VRep.bl {C H : Hp} {i : Bool} {v : V} (h : VRep T C H (.bl i) v) : v = .bl i := by
  cases h with
  | rep r => cases r; rfl
theorem VRep.str {C H : Hp} {i : Str} {v : V} (h : VRep T C H (.str i) v) : v = .str i := by
  cases h with
  | rep r => cases r; rfl
theorem VRep.non {C H : Hp} {v : V} (h : VRep T C H .non v) : v = .non := by
  cases h with
  | rep r => cases r; rfl
theorem RepL.isEmpty {C : Hp} {ds : List D} {vs : List V} (h : RepL T C ds vs) : vs.isEmpty = ds.isEmpty := by
  cases h <;> rfl
theorem tru_of {C H : Hp} (s : Sub C H) {d : D} {v : V} (h : VRep T C H d v) {K : Bool → Prop} (k : truD d K) : ∃ b, TruV T.K v H b ∧ K b := by
  cases d with
  | non => rw [h.non]; exact ⟨false, rfl, k⟩
  | bl b => rw [h.bl]; exact ⟨b, rfl, k⟩
  | int i => rw [h.int]; exact ⟨_, rfl, k⟩
  | str x => rw [h.str]; exact ⟨_, ⟨k.1, rfl⟩, k.2⟩
  | tup xs =>
    obtain ⟨p, vs, rfl, q, r⟩ := h.seqT s
    exact ⟨_, .inr (.inl ⟨vs, q, rfl⟩), by rw [r.isEmpty]; exact k⟩
  | lst xs =>
    obtain ⟨p, vs, rfl, q, r⟩ := h.seqL s
    exact ⟨_, .inl ⟨vs, q, rfl⟩, by rw [r.isEmpty]; exact k⟩
  | ins c fs => exact k.elim
  | dic => exact k.elim
theorem VL.one {C H : Hp} {v : V} {ds : List D} (h : VL T C H ds [v]) : ∃ d, ds = [d] ∧ VRep T C H d v := by
  cases h with
  | cons h r => cases r; exact ⟨_, rfl, h⟩
theorem pre_tru (hK : X.K = T.K) {f : DE} {σ : St} {H : Hp} {Q : Bool → Hp → Prop} (h : PreT T W (dTru f) σ H Q) : PreE T W f σ H fun x H' => ∃ k, TruV X.K x H' k ∧ Q k H' := by
  obtain ⟨C, E, F, KR, KE, w, k, hq, hx⟩ := h
  refine ⟨C, E, F, _, KE, w, k, fun C1 H1 E1 F1 a v f1 x k1 => ?_, hx⟩
  have y := Rs.one x
  obtain ⟨C2, E2, F2, ds, w2, vl, k2, fr2⟩ := views y.wd y.al y.nd y.ot k1
  obtain ⟨d, rfl, vr⟩ := vl.one
  obtain ⟨b, tv, kb⟩ := tru_of w2.sub vr k2
  exact ⟨b, by rw [hK]; exact tv, hq C2 H1 E2 F2 b w2 (x.fr.trans fr2 fun _ z => z) kb⟩
theorem st_tru (hK : X.K = T.K) {f : DE} {e : Expr} (h : SE T X W f e) (he : ∀ whole, isTrue e X.env whole = (do let v ← whole; standAt e.pos; holding [v] (truthy v))) : ST T X W (dTru f) e :=
  (pt_truth h he).imp fun σ H Q h => pre_tru hK h
def dNotT (f : DT) : DT := fun E KB KE => f E (fun b E1 => KB (!b) E1) KE
def dAndT (f g : DT) : DT := fun E KB KE => f E (fun b E1 => if b = true then g E1 KB KE else KB false E1) KE
def dOrT (f g : DT) : DT := fun E KB KE => f E (fun b E1 => if b = true then KB true E1 else g E1 KB KE) KE
variable {a b : Expr} {rest : List Expr} {f g : DT} {pos : Pos}
theorem st_not (h : ST T X W f a) : ST T X W (dNotT f) (.UnaryOp .Not a pos) := (pt_not h).imp fun σ H Q h => by
  obtain ⟨C, E, F, KR, KE, w, k, hq, hx⟩ := h
  exact ⟨C, E, F, _, KE, w, k, fun C1 H1 E1 F1 b w1 fr1 k1 => hq C1 H1 E1 F1 _ w1 fr1 k1, hx⟩
abbrev SW (T : Tb) (X : Cx) (W : WX) (f : DT) (e : Expr) : Prop := PW X e (PreT T W f)
theorem sw_and1 (h : ST T X W f a) : SW T X W f (.BoolOp .And [a] pos) := pw_and1 h
theorem sw_or1 (h : ST T X W f a) : SW T X W f (.BoolOp .Or [a] pos) := pw_or1 h
theorem sw_and (h : ST T X W f a) (h2 : SW T X W g (.BoolOp .And (b :: rest) pos)) : SW T X W (dAndT f g) (.BoolOp .And (a :: b :: rest) pos) := (pw_and h h2).imp fun σ H Q h => by
  obtain ⟨C, E, F, KR, KE, w, k, hq, hx⟩ := h
  refine ⟨C, E, F, _, KE, w, k, fun C1 H1 E1 F1 b w1 fr1 k1 => ?_, hx⟩
  cases b with
  | true => exact ⟨C1, E1, F1, _, KE, w1, k1, fun C2 H2 E2 F2 b w2 fr2 k2 => hq C2 H2 E2 F2 b w2 (fr1.trans fr2 fun _ z => z) k2, hx.step fr1 fun _ z => z⟩
  | false => exact hq C1 H1 E1 F1 _ w1 fr1 k1
theorem sw_or (h : ST T X W f a) (h2 : SW T X W g (.BoolOp .Or (b :: rest) pos)) : SW T X W (dOrT f g) (.BoolOp .Or (a :: b :: rest) pos) := (pw_or h h2).imp fun σ H Q h => by
  obtain ⟨C, E, F, KR, KE, w, k, hq, hx⟩ := h
  refine ⟨C, E, F, _, KE, w, k, fun C1 H1 E1 F1 b w1 fr1 k1 => ?_, hx⟩
  cases b with
  | false => exact ⟨C1, E1, F1, _, KE, w1, k1, fun C2 H2 E2 F2 b w2 fr2 k2 => hq C2 H2 E2 F2 b w2 (fr1.trans fr2 fun _ z => z) k2, hx.step fr1 fun _ z => z⟩
  | true => exact hq C1 H1 E1 F1 _ w1 fr1 k1
/-- a if c else b -/
def dIf (c : DT) (f g : DE) : DE := fun E KR KE => c E (fun b E1 => if b = true then f E1 KR KE else g E1 KR KE) KE
theorem R1.after {T : Tb} {C H C1 H1 C2 H2 : Hp} {F F1 F2 : Ft} {σ : St} {E2 : Env} {a : A} {v : V} {f : List Addr} {own : Addr → Prop} (fr : Fr C H (Own F) C1 H1 own) (h : ∀ p, Own F1 p → own p) (x : R1 T C1 H1 F1 σ C2 H2 E2 F2 a v f) : R1 T C H F σ C2 H2 E2 F2 a v f :=
  ⟨x.wd, x.ar, x.nd, x.ot, fr.trans x.fr h⟩
theorem se_if {c : Expr} {fc : DT} {f g : DE} (hc : ST T X W fc c) (ha : SE T X W f a) (hb : SE T X W g b) : SE T X W (dIf fc f g) (.IfExp c a b pos) := (pe_ifExp hc ha hb).imp fun σ H Q h => by
  obtain ⟨C, E, F, KR, KE, w, k, hq, hx⟩ := h
  refine ⟨C, E, F, _, KE, w, k, fun C1 H1 E1 F1 b w1 fr1 k1 => ?_, hx⟩
  cases b with
  | true => exact ⟨C1, E1, F1, KR, KE, w1, k1, fun C2 H2 E2 F2 a v g x k2 => hq C2 H2 E2 F2 a v g (R1.after fr1 (fun _ z => z) x) k2, hx.step fr1 fun _ z => z⟩
  | false => exact ⟨C1, E1, F1, KR, KE, w1, k1, fun C2 H2 E2 F2 a v g x k2 => hq C2 H2 E2 F2 a v g (R1.after fr1 (fun _ z => z) x) k2, hx.step fr1 fun _ z => z⟩
/-- data that is never a list nor an instance -/
def flatD : D → Bool
  | .lst _ => false
  | .ins .. => false
  | _ => true
theorem VRep.flat {T : Tb} {C H : Hp} {d : D} {v : V} (h : VRep T C H d v) (f : flatD d = true) : Rep T C d v := by
  cases h with
  | rep r => exact r
  | lst _ _ => cases f
  | ins _ _ => cases f
/-- values of and, or: by truth -/
def dAndV (f g : DE) : DE := fun E KR KE => f E (fun a E1 => dViews E1 [a] fun ds E2 => match ds with
  | [d] => truD d fun b => if b = true then g E2 KR KE else flatD d = true ∧ KR (.val (.sh d)) E2
  | _ => False) KE
def dOrV (f g : DE) : DE := fun E KR KE => f E (fun a E1 => dViews E1 [a] fun ds E2 => match ds with
  | [d] => truD d fun b => if b = true then flatD d = true ∧ KR (.val (.sh d)) E2 else g E2 KR KE
  | _ => False) KE
theorem se_one {op : BoolOp} {f : DE} (h : SE T X W f a) : SE T X W f (.BoolOp op [a] pos) := pe_one h
theorem se_and (hK : X.K = T.K) {f g : DE} (h : SE T X W f a) (h2 : SE T X W g (.BoolOp .And (b :: rest) pos)) : SE T X W (dAndV f g) (.BoolOp .And (a :: b :: rest) pos) := (pe_andT h h2).imp fun σ H Q h => by
  obtain ⟨C, E, F, KR, KE, w, k, hq, hx⟩ := h
  refine ⟨C, E, F, _, KE, w, k, fun C1 H1 E1 F1 a v f1 x k1 => ?_, hx⟩
  have y := Rs.one x
  obtain ⟨C2, E2, F2, ds, w2, vl, k2, fr2⟩ := views y.wd y.al y.nd y.ot k1
  obtain ⟨d, rfl, vr⟩ := vl.one
  obtain ⟨b, tv, kb⟩ := tru_of w2.sub vr k2
  refine ⟨b, by rw [hK]; exact tv, ?_⟩
  have fr3 := x.fr.trans fr2 fun _ z => z
  cases b with
  | true => exact ⟨C2, E2, F2, KR, KE, w2, kb, fun C3 H3 E3 F3 a v g x k3 => hq C3 H3 E3 F3 a v g (R1.after fr3 (fun _ z => z) x) k3, hx.step fr3 fun _ z => z⟩
  | false => exact hq C2 H1 E2 F2 _ v [] (R1.after fr3 (fun _ z => z) (R1.self w2 (.val (.sh (vr.flat kb.1))))) kb.2
theorem se_or (hK : X.K = T.K) {f g : DE} (h : SE T X W f a) (h2 : SE T X W g (.BoolOp .Or (b :: rest) pos)) : SE T X W (dOrV f g) (.BoolOp .Or (a :: b :: rest) pos) := (pe_orT h h2).imp fun σ H Q h => by
  obtain ⟨C, E, F, KR, KE, w, k, hq, hx⟩ := h
  refine ⟨C, E, F, _, KE, w, k, fun C1 H1 E1 F1 a v f1 x k1 => ?_, hx⟩
  have y := Rs.one x
  obtain ⟨C2, E2, F2, ds, w2, vl, k2, fr2⟩ := views y.wd y.al y.nd y.ot k1
  obtain ⟨d, rfl, vr⟩ := vl.one
  obtain ⟨b, tv, kb⟩ := tru_of w2.sub vr k2
  refine ⟨b, by rw [hK]; exact tv, ?_⟩
  have fr3 := x.fr.trans fr2 fun _ z => z
  cases b with
  | false => exact ⟨C2, E2, F2, KR, KE, w2, kb, fun C3 H3 E3 F3 a v g x k3 => hq C3 H3 E3 F3 a v g (R1.after fr3 (fun _ z => z) x) k3, hx.step fr3 fun _ z => z⟩
  | true => exact hq C2 H1 E2 F2 _ v [] (R1.after fr3 (fun _ z => z) (R1.self w2 (.val (.sh (vr.flat kb.1))))) kb.2
/-- not a, as a value -/
def dNotV (f : DE) : DE := fun E KR KE => f E (fun a E1 => dViews E1 [a] fun ds E2 => match ds with
  | [d] => truD d fun b => KR (.val (.sh (.bl (!b)))) E2
  | _ => False) KE
theorem se_not (hK : X.K = T.K) {f : DE} (h : SE T X W f a) : SE T X W (dNotV f) (.UnaryOp .Not a pos) := (pe_notT h).imp fun σ H Q h => by
  obtain ⟨C, E, F, KR, KE, w, k, hq, hx⟩ := h
  refine ⟨C, E, F, _, KE, w, k, fun C1 H1 E1 F1 a v f1 x k1 => ?_, hx⟩
  have y := Rs.one x
  obtain ⟨C2, E2, F2, ds, w2, vl, k2, fr2⟩ := views y.wd y.al y.nd y.ot k1
  obtain ⟨d, rfl, vr⟩ := vl.one
  obtain ⟨b, tv, kb⟩ := tru_of w2.sub vr k2
  exact ⟨b, by rw [hK]; exact tv, hq C2 H1 E2 F2 _ _ [] (R1.after (x.fr.trans fr2 fun _ z => z) (fun _ z => z) (R1.self w2 (.val (.sh (.bl _))))) kb⟩
end
end Pv

set_option Elab.async false
set_option linter.all false
set_option maxRecDepth 100000
set_option maxHeartbeats 4000000
set_option autoImplicit false
/-! PvE: statements. -/
namespace Pv
open PySem PySem.Spec PyProof.Rows L2

structure DEnds where
  nx : Env → Prop
  rt : O → Env → Prop
  bk : Env → Prop
  ct : Env → Prop
  ex : KX
abbrev DS := Env → DEnds → Prop
/-- slots that stay -/
def Pin (pn : List (Nat × Option V)) (σ : St) : Prop := ∀ q ∈ pn, σ[q.1]? = some q.2
theorem Pin.set {pn : List (Nat × Option V)} {σ : St} {i : Nat} {x : Option V} (h : Pin pn σ) (n : ∀ q ∈ pn, q.1 ≠ i) : Pin pn (σ.set i x) := fun q hq => by
  rw [List.getElem?_set_ne (Ne.symm (n q hq))]; exact h q hq
structure EndsOk (T : Tb) (W : WX) (pn : List (Nat × Option V)) (C H : Hp) (F : Ft) (K : DEnds) (D : Ends) : Prop where
  nx : ∀ C' H' E' σ' F', Wd T C' H' E' σ' F' → Pin pn σ' → Fr C H (Own F) C' H' (Own F') → K.nx E' → D.nx σ' H'
  rt : ∀ C' H' E' σ' F' o v f, Wd T C' H' E' σ' F' → Pin pn σ' → ORep T C' H' o v f → f.Nodup → (∀ p ∈ f, C' p = none ∧ ¬ Own F' p) → Fr C H (Own F) C' H' (fun p => Own F' p ∨ p ∈ f) → K.rt o E' → D.rt v H'
  bk : ∀ C' H' E' σ' F', Wd T C' H' E' σ' F' → Pin pn σ' → Fr C H (Own F) C' H' (Own F') → K.bk E' → D.bk σ' H'
  ct : ∀ C' H' E' σ' F', Wd T C' H' E' σ' F' → Pin pn σ' → Fr C H (Own F) C' H' (Own F') → K.ct E' → D.ct σ' H'
  ex : ∀ C' H' E' σ' F' e cls d, Wd T C' H' E' σ' F' → Pin pn σ' → Fr C H (Own F) C' H' (Own F') → ERep T C' e cls d → K.ex e E' → W cls d σ' H'
theorem EndsOk.step {T : Tb} {W : WX} {pn : List (Nat × Option V)} {C H C1 H1 : Hp} {F F1 : Ft} {K : DEnds} {D : Ends} {own : Addr → Prop} (x : EndsOk T W pn C H F K D) (fr : Fr C H (Own F) C1 H1 own) (h : ∀ p, Own F1 p → own p) : EndsOk T W pn C1 H1 F1 K D :=
  ⟨fun C' H' E' σ' F' w p r k => x.nx C' H' E' σ' F' w p (fr.trans r h) k, fun C' H' E' σ' F' o v f w p q n ot r k => x.rt C' H' E' σ' F' o v f w p q n ot (fr.trans r h) k,
    fun C' H' E' σ' F' w p r k => x.bk C' H' E' σ' F' w p (fr.trans r h) k, fun C' H' E' σ' F' w p r k => x.ct C' H' E' σ' F' w p (fr.trans r h) k, fun C' H' E' σ' F' e cls d w p r q k => x.ex C' H' E' σ' F' e cls d w p (fr.trans r h) q k⟩
def PreS (T : Tb) (W : WX) (pn : List (Nat × Option V)) (g : DS) : TS := fun D σ H => ∃ C E F K, Wd T C H E σ F ∧ Pin pn σ ∧ g E K ∧ EndsOk T W pn C H F K D
/-- what may not be stored anew: the slots ks -/
def Pn (T : Tb) (pn : List (Nat × Option V)) (ks : List Nat) : Prop := (∀ q ∈ pn, q.1 ∈ ks) ∧ ∀ q ∈ T.pin, q.1 ∈ ks
def SS (T : Tb) (X : Cx) (W : WX) (ks : List Nat) (g : DS) (st : Stmt) : Prop := ∀ pn : List (Nat × Option V), Pn T pn ks → PS X st (PreS T W pn g)
def SSs (T : Tb) (X : Cx) (W : WX) (ks : List Nat) (g : DS) (st : List Stmt) : Prop := ∀ pn : List (Nat × Option V), Pn T pn ks → PSs X st (PreS T W pn g)
theorem EndsOk.xc {T : Tb} {W : WX} {pn : List (Nat × Option V)} {C H : Hp} {F : Ft} {K : DEnds} {D : Ends} {σ : St} (x : EndsOk T W pn C H F K D) (p : Pin pn σ) : XC T W C H F σ K.ex :=
  fun C' H' E' F' e cls d w r q k => x.ex C' H' E' σ F' e cls d w p r q k

def sNext : DS := fun E K => K.nx E
def sSeq (f g : DS) : DS := fun E K => f E { K with nx := fun E1 => g E1 K }
def sBreak : DS := fun E K => K.bk E
def sCont : DS := fun E K => K.ct E
def sBad : DS := fun _ _ => False
def sExpr (f : DE) : DS := fun E K => f E (fun _ E1 => K.nx E1) K.ex
/-- what is handed back: an own thing of a slot that does not stay goes with it -/
def retO (ks : List Nat) (E : Env) (a : A) (K : O → Env → Prop) : Prop := match a with
  | .val o => K o E
  | .slot i => if ks.contains i then capO E (.slot i) K else match E[i]? with
    | some (some (.sh d)) => K (.sh d) E
    | some (some o) => K o (E.set i none)
    | _ => False
def sRet (ks : List Nat) (f : DE) : DS := fun E K => f E (fun a E1 => retO ks E1 a fun o E2 => K.rt o E2) K.ex
def sRetN : DS := fun E K => K.rt (.sh .non) E
def sIf (c : DT) (f g : DS) : DS := fun E K => c E (fun b E1 => if b = true then f E1 K else g E1 K) K.ex
def sAsg (i : Nat) (f : DE) : DS := fun E K => f E (fun a E1 => capO E1 a fun o E2 => K.nx (E2.set i (some o))) K.ex
section
variable {T : Tb} {X : Cx} {W : WX} {ks : List Nat} {g g1 g2 : DS} {st : Stmt} {rest : List Stmt} {f : DE} {e : Expr} {pos : Pos}
theorem ss_pass : SS T X W ks sNext (.Pass pos) := fun pn _ => ps_pass.imp fun D σ H ⟨C, E, F, K, w, p, k, q⟩ => q.nx C H E σ F w p Fr.refl k
theorem ss_break : SS T X W ks sBreak (.Break pos) := fun pn _ => ps_break.imp fun D σ H ⟨C, E, F, K, w, p, k, q⟩ => q.bk C H E σ F w p Fr.refl k
theorem ss_cont : SS T X W ks sCont (.Continue pos) := fun pn _ => ps_continue.imp fun D σ H ⟨C, E, F, K, w, p, k, q⟩ => q.ct C H E σ F w p Fr.refl k
theorem ss_doc {x : Str} {j pos'} : SS T X W ks sNext (.Expr (.Constant (.str x) j pos) pos') := fun pn _ => ps_doc.imp fun D σ H ⟨C, E, F, K, w, p, k, q⟩ => q.nx C H E σ F w p Fr.refl k
theorem ss_bad : SS T X W ks sBad st := fun pn _ => ⟨fun pins s σ H D I ⟨C, E, F, K, w, p, k, q⟩ => k.elim⟩
theorem sss_bad {sts : List Stmt} : SSs T X W ks sBad sts := fun pn _ => ⟨fun pins s σ H D I ⟨C, E, F, K, w, p, k, q⟩ => k.elim⟩
theorem sss_nil : SSs T X W ks sNext [] := fun pn _ => pss_nil.imp fun D σ H ⟨C, E, F, K, w, p, k, q⟩ => q.nx C H E σ F w p Fr.refl k
theorem sss_cons (h1 : SS T X W ks g1 st) (h2 : SSs T X W ks g2 rest) : SSs T X W ks (sSeq g1 g2) (st :: rest) := fun pn hp => (pss_cons (h1 pn hp) (h2 pn hp)).imp fun D σ H ⟨C, E, F, K, w, p, k, q⟩ =>
  ⟨C, E, F, _, w, p, k, fun C' H' E' σ' F' w' p' r k' => ⟨C', E', F', K, w', p', k', q.step r fun _ z => z⟩, q.rt, q.bk, q.ct, q.ex⟩
theorem sss_one (h1 : SS T X W ks g st) : SSs T X W ks g [st] := fun pn hp => pss_one (h1 pn hp)
theorem ss_expr (he : SE T X W f e) (hs : swapsWith e none pos.line X.env = pure false) : SS T X W ks (sExpr f) (.Expr e pos) := fun pn hp => (ps_expr he hs).imp fun D σ H ⟨C, E, F, K, w, p, k, q⟩ =>
  ⟨C, E, F, _, _, w, k, fun C' H' E' F' a v g x k' => q.nx C' H' E' σ F' x.wd p (x.fr.weak (fun _ z => z) fun _ z => .inl z) k', q.xc p⟩
theorem ret_ok {H : Hp} {σ : St} {a : A} {v : V} {fr : List Addr} {C : Hp} {E : Env} {F : Ft} {K : O → Env → Prop} (w : Wd T C H E σ F) (r : ARep T C H σ a v fr) (nd : fr.Nodup) (ot : ∀ p ∈ fr, C p = none ∧ ¬ Own F p) (k : retO ks E a K) :
    ∃ C' E' F' o f', Wd T C' H E' σ F' ∧ ORep T C' H o v f' ∧ f'.Nodup ∧ (∀ p ∈ f', C' p = none ∧ ¬ Own F' p) ∧ K o E' ∧ Fr C H (fun p => Own F p ∨ p ∈ fr) C' H (fun p => Own F' p ∨ p ∈ f') := by
  cases r with
  | val r => exact ⟨C, E, F, _, fr, w, r, nd, ot, k, Fr.refl⟩
  | @slot i v hv =>
    simp only [retO] at k
    split at k
    · obtain ⟨C1, E1, F1, o, w1, ro, k1, fr1, s1, n1⟩ := cap_ok w (.slot hv) ot k
      exact ⟨C1, E1, F1, o, [], w1, ro, List.nodup_nil, fun p hp => by simp at hp, k1, fr1.weak (fun _ z => .inl z) fun _ z => z.elim id fun y => by simp at y⟩
    · split at k
      · rename_i d e
        obtain ⟨v2, hv2, r2⟩ := w.rep i _ e
        rw [hv] at hv2
        have e1 := Option.some.inj (Option.some.inj hv2)
        subst e1
        have r3 : ORep T C H (.sh d) v [] := by
          generalize F i = g at r2
          cases r2 with
          | sh r => exact .sh r
        exact ⟨C, E, F, _, [], w, r3, List.nodup_nil, fun p hp => by simp at hp, k, Fr.refl⟩
      · rename_i o _ e
        obtain ⟨v2, hv2, r2⟩ := w.rep i _ e
        rw [hv] at hv2
        have e1 := Option.some.inj (Option.some.inj hv2)
        subst e1
        exact ⟨C, _, _, o, F i, w.drop0 (i := i), r2, w.nd i, fun p hp => ⟨w.out i p hp, fun z => (own_clear w z).2 hp⟩, k, Fr.refl.weak (fun _ z => .inl z) fun p z => z.elim (fun y => (own_clear w y).1) fun y => ⟨i, y⟩⟩
      · exact k.elim
theorem ss_ret (he : SE T X W f e) : SS T X W ks (sRet ks f) (.Return (some e) pos) := fun pn hp => (ps_ret he).imp fun D σ H ⟨C, E, F, K, w, p, k, q⟩ => by
  refine ⟨C, E, F, _, _, w, k, fun C1 H1 E1 F1 a v g x k1 => ?_, q.xc p⟩
  obtain ⟨C2, E2, F2, o, f2, w2, ro, nd, ot, k2, fr⟩ := ret_ok x.wd x.ar x.nd x.ot k1
  exact q.rt C2 H1 E2 σ F2 o v f2 w2 p ro nd ot (x.fr.trans fr fun _ z => z) k2
theorem ss_retN : SS T X W ks sRetN (.Return none pos) := fun pn hp => ps_retN.imp fun D σ H ⟨C, E, F, K, w, p, k, q⟩ =>
  q.rt C H E σ F _ _ [] w p (.sh .non) List.nodup_nil (fun p hp => by simp at hp) (Fr.refl.weak (fun _ z => z) fun _ z => z.elim id fun y => by simp at y) k
theorem ss_if {c : Expr} {fc : DT} {a b : List Stmt} (hc : ST T X W fc c) (ha : SSs T X W ks g1 a) (hb : SSs T X W ks g2 b) : SS T X W ks (sIf fc g1 g2) (.If c a b pos) := fun pn hp => (ps_if hc (ha pn hp) (hb pn hp)).imp fun D σ H ⟨C, E, F, K, w, p, k, q⟩ => by
  refine ⟨C, E, F, _, _, w, k, fun C1 H1 E1 F1 b w1 r k1 => ?_, q.xc p⟩
  cases b with
  | true => exact ⟨C1, E1, F1, K, w1, p, k1, q.step r fun _ z => z⟩
  | false => exact ⟨C1, E1, F1, K, w1, p, k1, q.step r fun _ z => z⟩
/-- a captured thing laid under a name -/
theorem store_wd {C H C1 H1 : Hp} {F F1 : Ft} {σ : St} {E1 : Env} {a : A} {v : V} {fr : List Addr} {i : Nat} {K : O → Env → Prop} (x : R1 T C H F σ C1 H1 E1 F1 a v fr) (hi : i < σ.length) (hpk : ∀ q ∈ T.pin, q.1 ≠ i) (k : capO E1 a K) :
    ∃ C2 E2 F2 o, Wd T C2 H1 (E2.set i (some o)) (σ.set i (some v)) F2 ∧ K o E2 ∧ Fr C H (Own F) C2 H1 (Own F2) := by
  obtain ⟨C2, E2, F2, o, w2, ro, k2, fr2, s2, n2⟩ := cap_ok x.wd x.ar x.ot k
  have ot : ∀ p ∈ fr, C2 p = none ∧ ¬ Own F2 p := fun p hp => ⟨by rw [n2 p (x.ot p hp).2]; exact (x.ot p hp).1, fun z => (x.ot p hp).2 (s2 p z)⟩
  refine ⟨C2, E2, _, o, w2.putS hi ro x.nd (fun p hp => (ot p hp).1) (fun j _ p hp q => (ot p hp).2 ⟨j, q⟩) hpk, k2, ?_⟩
  exact (x.fr.side fr2).weak (fun _ z => z) fun p z => (own_updF z).elim .inr .inl
theorem ss_asg {i : Nat} {x : Str} {pos' : Pos} (hN : X.N.Nodup) (hi : X.N[i]? = some x) (hx : Loc X.env.scope x) (he : SE T X W f e) (hk : i ∉ ks) (hs : swapsWith e (some (.Name x pos')) pos.line X.env = pure false) (hf : X.fn x = true ∨ X.env.scope.names.lookup x = some .local) (hl : X.N.length = X.N.length) :
    SS T X W ks (sAsg i f) (.Assign [.Name x pos'] e pos) := fun pn hp => by
  refine ⟨fun pins s σ H D I h => ?_⟩
  refine (ps_set hN hi hx he hs hf).run pins s σ H D I ?_
  obtain ⟨C, E, F, K, w, p, k, q⟩ := h
  have lt : i < σ.length := by rw [I.len]; exact (List.getElem?_eq_some_iff.mp hi).1
  refine ⟨C, E, F, _, _, w, k, fun C1 H1 E1 F1 a v fr y k1 => ?_, q.xc p⟩
  obtain ⟨C2, E2, F2, o, w2, k2, fr2⟩ := store_wd y lt (fun z hz e => hk (e ▸ hp.2 z hz)) k1
  exact q.nx C2 H1 _ _ F2 w2 (p.set fun z hz e => hk (e ▸ hp.1 z hz)) fr2 k2
end

/-! ### while -/
def sWhile (c : DT) (b : DS) : DS := fun E K => ∃ I : Nat → Env → Prop, (∃ n, I n E) ∧ ∀ n E, I n E → c E (fun t E1 => if t = true then b E1 { K with nx := fun E2 => ∃ m, m < n ∧ I m E2, ct := fun E2 => ∃ m, m < n ∧ I m E2, bk := K.nx } else K.nx E1) K.ex
section
variable {T : Tb} {X : Cx} {W : WX} {ks : List Nat} {b : DS} {body : List Stmt} {c : Expr} {fc : DT} {pos : Pos}
theorem ss_while (hp : PassesOwn (model X.prog X.w) X.A X.env X.xe) (hc : ST T X W fc c) (hb : SSs T X W ks b body) : SS T X W ks (sWhile fc b) (.While c body [] pos) := fun pn hq => (ps_while hp hc (hb pn hq)).imp fun D σ H ⟨C, E, F, K, w, p, ⟨I, ⟨n, i0⟩, turn⟩, q⟩ => by
  refine ⟨fun m σ' H' => ∃ C' E' F', Wd T C' H' E' σ' F' ∧ Pin pn σ' ∧ Fr C H (Own F) C' H' (Own F') ∧ I m E', ⟨n, C, E, F, w, p, Fr.refl, i0⟩, ?_⟩
  rintro m σ1 H1 ⟨C1, E1, F1, w1, p1, fr1, i1⟩
  have q1 := q.step fr1 fun _ z => z
  refine ⟨C1, E1, F1, _, _, w1, turn m E1 i1, fun C2 H2 E2 F2 t w2 fr2 k2 => ?_, q1.xc p1⟩
  cases t with
  | true =>
    refine ⟨fun σ' H' => ∃ m', m' < m ∧ ∃ C' E' F', Wd T C' H' E' σ' F' ∧ Pin pn σ' ∧ Fr C H (Own F) C' H' (Own F') ∧ I m' E', fun _ _ h => h, ?_⟩
    refine ⟨C2, E2, F2, _, w2, p1, k2, fun C' H' E' σ' F' w' p' r ⟨m', lm, k⟩ => ⟨m', lm, C', E', F', w', p', fr1.trans (fr2.trans r fun _ z => z) fun _ z => z, k⟩, ?_, ?_, fun C' H' E' σ' F' w' p' r ⟨m', lm, k⟩ => ⟨m', lm, C', E', F', w', p', fr1.trans (fr2.trans r fun _ z => z) fun _ z => z, k⟩, ?_⟩
    · exact (q1.step fr2 fun _ z => z).rt
    · exact (q1.step fr2 fun _ z => z).nx
    · exact (q1.step fr2 fun _ z => z).ex
  | false => exact q1.nx C2 H2 E2 σ1 F2 w2 p1 fr2 k2
end

/-! ### what is walked -/
/-- J yields the data ds -/
structure WalkAt (T : Tb) (J : It) (ds : List D) (C H : Hp) : Prop where
  go : ∀ i, i < ds.length → J.go i H
  yld : ∀ i x H', i < ds.length → J.yld i H x H' → ∃ C' d, Grow C H C' H' [] ∧ ds[i]? = some d ∧ Rep T C' d x
  stop : ∀ i, ds.length ≤ i → J.stop i H
/-- .. wherever the slots ps hold what they held -/
def WalkOk (T : Tb) (σ : St) (ps : List (Nat × O)) (C1 : Hp) (J : It) (ds : List D) : Prop := ∀ C2 H2, Sub C1 C2 → Sub C2 H2 → (∀ q ∈ ps, ∃ v f, σ[q.1]? = some (some v) ∧ ORep T C2 H2 q.2 v f) → WalkAt T J ds C2 H2
abbrev DI := Env → (List D → List (Nat × O) → Env → Prop) → KX → Prop
def PreI (T : Tb) (W : WX) (f : DI) : TI := fun σ H R => ∃ C E F KR KE, Wd T C H E σ F ∧ f E KR KE ∧
  (∀ C' H' E' F' ds ps J, Wd T C' H' E' σ F' → Fr C H (Own F) C' H' (Own F') → WalkOk T σ ps C' J ds → (∀ q ∈ ps, E'[q.1]? = some (some q.2)) → KR ds ps E' → R J H') ∧ XC T W C H F σ KE
abbrev SI (T : Tb) (X : Cx) (W : WX) (tg : Expr) (f : DI) (e : Expr) : Prop := PI X tg e (PreI T W f)
/-- a target's store of data -/
abbrev DG := D → Env → (Env → Prop) → Prop
def gNm (i : Nat) : DG := fun d E K => K (E.set i (some (.sh d)))
/-- the slots still hold it -/
def holds (ps : List (Nat × O)) (E : Env) : Prop := ∀ q ∈ ps, E[q.1]? = some (some q.2)
def forD (ps : List (Nat × O)) (tg : DG) (b : DS) : List D → Env → DEnds → Prop
  | [], E, K => holds ps E ∧ K.nx E
  | d :: ds, E, K => holds ps E ∧ tg d E fun E1 => b E1 { K with nx := fun E2 => forD ps tg b ds E2 K, ct := fun E2 => forD ps tg b ds E2 K, bk := K.nx }
def sFor (is : List Nat) (fi : DI) (tg : DG) (b : DS) : DS := fun E K => fi E (fun ds ps E1 => (ps.all fun q => is.contains q.1) = true ∧ forD ps tg b ds E1 K) K.ex
/-- a target is stored -/
def PreG (T : Tb) (pn : List (Nat × Option V)) (g : DG) : TG := fun v σ H Q => ∃ C E F d K, Wd T C H E σ F ∧ Pin pn σ ∧ Rep T C d v ∧ g d E K ∧ ∀ C' H' E' σ' F', Wd T C' H' E' σ' F' → Pin pn σ' → Fr C H (Own F) C' H' (Own F') → K E' → Q σ' H'
def SG (T : Tb) (X : Cx) (ks : List Nat) (g : DG) (tg : Expr) : Prop := ∀ pn : List (Nat × Option V), Pn T pn ks → PG X tg (PreG T pn g)
section
variable {T : Tb} {X : Cx} {W : WX} {ks : List Nat} {b : DS} {body : List Stmt} {pos : Pos} {g : DG} {tg iter : Expr}
theorem PG.imp {X : Cx} {e : Expr} {t t' : TG} (h : PG X e t) (k : ∀ v σ H Q, σ.length = X.N.length → t' v σ H Q → t v σ H Q) : PG X e t' := ⟨fun pins s σ H v u Q I r q => h.run pins s σ H v u Q I r (k v σ H Q I.len q)⟩
theorem sg_name {i : Nat} {x : Str} (hN : X.N.Nodup) (hi : X.N[i]? = some x) (hx : Loc X.env.scope x) (hk : i ∉ ks) (hf : X.fn x = true ∨ X.env.scope.names.lookup x = some .local) : SG T X ks (gNm i) (.Name x pos) := fun pn hp =>
  PG.imp (pg_name hN hi hx hf) fun v σ H Q hl ⟨C, E, F, d, K, w, p, r, k, q⟩ => by
    have lt : i < σ.length := by rw [hl]; exact (List.getElem?_eq_some_iff.mp hi).1
    exact q C H _ _ _ (w.putS lt (.sh r) List.nodup_nil (fun p hp => by simp at hp) (fun j _ p hp => by simp at hp) fun z hz e => hk (e ▸ hp.2 z hz)) (p.set fun z hz e => hk (e ▸ hp.1 z hz)) (Fr.refl.weak (fun _ z => z) fun p z => (own_updF z).elim (fun y => by simp at y) id) k
theorem forD_holds {ps : List (Nat × O)} {ds : List D} {E : Env} {K : DEnds} (h : forD ps g b ds E K) : holds ps E := by
  cases ds with
  | nil => exact h.1
  | cons d ds => exact h.1
theorem drop_cons {α : Type} {l : List α} {i : Nat} {d : α} (h : l[i]? = some d) : l.drop i = d :: l.drop (i + 1) := by
  obtain ⟨lt, e⟩ := List.getElem?_eq_some_iff.mp h
  rw [List.drop_eq_getElem_cons lt, e]
theorem drop_nil {α : Type} {l : List α} {i : Nat} (h : l.length ≤ i) : l.drop i = [] := List.drop_eq_nil_of_le h
theorem ss_for {is : List Nat} {fi : DI} (hpo : PassesOwn (model X.prog X.w) X.A X.env X.xe) (hc : X.calm = true) (hi : SI T X W tg fi iter) (hg : SG T X (is ++ ks) g tg) (hb : SSs T X W (is ++ ks) b body) (hs : ∀ x, foldedSetIterable iter X.env x = pure x) :
    SS T X W ks (sFor is fi g b) (.For tg iter body [] pos) := fun pn hp => by
  refine ⟨fun pins s σ H D I h => ?_⟩
  -- the pins of the body depend on the sources: all choices of them at once
  have all : ∀ pv : List (Nat × Option V), (∀ q ∈ pv, q.1 ∈ is) → PS X (.For tg iter body [] pos) (tFor (PreI T W fi) (PreG T (pv ++ pn) g) (PreS T W (pv ++ pn) b)) := fun pv hv =>
    have hpv : Pn T (pv ++ pn) (is ++ ks) := ⟨fun q hq => (List.mem_append.mp hq).elim (fun z => List.mem_append_left _ (hv q z)) fun z => List.mem_append_right _ (hp.1 q z), fun q hq => List.mem_append_right _ (hp.2 q hq)⟩
    ps_for hpo hc hi (hg (pv ++ pn) hpv) (hb (pv ++ pn) hpv) hs
  -- those slots of is that hold something now
  have key := all ((is.filterMap fun i => match σ[i]? with
    | some (some v) => some (i, some v)
    | _ => none)) (fun q hq => by
      obtain ⟨i, hi', e⟩ := List.mem_filterMap.mp hq
      split at e
      · cases e; exact hi'
      · cases e)
  refine key.run pins s σ H D I ?_
  obtain ⟨C, E, F, K, w, p, k, q⟩ := h
  have pin0 : Pin (is.filterMap fun i => match σ[i]? with
    | some (some v) => some (i, some v)
    | _ => none) σ := fun z hz => by
      obtain ⟨i, _, e⟩ := List.mem_filterMap.mp hz
      split at e
      · rename_i v e2
        cases e; exact e2
      · cases e
  generalize hpv : (is.filterMap fun i => match σ[i]? with
    | some (some v) => some (i, some v)
    | _ => none) = pv at pin0 ⊢
  refine ⟨C, E, F, _, _, w, k, fun C1 H1 E1 F1 ds ps J w1 fr1 wk hps ⟨hin, k1⟩ => ?_, q.xc p⟩
  have src : ∀ {C' H' : Hp} {E' : Env} {σ' : St} {F' : Ft}, Wd T C' H' E' σ' F' → Pin pv σ' → holds ps E' → ∀ z ∈ ps, ∃ v f, σ[z.1]? = some (some v) ∧ ORep T C' H' z.2 v f := fun {C' H' E' σ' F'} w' p' h' z hz => by
    obtain ⟨v, hv, r⟩ := w'.rep z.1 z.2 (h' z hz)
    have m : z.1 ∈ is := by
      have := List.all_eq_true.mp hin z hz
      simpa using this
    obtain ⟨v0, hv0, _⟩ := w1.rep z.1 z.2 (hps z hz)
    have mem : (z.1, some v0) ∈ pv := by
      rw [← hpv]
      exact List.mem_filterMap.mpr ⟨z.1, m, by rw [hv0]⟩
    have a := p' _ mem
    rw [hv] at a
    have e1 := Option.some.inj (Option.some.inj a)
    subst e1
    exact ⟨v, _, hv0, r⟩
  refine ⟨fun i m σ' H' => m = ds.length - i ∧ i ≤ ds.length ∧ ∃ C' E' F', Wd T C' H' E' σ' F' ∧ Pin pv σ' ∧ Pin pn σ' ∧ Fr C H (Own F) C' H' (Own F') ∧ Sub C1 C' ∧ forD ps g b (ds.drop i) E' K, ⟨ds.length, by simp, Nat.zero_le _, C1, E1, F1, w1, pin0, p, fr1, Sub.refl _, k1⟩, ?_⟩
  rintro i m σ2 H2 ⟨rfl, hi2, C2, E2, F2, w2, pv2, pn2, fr2, sb2, k2⟩
  have W := wk C2 H2 sb2 w2.sub (src w2 pv2 (forD_holds k2))
  by_cases lt : i < ds.length
  · refine .inr ⟨W.go i lt, fun σ' H' => ∃ C' E' F', Wd T C' H' E' σ' F' ∧ Pin pv σ' ∧ Pin pn σ' ∧ Fr C H (Own F) C' H' (Own F') ∧ Sub C1 C' ∧ forD ps g b (ds.drop (i + 1)) E' K,
      fun σ' H' h => ⟨ds.length - (i + 1), by omega, rfl, lt, h⟩, fun x H3 y => ?_⟩
    obtain ⟨C3, d, gr, hd, rd⟩ := W.yld i x H3 lt y
    rw [drop_cons hd] at k2
    obtain ⟨_, k3⟩ := k2
    have w3 := w2.grow gr
    have fr3 : Fr C H (Own F) C3 H3 (Own F2) := fr2.trans (gr.fr (own' := Own F2) fun _ z => .inl z) fun _ z => z
    have join : ∀ {σ' : St}, Pin (pv ++ pn) σ' → Pin pv σ' ∧ Pin pn σ' := fun {σ'} h => ⟨fun z hz => h z (List.mem_append_left _ hz), fun z hz => h z (List.mem_append_right _ hz)⟩
    refine ⟨C3, E2, F2, d, _, w3, (fun z hz => (List.mem_append.mp hz).elim (pv2 z) (pn2 z)), rd, k3, fun C4 H4 E4 σ4 F4 w4 p4 fr4 k4 => ?_⟩
    have fr5 := fr3.trans fr4 fun _ z => z
    have sb4 : Sub C1 C4 := (sb2.trans gr.c).trans fr4.cl
    have q4 := q.step fr5 fun _ z => z
    refine ⟨C4, E4, F4, _, w4, p4, k4, fun C' H' E' σ' F' w' p' r k => ⟨C', E', F', w', (join p').1, (join p').2, fr5.trans r fun _ z => z, sb4.trans r.cl, k⟩, ?_, ?_, fun C' H' E' σ' F' w' p' r k => ⟨C', E', F', w', (join p').1, (join p').2, fr5.trans r fun _ z => z, sb4.trans r.cl, k⟩, ?_⟩
    · exact fun C' H' E' σ' F' o v f w' p' a1 a2 a3 r k => q4.rt C' H' E' σ' F' o v f w' (join p').2 a1 a2 a3 r k
    · exact fun C' H' E' σ' F' w' p' r k => q4.nx C' H' E' σ' F' w' (join p').2 r k
    · exact fun C' H' E' σ' F' e cls d w' p' r a k => q4.ex C' H' E' σ' F' e cls d w' (join p').2 r a k
  · have e : i = ds.length := by omega
    subst e
    rw [drop_nil (Nat.le_refl _)] at k2
    exact .inl ⟨W.stop _ (Nat.le_refl _), q.nx C2 H2 E2 σ2 F2 w2 pn2 fr2 k2.2⟩
end
end Pv

set_option Elab.async false
set_option linter.all false
set_option maxRecDepth 100000
set_option maxHeartbeats 4000000
set_option autoImplicit false
/-! PvF: built-in operations on data. -/
namespace Pv
open PySem PySem.Spec PyProof.Rows L2

section
variable {T : Tb}
theorem VL.two {C H : Hp} {v w : V} {ds : List D} (h : VL T C H ds [v, w]) : ∃ d e, ds = [d, e] ∧ VRep T C H d v ∧ VRep T C H e w := by
  cases h with
  | cons h r => cases r with | cons h2 r => cases r; exact ⟨_, _, rfl, h, h2⟩
theorem VL.length {C H : Hp} : ∀ {ds : List D} {vs : List V}, VL T C H ds vs → ds.length = vs.length
  | _, _, .nil => rfl
  | _, _, .cons _ r => congrArg (· + 1) (VL.length r)
theorem VL.inv2 {C H : Hp} {d e : D} {vs : List V} (h : VL T C H [d, e] vs) : ∃ v w, vs = [v, w] ∧ VRep T C H d v ∧ VRep T C H e w := by
  cases h with
  | cons h r => cases r with | cons h2 r => cases r; exact ⟨_, _, rfl, h, h2⟩
theorem VL.inv1 {C H : Hp} {d : D} {vs : List V} (h : VL T C H [d] vs) : ∃ v, vs = [v] ∧ VRep T C H d v := by
  cases h with
  | cons h r => cases r; exact ⟨_, rfl, h⟩
/-- an answer that is no new thing -/
theorem ans {C H : Hp} {d : D} {v : V} {Q : VK} {K : O → Prop} (s : Sub C H) (r : Rep T C d v) (hq : ∀ C' H' o v f, Grow C H C' H' f → ORep T C' H' o v f → K o → Q v H') (k : K (.sh d)) : Q v H := hq C H _ v [] (Grow.refl s) (.sh r) k
/-- a new tuple -/
theorem ansT {C H : Hp} {ds : List D} {vs : List V} {p : Addr} {Q : VK} {K : O → Prop} (s : Sub C H) (r : RepL T C ds vs) (hp : H p = none) (hq : ∀ C' H' o v f, Grow C H C' H' f → ORep T C' H' o v f → K o → Q v H') (k : K (.sh (.tup ds))) : Q (.ref p) (upd H p (.tup vs)) := by
  have g : Grow C H (upd C p (.tup vs)) (upd H p (.tup vs)) [] := Grow.tup s hp
  exact hq _ _ _ _ [] g (.sh (.tup (SqT.of upd_same) (r.mono g.c))) k
/-- a new list -/
theorem ansL {C H : Hp} {ds : List D} {vs : List V} {p : Addr} {Q : VK} {K : O → Prop} (s : Sub C H) (r : RepL T C ds vs) (hp : H p = none) (hq : ∀ C' H' o v f, Grow C H C' H' f → ORep T C' H' o v f → K o → Q v H') (k : K (.lst (ds.map .sh))) : Q (.ref p) (upd H p (.lst vs)) := by
  have g : Grow C H C (upd H p (.lst vs)) [p] := Grow.own s hp
  exact hq _ _ _ _ [p] g (.lst upd_same (ORepL.shs r)) k
end

/-! ### two ints -/
def gI2 (C : Int → Int → Prop) (g : Int → Int → D) : G := fun ds K => match ds with
  | [.int i, .int j] => C i j ∧ K (.sh (g i j))
  | _ => False
section
variable {T : Tb}
theorem bi_I2 {C : Int → Int → Prop} {g : Int → Int → Int} : BI T (r2 (rI C fun i j => .int (g i j))) (gI2 C fun i j => .int (g i j)) := fun C0 H vs ds Q K s vl k hq => by
  unfold gI2 at k
  split at k
  · obtain ⟨v, w, rfl, h1, h2⟩ := vl.inv2
    rw [h1.int, h2.int]
    exact ⟨_, _, rfl, rfl, k.1, ans s (.int _) hq k.2⟩
  · exact k.elim
theorem bi_B2 {g : Int → Int → Bool} : BI T (r2 (rI0 fun i j => .bl (g i j))) (gI2 (fun _ _ => True) fun i j => .bl (g i j)) := fun C0 H vs ds Q K s vl k hq => by
  unfold gI2 at k
  split at k
  · obtain ⟨v, w, rfl, h1, h2⟩ := vl.inv2
    rw [h1.int, h2.int]
    exact ⟨_, _, rfl, rfl, ans s (.bl _) hq k.2⟩
  · exact k.elim
end
section
variable {X : Cx} {T : Tb}
theorem op_mulG : OpR X (binaryOp .Mult) (rI IntMulOk fun i j => .int (i * j)) := opI fun _ _ _ _ _ _ _ hc q => mul_int q hc
theorem op_fdivG : OpR X (binaryOp .FloorDiv) (rI (fun _ j => j ≠ 0 ∧ j.natAbs.log2 < 9000) fun i j => .int (i.fdiv j)) := opI fun i j _ _ _ _ _ hc q => floordiv_int hc.1 q (.inl (PyProof.noPylong_of_log2 hc.2))
/-- list + list of any standing -/
def rCatQ (K : PySem.W.Frag) : R2 := fun x y H Q => ∃ l b xs zs, x = .ref l ∧ y = .ref b ∧ SqL K H l xs ∧ SqL K H b zs ∧ xs.length + zs.length ≤ sizeLine ∧ ∀ p, H p = none → Q (.ref p) (upd H p (.lst (xs ++ zs)))
theorem op_catQ : OpR X (binaryOp .Add) (rCatQ X.K) := by
  intro pins s σ H x y v u Q I rx ry h
  obtain ⟨l, b, xs, zs, rfl, rfl, hH, hB, hz, q⟩ := h
  cases rx
  cases ry
  obtain ⟨its, r, ⟨⟨cls, dd, data, sl⟩, n, ho, hc, hd0, hd⟩, z⟩ := I.list hH
  obtain ⟨its2, r2, ⟨⟨cls2, dd2, data2, sl2⟩, n2, ho2, hc2, hd02, hd2⟩, z2⟩ := I.list hB
  simp only at hc hd hc2 hd2
  subst hc hd hc2 hd2
  have l1 := r.length
  have l2 := r2.length
  have e : its.toArray ++ its2.toArray = (its ++ its2).toArray := by simp
  refine concat_meets ⟨_, ho, rfl⟩ ⟨_, ho2, rfl⟩ noFill_list_add seq_list_add PySem.F.slot_list_add PySem.F.entry_list_add (PySem.F.args_list_add_2 _ _) (list_addW l b its.toArray its2.toArray n n2 dd dd2 sl sl2 (by simp only [List.size_toArray]; omega)) ⟨ho, ho2, ?_⟩
  rw [e]
  exact ⟨.ref _, _, I.lnew (t' := s.toks) (r.append r2) (by rw [List.length_append]; omega), rfl, q _ I.fresh⟩
/-- list * int of any standing -/
def rRepQ (K : PySem.W.Frag) : R2 := fun x y H Q => ∃ l k xs, x = .ref l ∧ y = .int k ∧ SqL K H l xs ∧ -(2 ^ 63) ≤ k ∧ k < 2 ^ 63 ∧ xs.length * k.toNat ≤ sizeLine ∧
  ∀ p, H p = none → Q (.ref p) (upd H p (.lst (List.replicate k.toNat xs).flatten))
theorem op_repQ : OpR X (binaryOp .Mult) (rRepQ X.K) := by
  intro pins s σ H x y v u Q I rx ry h
  obtain ⟨l, k, xs, rfl, rfl, hH, h1, h2, hz, q⟩ := h
  cases rx
  obtain ⟨t, rfl⟩ := ry
  obtain ⟨its, r, ⟨⟨cls, dd, data, sl⟩, n, ho, hc, hd0, hd⟩, z⟩ := I.list hH
  simp only at hc hd
  subst hc hd
  have hlen := r.length
  have hs : sizeLine = 16777216 := sizeLine_eq
  have hsz' : its.toArray.size * k.toNat ≤ 2 ^ 24 := by
    rw [List.size_toArray, ← hlen]
    omega
  refine wpAny_binaryOp_repeat_ref (T := "list") (U := "int") (by decide) ⟨_, ho, rfl⟩ (fun s' => typeIs_int s' k t) noFill_list_mul PySem.F.fills_int_mul PySem.F.slot_int_rmul repeat_list PySem.F.slot_int_index.lookup
    (call_meets PySem.F.slot_int_rmul (typeIs_int s k t) PySem.F.entry_int_rmul (PySem.F.args_int_rmul_2 _ _) (lm_int_rmul_list_any k t l its.toArray n dd sl)
      ⟨ho, rfl, ⟨_, ho, rfl⟩, call_meets PySem.F.slot_list_mul ⟨_, ho, rfl⟩ PySem.F.entry_list_mul (PySem.F.args_list_mul_2 _ _)
        (lm_list_mul_any l its.toArray n dd sl k t (by simp [Builtin.List.listFitsIndex]; omega) (by omega) (by simp [Builtin.List.listTooLong, sizeLine]; omega))
        ⟨ho, ?_⟩⟩)
  rw [listMul_foldl_if]
  exact ⟨.ref _, _, I.lnew (t' := s.toks) (r.rep k.toNat) (by rw [lm_len_rep_flat, Nat.mul_comm]; exact hz), rfl, q _ I.fresh⟩
end

/-! ### a + b -/
def gAdd : G := fun ds K => match ds with
  | [.int i, .int j] => K (.sh (.int (i + j)))
  | [.str a, .str b] => a.length + b.length ≤ sizeLine ∧ K (.sh (.str (a ++ b)))
  | [.lst a, .lst b] => a.length + b.length ≤ sizeLine ∧ K (.lst ((a ++ b).map .sh))
  | [.tup a, .tup b] => a.length + b.length ≤ sizeLine ∧ K (.sh (.tup (a ++ b)))
  | _ => False
def rStr2 : R2 := fun x y H Q => ∃ i j, x = .str i ∧ y = .str j ∧ i.length + j.length ≤ sizeLine ∧ Q (.str (i ++ j)) H
def rAddAll (K : PySem.W.Frag) : R2 := fun x y H Q => ((rI0 (fun i j => .int (i + j)) x y H Q ∨ rStr2 x y H Q) ∨ rCatQ K x y H Q) ∨ rCatA K x y H Q
section
variable {X : Cx} {T : Tb}
theorem op_addAll : OpR X (binaryOp .Add) (rAddAll X.K) := ((op_add.or op_add_str).or op_catQ).or op_catA
theorem bi_add : BI T (r2 (rAddAll T.K)) gAdd := fun C0 H vs ds Q K s vl k hq => by
  unfold gAdd at k
  split at k
  · obtain ⟨v, w, rfl, h1, h2⟩ := vl.inv2
    rw [h1.int, h2.int]
    exact .inl (.inl (.inl ⟨_, _, rfl, rfl, ans s (.int _) hq k⟩))
  · obtain ⟨v, w, rfl, h1, h2⟩ := vl.inv2
    rw [h1.str, h2.str]
    exact .inl (.inl (.inr ⟨_, _, rfl, rfl, k.1, ans s (.str _) hq k.2⟩))
  · obtain ⟨v, w, rfl, h1, h2⟩ := vl.inv2
    obtain ⟨p, vs, rfl, a1, b1⟩ := h1.seqL s
    obtain ⟨q, ws, rfl, a2, b2⟩ := h2.seqL s
    exact .inl (.inr ⟨p, q, vs, ws, rfl, rfl, a1, a2, by rw [← b1.length, ← b2.length]; exact k.1, fun z hz => ansL s (b1.append b2) hz hq k.2⟩)
  · obtain ⟨v, w, rfl, h1, h2⟩ := vl.inv2
    rename_i a b
    obtain ⟨p, vs, rfl, a1, b1⟩ := h1.seqT s
    obtain ⟨q, ws, rfl, a2, b2⟩ := h2.seqT s
    refine .inr ⟨p, q, vs, ws, rfl, rfl, a1, a2, by rw [← b1.length, ← b2.length]; exact k.1, fun e => ?_, fun e e2 => ?_, fun e e2 z hz => ansT s (b1.append b2) hz hq k.2⟩
    · subst e
      cases b1
      exact ans s (h2.flat rfl) hq k.2
    · subst e2
      cases b2
      have := k.2
      rw [List.append_nil] at this
      exact ans s (h1.flat rfl) hq this
  · exact k.elim
end

/-! ### a * b -/
/-- a text many times -/
def repS (a : Str) (j : Int) : Str := ⟨(List.replicate j.toNat a.cps).foldl (· ++ ·) #[]⟩
theorem foldl_len (a : Array Nat) : ∀ (n : Nat) (b : Array Nat), ((List.replicate n a).foldl (· ++ ·) b).size = b.size + n * a.size
  | 0, b => by simp
  | n + 1, b => by
    rw [List.replicate_succ, List.foldl_cons, foldl_len a n, Array.size_append, Nat.succ_mul]
    omega
theorem repS_len (a : Str) (j : Int) : (repS a j).length = j.toNat * a.length := by
  show ((List.replicate j.toNat a.cps).foldl (· ++ ·) #[]).size = _
  rw [foldl_len]
  simp [Str.length]
def gMul : G := fun ds K => match ds with
  | [.int i, .int j] => IntMulOk i j ∧ K (.sh (.int (i * j)))
  | [.lst a, .int j] => (-(2 ^ 63) ≤ j ∧ j < 2 ^ 63 ∧ a.length * j.toNat ≤ sizeLine) ∧ K (.lst ((List.replicate j.toNat a).flatten.map .sh))
  | [.str a, .int j] => (2 ≤ j ∧ j ≤ 16777216 ∧ 1 ≤ a.length ∧ a.length * j.toNat ≤ sizeLine) ∧ K (.sh (.str (repS a j)))
  | _ => False
def rRepS : R2 := fun x y H Q => ∃ a j, x = .str a ∧ y = .int j ∧ 2 ≤ j ∧ j ≤ 16777216 ∧ 1 ≤ a.length ∧ a.length * j.toNat ≤ sizeLine ∧ Q (.str (repS a j)) H
theorem op_repS {X : Cx} : OpR X (binaryOp .Mult) rRepS := by
  intro pins s σ H x y v u Q I rx ry h
  obtain ⟨a, j, rfl, rfl, h2, h3, h4, h5, q⟩ := h
  obtain ⟨t, rfl⟩ := rx
  obtain ⟨t', rfl⟩ := ry
  have n1 : ¬ j < 1 := by omega
  have n2 : ¬ ((j == 1 || a.length == 0) = true) := by
    simp only [Bool.or_eq_true, beq_iff_eq]
    omega
  have h6 : a.length * j.toNat ≤ 16777216 := by have := sizeLine_eq; omega
  have h7 : a.length ≤ 16777216 := Nat.le_trans (Nat.le_mul_of_pos_right _ (by omega)) h6
  refine P.mul_str (by simp; omega) (fun _ _ z => ?_) (fun _ _ => ?_) ?_
  · have e1 : (a.length : Int) * j ≤ 2 ^ 63 - 1 := by
      have : ((a.length * j.toNat : Nat) : Int) = (a.length : Int) * j := by
        rw [Int.natCast_mul, Int.toNat_of_nonneg (by omega)]
      omega
    have := Int.le_ediv_of_mul_le (show (0 : Int) < j by omega) e1
    omega
  · exact PyProof.Rows.short24 (by omega)
  · rw [if_neg n1, if_neg n2]
    have e := repS_len a j
    unfold repS at e
    exact ⟨by rw [e, Nat.mul_comm]; exact h5, .str _, H, I.tok _, ⟨_, rfl⟩, q⟩
def rMulAll (K : PySem.W.Frag) : R2 := fun x y H Q => (rI IntMulOk (fun i j => .int (i * j)) x y H Q ∨ rRepQ K x y H Q) ∨ rRepS x y H Q
section
variable {X : Cx} {T : Tb}
theorem op_mulAll : OpR X (binaryOp .Mult) (rMulAll X.K) := (op_mulG.or op_repQ).or op_repS
theorem RepL.rep {C : Hp} {ds : List D} {vs : List V} (h : RepL T C ds vs) : ∀ k : Nat, RepL T C (List.replicate k ds).flatten (List.replicate k vs).flatten
  | 0 => .nil
  | k + 1 => by
    rw [List.replicate_succ, List.replicate_succ, List.flatten_cons, List.flatten_cons]
    exact h.append (RepL.rep h k)
theorem bi_mul : BI T (r2 (rMulAll T.K)) gMul := fun C0 H vs ds Q K s vl k hq => by
  unfold gMul at k
  split at k
  · obtain ⟨v, w, rfl, h1, h2⟩ := vl.inv2
    rw [h1.int, h2.int]
    exact .inl (.inl ⟨_, _, rfl, rfl, k.1, ans s (.int _) hq k.2⟩)
  · obtain ⟨v, w, rfl, h1, h2⟩ := vl.inv2
    obtain ⟨p, vs, rfl, a1, b1⟩ := h1.seqL s
    rw [h2.int]
    exact .inl (.inr ⟨p, _, vs, rfl, rfl, a1, k.1.1, k.1.2.1, by rw [← b1.length]; exact k.1.2.2, fun z hz => ansL s (b1.rep _) hz hq k.2⟩)
  · obtain ⟨v, w, rfl, h1, h2⟩ := vl.inv2
    rw [h1.str, h2.int]
    exact .inr ⟨_, _, rfl, rfl, k.1.1, k.1.2.1, k.1.2.2.1, k.1.2.2.2, ans s (.str _) hq k.2⟩
  · exact k.elim
end
abbrev gSub : G := gI2 (fun _ _ => True) fun i j => .int (i - j)
abbrev gFdiv : G := gI2 (fun _ j => j ≠ 0 ∧ j.natAbs.log2 < 9000) fun i j => .int (i.fdiv j)
abbrev gMod : G := gI2 (fun _ j => j ≠ 0) fun i j => .int (i.fmod j)
abbrev gPow : G := gI2 CPow fun i j => .int (i ^ j.toNat)
abbrev gLt : G := gI2 (fun _ _ => True) fun i j => .bl (decide (i < j))
abbrev gLe : G := gI2 (fun _ _ => True) fun i j => .bl (decide (i ≤ j))
abbrev gGt : G := gI2 (fun _ _ => True) fun i j => .bl (decide (j < i))
abbrev gGe : G := gI2 (fun _ _ => True) fun i j => .bl (decide (j ≤ i))
section
variable {T : Tb}
theorem bi_I20 {g : Int → Int → Int} : BI T (r2 (rI0 fun i j => .int (g i j))) (gI2 (fun _ _ => True) fun i j => .int (g i j)) := fun C0 H vs ds Q K s vl k hq => by
  unfold gI2 at k
  split at k
  · obtain ⟨v, w, rfl, h1, h2⟩ := vl.inv2
    rw [h1.int, h2.int]
    exact ⟨_, _, rfl, rfl, ans s (.int _) hq k.2⟩
  · exact k.elim
/-- -a -/
def gNeg : G := fun ds K => match ds with
  | [.int i] => K (.sh (.int (-i)))
  | _ => False
theorem bi_neg : BI T (r1 (rU fun i => .int (-i))) gNeg := fun C0 H vs ds Q K s vl k hq => by
  unfold gNeg at k
  split at k
  · obtain ⟨v, rfl, h1⟩ := vl.inv1
    rw [h1.int]
    exact ⟨_, rfl, ans s (.int _) hq k⟩
  · exact k.elim
def gAbs : G := fun ds K => match ds with
  | [.int i] => K (.sh (.int (if i < 0 then -i else i)))
  | _ => False
theorem bi_abs : BI T (fun xs H Q => ∃ i, xs = [.int i] ∧ Q (.int (if i < 0 then -i else i)) H) gAbs := fun C0 H vs ds Q K s vl k hq => by
  unfold gAbs at k
  split at k
  · obtain ⟨v, rfl, h1⟩ := vl.inv1
    rw [h1.int]
    exact ⟨_, rfl, ans s (.int _) hq k⟩
  · exact k.elim
def gInt : G := fun ds K => match ds with
  | [.int i] => K (.sh (.int i))
  | [.bl b] => K (.sh (.int (if b then 1 else 0)))
  | [.str a] => ∃ n, PySem.intText? a = some n ∧ a.length ≤ 640 ∧ K (.sh (.int n))
  | _ => False
def rIntA : List V → Hp → VK → Prop := fun xs H Q => ((∃ i, xs = [.int i] ∧ Q (.int i) H) ∨ ∃ k, xs = [.bl k] ∧ Q (.int (if k then 1 else 0)) H) ∨ ∃ a n, xs = [.str a] ∧ PySem.intText? a = some n ∧ a.length ≤ 640 ∧ Q (.int n) H
theorem call_intA {X : Cx} : CallR X (.type "int") rIntA := fun pins s σ H xs us Q I r h => by
  rcases h with h | h
  · exact call_int1 pins s σ H xs us Q I r h
  · exact call_int_str pins s σ H xs us Q I r h
theorem bi_int : BI T rIntA gInt := fun C0 H vs ds Q K s vl k hq => by
  unfold gInt at k
  split at k
  · obtain ⟨v, rfl, h1⟩ := vl.inv1
    rw [h1.int]
    exact .inl (.inl ⟨_, rfl, ans s (.int _) hq k⟩)
  · obtain ⟨v, rfl, h1⟩ := vl.inv1
    rw [h1.bl]
    exact .inl (.inr ⟨_, rfl, ans s (.int _) hq k⟩)
  · obtain ⟨v, rfl, h1⟩ := vl.inv1
    rw [h1.str]
    obtain ⟨n, e, l, k⟩ := k
    exact .inr ⟨_, n, rfl, e, l, ans s (.int _) hq k⟩
  · exact k.elim
def gGcd : G := fun ds K => match ds with
  | [.int i, .int j] => K (.sh (.int ((Nat.gcd i.natAbs j.natAbs : Nat) : Int)))
  | _ => False
theorem bi_gcd : BI T rGcd gGcd := fun C0 H vs ds Q K s vl k hq => by
  unfold gGcd at k
  split at k
  · obtain ⟨v, w, rfl, h1, h2⟩ := vl.inv2
    rw [h1.int, h2.int]
    exact ⟨_, _, rfl, ans s (.int _) hq k⟩
  · exact k.elim
def gLen : G := fun ds K => match ds with
  | [.lst a] => K (.sh (.int a.length))
  | [.tup a] => K (.sh (.int a.length))
  | [.str a] => a.length ≤ sizeLine ∧ K (.sh (.int a.length))
  | _ => False
theorem bi_len : BI T (fun xs H Q => ∃ x n, xs = [x] ∧ LenV T.K x H n ∧ Q (.int n) H) gLen := fun C0 H vs ds Q K s vl k hq => by
  unfold gLen at k
  split at k
  · obtain ⟨v, rfl, h1⟩ := vl.inv1
    obtain ⟨p, vs, rfl, a1, b1⟩ := h1.seqL s
    exact ⟨_, vs.length, rfl, .inl ⟨vs, a1, rfl⟩, by rw [← b1.length]; exact ans s (.int _) hq k⟩
  · obtain ⟨v, rfl, h1⟩ := vl.inv1
    obtain ⟨p, vs, rfl, a1, b1⟩ := h1.seqT s
    exact ⟨_, vs.length, rfl, .inr ⟨vs, a1, rfl⟩, by rw [← b1.length]; exact ans s (.int _) hq k⟩
  · obtain ⟨v, rfl, h1⟩ := vl.inv1
    rw [h1.str]
    exact ⟨_, _, rfl, ⟨k.1, rfl⟩, ans s (.int _) hq k.2⟩
  · exact k.elim
/-- a[i] -/
def gIx : G := fun ds K => match ds with
  | [.lst a, .int i] => match atI a i with
    | some d => K (.sh d)
    | none => False
  | [.tup a, .int i] => match atI a i with
    | some d => K (.sh d)
    | none => False
  | [.str z, .int i] => z.length ≤ sizeLine ∧ match atI z.cps.toList i with
    | some c => K (.sh (.str ⟨#[c]⟩))
    | none => False
  | _ => False
theorem atI_rep {C : Hp} {ds : List D} {vs : List V} (r : RepL T C ds vs) {i : Int} {d : D} (h : atI ds i = some d) : ∃ v, atI vs i = some v ∧ Rep T C d v := by
  unfold atI at h ⊢
  rw [← r.length]
  cases e : ixN ds.length i with
  | none => rw [e] at h; cases h
  | some j =>
    rw [e] at h
    exact r.get h
theorem bi_ix : BI T (r2 (rIx T.K)) gIx := fun C0 H vs ds Q K s vl k hq => by
  unfold gIx at k
  split at k
  · obtain ⟨v, w, rfl, h1, h2⟩ := vl.inv2
    obtain ⟨p, vs, rfl, a1, b1⟩ := h1.seqL s
    rw [h2.int]
    split at k
    · rename_i d e
      obtain ⟨v, e2, rd⟩ := atI_rep b1 e
      exact .inl ⟨p, vs, _, v, rfl, rfl, a1, e2, ans s rd hq k⟩
    · exact k.elim
  · obtain ⟨v, w, rfl, h1, h2⟩ := vl.inv2
    obtain ⟨p, vs, rfl, a1, b1⟩ := h1.seqT s
    rw [h2.int]
    split at k
    · rename_i d e
      obtain ⟨v, e2, rd⟩ := atI_rep b1 e
      exact .inr (.inl ⟨p, vs, _, v, rfl, rfl, a1, e2, ans s rd hq k⟩)
    · exact k.elim
  · obtain ⟨v, w, rfl, h1, h2⟩ := vl.inv2
    rw [h1.str, h2.int]
    obtain ⟨sz, k⟩ := k
    split at k
    · rename_i c e
      exact .inr (.inr ⟨_, _, c, rfl, rfl, sz, e, ans s (.str _) hq k⟩)
    · exact k.elim
  · exact k.elim
/-- tuple(x), list(x) of lists and tuples -/
def gTuple : G := fun ds K => match ds with
  | [.lst a] => K (.sh (.tup a))
  | [.tup a] => K (.sh (.tup a))
  | _ => False
theorem bi_tuple : BI T (fun xs H Q => ∃ p ys, xs = [.ref p] ∧ ((SqL T.K H p ys ∧ ∀ l, H l = none → Q (.ref l) (upd H l (.tup ys))) ∨ (SqT T.K H p ys ∧ Q (.ref p) H))) gTuple := fun C0 H vs ds Q K s vl k hq => by
  unfold gTuple at k
  split at k
  · obtain ⟨v, rfl, h1⟩ := vl.inv1
    obtain ⟨p, vs, rfl, a1, b1⟩ := h1.seqL s
    exact ⟨p, vs, rfl, .inl ⟨a1, fun l hl => ansT s b1 hl hq k⟩⟩
  · obtain ⟨v, rfl, h1⟩ := vl.inv1
    have r := h1.flat rfl
    obtain ⟨p, vs, rfl, a1, b1⟩ := h1.seqT s
    exact ⟨p, vs, rfl, .inr ⟨a1, ans s r hq k⟩⟩
  · exact k.elim
def gList : G := fun ds K => match ds with
  | [.lst a] => K (.lst (a.map .sh))
  | [.tup a] => K (.lst (a.map .sh))
  | _ => False
theorem bi_list : BI T (fun xs H Q => ∃ p ys, xs = [.ref p] ∧ (SqL T.K H p ys ∨ SqT T.K H p ys) ∧ ∀ l, H l = none → Q (.ref l) (upd H l (.lst ys))) gList := fun C0 H vs ds Q K s vl k hq => by
  unfold gList at k
  split at k
  · obtain ⟨v, rfl, h1⟩ := vl.inv1
    obtain ⟨p, vs, rfl, a1, b1⟩ := h1.seqL s
    exact ⟨p, vs, rfl, .inl a1, fun l hl => ansL s b1 hl hq k⟩
  · obtain ⟨v, rfl, h1⟩ := vl.inv1
    obtain ⟨p, vs, rfl, a1, b1⟩ := h1.seqT s
    exact ⟨p, vs, rfl, .inr a1, fun l hl => ansL s b1 hl hq k⟩
  · exact k.elim
/-- is None, is not None, is True .. -/
def gIsN (neg : Bool) : G := fun ds K => match ds with
  | [.non, .non] => K (.sh (.bl (!neg)))
  | [_, .non] => K (.sh (.bl neg))
  | _ => False
end
end Pv

set_option Elab.async false
set_option linter.all false
set_option maxRecDepth 100000
set_option maxHeartbeats 4000000
set_option autoImplicit false
/-! PvG: is, ==, isinstance, attributes, stores. -/
namespace Pv
open PySem PySem.Spec PyProof.Rows L2

/-! ### is, is not -/
def isNon : D → Bool
  | .non => true
  | _ => false
def gIs (neg : Bool) : G := fun ds K => match ds with
  | [.bl a, .bl b] => K (.sh (.bl (if neg then !decide (a = b) else decide (a = b))))
  | [d, .non] => K (.sh (.bl (if neg then !isNon d else isNon d)))
  | _ => False
theorem VRep.isNon {T : Tb} {C H : Hp} {d : D} {v : V} (h : VRep T C H d v) : decide (v = .non) = isNon d := by
  cases h with
  | rep r => cases r <;> rfl
  | lst _ _ => rfl
  | ins _ _ => rfl
def rIsAll : R2 := fun x y H Q => rIsB x y H Q ∨ (y = .non ∧ Q (.bl (decide (x = .non))) H)
def rNotAll : R2 := fun x y H Q => rNotB x y H Q ∨ (y = .non ∧ Q (.bl (!decide (x = .non))) H)
section
variable {X : Cx} {T : Tb}
theorem op_isAll : OpR X (compareOp .Is) rIsAll := op_isBl.or op_isN
theorem op_notAll : OpR X (compareOp .IsNot) rNotAll := op_notBl.or op_notN
theorem bi_is : BI T (r2 rIsAll) (gIs false) := fun C0 H vs ds Q K s vl k hq => by
  unfold gIs at k
  split at k
  · obtain ⟨v, w, rfl, h1, h2⟩ := vl.inv2
    rw [h1.bl, h2.bl]
    exact .inl ⟨_, _, rfl, rfl, ans s (.bl _) hq k⟩
  · obtain ⟨v, w, rfl, h1, h2⟩ := vl.inv2
    rw [h2.non]
    exact .inr ⟨rfl, ans s (.bl _) hq (by rw [h1.isNon]; exact k)⟩
  · exact k.elim
theorem bi_isnot : BI T (r2 rNotAll) (gIs true) := fun C0 H vs ds Q K s vl k hq => by
  unfold gIs at k
  split at k
  · obtain ⟨v, w, rfl, h1, h2⟩ := vl.inv2
    rw [h1.bl, h2.bl]
    exact .inl ⟨_, _, rfl, rfl, ans s (.bl _) hq k⟩
  · obtain ⟨v, w, rfl, h1, h2⟩ := vl.inv2
    rw [h2.non]
    exact .inr ⟨rfl, ans s (.bl _) hq (by rw [h1.isNon]; exact k)⟩
  · exact k.elim
end

/-! ### ==, != of plain data -/
mutual
def D.py : D → PyData
  | .non => .none
  | .bl b => .bool b
  | .int i => .int i
  | .str x => .str x
  | .tup xs => .tuple (D.pyL xs)
  | .lst xs => .list (D.pyL xs)
  | .ins _ _ => .none
  | .dic => .none
def D.pyL : List D → List PyData
  | [] => []
  | d :: ds => D.py d :: D.pyL ds
end
mutual
/-- no instance within -/
def D.plain : D → Bool
  | .tup xs => D.plainL xs
  | .lst xs => D.plainL xs
  | .ins _ _ => false
  | .dic => false
  | _ => true
def D.plainL : List D → Bool
  | [] => true
  | d :: ds => D.plain d && D.plainL ds
end
def D.okEq (d : D) : Bool := d.plain && SeqAt.shaped d.py
mutual
theorem Rep.dp {T : Tb} {C H : Hp} (s : Sub C H) : ∀ {d : D} {v : V}, Rep T C d v → d.plain = true → Dp T.K H v d.py
  | _, _, .non, _ => by rw [D.py]; exact .non
  | _, _, .bl b, _ => by rw [D.py]; exact .bl b
  | _, _, .int b, _ => by rw [D.py]; exact .int b
  | _, _, .str b, _ => by rw [D.py]; exact .str b
  | _, _, .tup h r, p => by rw [D.plain] at p; rw [D.py]; exact .tup (s.sqT h) (RepL.dp s r p)
  | _, _, .lst h r, p => by rw [D.plain] at p; rw [D.py]; exact .lst (s.sqL h) (RepL.dp s r p)
  | _, _, .ins _ _, p => by rw [D.plain] at p; cases p
  | _, _, .dic _, p => by rw [D.plain] at p; cases p
theorem RepL.dp {T : Tb} {C H : Hp} (s : Sub C H) : ∀ {d : List D} {v : List V}, RepL T C d v → D.plainL d = true → DpAll T.K H v (D.pyL d)
  | _, _, .nil, _ => by rw [D.pyL]; exact .nil
  | _, _, .cons h r, p => by
    rw [D.plainL, Bool.and_eq_true] at p
    rw [D.pyL]
    exact .cons (Rep.dp s h p.1) (RepL.dp s r p.2)
end
theorem VRep.dp {T : Tb} {C H : Hp} (s : Sub C H) {d : D} {v : V} (h : VRep T C H d v) (p : d.plain = true) : Dp T.K H v d.py := by
  cases h with
  | rep r => exact r.dp s p
  | lst h r => rw [D.plain] at p; rw [D.py]; exact .lst (SqL.of h) (r.dp s p)
  | ins _ _ => rw [D.plain] at p; cases p
/-- two things that may be compared: texts in any case -/
def eqOk : D → D → Bool
  | .str _, .str _ => true
  | d, e => d.okEq && e.okEq
theorem eqOk_of {d e : D} (h : d.okEq = true) (k : e.okEq = true) : eqOk d e = true := by
  unfold eqOk
  split
  · rfl
  · rw [h, k]; rfl
theorem eqOk_or {d e : D} (h : eqOk d e = true) : (∃ x y, d = .str x ∧ e = .str y) ∨ (d.okEq = true ∧ e.okEq = true) := by
  unfold eqOk at h
  split at h
  · exact .inl ⟨_, _, rfl, rfl⟩
  · exact .inr (Bool.and_eq_true_iff.mp h)
def gEq (neg : Bool) : G := fun ds K => match ds with
  | [d, e] => eqOk d e = true ∧ K (.sh (.bl (if neg then !PyData.eqv d.py e.py else PyData.eqv d.py e.py)))
  | _ => False
section
variable {T : Tb}
theorem okEq_and {d : D} (h : d.okEq = true) : d.plain = true ∧ SeqAt.shaped d.py = true := by
  unfold D.okEq at h
  exact Bool.and_eq_true_iff.mp h
theorem bi_eq : BI T (r2 fun x y H Q => rEqD T.K x y H Q ∨ rEq x y H Q) (gEq false) := fun C0 H vs ds Q K s vl k hq => by
  unfold gEq at k
  split at k
  · obtain ⟨v, w, rfl, h1, h2⟩ := vl.inv2
    rcases eqOk_or k.1 with ⟨x, y, rfl, rfl⟩ | ⟨k1, k2⟩
    · rw [h1.str, h2.str]
      have q := k.2
      simp only [D.py, PyData.eqv] at q
      refine .inr ⟨rfl, ?_⟩
      rw [dec_str]
      exact ans s (.bl _) hq q
    · obtain ⟨a1, a2⟩ := okEq_and k1
      obtain ⟨b1, b2⟩ := okEq_and k2
      exact .inl ⟨_, _, h1.dp s a1, h2.dp s b1, a2, b2, ans s (.bl _) hq k.2⟩
  · exact k.elim
theorem bi_ne : BI T (r2 fun x y H Q => rNeD T.K x y H Q ∨ rNe x y H Q) (gEq true) := fun C0 H vs ds Q K s vl k hq => by
  unfold gEq at k
  split at k
  · obtain ⟨v, w, rfl, h1, h2⟩ := vl.inv2
    rcases eqOk_or k.1 with ⟨x, y, rfl, rfl⟩ | ⟨k1, k2⟩
    · rw [h1.str, h2.str]
      have q := k.2
      simp only [D.py, PyData.eqv] at q
      refine .inr ⟨rfl, ?_⟩
      rw [dec_str]
      exact ans s (.bl _) hq q
    · obtain ⟨a1, a2⟩ := okEq_and k1
      obtain ⟨b1, b2⟩ := okEq_and k2
      exact .inl ⟨_, _, h1.dp s a1, h2.dp s b1, a2, b2, ans s (.bl _) hq k.2⟩
  · exact k.elim
end

/-! ### a < b < c -/
def dChain (g h : G) (fa fb fc : DE) : DE := fun E KR KE => fa E (fun a E1 => fb E1 (fun b E2 => dViews E2 [a, b] fun ds E3 => g ds fun o => match o with
  | .sh (.bl true) => fc E3 (fun c E4 => dViews E4 [.val (.sh (ds.getD 1 .non)), c] fun ds2 E5 => flatD (ds.getD 1 .non) = true ∧ h ds2 fun o => KR (.val o) E5) KE
  | .sh (.bl false) => KR (.val (.sh (.bl false))) E3
  | _ => False) KE) KE
section
variable {X : Cx} {T : Tb} {W : WX} {a b c : Expr} {fa fb fc : DE} {pos : Pos}
theorem pre_chain {g h : G} {r r' : R2} (hb : BI T (r2 r) g) (hb' : BI T (r2 r') h) {σ : St} {H : Hp} {Q : VK} (k : PreE T W (dChain g h fa fb fc) σ H Q) :
    tChain r r' (PreE T W fa) (PreE T W fb) (PreE T W fc) σ H Q := by
  obtain ⟨C, E, F, KR, KE, w, k, hq, hx⟩ := k
  refine ⟨C, E, F, _, KE, w, k, fun C1 H1 E1 F1 a v f1 x k1 => ?_, hx⟩
  refine ⟨C1, E1, F1, _, KE, x.wd, k1, fun C2 H2 E2 F2 a2 v2 f2 y k2 => ?_, hx.step x.fr fun _ z => .inl z⟩
  have z := Rs.cons x (Rs.one y)
  obtain ⟨C3, E3, F3, ds, w3, vl, k3, fr3⟩ := views z.wd z.al z.nd z.ot k2
  obtain ⟨d1, d2, rfl, vr1, vr2⟩ := vl.two
  refine hb C3 H2 _ _ _ _ w3.sub vl k3 fun C4 H4 o v f4 gr ro ko => ?_
  have w4 := w3.grow gr
  have frA : Fr C H (Own F) C4 H4 (Own F3) := (z.fr.trans fr3 fun _ q => q).trans (gr.fr (own' := Own F3) fun _ q => .inl q) fun _ q => q
  split at ko
  · cases ro with
    | sh r =>
      cases r
      refine ⟨true, rfl, ?_⟩
      rw [if_pos rfl]
      refine ⟨C4, E3, F3, _, KE, w4, ko, fun C5 H5 E5 F5 c v5 f5 x5 k5 => ?_, hx.step frA fun _ q => q⟩
      have vr2' := fun (fl : flatD d2 = true) => (vr2.flat fl).mono (gr.c.trans x5.fr.cl)
      -- the second comparison reads b's data and c
      have x6 := Rs.one x5
      have x7 : dViews E5 [c] fun ds2 E6 => flatD d2 = true ∧ h (d2 :: ds2) fun o => KR (.val o) E6 := by
        simp only [dViews] at k5
        have e1 : ([d1, d2] : List D).getD 1 .non = d2 := rfl
        rw [e1] at k5
        rw [show (O.sh d2).view = d2 from by rw [O.view]] at k5
        exact k5
      obtain ⟨C6, E6, F6, ds6, w6, vl6, ⟨fl, k6⟩, fr6⟩ := views x6.wd x6.al x6.nd x6.ot x7
      refine hb' C6 H5 _ _ _ _ w6.sub (.cons (.rep ((vr2' fl).mono fr6.cl)) vl6) k6 fun C7 H7 o v f7 gr7 ro7 ko7 => ?_
      exact hq C7 H7 E6 F6 _ v f7 (R1.grow w6 gr7 (.val ro7) ((frA.trans x5.fr fun _ q => q).trans fr6 fun _ q => q)) ko7
  · cases ro with
    | sh r =>
      cases r
      refine ⟨false, rfl, ?_⟩
      rw [if_neg (by decide)]
      exact hq C4 H4 E3 F3 _ _ [] (R1.after frA (fun _ q => q) (R1.self w4 (.val (.sh (.bl _))))) ko
  · exact ko.elim
theorem se_chain {op op' : CmpOp} {g h : G} {r r' : R2} (ho : OpR X (compareOp op) r) (ho' : OpR X (compareOp op') r') (hb : BI T (r2 r) g) (hb' : BI T (r2 r') h) (ha : SE T X W fa a) (h2 : SE T X W fb b) (h3 : SE T X W fc c) (hm : lastMarks [op, op'] [b, c] = false) :
    SE T X W (dChain g h fa fb fc) (.Compare a [op, op'] [b, c] pos) := (pe_chain ho ho' ha h2 h3 hm).imp fun σ H Q k => pre_chain hb hb' k
end

/-! ### isinstance -/
inductive Kd where
  | int | bool | str | tuple | list | cls (subs : List Nat)
def isK : Kd → D → Bool
  | .int, .int _ => true
  | .int, .bl _ => true
  | .bool, .bl _ => true
  | .str, .str _ => true
  | .tuple, .tup _ => true
  | .list, .lst _ => true
  | .cls cs, .ins c _ => cs.contains c
  | _, _ => false
def knownD (kn : List Nat) : D → Bool
  | .ins c _ => kn.contains c
  | _ => true
/-- isinstance(f, one of ks) -/
def dIsi (kn : List Nat) (ks : List Kd) (f : DE) : DE := fun E KR KE => f E (fun a E1 => dViews E1 [a] fun ds E2 => match ds with
  | [d] => knownD kn d = true ∧ KR (.val (.sh (.bl (ks.any fun k => isK k d)))) E2
  | _ => False) KE
/-- what the text must say of a class, for isinstance -/
structure ClsI (K : PySem.W.Frag) (C : Addr) : Prop where
  cl : Cls K C
  ha : PySem.W.findIn K (.ref C) "__class__" = some (some (.builtin "object.__class__"))
  hn : PySem.W.specialIn K (.builtin "object.__class__") "__get__" = some (some (.builtin "getset_descriptor.__get__"))
  ht : PySem.W.takesIn K (.builtin "object.__class__") = some true
  hm : PySem.W.mroIn K C (.type "object") = some true
def tyD (T : Tb) : D → Value
  | .non => .type "NoneType"
  | .bl _ => .type "bool"
  | .int _ => .type "int"
  | .str _ => .type "str"
  | .tup _ => .type "tuple"
  | .lst _ => .type "list"
  | .ins c _ => .ref (T.ca c)
  | .dic => .type "dict"
theorem ty_of {T : Tb} {C H : Hp} (s : Sub C H) {d : D} {v : V} (h : VRep T C H d v) (hi : ∀ c fs, d = .ins c fs → ClsI T.K (T.ca c)) : TyX T.K H v (tyD T d) := by
  cases d with
  | non => rw [h.non]; exact .base .non
  | bl b => rw [h.bl]; exact .base (.bl b)
  | int i => rw [h.int]; exact .base (.int i)
  | str x => rw [h.str]; exact .base (.str x)
  | tup xs =>
    obtain ⟨p, vs, rfl, q, r⟩ := h.seqT s
    rcases q with (q | ⟨o, q⟩) | ⟨o, its, n, q, hc, _⟩
    · exact .base (.tup q)
    · exact .fTuple q
    · exact .kTuple q hc
  | lst xs =>
    obtain ⟨p, vs, rfl, q, r⟩ := h.seqL s
    rcases q with (q | ⟨o, q⟩) | ⟨o, its, n, q, hc, _⟩
    · exact .base (.lst q)
    · exact .base (.frz q)
    · exact .kList q hc
  | ins c fs =>
    obtain ⟨p, dx, gs, rfl, q, r⟩ := h.insI s
    have k := hi c fs rfl
    exact .base (.ins q k.cl k.ha k.hn k.ht k.hm)
  | dic =>
    obtain ⟨p, rfl, q⟩ := h.dicI s
    exact .base (.dK q)
/-- what stands as the second argument: its value, and the classes' answers -/
structure KdOk (T : Tb) (kn : List Nat) (k : Kd) (c : V) (u : Value) : Prop where
  cv : ClsV c u
  ans : ∀ d, knownD kn d = true → PySem.W.kitOne T.K (tyD T d) u = some (isK k d)
section
variable {X : Cx} {T : Tb} {W : WX} {e t : Expr} {f : DE} {pos : Pos} {kn : List Nat} {k : Kd} {x : Str} {p : Pos}
theorem pre_isi {c : V} {u : Value} (hi : ∀ c ∈ kn, ClsI T.K (T.ca c)) (hk : KdOk T kn k c u) {σ : St} {H : Hp} {Q : VK} (h : PreE T W (dIsi kn [k] f) σ H Q) :
    PreE T W f σ H fun x H1 => rIsi T.K [x, c] H1 Q := by
  obtain ⟨C, E, F, KR, KE, w, k1, hq, hx⟩ := h
  refine ⟨C, E, F, _, KE, w, k1, fun C1 H1 E1 F1 a v f1 x k2 => ?_, hx⟩
  have z := Rs.one x
  obtain ⟨C2, E2, F2, ds, w2, vl, k3, fr2⟩ := views z.wd z.al z.nd z.ot k2
  obtain ⟨d, rfl, vr⟩ := vl.one
  obtain ⟨kd, k4⟩ := k3
  have ty : TyX T.K H1 v (tyD T d) := ty_of w2.sub vr fun c fs e => hi c (by subst e; simpa [knownD] using kd)
  refine ⟨v, c, tyD T d, u, isK k d, rfl, hk.cv, ty, hk.ans d kd, ?_⟩
  refine hq C2 H1 E2 F2 _ _ [] (R1.after (x.fr.trans fr2 fun _ z => z) (fun _ z => z) (R1.self w2 (.val (.sh (.bl _))))) ?_
  simpa using k4
theorem se_isi {c : V} {u : Value} (hK : X.K = T.K) (hi : ∀ c ∈ kn, ClsI T.K (T.ca c)) (hk : KdOk T kn k c u) (hg : Gl X "isinstance") (hm : X.mg "isinstance" = none) (he : SE T X W f e) (ht : PE X t (tC c))
    (h1 : starEach [e, t] X.env = (false, eval e X.env) :: starEach [t] X.env) (h2 : starEach [t] X.env = (false, eval t X.env) :: starEach [] X.env) (hpl : (backTo pos (starEach [t] X.env)).any (·.1) = false) :
    SE T X W (dIsi kn [k] f) (.Call (.Name "isinstance" p) [e, t] [] pos) :=
  (pe_callB (call_isi (X := X)) hg hm (by decide +kernel) (pa_cons he (pa_cons ht pa_nil h2) h1) (by decide) (by decide) h1 hpl).imp fun σ H Q h => by
    have := pre_isi hi hk h
    rw [hK]
    exact this
/-- two classes -/
theorem kitAny2 {K : PySem.W.Frag} {t c1 c2 : Value} {b1 b2 : Bool} (h1 : PySem.W.kitOne K t c1 = some b1) (h2 : PySem.W.kitOne K t c2 = some b2) : PySem.W.kitAny K t [c1, c2] = some (b1 || b2) := by
  refine kitAny_cons h1 (r := b1 || b2) (fun e => ?_) fun e => by rw [e]; rfl
  subst e
  refine kitAny_cons h2 (r := false || b2) (fun e => ?_) fun e => by rw [e]; rfl
  subst e
  exact kitAny_nil
theorem se_isi2 {c1 c2 : V} {u1 u2 : Value} {k2 : Kd} {t1 t2 : Expr} {kt : Nat} {pt : Pos} (hK : X.K = T.K) (hi : ∀ c ∈ kn, ClsI T.K (T.ca c)) (hk1 : KdOk T kn k c1 u1) (hk2 : KdOk T kn k2 c2 u2) (hg : Gl X "isinstance") (hm : X.mg "isinstance" = none)
    (he : SE T X W f e) (ht1 : PE X t1 (tC c1)) (ht2 : PE X t2 (tC c2))
    (h1 : starEach [e, .Tuple [t1, t2] kt pt] X.env = (false, eval e X.env) :: starEach [.Tuple [t1, t2] kt pt] X.env) (h2 : starEach [.Tuple [t1, t2] kt pt] X.env = (false, eval (.Tuple [t1, t2] kt pt) X.env) :: starEach [] X.env)
    (h3 : starEach [t1, t2] X.env = (false, eval t1 X.env) :: starEach [t2] X.env) (h4 : starEach [t2] X.env = (false, eval t2 X.env) :: starEach [] X.env)
    (hpl : (backTo pos (starEach [.Tuple [t1, t2] kt pt] X.env)).any (·.1) = false) :
    SE T X W (dIsi kn [k, k2] f) (.Call (.Name "isinstance" p) [e, .Tuple [t1, t2] kt pt] [] pos) :=
  (pe_callB (call_isiT (X := X)) hg hm (by decide +kernel) (pa_cons he (pa_cons (pe_tup (pa_cons ht1 (pa_cons ht2 pa_nil h4) h3)) pa_nil h2) h1) (by decide) (by decide) h1 hpl).imp fun σ H Q h => by
    obtain ⟨C, E, F, KR, KE, w, k1, hq, hx⟩ := h
    refine ⟨C, E, F, _, KE, w, k1, fun C1 H1 E1 F1 a v f1 x k2' => ?_, hx⟩
    have z := Rs.one x
    obtain ⟨C2, E2, F2, ds, w2, vl, k3, fr2⟩ := views z.wd z.al z.nd z.ot k2'
    obtain ⟨d, rfl, vr⟩ := vl.one
    obtain ⟨kd, k4⟩ := k3
    refine ⟨by show 2 ≤ sizeLine; decide, fun q hq' => ?_⟩
    have gr : Grow C2 H1 C2 (upd H1 q (.tup [c1, c2])) [q] := Grow.own w2.sub hq'
    have ty : TyX T.K (upd H1 q (.tup [c1, c2])) v (tyD T d) := ty_of gr.s (vr.mono (Sub.refl _) gr.h) fun c fs e => hi c (by subst e; simpa [knownD] using kd)
    refine ⟨v, q, [c1, c2], tyD T d, [u1, u2], isK k d || isK k2 d, rfl, upd_same, .cons hk1.cv (.cons hk2.cv .nil), by rw [hK]; exact ty, by rw [hK]; exact kitAny2 (hk1.ans d kd) (hk2.ans d kd), ?_⟩
    have w3 := w2.grow gr
    refine hq C2 _ E2 F2 _ _ [] (R1.after ((x.fr.trans fr2 fun _ z => z).trans (gr.fr (own' := Own F2) fun _ z => .inl z) fun _ z => z) (fun _ z => z) (R1.self w3 (.val (.sh (.bl _))))) ?_
    simpa using k4
end

/-! ### attributes of instances -/
def dFld (cs : List Nat) (k : Nat) (f : DE) : DE := fun E KR KE => f E (fun a E1 => dViews E1 [a] fun ds E2 => match ds with
  | [.ins c fs] => cs.contains c = true ∧ match fs.lookup k with
    | some d => KR (.val (.sh d)) E2
    | none => False
  | _ => False) KE
section
variable {X : Cx} {T : Tb} {W : WX} {e : Expr} {f : DE} {pos : Pos} {n : Str} {k : Nat} {cs : List Nat}
theorem se_fld (hK : X.K = T.K) (hnd : T.nm.Nodup) (hn : T.nm[k]? = some n) (hc : ∀ c ∈ cs, Cls T.K (T.ca c) ∧ NoAttr T.K (T.ca c) n) (he : SE T X W f e) (hb : attributeBase e n X.env (eval e X.env) = eval e X.env) :
    SE T X W (dFld cs k f) (.Attribute e n pos) := (pe_fld he hb).imp fun σ H Q h => by
  obtain ⟨C, E, F, KR, KE, w, k1, hq, hx⟩ := h
  refine ⟨C, E, F, _, KE, w, k1, fun C1 H1 E1 F1 a v f1 x k2 => ?_, hx⟩
  have z := Rs.one x
  obtain ⟨C2, E2, F2, ds, w2, vl, k3, fr2⟩ := views z.wd z.al z.nd z.ot k2
  obtain ⟨d, rfl, vr⟩ := vl.one
  cases d with
  | ins c fs =>
    obtain ⟨kc, k4⟩ := k3
    obtain ⟨p, dx, gs, rfl, q, r⟩ := vr.insI w2.sub
    have hm : c ∈ cs := by simpa using kc
    split at k4
    · rename_i d2 el
      obtain ⟨v2, l2, rd⟩ := r.get hnd hn el
      refine ⟨p, T.ca c, dx, gs, v2, rfl, q, by rw [hK]; exact (hc c hm).1, by rw [hK]; exact (hc c hm).2, l2, ?_⟩
      exact hq C2 H1 E2 F2 _ _ [] (R1.after (x.fr.trans fr2 fun _ z => z) (fun _ z => z) (R1.self w2 (.val (.sh rd)))) k4
    · exact k4.elim
  | _ => exact k3.elim
end
end Pv

set_option Elab.async false
set_option linter.all false
set_option maxRecDepth 100000
set_option maxHeartbeats 4000000
set_option autoImplicit false
/-! PvH: stores: items, attributes, several names; append; slices. -/
namespace Pv
open PySem PySem.Spec PyProof.Rows L2

theorem upd_keep {H : Hp} {p q : Addr} {o u : HO} (h : q ≠ p) (e : H q = some u) : upd H p o q = some u := by
  rw [upd_ne h]; exact e
theorem upd_keepN {H : Hp} {p q : Addr} {o u : HO} {g : List Addr} (h : p ∉ g) (hq : q ∈ g) (e : H q = some u) : upd H p o q = some u := upd_keep (fun z => h (z ▸ hq)) e
section
variable {T : Tb} {C H : Hp}
theorem ORepL.set {o : O} {v : V} {f : List Addr} (r : ORep T C H o v f) (nf : f.Nodup) : ∀ {os : List O} {vs : List V} {fl : List Addr} (j : Nat), ORepL T C H os vs fl → fl.Nodup → (∀ p ∈ f, p ∉ fl) →
    ∃ g, ORepL T C H (os.set j o) (vs.set j v) g ∧ g.Nodup ∧ ∀ p ∈ g, p ∈ fl ∨ p ∈ f
  | _, _, _, _, .nil, _, _ => ⟨[], .nil, List.nodup_nil, fun p hp => by simp at hp⟩
  | _, _, _, 0, .cons (f := f1) (g := f2) h t, nd, dj => by
    obtain ⟨n1, n2, n3⟩ := List.nodup_append.mp nd
    refine ⟨f ++ f2, .cons r t, List.nodup_append.mpr ⟨nf, n2, fun p hp q hq e => dj p hp (List.mem_append_right _ (e ▸ hq))⟩, fun p hp => ?_⟩
    rcases List.mem_append.mp hp with z | z
    · exact .inr z
    · exact .inl (List.mem_append_right _ z)
  | _, _, _, j + 1, .cons (f := f1) (g := f2) h t, nd, dj => by
    obtain ⟨n1, n2, n3⟩ := List.nodup_append.mp nd
    obtain ⟨g, rg, ng, lg⟩ := ORepL.set r nf j t n2 fun p hp z => dj p hp (List.mem_append_right _ z)
    refine ⟨f1 ++ g, .cons h rg, List.nodup_append.mpr ⟨n1, ng, fun p hp q hq e => ?_⟩, fun p hp => ?_⟩
    · subst e
      rcases lg p hq with z | z
      · exact n3 p hp p z rfl
      · exact dj p z (List.mem_append_left _ hp)
    · rcases List.mem_append.mp hp with z | z
      · exact .inl (List.mem_append_left _ z)
      · exact (lg p z).elim (fun y => .inl (List.mem_append_right _ y)) .inr
def putN (k : Nat) (o : O) : List (Nat × O) → List (Nat × O)
  | [] => [(k, o)]
  | (j, x) :: r => if j = k then (j, o) :: r else (j, x) :: putN k o r
theorem ORepF.put {o : O} {v : V} {f : List Addr} {k : Nat} {n : Str} (nd : T.nm.Nodup) (hn : T.nm[k]? = some n) (r : ORep T C H o v f) (nf : f.Nodup) : ∀ {os : List (Nat × O)} {vs : List (Str × V)} {fl : List Addr}, ORepF T C H os vs fl → fl.Nodup → (∀ p ∈ f, p ∉ fl) →
    ∃ g, ORepF T C H (putN k o os) (putF n v vs) g ∧ g.Nodup ∧ ∀ p ∈ g, p ∈ fl ∨ p ∈ f
  | _, _, _, .nil, _, _ => ⟨f ++ [], .cons hn r .nil, by simpa using nf, fun p hp => .inr (by simpa using hp)⟩
  | _, _, _, .cons (k := j) (n := m) (f := f1) (g := f2) hm h t, nd', dj => by
    obtain ⟨n1, n2, n3⟩ := List.nodup_append.mp nd'
    unfold putN putF
    by_cases e : j = k
    · subst e
      rw [hm] at hn; cases hn
      rw [if_pos rfl, if_pos rfl]
      refine ⟨f ++ f2, .cons hm r t, List.nodup_append.mpr ⟨nf, n2, fun p hp q hq e => dj p hp (List.mem_append_right _ (e ▸ hq))⟩, fun p hp => ?_⟩
      rcases List.mem_append.mp hp with z | z
      · exact .inr z
      · exact .inl (List.mem_append_right _ z)
    · have e2 : m ≠ n := fun q => e (nodup_ix nd (q ▸ hm) hn)
      rw [if_neg e, if_neg e2]
      obtain ⟨g, rg, ng, lg⟩ := ORepF.put nd hn r nf t n2 fun p hp z => dj p hp (List.mem_append_right _ z)
      refine ⟨f1 ++ g, .cons hm h rg, List.nodup_append.mpr ⟨n1, ng, fun p hp q hq e => ?_⟩, fun p hp => ?_⟩
      · subst e
        rcases lg p hq with z | z
        · exact n3 p hp p z rfl
        · exact dj p z (List.mem_append_left _ hp)
      · rcases List.mem_append.mp hp with z | z
        · exact .inl (List.mem_append_left _ z)
        · exact (lg p z).elim (fun y => .inl (List.mem_append_right _ y)) .inr
theorem ORepL.snoc {o : O} {v : V} {f : List Addr} (r : ORep T C H o v f) {os : List O} {vs : List V} {fl : List Addr} (h : ORepL T C H os vs fl) : ORepL T C H (os ++ [o]) (vs ++ [v]) (fl ++ f) := by
  have := h.append (.cons r .nil)
  simpa using this
/-- the thing at p (slot i's own) is changed -/
theorem Wd.mutate {E : Env} {σ : St} {F : Ft} {i : Nat} {p : Addr} {u : HO} {o' : O} {v : V} {f' : List Addr} (w : Wd T C H E σ F) (hp : p ∈ F i) (hv : σ[i]? = some (some v)) (r : ORep T C (upd H p u) o' v f') (nd : f'.Nodup) (ot : ∀ q ∈ f', C q = none ∧ (q ∈ F i ∨ ¬ Own F q)) :
    Wd T C (upd H p u) (E.set i (some o')) σ (updF F i f') := by
  have cp := w.out i p hp
  have sub' : Sub C (upd H p u) := fun a o e => by
    rw [upd_ne fun z => by rw [z, cp] at e; cases e]
    exact w.sub a o e
  have w1 := w.drop0 (i := i)
  have w2 : Wd T C (upd H p u) (E.set i none) σ (updF F i []) := w1.move (Sub.refl _) sub' (fun q hq x e => upd_keep (fun z => (own_clear w hq).2 (z ▸ hp)) e) fun q ⟨j, hq⟩ => w1.out j q hq
  have w3 := w2.put0 (i := i) hv r nd (fun q hq => (ot q hq).1) fun j hj q hq z => by
    rw [updF_ne hj] at z
    rcases (ot q hq).2 with y | y
    · exact hj (w.dj j i q z y)
    · exact y ⟨j, z⟩
  have e2 : (E.set i none).set i (some o') = E.set i (some o') := by simp
  have e3 : updF (updF F i []) i f' = updF F i f' := by
    funext j
    by_cases z : j = i
    · subst z; rw [updF_same, updF_same]
    · rw [updF_ne z, updF_ne z, updF_ne z]
  rw [e2, e3] at w3
  exact w3
theorem Fr.mutate {own own' : Addr → Prop} {p : Addr} {u : HO} (hp : own p) (h : ∀ q, own' q → own q) : Fr C H own C (upd H p u) own' :=
  ⟨Sub.refl _, fun q o e n z => ⟨upd_keep (fun y => z (y ▸ hp)) e, n, fun y => z (h q y)⟩⟩
end

/-! ### x[i] = e, x a name -/
def sSetIx (i : Nat) (fi fe : DE) : DS := fun E K => fe E (fun a E1 => capO E1 a fun o E2 => match E2[i]? with
  | some (some _) => fi E2 (fun b E3 => dViews E3 [b] fun ds E4 => match ds, E4[i]? with
    | [.int k], some (some (.lst os)) => (match ixN os.length k with
      | some j => K.nx (E4.set i (some (.lst (os.set j o))))
      | none => False)
    | _, _ => False) K.ex
  | _ => False) K.ex
/-- captured, and what is foreign then -/
theorem cap_r {T : Tb} {C H C1 H1 : Hp} {F F1 : Ft} {σ : St} {E1 : Env} {a : A} {v : V} {f : List Addr} {K : O → Env → Prop} (x : R1 T C H F σ C1 H1 E1 F1 a v f) (k : capO E1 a K) :
    ∃ C2 E2 F2 o, Wd T C2 H1 E2 σ F2 ∧ ORep T C2 H1 o v f ∧ (∀ p ∈ f, C2 p = none ∧ ¬ Own F2 p) ∧ Fr C H (Own F) C2 H1 (fun p => Own F2 p ∨ p ∈ f) ∧ K o E2 := by
  obtain ⟨C2, E2, F2, o, w2, ro, k2, fr2, s2, n2⟩ := cap_ok x.wd x.ar x.ot k
  exact ⟨C2, E2, F2, o, w2, ro, fun p hp => ⟨by rw [n2 p (x.ot p hp).2]; exact (x.ot p hp).1, fun z => (x.ot p hp).2 (s2 p z)⟩, x.fr.side fr2, k2⟩
section
variable {T : Tb} {X : Cx} {W : WX} {ks : List Nat} {f fe fi : DE} {e ie : Expr} {pos tpos : Pos} {x : Str} {px : Pos} {i : Nat}
theorem ss_setIx (hN : X.N[i]? = some x) (hv : Vis X.env.scope x) (hd : (x == ("__debug__" : Str)) = false) (hcd : (x == ("__classdict__" : Str)) = false) (he : SE T X W fe e) (hi : SE T X W fi ie)
    (ha : ∀ v, assign (.Subscript (.Name x px) ie tpos) X.env v = (do
      let ov ← holding [v] (eval (.Name x px) X.env)
      let iv ← holding [v, ov] (eval ie X.env)
      standAt tpos
      holding [v, ov, iv] (setItem ov iv v)
      release [v, ov, iv] []))
    (hs : swapsWithSole [.Subscript (.Name x px) ie tpos] e pos.line X.env = pure false) (hw : swappedStores [.Subscript (.Name x px) ie tpos] e X.env = pure none)
    (h1 : (assignEach [.Subscript (.Name x px) ie tpos] X.env).map (·.2) = [assign (.Subscript (.Name x px) ie tpos) X.env]) :
    SS T X W ks (sSetIx i fi fe) (.Assign [.Subscript (.Name x px) ie tpos] e pos) := fun pn hp => (ps_asg he (pg_sub (pe_var hN hv hd hcd) hi set_list ha) hs hw h1).imp fun D σ H ⟨C, E, F, K, w, p, k, q⟩ => by
  refine ⟨C, E, F, _, _, w, k, fun C1 H1 E1 F1 a v f1 y k1 => ?_, q.xc p⟩
  obtain ⟨C2, E2, F2, o, w2, ro, ot, fr2, k2⟩ := cap_r y k1
  split at k2
  · rename_i o0 e0
    obtain ⟨v0, hv0, _⟩ := w2.rep i o0 e0
    refine ⟨v0, hv0, C2, E2, F2, _, _, w2, k2, fun C3 H3 E3 F3 b v3 f3 z k3 => ?_, (q.xc p).step fr2 fun _ z => .inl z⟩
    have z1 := Rs.one z
    obtain ⟨C4, E4, F4, ds, w4, vl, k4, fr4⟩ := views z1.wd z1.al z1.nd z1.ot k3
    obtain ⟨d, rfl, vr⟩ := vl.one
    split at k4
    · rename_i kk os ed el
      cases ed
      obtain ⟨v4, hv4, r4⟩ := w4.rep i _ el
      rw [hv0] at hv4
      have e1 := Option.some.inj (Option.some.inj hv4)
      subst e1
      split at k4
      · rename_i j ej
        -- the held thing is still what it was
        have keep : ∀ p ∈ f1, ∀ u, H1 p = some u → H3 p = some u ∧ C4 p = none ∧ ¬ Own F4 p := fun p hp u hu => by
          obtain ⟨e1, n1, z1⟩ := z.fr.fo p u hu (ot p hp).1 (ot p hp).2
          obtain ⟨e2, n2, z2⟩ := fr4.fo p u e1 n1 z1
          exact ⟨e2, n2, z2⟩
        have ro4 : ORep T C4 H3 o v f1 := ro.keep (z.fr.cl.trans fr4.cl) fun p hp u hu => (keep p hp u hu).1
        have o4 : ∀ p ∈ f1, C4 p = none ∧ ¬ Own F4 p := fun p hp => by
          obtain ⟨u, hu⟩ := ro.there p hp
          exact (keep p hp u hu).2
        have ndF := w4.nd i
        have inF : ∀ p, p ∈ F4 i → Own F4 p := fun p hp => ⟨i, hp⟩
        generalize hF : F4 i = Fi at r4 ndF inF
        cases r4 with
        | @lst pp vs _ fl hpp rl =>
          obtain ⟨np, nfl⟩ := List.nodup_cons.mp ndF
          obtain ⟨g, rg, ng, lg⟩ := ORepL.set ro4 y.nd j rl nfl fun p hp z => (o4 p hp).2 (inF p (List.mem_cons_of_mem _ z))
          have pg : pp ∉ g := fun z => (lg pp z).elim np fun y => (o4 pp y).2 (inF pp List.mem_cons_self)
          have rn : ORep T C4 (upd H3 pp (.lst (vs.set j v))) (.lst (os.set j o)) (.ref pp) (pp :: g) := .lst upd_same (rg.keep (Sub.refl _) fun q hq u hu => upd_keepN pg hq hu)
          have hpF : pp ∈ F4 i := by rw [hF]; exact List.mem_cons_self
          have w5 := w4.mutate hpF hv0 rn (List.nodup_cons.mpr ⟨pg, ng⟩) fun q hq => by
            rcases List.mem_cons.mp hq with rfl | hq
            · exact ⟨w4.out i _ hpF, .inl hpF⟩
            · rcases lg q hq with z | z
              · have : q ∈ F4 i := by rw [hF]; exact List.mem_cons_of_mem _ z
                exact ⟨w4.out i q this, .inl this⟩
              · exact ⟨(o4 q z).1, .inr (o4 q z).2⟩
          rw [vr.int]
          refine ⟨pp, vs, kk, j, rfl, rfl, hpp, by rw [← rl.length]; exact ej, ?_⟩
          refine q.nx C4 _ _ σ _ w5 p ?_ k4
          have frA : Fr C H (Own F) C4 H3 (fun p => Own F4 p ∨ p ∈ f1) := ⟨fr2.cl.trans (z.fr.cl.trans fr4.cl), fun r o e n t => by
            obtain ⟨e1, n1, t1⟩ := fr2.fo r o e n t
            obtain ⟨e2, n2, t2⟩ := z.fr.fo r o e1 n1 fun y => t1 (.inl y)
            obtain ⟨e3, n3, t3⟩ := fr4.fo r o e2 n2 t2
            exact ⟨e3, n3, fun y => y.elim t3 fun y => t1 (.inr y)⟩⟩
          refine frA.trans (Fr.mutate (own := fun p => Own F4 p ∨ p ∈ f1) (.inl ⟨i, hpF⟩) fun r hr => ?_) fun _ z => z
          rcases own_updF hr with z | z
          · rcases List.mem_cons.mp z with rfl | z
            · exact .inl ⟨i, hpF⟩
            · rcases lg r z with y | y
              · exact .inl ⟨i, by rw [hF]; exact List.mem_cons_of_mem _ y⟩
              · exact .inr y
          · exact .inl z
      · exact k4.elim
    · exact k4.elim
  · exact k2.elim

/-! ### x.append(e) -/
def dAppend (i : Nat) (fe : DE) : DE := fun E KR KE => match E[i]? with
  | some (some (.lst _)) => fe E (fun a E1 => capO E1 a fun o E2 => match E2[i]? with
    | some (some (.lst os)) => os.length < sizeLine ∧ KR (.val (.sh .non)) (E2.set i (some (.lst (os ++ [o]))))
    | _ => False) KE
  | _ => False
theorem pre_append {σ : St} {H : Hp} {Q : VK} (h : PreE T W (dAppend i fe) σ H Q) : tBM T.K "list" rAppend (tVar i) (tCons (PreE T W fe) tNil) σ H Q := by
  obtain ⟨C, E, F, KR, KE, w, k, hq, hx⟩ := h
  unfold dAppend at k
  split at k
  · rename_i os0 e0
    obtain ⟨v0, hv0, r0⟩ := w.rep i _ e0
    have ty : tyV T.K "list" v0 H := by
      generalize F i = g at r0
      cases r0 with
      | lst hp rl => exact .inl ⟨rfl, _, SqL.of hp⟩
    refine ⟨v0, hv0, ty, C, E, F, _, _, w, k, fun C1 H1 E1 F1 a v f1 y k1 => ?_, hx⟩
    obtain ⟨C2, E2, F2, o, w2, ro, ot, fr2, k2⟩ := cap_r y k1
    split at k2
    · rename_i os e1
      obtain ⟨sz, k2⟩ := k2
      obtain ⟨v2, hv2, r2⟩ := w2.rep i _ e1
      rw [hv0] at hv2
      have e2 := Option.some.inj (Option.some.inj hv2)
      subst e2
      have ndF := w2.nd i
      have inF : ∀ p, p ∈ F2 i → Own F2 p := fun p hp => ⟨i, hp⟩
      generalize hF : F2 i = Fi at r2 ndF inF
      cases r2 with
      | @lst pp vs _ fl hpp rl =>
        obtain ⟨np, nfl⟩ := List.nodup_cons.mp ndF
        have hpF : pp ∈ F2 i := by rw [hF]; exact List.mem_cons_self
        have pf : pp ∉ f1 := fun z => (ot pp z).2 (inF pp List.mem_cons_self)
        have pg : pp ∉ fl ++ f1 := fun z => (List.mem_append.mp z).elim np pf
        have rg := ORepL.snoc ro rl
        have rn : ORep T C2 (upd H1 pp (.lst (vs ++ [v]))) (.lst (os ++ [o])) (.ref pp) (pp :: (fl ++ f1)) := .lst upd_same (rg.keep (Sub.refl _) fun q hq u hu => upd_keepN pg hq hu)
        have nd2 : (fl ++ f1).Nodup := List.nodup_append.mpr ⟨nfl, y.nd, fun a ha b hb e => by subst e; exact (ot a hb).2 (inF a (List.mem_cons_of_mem _ ha))⟩
        have w5 := w2.mutate hpF hv0 rn (List.nodup_cons.mpr ⟨pg, nd2⟩) fun q hq => by
          rcases List.mem_cons.mp hq with rfl | hq
          · exact ⟨w2.out i _ hpF, .inl hpF⟩
          · rcases List.mem_append.mp hq with z | z
            · have : q ∈ F2 i := by rw [hF]; exact List.mem_cons_of_mem _ z
              exact ⟨w2.out i q this, .inl this⟩
            · exact ⟨(ot q z).1, .inr (ot q z).2⟩
        refine ⟨pp, vs, v, rfl, rfl, hpp, by rw [← rl.length]; exact sz, ?_⟩
        refine hq C2 _ _ _ _ _ [] (R1.after (own := Own _) (F1 := updF F2 i (pp :: (fl ++ f1))) ?_ (fun _ z => z) (R1.self w5 (.val (.sh .non)))) k2
        refine fr2.trans (Fr.mutate (own := fun p => Own F2 p ∨ p ∈ f1) (.inl ⟨i, hpF⟩) fun r hr => ?_) fun _ z => z
        rcases own_updF hr with z | z
        · rcases List.mem_cons.mp z with rfl | z
          · exact .inl ⟨i, hpF⟩
          · rcases List.mem_append.mp z with y | y
            · exact .inl ⟨i, by rw [hF]; exact List.mem_cons_of_mem _ y⟩
            · exact .inr y
        · exact .inl z
    · exact k2.elim
  · exact k.elim
theorem se_append {apos : Pos} (hK : X.K = T.K) (hN : X.N[i]? = some x) (hv : Vis X.env.scope x) (hd : (x == ("__debug__" : Str)) = false) (hcd : (x == ("__classdict__" : Str)) = false) (he : SE T X W fe e)
    (hbase : attributeBase (.Name x px) "append" X.env (eval (.Name x px) X.env) = eval (.Name x px) X.env)
    (hfew : ((backTo pos (starEach [e] X.env)).all (fun x => !x.1) && (backToKw pos (keywordEach [] X.env)).all (fun x => x.1.isSome) && decide (([e] : List Expr).length + ([] : List Keyword).length + (if ([] : List Keyword).isEmpty then 0 else 1) < 30)) = true)
    (hline : (apos.endLine == pos.line) = true) (hs : starEach [e] X.env = (false, eval e X.env) :: starEach [] X.env) (hplain : (backTo pos (starEach [] X.env)).any (·.1) = false) :
    SE T X W (dAppend i fe) (.Call (.Attribute (.Name x px) "append" apos) [e] [] pos) :=
  (pe_bm PySem.F.plainAttrs_list PySem.F.slot_list_append PySem.F.type_list_append mt_append (pe_var hN hv hd hcd) (pa_cons he pa_nil hs) hbase hfew hline hs hplain).imp fun σ H Q h => by
    rw [hK]
    exact pre_append h

/-! ### self.f = e -/
def sSetF (cs : List Nat) (i k : Nat) (fe : DE) : DS := fun E K => fe E (fun a E1 => capO E1 a fun o E2 => match E2[i]? with
  | some (some (.ins c fs)) => cs.contains c = true ∧ fs.length < 1000 ∧ K.nx (E2.set i (some (.ins c (putN k o fs))))
  | _ => False) K.ex
theorem ss_setF {cs : List Nat} {k : Nat} {n : Str} (hK : X.K = T.K) (hnd : T.nm.Nodup) (hn : T.nm[k]? = some n) (hc : ∀ c ∈ cs, Cls T.K (T.ca c) ∧ NoAttr T.K (T.ca c) n) (hN : X.N[i]? = some x) (hv : Vis X.env.scope x) (hd : (x == ("__debug__" : Str)) = false) (hcd : (x == ("__classdict__" : Str)) = false)
    (he : SE T X W fe e) (hs : swapsWith e (some (.Attribute (.Name x px) n tpos)) pos.line X.env = pure false) :
    SS T X W ks (sSetF cs i k fe) (.Assign [.Attribute (.Name x px) n tpos] e pos) := fun pn hp => (ps_fld (pe_var hN hv hd hcd) he hs).imp fun D σ H ⟨C, E, F, K, w, p, k, q⟩ => by
  refine ⟨C, E, F, _, _, w, k, fun C1 H1 E1 F1 a v f1 y k1 => ?_, q.xc p⟩
  obtain ⟨C2, E2, F2, o, w2, ro, ot, fr2, k2⟩ := cap_r y k1
  split at k2
  · rename_i c fs e1
    obtain ⟨kc, sz, k2⟩ := k2
    have hm : c ∈ cs := by simpa using kc
    obtain ⟨v2, hv2, r2⟩ := w2.rep i _ e1
    have ndF := w2.nd i
    have inF : ∀ p, p ∈ F2 i → Own F2 p := fun p hp => ⟨i, hp⟩
    generalize hF : F2 i = Fi at r2 ndF inF
    cases r2 with
    | @ins pp dx _ vs _ fl hpp rl =>
      obtain ⟨np, nfl⟩ := List.nodup_cons.mp ndF
      have hpF : pp ∈ F2 i := by rw [hF]; exact List.mem_cons_self
      obtain ⟨g, rg, ng, lg⟩ := ORepF.put hnd hn ro y.nd rl nfl fun p hp z => (ot p hp).2 (inF p (List.mem_cons_of_mem _ z))
      have pg : pp ∉ g := fun z => (lg pp z).elim np fun y => (ot pp y).2 (inF pp List.mem_cons_self)
      have rn : ORep T C2 (upd H1 pp (.ins (T.ca c) dx (putF n v vs))) (.ins c (putN _ o fs)) (.ref pp) (pp :: g) := .ins upd_same (rg.keep (Sub.refl _) fun q hq u hu => upd_keepN pg hq hu)
      have w5 := w2.mutate hpF hv2 rn (List.nodup_cons.mpr ⟨pg, ng⟩) fun q hq => by
        rcases List.mem_cons.mp hq with rfl | hq
        · exact ⟨w2.out i _ hpF, .inl hpF⟩
        · rcases lg q hq with z | z
          · have : q ∈ F2 i := by rw [hF]; exact List.mem_cons_of_mem _ z
            exact ⟨w2.out i q this, .inl this⟩
          · exact ⟨(ot q z).1, .inr (ot q z).2⟩
      refine ⟨.ref pp, hv2, pp, T.ca c, dx, vs, rfl, hpp, by rw [hK]; exact (hc c hm).1, by rw [hK]; exact (hc c hm).2, by rw [← rl.length]; exact sz, ?_⟩
      refine q.nx C2 _ _ σ _ w5 p ?_ k2
      refine fr2.trans (Fr.mutate (own := fun p => Own F2 p ∨ p ∈ f1) (.inl ⟨i, hpF⟩) fun r hr => ?_) fun _ z => z
      rcases own_updF hr with z | z
      · rcases List.mem_cons.mp z with rfl | z
        · exact .inl ⟨i, hpF⟩
        · rcases lg r z with y | y
          · exact .inl ⟨i, by rw [hF]; exact List.mem_cons_of_mem _ y⟩
          · exact .inr y
      · exact .inl z
  · exact k2.elim

/-! ### several names -/
/-- a, b = x, y with plain local names -/
def sPar (i j : Nat) (fs : DA) : DS := fun E K => fs E (fun as E1 => capOs E1 as fun os E2 => match os with
  | [o1, o2] => K.nx ((E2.set i (some o1)).set j (some o2))
  | _ => False) K.ex
theorem ss_par {j : Nat} {y : Str} {a b : Expr} {fs : DA} {py pt : Pos} {kt k2 pt2} (hc : X.calm = true) (hN : X.N.Nodup) (hi : X.N[i]? = some x) (hj : X.N[j]? = some y) (hij : i ≠ j)
    (hx : X.env.scope.names.lookup x = some .local) (hy : X.env.scope.names.lookup y = some .local) (hki : i ∉ ks) (hkj : j ∉ ks) (ha : SA T X W fs [a, b])
    (hw : swappedStores [.Tuple [.Name x px, .Name y py] kt pt] (.Tuple [a, b] k2 pt2) X.env = pure (some [x, y]))
    (hs : swapsWithSole [.Tuple [.Name x px, .Name y py] kt pt] (.Tuple [a, b] k2 pt2) pos.line X.env = pure false) :
    SS T X W ks (sPar i j fs) (.Assign [.Tuple [.Name x px, .Name y py] kt pt] (.Tuple [a, b] k2 pt2) pos) := fun pn hp => by
  refine ⟨fun pins s σ H D I h => ?_⟩
  refine (ps_par hc hN hi hj hij hx hy ha hw hs).run pins s σ H D I ?_
  obtain ⟨C, E, F, K, w, p, k, q⟩ := h
  have li : i < σ.length := by rw [I.len]; exact (List.getElem?_eq_some_iff.mp hi).1
  have lj : j < σ.length := by rw [I.len]; exact (List.getElem?_eq_some_iff.mp hj).1
  refine ⟨C, E, F, _, _, w, k, fun C1 H1 E1 F1 as vs f1 z k1 => ?_, q.xc p⟩
  obtain ⟨C2, E2, F2, os, w2, ro, k3, fr2, s2, n2⟩ := caps_ok z.wd z.al z.ot k1
  have ot : ∀ p ∈ f1, C2 p = none ∧ ¬ Own F2 p := fun p hp => ⟨by rw [n2 p (z.ot p hp).2]; exact (z.ot p hp).1, fun y => (z.ot p hp).2 (s2 p y)⟩
  have nd := z.nd
  split at k3
  · rename_i o1 o2
    cases ro with
    | @cons _ v1 _ _ g1 g2 r1 t =>
      cases t with
      | @cons _ v2 _ _ g3 g4 r2 t =>
        cases t
        obtain ⟨m1, m2, m3⟩ := List.nodup_append.mp nd
        have m2' : g3.Nodup := by simpa using m2
        have w3 := w2.putS (i := i) li r1 m1 (fun p hp => (ot p (List.mem_append_left _ hp)).1) (fun j' _ p hp y => (ot p (List.mem_append_left _ hp)).2 ⟨j', y⟩) fun z hz e => hki (e ▸ hp.2 z hz)
        have w4 := w3.putS (i := j) (by simp [lj]) r2 m2' (fun p hp => (ot p (List.mem_append_right _ (by simpa using hp))).1) (hpk := fun z hz e => hkj (e ▸ hp.2 z hz)) fun j' hj' p hp y => by
          by_cases e : j' = i
          · subst e
            rw [updF_same] at y
            exact m3 p y p (by simpa using hp) rfl
          · rw [updF_ne e] at y
            exact (ot p (List.mem_append_right _ (by simpa using hp))).2 ⟨j', y⟩
        refine ⟨v1, v2, rfl, q.nx C2 H1 _ _ _ w4 ((p.set (i := i) fun z hz e => hki (e ▸ hp.1 z hz)).set (i := j) fun z hz e => hkj (e ▸ hp.1 z hz)) ?_ k3⟩
        refine (z.fr.side fr2).weak (fun _ y => y) fun r hr => ?_
        rcases own_updF hr with y | y
        · exact .inr (List.mem_append_right _ (by simpa using y))
        · rcases own_updF y with y | y
          · exact .inr (List.mem_append_left _ y)
          · exact .inl y
  · exact k3.elim
end

/-! ### targets: several at once, of a tuple or a list -/
abbrev DGs := List D → Env → (Env → Prop) → Prop
def gNo : DGs := fun ds E K => match ds with
  | [] => K E
  | _ => False
def gOne (g : DG) (h : DGs) : DGs := fun ds E K => match ds with
  | d :: r => g d E fun E1 => h r E1 K
  | [] => False
def gUnp (n : Nat) (h : DGs) : DG := fun d E K => match d with
  | .tup ds => ds.length = n ∧ h ds E K
  | .lst ds => ds.length = n ∧ h ds E K
  | _ => False
def PreGs (T : Tb) (pn : List (Nat × Option V)) (g : DGs) : TGs := fun vs σ H Q => ∃ C E F ds K, Wd T C H E σ F ∧ Pin pn σ ∧ RepL T C ds vs ∧ g ds E K ∧ ∀ C' H' E' σ' F', Wd T C' H' E' σ' F' → Pin pn σ' → Fr C H (Own F) C' H' (Own F') → K E' → Q σ' H'
def SGs (T : Tb) (X : Cx) (ks : List Nat) (g : DGs) (ts : List Expr) : Prop := ∀ pn : List (Nat × Option V), Pn T pn ks → PGs X ts (PreGs T pn g)
/-- a, .. = e -/
def sAsgG (g : DG) (f : DE) : DS := fun E K => f E (fun a E1 => capO E1 a fun o E2 => g o.view E2 K.nx) K.ex
section
variable {T : Tb} {X : Cx} {W : WX} {ks : List Nat} {g : DG} {h : DGs} {tg : Expr} {ts : List Expr} {f : DE} {e : Expr} {pos : Pos}
theorem PGs.imp {X : Cx} {e : List Expr} {t t' : TGs} (h : PGs X e t) (k : ∀ v σ H Q, t' v σ H Q → t v σ H Q) : PGs X e t' := ⟨fun pins s σ H v u Q I r q => h.run pins s σ H v u Q I r (k v σ H Q q)⟩
theorem _root_.L2.PG.or {X : Cx} {e : Expr} {t t' : TG} (h : PG X e t) (h' : PG X e t') : PG X e (fun v σ H Q => t v σ H Q ∨ t' v σ H Q) := ⟨fun pins s σ H v u Q I r q => q.elim (h.run pins s σ H v u Q I r) (h'.run pins s σ H v u Q I r)⟩
theorem sgs_nil : SGs T X ks gNo [] := fun pn hp => PGs.imp pgs_nil fun vs σ H Q ⟨C, E, F, ds, K, w, p, r, k, q⟩ => by
  cases r with
  | nil => exact ⟨rfl, q C H E σ F w p Fr.refl k⟩
  | cons _ _ => exact k.elim
theorem sgs_cons (h1 : SG T X ks g tg) (h2 : SGs T X ks h ts) (hs : (assignEach (tg :: ts) X.env).map (·.2) = assign tg X.env :: (assignEach ts X.env).map (·.2)) : SGs T X ks (gOne g h) (tg :: ts) := fun pn hp =>
  PGs.imp (pgs_cons (h1 pn hp) (h2 pn hp) hs) fun vs σ H Q ⟨C, E, F, ds, K, w, p, r, k, q⟩ => by
    cases r with
    | nil => exact k.elim
    | @cons d v ds vs r rs =>
      refine ⟨v, vs, rfl, C, E, F, d, _, w, p, r, k, fun C1 H1 E1 σ1 F1 w1 p1 fr1 k1 => ?_⟩
      exact ⟨C1, E1, F1, ds, K, w1, p1, rs.mono fr1.cl, k1, fun C2 H2 E2 σ2 F2 w2 p2 fr2 k2 => q C2 H2 E2 σ2 F2 w2 p2 (fr1.trans fr2 fun _ z => z) k2⟩
theorem sg_unp {n k0 : Nat} (hK : X.K = T.K) (hc : X.calm = true) (h1 : SGs T X ks h ts) (hn : (assignEach ts X.env).length = n) (hst : (assignEach ts X.env).findIdx? (·.1) = none) : SG T X ks (gUnp n h) (.Tuple ts k0 pos) := fun pn hp =>
  PG.imp ((pg_tup hc (h1 pn hp) hn hst).or (pg_lst hc (h1 pn hp) hn hst)) fun v σ H Q _ ⟨C, E, F, d, K, w, p, r, k, q⟩ => by
    unfold gUnp at k
    split at k
    · cases r with
      | @tup a vs ds sq rs => exact .inl ⟨a, vs, rfl, by rw [hK]; exact w.sub.sqT sq, by rw [← rs.length]; exact k.1, C, E, F, _, K, w, p, rs, k.2, q⟩
    · cases r with
      | @lst a vs ds sq rs => exact .inr ⟨a, vs, rfl, by rw [hK]; exact w.sub.sqL sq, by rw [← rs.length]; exact k.1, C, E, F, _, K, w, p, rs, k.2, q⟩
    · exact k.elim
theorem ss_asgG (he : SE T X W f e) (hg : SG T X ks g tg) (hs : swapsWithSole [tg] e pos.line X.env = pure false) (hw : swappedStores [tg] e X.env = pure none) (h1 : (assignEach [tg] X.env).map (·.2) = [assign tg X.env]) :
    SS T X W ks (sAsgG g f) (.Assign [tg] e pos) := fun pn hp => (ps_asg he (hg pn hp) hs hw h1).imp fun D σ H ⟨C, E, F, K, w, p, k, q⟩ => by
  refine ⟨C, E, F, _, _, w, k, fun C1 H1 E1 F1 a v f1 y k1 => ?_, q.xc p⟩
  obtain ⟨C2, E2, F2, o, w2, ro, ot, fr2, k2⟩ := cap_r y k1
  have w3 : Wd T (cl C2 H1 f1) H1 E2 σ F2 := w2.move (cl_sub w2.sub) (cl_le w2.sub) (fun _ _ _ e => e) fun r hr => by
    rw [cl_out fun z => (ot r z).2 hr]
    obtain ⟨i, hi⟩ := hr
    exact w2.out i r hi
  have rd : Rep T (cl C2 H1 f1) o.view v := ro.close (cl_sub w2.sub) fun r hr u hu => cl_at hr hu
  have fr3 : Fr C H (Own F) (cl C2 H1 f1) H1 (Own F2) := fr2.trans (Fr.close (a := fun p => Own F2 p ∨ p ∈ f1) (b := Own F2) w2.sub (fun r hr => .inr hr) fun r hr => .inl hr) fun _ z => z
  exact ⟨_, E2, F2, _, _, w3, p, rd, k2, fun C' H' E' σ' F' w' p' r k => q.nx C' H' E' σ' F' w' p' (fr3.trans r fun _ z => z) k⟩
end
end Pv

set_option Elab.async false
set_option linter.all false
set_option maxRecDepth 100000
set_option maxHeartbeats 4000000
set_option autoImplicit false
/-! PvI: what for and comprehensions walk. -/
namespace Pv
open PySem PySem.Spec PyProof.Rows L2

theorem view_sh {d : D} : (O.sh d).view = d := by rw [O.view]
theorem map_view_sh (ds : List D) : (ds.map O.sh).map O.view = ds := by
  rw [List.map_map]
  have : (O.view ∘ O.sh) = (id : D → D) := by funext d; simp [view_sh]
  rw [this, List.map_id]
theorem flat_view (o : O) : o.flat.view = o.view := by
  cases o with
  | sh d => rfl
  | lst xs => rw [O.flat, O.view, O.view, viewL_map, viewL_map, List.map_map]; simp [view_sh]
  | ins c fs => rw [O.flat, O.view, O.view, viewF_map, viewF_map, List.map_map]; simp [view_sh]
theorem flat_flat (o : O) : o.flat.flat = o.flat := by
  cases o with
  | sh d => rfl
  | lst xs => rw [O.flat, O.flat, List.map_map]; simp [view_sh]
  | ins c fs => rw [O.flat, O.flat, List.map_map]; simp [view_sh]
theorem ORepL.sh_inv {T : Tb} {C H : Hp} : ∀ {ds : List D} {vs : List V} {f : List Addr}, ORepL T C H (ds.map O.sh) vs f → RepL T C ds vs
  | [], _, _, h => by cases h; exact .nil
  | d :: ds, _, _, h => by
    cases h with
    | cons h r =>
      cases h with
      | sh h => exact .cons h (ORepL.sh_inv r)
theorem ORepF.sh_inv {T : Tb} {C H : Hp} : ∀ {ds : List (Nat × D)} {vs : List (Str × V)} {f : List Addr}, ORepF T C H (ds.map fun p => (p.1, O.sh p.2)) vs f → RepF T C ds vs
  | [], _, _, h => by cases h; exact .nil
  | d :: ds, _, _, h => by
    cases h with
    | cons n h r =>
      cases h with
      | sh h => exact .cons n h (ORepF.sh_inv r)
theorem VRep.of_own {T : Tb} {C H : Hp} {o : O} {v : V} {f : List Addr} (h : ORep T C H o.flat v f) : VRep T C H o.view v := by
  cases o with
  | sh d => rw [O.view]; cases h with | sh r => exact .rep r
  | lst xs =>
    rw [O.view, viewL_map]
    rw [O.flat] at h
    cases h with
    | lst hp r =>
      have e : xs.map (fun o => O.sh o.view) = (xs.map O.view).map O.sh := by rw [List.map_map]; rfl
      rw [e] at r
      exact .lst hp (ORepL.sh_inv r)
  | ins c fs =>
    rw [O.view, viewF_map]
    rw [O.flat] at h
    cases h with
    | ins hp r =>
      have e : fs.map (fun p => (p.1, O.sh p.2.view)) = (fs.map fun p => (p.1, p.2.view)).map fun p => (p.1, O.sh p.2) := by rw [List.map_map]; rfl
      rw [e] at r
      exact .ins hp (ORepF.sh_inv r)

/-- the sources of a walk: slots that own a list are to stay as they are -/
def dSrc : Env → List A → (List D → List (Nat × O) → Env → Prop) → Prop
  | E, [], K => K [] [] E
  | E, .val o :: r, K => dSrc E r fun ds ps E' => K (o.view :: ds) ps E'
  | E, .slot i :: r, K => match E[i]? with
    | some (some (.sh d)) => dSrc E r fun ds ps E' => K (d :: ds) ps E'
    | some (some o) => dSrc (E.set i (some o.flat)) r fun ds ps E' => K (o.view :: ds) ((i, o.flat) :: ps) E'
    | _ => False
/-- .. are read as these, as long as the slots ps hold -/
def SrcOk (T : Tb) (σ : St) (ps : List (Nat × O)) (C1 : Hp) (ds : List D) (vs : List V) : Prop := ∀ C2 H2, Sub C1 C2 → Sub C2 H2 → (∀ q ∈ ps, ∃ v f, σ[q.1]? = some (some v) ∧ ORep T C2 H2 q.2 v f) → VL T C2 H2 ds vs
theorem src_ok {T : Tb} {H : Hp} {σ : St} : ∀ {as : List A} {vs : List V} {f : List Addr} {C : Hp} {E : Env} {F : Ft} {K : List D → List (Nat × O) → Env → Prop}, Wd T C H E σ F → AL T C H σ as vs f → f.Nodup → (∀ p ∈ f, C p = none ∧ ¬ Own F p) → dSrc E as K →
    ∃ C' E' F' ds ps, Wd T C' H E' σ F' ∧ K ds ps E' ∧ Fr C H (fun p => Own F p ∨ p ∈ f) C' H (Own F') ∧ (∀ q ∈ ps, E'[q.1]? = some (some q.2)) ∧ SrcOk T σ ps C' ds vs ∧ (∀ (i : Nat) (o : O), E[i]? = some (some o) → o.flat = o → E'[i]? = some (some o))
  | [], _, _, C, E, F, K, w, .nil, _, _, h => ⟨C, E, F, [], [], w, h, Fr.refl.weak (fun p z => .inl z) fun _ z => z, fun q hq => by simp at hq, fun _ _ _ _ _ => .nil, fun _ _ e _ => e⟩
  | .val o :: as, _, _, C, E, F, K, w, .cons (f := f1) (g := f2) (.val r) rs, nd, ot, h => by
    obtain ⟨n1, n2, n3⟩ := List.nodup_append.mp nd
    have w1 : Wd T (cl C H f1) H E σ F := w.move (cl_sub w.sub) (cl_le w.sub) (fun _ _ _ e => e) fun p hp => by
      rw [cl_out fun z => (ot p (List.mem_append_left _ z)).2 hp]
      obtain ⟨i, hi⟩ := hp
      exact w.out i p hi
    have q : Rep T (cl C H f1) o.view _ := r.close (cl_sub w.sub) fun p hp u hu => cl_at hp hu
    obtain ⟨C', E', F', ds, ps, w', k, fr, hp, so, st⟩ := src_ok (C := cl C H f1) w1 (rs.keep (cl_sub w.sub) fun _ _ _ e => e) n2 (fun p hp => ⟨by rw [cl_out fun z => n3 p z p hp rfl]; exact (ot p (List.mem_append_right _ hp)).1, (ot p (List.mem_append_right _ hp)).2⟩) h
    refine ⟨C', E', F', o.view :: ds, ps, w', k, ?_, hp, fun C2 H2 s1 s2 hs => .cons (.rep (q.mono (fr.cl.trans s1))) (so C2 H2 s1 s2 hs), st⟩
    refine (Fr.close (b := fun p => Own F p ∨ p ∈ f2) w.sub (fun p hp => .inr (List.mem_append_left _ hp)) fun p hp => ?_).trans fr fun _ z => z
    exact hp.elim .inl fun z => .inr (List.mem_append_right _ z)
  | .slot i :: as, _, _, C, E, F, K, w, .cons (g := f2) (v := v1) (.slot hv) rs, nd, ot, h => by
    have nd' : f2.Nodup := by simpa using nd
    have ot' : ∀ p ∈ f2, C p = none ∧ ¬ Own F p := fun p hp => ot p (by simpa using hp)
    simp only [dSrc] at h
    split at h
    · rename_i d e
      obtain ⟨v2, hv2, r2⟩ := w.rep i _ e
      rw [hv] at hv2
      have e1 := Option.some.inj (Option.some.inj hv2)
      subst e1
      have r3 : Rep T C d v1 := by
        generalize F i = g at r2
        cases r2 with
        | sh r => exact r
      obtain ⟨C', E', F', ds, ps, w', k, fr, hp, so, st⟩ := src_ok w rs nd' ot' h
      exact ⟨C', E', F', d :: ds, ps, w', k, fr.weak (fun p z => z.elim .inl fun y => .inr (by simpa using y)) fun _ z => z, hp, fun C2 H2 s1 s2 hs => .cons (.rep (r3.mono (fr.cl.trans s1))) (so C2 H2 s1 s2 hs), st⟩
    · rename_i o _ e
      obtain ⟨v2, g1, hv2, q, w1, hg⟩ := w.flat e
      rw [hv] at hv2
      have e1 := Option.some.inj (Option.some.inj hv2)
      subst e1
      have sub2 : ∀ p, Own (updF F i g1) p → Own F p := fun p z => (own_updF z).elim (fun z => ⟨i, hg p z⟩) id
      obtain ⟨C', E', F', ds, ps, w', k, fr, hp, so, st⟩ := src_ok w1 (rs.keep (cl_sub w.sub) fun _ _ _ e => e) nd' (fun p hp => ⟨by rw [cl_out fun z => (ot' p hp).2 ⟨i, List.mem_of_mem_tail z⟩]; exact (ot' p hp).1, fun z => (ot' p hp).2 (sub2 p z)⟩) h
      have lt : i < E.length := (List.getElem?_eq_some_iff.mp e).1
      refine ⟨C', E', F', o.view :: ds, (i, o.flat) :: ps, w', k, ?_, fun z hz => ?_, fun C2 H2 s1 s2 hs => ?_, fun j o' ej ef => ?_⟩
      · refine (Fr.close (b := fun p => Own (updF F i g1) p ∨ p ∈ f2) w.sub (fun p hp => .inl ⟨i, List.mem_of_mem_tail hp⟩) fun p hp => ?_).trans fr fun _ z => z
        exact hp.elim (fun z => .inl (sub2 p z)) fun z => .inr (by simpa using z)
      · rcases List.mem_cons.mp hz with rfl | hz
        · exact st i o.flat (by rw [List.getElem?_set_self lt]) (flat_flat o)
        · exact hp z hz
      · obtain ⟨v, f, hv', r'⟩ := hs (i, o.flat) List.mem_cons_self
        have hv'' : σ[i]? = some (some v) := hv'
        rw [hv] at hv''
        have e2 := Option.some.inj (Option.some.inj hv'')
        subst e2
        exact .cons (VRep.of_own r') (so C2 H2 s1 s2 fun z hz => hs z (List.mem_cons_of_mem _ hz))
      · refine st j o' ?_ ef
        by_cases ji : j = i
        · subst ji
          rw [List.getElem?_set_self lt]
          rw [e] at ej
          have := Option.some.inj (Option.some.inj ej)
          subst this
          rw [ef]
        · rw [List.getElem?_set_ne (Ne.symm ji)]; exact ej
    · exact h.elim

/-- the items of a thing that is walked -/
def itemsD : D → Option (List D)
  | .lst xs => some xs
  | .tup xs => some xs
  | .str z => some (z.cps.toList.map fun c => .str ⟨#[c]⟩)
  | _ => none
def iSeq (f : DE) : DI := fun E KR KE => f E (fun a E1 => dSrc E1 [a] fun ds ps E2 => match ds with
  | [d] => match itemsD d with
    | some xs => KR xs ps E2
    | none => False
  | _ => False) KE
section
variable {X : Cx} {T : Tb} {W : WX} {tg e : Expr} {f : DE}
theorem _root_.L2.PI.imp {X : Cx} {tg e : Expr} {t t' : TI} (h : PI X tg e t) (k : ∀ σ H R, t' σ H R → t σ H R) : PI X tg e t' := ⟨fun pins s σ H R I q => h.run pins s σ H R I (k σ H R q)⟩
theorem _root_.L2.PI.or {X : Cx} {tg e : Expr} {t t' : TI} (h : PI X tg e t) (h' : PI X tg e t') : PI X tg e (fun σ H R => t σ H R ∨ t' σ H R) := ⟨fun pins s σ H R I q => q.elim (h.run pins s σ H R I) (h'.run pins s σ H R I)⟩
theorem walk_list {C H : Hp} {p : Addr} {vs : List V} {ds : List D} (hs : Sub C H) (q : SqL T.K H p vs) (r : RepL T C ds vs) : WalkAt T (Itl T.K p) ds C H where
  go := fun i lt => by
    rw [r.length] at lt
    exact ⟨vs, vs[i], q, by simp [lt]⟩
  yld := fun i x H' lt y => by
    obtain ⟨e, y⟩ := y
    subst e
    obtain ⟨d, hd, rd⟩ := r.get' (y vs q)
    exact ⟨C, d, Grow.refl hs, hd, rd⟩
  stop := fun i le => ⟨vs, q, by rw [← r.length]; exact le⟩
theorem walk_tup {C H : Hp} {p : Addr} {vs : List V} {ds : List D} (hs : Sub C H) (q : SqT T.K H p vs) (r : RepL T C ds vs) : WalkAt T (Itt T.K p) ds C H where
  go := fun i lt => by
    rw [r.length] at lt
    exact ⟨vs, vs[i], q, by simp [lt]⟩
  yld := fun i x H' lt y => by
    obtain ⟨e, y⟩ := y
    subst e
    obtain ⟨d, hd, rd⟩ := r.get' (y vs q)
    exact ⟨C, d, Grow.refl hs, hd, rd⟩
  stop := fun i le => ⟨vs, q, by rw [← r.length]; exact le⟩
theorem VRep.lst_at {C H : Hp} (s : Sub C H) {ds : List D} {p : Addr} (h : VRep T C H (.lst ds) (.ref p)) : ∃ vs, SqL T.K H p vs ∧ RepL T C ds vs := by
  obtain ⟨q, vs, e, a, b⟩ := h.seqL s
  cases e
  exact ⟨vs, a, b⟩
theorem VRep.tup_at {C H : Hp} (s : Sub C H) {ds : List D} {p : Addr} (h : VRep T C H (.tup ds) (.ref p)) : ∃ vs, SqT T.K H p vs ∧ RepL T C ds vs := by
  obtain ⟨q, vs, e, a, b⟩ := h.seqT s
  cases e
  exact ⟨vs, a, b⟩
/-- a list, a tuple or a text, walked -/
def iAny (K : PySem.W.Frag) (tl : TE) : TI := fun σ H R => tl σ H fun x H1 => (∃ a, x = .ref a ∧ (∃ xs, SqL K H1 a xs) ∧ R (Itl K a) H1) ∨ (∃ a, x = .ref a ∧ (∃ xs, SqT K H1 a xs) ∧ R (Itt K a) H1) ∨ ∃ z, x = .str z ∧ R (Its z) H1
theorem pi_any {tl : TE} (hl : PE X e tl) : PI X tg e (iAny X.K tl) := by
  refine ⟨fun pins s σ H R I h => ?_⟩
  refine thn (hl.run pins s σ H _ I h) fun v s1 ⟨x, H1, I1, r1, q1⟩ => ?_
  rcases q1 with ⟨a, e, ⟨xs, hq⟩, q⟩ | ⟨a, e, ⟨xs, hq⟩, q⟩ | ⟨z, e, q⟩
  · subst e
    cases r1
    obtain ⟨its, rv, p, hz⟩ := I1.list hq
    refine wpAny_pyIter_list p.isList ?_
    refine ⟨s1.heap.objs.size, [s1.heap.objs.size], _, _, H1, rfl, I1.kept (t' := s1.toks) fun b o e => Heap.get?_push_of_some _ e, turn_list a _, ⟨_, Heap.get?_push_size _ rfl, rfl, rfl⟩, fun b hb => ?_, q⟩
    have e : b = s1.heap.objs.size := by simpa using hb
    subst e
    exact I1.fpOk (Nat.le_refl _) (I1.hok.fresh (Nat.le_refl _))
  · subst e
    cases r1
    obtain ⟨its, rv, p, hz⟩ := I1.tuple hq
    refine wpAny_pyIter_tuple (show s1.heap.IsTuple a its.toArray from p) ?_
    refine ⟨s1.heap.objs.size, [s1.heap.objs.size], _, _, H1, rfl, I1.kept (t' := s1.toks) fun b o e => Heap.get?_push_of_some _ e, turn_tuple a _, ⟨_, Heap.get?_push_size _ rfl, rfl, rfl⟩, fun b hb => ?_, q⟩
    have e : b = s1.heap.objs.size := by simpa using hb
    subst e
    exact I1.fpOk (Nat.le_refl _) (I1.hok.fresh (Nat.le_refl _))
  · subst e
    obtain ⟨t, rfl⟩ := r1
    cases ha : z.cps.all (· < 128)
    · exact wpAny_pyIter_wide ha (pi_one (tk := s1.toks) I1 _ (turn_str _ z t "str_iterator" (.inr rfl)) ⟨_, Heap.get?_push_size _ rfl, rfl, rfl⟩ q)
    · exact wpAny_pyIter_ascii ha (pi_one (tk := s1.toks) I1 _ (turn_str _ z t "str_ascii_iterator" (.inl rfl)) ⟨_, Heap.get?_push_size _ rfl, rfl, rfl⟩ q)
theorem walk_str {C H : Hp} {z : Str} (hs : Sub C H) : WalkAt T (Its z) (z.cps.toList.map fun c => D.str ⟨#[c]⟩) C H where
  go := fun i lt => by
    show i < z.cps.size
    simpa using lt
  yld := fun i x H' lt y => by
    obtain ⟨e, c, hc, ex⟩ := y
    subst e ex
    refine ⟨C, .str ⟨#[c]⟩, Grow.refl hs, ?_, .str _⟩
    rw [List.getElem?_map, Array.getElem?_toList, hc]
    rfl
  stop := fun i le => by
    show z.cps.size ≤ i
    simpa using le
theorem holds_own {C H : Hp} {E : Env} {σ : St} {F : Ft} {ps : List (Nat × O)} (w : Wd T C H E σ F) (h : ∀ q ∈ ps, E[q.1]? = some (some q.2)) : ∀ q ∈ ps, ∃ v f, σ[q.1]? = some (some v) ∧ ORep T C H q.2 v f := fun q hq => by
  obtain ⟨v, hv, r⟩ := w.rep q.1 q.2 (h q hq)
  exact ⟨v, _, hv, r⟩
theorem si_seq (hK : X.K = T.K) (he : SE T X W f e) : SI T X W tg (iSeq f) e := by
  refine (pi_any he).imp fun σ H R h => ?_
  obtain ⟨C, E, F, KR, KE, w, k, hq, hx⟩ := h
  refine ⟨C, E, F, _, KE, w, k, fun C1 H1 E1 F1 a v f1 x k1 => ?_, hx⟩
  have z := Rs.one x
  obtain ⟨C2, E2, F2, ds, ps, w2, k2, fr2, hp, so, _⟩ := src_ok z.wd z.al z.nd z.ot k1
  obtain ⟨d, rfl, vr⟩ := (so C2 H1 (Sub.refl _) w2.sub (holds_own w2 hp)).one
  have fr := x.fr.trans fr2 fun _ z => z
  rw [hK]
  cases d with
  | lst xs =>
    obtain ⟨p, vs, rfl, q, r⟩ := vr.seqL w2.sub
    refine .inl ⟨p, rfl, ⟨vs, q⟩, hq C2 H1 E2 F2 xs ps _ w2 fr (fun C3 H3 s1 s2 hs => ?_) hp k2⟩
    obtain ⟨_, e, vr3⟩ := (so C3 H3 s1 s2 hs).one
    cases e
    obtain ⟨vs3, q3, r3⟩ := vr3.lst_at s2
    exact walk_list s2 q3 r3
  | tup xs =>
    obtain ⟨p, vs, rfl, q, r⟩ := vr.seqT w2.sub
    refine .inr (.inl ⟨p, rfl, ⟨vs, q⟩, hq C2 H1 E2 F2 xs ps _ w2 fr (fun C3 H3 s1 s2 hs => ?_) hp k2⟩)
    obtain ⟨_, e, vr3⟩ := (so C3 H3 s1 s2 hs).one
    cases e
    obtain ⟨vs3, q3, r3⟩ := vr3.tup_at s2
    exact walk_tup s2 q3 r3
  | str z =>
    rw [vr.str]
    exact .inr (.inr ⟨z, rfl, hq C2 H1 E2 F2 _ ps _ w2 fr (fun C3 H3 s1 s2 hs => walk_str s2) hp k2⟩)
  | non => exact k2.elim
  | bl b => exact k2.elim
  | int i => exact k2.elim
  | ins c fs => exact k2.elim
  | dic => exact k2.elim

/-! ### ranges -/
def rgD (lo : Int) (n : Nat) : List D := (List.range n).map fun (i : Nat) => D.int (lo + (i : Int))
def iRg1 (f : DE) : DI := fun E KR KE => f E (fun a E1 => dViews E1 [a] fun ds E2 => match ds with
  | [.int j] => (-(2 ^ 62) ≤ j ∧ j < 2 ^ 62) ∧ KR (rgD 0 j.toNat) [] E2
  | _ => False) KE
def iRg2 (f g : DE) : DI := fun E KR KE => f E (fun a E1 => g E1 (fun b E2 => dViews E2 [a, b] fun ds E3 => match ds with
  | [.int i, .int j] => (-(2 ^ 62) ≤ i ∧ i < 2 ^ 62 ∧ -(2 ^ 62) ≤ j ∧ j < 2 ^ 62) ∧ KR (rgD i (j - i).toNat) [] E3
  | _ => False) KE) KE
theorem walk_range {C H : Hp} {lo : Int} {n : Nat} (hs : Sub C H) : WalkAt T (Itr lo n) (rgD lo n) C H where
  go := fun i lt => by
    show i < n
    simpa [rgD] using lt
  yld := fun i x H' lt y => by
    obtain ⟨e, ex⟩ := y
    subst e ex
    refine ⟨C, .int (lo + i), Grow.refl hs, ?_, .int _⟩
    have : i < n := by simpa [rgD] using lt
    simp [rgD, this]
  stop := fun i le => by
    show n ≤ i
    simpa [rgD] using le
variable {g : DE} {e2 : Expr} {p pos : Pos}
theorem si_rg1 (hg : Gl X "range") (hm : X.mg "range" = none) (he : SE T X W f e) (hs : starEach [e] X.env = (false, eval e X.env) :: starEach [] X.env) : SI T X W tg (iRg1 f) (.Call (.Name "range" p) [e] [] pos) :=
  (pi_range1 hg hm (pa_cons he pa_nil hs) (by rw [hs]; rfl)).imp fun σ H R ⟨C, E, F, KR, KE, w, k, hq, hx⟩ => by
    refine ⟨C, E, F, _, KE, w, k, fun C1 H1 E1 F1 a v f1 x k1 => ?_, hx⟩
    have z := Rs.one x
    obtain ⟨C2, E2, F2, ds, w2, vl, k2, fr2⟩ := views z.wd z.al z.nd z.ot k1
    obtain ⟨d, rfl, vr⟩ := vl.one
    split at k2
    · rename_i j ed
      cases ed
      rw [vr.int]
      exact ⟨j, rfl, k2.1.1, k2.1.2, hq C2 H1 E2 F2 _ [] _ w2 (x.fr.trans fr2 fun _ z => z) (fun C3 H3 s1 s2 hs => walk_range s2) (fun q hq => by simp at hq) k2.2⟩
    · exact k2.elim
theorem si_rg2 (hg : Gl X "range") (hm : X.mg "range" = none) (he : SE T X W f e) (he2 : SE T X W g e2) (hs : starEach [e, e2] X.env = (false, eval e X.env) :: starEach [e2] X.env) (hs2 : starEach [e2] X.env = (false, eval e2 X.env) :: starEach [] X.env) :
    SI T X W tg (iRg2 f g) (.Call (.Name "range" p) [e, e2] [] pos) :=
  (pi_range2 hg hm (pa_cons he (pa_cons he2 pa_nil hs2) hs) (by rw [hs, hs2]; rfl) (by rw [hs2]; rfl)).imp fun σ H R ⟨C, E, F, KR, KE, w, k, hq, hx⟩ => by
    refine ⟨C, E, F, _, KE, w, k, fun C1 H1 E1 F1 a v f1 x k1 => ?_, hx⟩
    refine ⟨C1, E1, F1, _, KE, x.wd, k1, fun C2 H2 E2 F2 b v2 f2 y k2 => ?_, hx.step x.fr fun _ z => .inl z⟩
    have z := Rs.cons x (Rs.one y)
    obtain ⟨C3, E3, F3, ds, w3, vl, k3, fr3⟩ := views z.wd z.al z.nd z.ot k2
    obtain ⟨d1, d2, rfl, vr1, vr2⟩ := vl.two
    split at k3
    · rename_i i j ed
      cases ed
      rw [vr1.int, vr2.int]
      exact ⟨i, j, rfl, k3.1, hq C3 H2 E3 F3 _ [] _ w3 (z.fr.trans fr3 fun _ z => z) (fun C4 H4 s1 s2 hs => walk_range s2) (fun q hq => by simp at hq) k3.2⟩
    · exact k3.elim
end
end Pv

set_option Elab.async false
set_option linter.all false
set_option maxRecDepth 100000
set_option maxHeartbeats 4000000
set_option autoImplicit false
/-! PvJ: a def by its body; raise; try. -/
namespace Pv
open PySem PySem.Spec PyProof.Rows L2

/-! ### a def -/
/-- the arguments as they are left; those that the body stores anew (R) were data and are what they were -/
def outK (R : List Nat) (E : Env) : Nat → List O → (List O → Prop) → Prop
  | _, [], K => K []
  | k, o :: os, K => if R.contains k then outK R E (k + 1) os fun r => K (o :: r) else match E[k]? with
    | some (some o') => outK R E (k + 1) os fun r => K (o' :: r)
    | _ => False
def shO : O → Bool
  | .sh _ => true
  | _ => false
def bodyS (n : Nat) (R : List Nat) (np : Nat) (g : DS) : Spec := fun os KR KE => os.length = np ∧ (∀ k ∈ R, ∀ o, os[k]? = some o → shO o = true) ∧
  g (os.map some ++ List.replicate (n - np) none)
    { nx := fun E => outK R E 0 os (KR (.sh .non)), rt := fun o E => outK R E 0 os (KR o), bk := fun _ => False, ct := fun _ => False, ex := fun e E => outK R E 0 os (KE e) }
section
variable {T : Tb}
theorem orep_ft {C H : Hp} : ∀ {os : List O} {vs : List V} {f : List Addr}, ORepL T C H os vs f → f.Nodup → ∃ F : Ft, (∀ i o, os[i]? = some o → ∃ v, vs[i]? = some v ∧ ORep T C H o v (F i)) ∧ (∀ i, os.length ≤ i → F i = []) ∧ (∀ i, (F i).Nodup) ∧
    (∀ i j p, p ∈ F i → p ∈ F j → i = j) ∧ (∀ i p, p ∈ F i → p ∈ f)
  | _, _, _, .nil, _ => ⟨fun _ => [], fun i o e => by simp at e, fun _ _ => rfl, fun _ => List.nodup_nil, fun _ _ _ h => by simp at h, fun _ _ h => by simp at h⟩
  | _, _, _, .cons (f := f1) (g := f2) h r, nd => by
    obtain ⟨n1, n2, n3⟩ := List.nodup_append.mp nd
    obtain ⟨F, a1, a2, a3, a4, a5⟩ := orep_ft r n2
    refine ⟨fun i => match i with
      | 0 => f1
      | i + 1 => F i, fun i o e => ?_, fun i hi => ?_, fun i => ?_, fun i j p h1 h2 => ?_, fun i p h1 => ?_⟩
    · cases i with
      | zero => simp at e; subst e; exact ⟨_, rfl, h⟩
      | succ i => simpa using a1 i o (by simpa using e)
    · cases i with
      | zero => simp at hi
      | succ i => exact a2 i (by simpa using hi)
    · cases i with
      | zero => exact n1
      | succ i => exact a3 i
    · cases i with
      | zero =>
        cases j with
        | zero => rfl
        | succ j => exact absurd rfl (n3 p h1 p (a5 j p h2))
      | succ i =>
        cases j with
        | zero => exact absurd rfl (n3 p h2 p (a5 i p h1))
        | succ j => rw [a4 i j p h1 h2]
    · cases i with
      | zero => exact List.mem_append_left _ h1
      | succ i => exact List.mem_append_right _ (a5 i p h1)
theorem out_ok {C0 H0 C H : Hp} {E : Env} {σ : St} {F : Ft} {R : List Nat} {pn : List (Nat × Option V)} (w : Wd T C H E σ F) (p : Pin pn σ) (s : Sub C0 C) :
    ∀ {os : List O} {vs : List V} {f0 : List Addr} {k : Nat} {K : List O → Prop}, ORepL T C0 H0 os vs f0 → (∀ j ∈ R, k ≤ j → ∀ o, os[j - k]? = some o → shO o = true) → (∀ j v, vs[j]? = some v → (k + j) ∉ R → (k + j, some v) ∈ pn) → outK R E k os K →
    ∃ os' f, ORepL T C H os' vs f ∧ f.Nodup ∧ (∀ q ∈ f, ∃ i, k ≤ i ∧ q ∈ F i) ∧ K os'
  | _, _, _, k, K, .nil, _, _, h => ⟨[], [], .nil, List.nodup_nil, fun q hq => by simp at hq, h⟩
  | _, _, _, k, K, .cons (o := o) (v := v) (f := f1) (g := f2) (os := os) (vs := vs) r rs, hR, hp, h => by
    have hR' : ∀ j ∈ R, k + 1 ≤ j → ∀ o, os[j - (k + 1)]? = some o → shO o = true := fun j hj hk o' e => hR j hj (by omega) o' (by
      have : j - k = (j - (k + 1)) + 1 := by omega
      rw [this]; simpa using e)
    have hp' : ∀ j v, vs[j]? = some v → (k + 1 + j) ∉ R → (k + 1 + j, some v) ∈ pn := fun j v' e hn => by
      have := hp (j + 1) v' (by simpa using e)
      have e2 : k + (j + 1) = k + 1 + j := by omega
      rw [e2] at this
      exact this hn
    unfold outK at h
    split at h
    · rename_i hc
      have hk : k ∈ R := by simpa using hc
      have so := hR k hk (Nat.le_refl _) o (by simp)
      obtain ⟨os', f, ro, nd, l, kk⟩ := out_ok w p s rs hR' hp' h
      cases r with
      | sh r => exact ⟨_, [] ++ f, .cons (.sh (r.mono s)) ro, by simpa using nd, fun q hq => let ⟨i, a, b⟩ := l q (by simpa using hq); ⟨i, by omega, b⟩, kk⟩
      | lst _ _ => cases so
      | ins _ _ => cases so
    · rename_i hc
      have hk : k ∉ R := by simpa using hc
      split at h
      · rename_i o' e
        obtain ⟨v', hv', r'⟩ := w.rep k o' e
        have q := p _ (hp 0 v (by simp) (by simpa using hk))
        have q' : σ[k]? = some (some v) := by simpa using q
        rw [hv'] at q'
        have e1 := Option.some.inj (Option.some.inj q')
        subst e1
        obtain ⟨os', f, ro, nd, l, kk⟩ := out_ok w p s rs hR' hp' h
        refine ⟨_, F k ++ f, .cons r' ro, List.nodup_append.mpr ⟨w.nd k, nd, fun a ha b hb e => ?_⟩, fun q hq => ?_, kk⟩
        · subst e
          obtain ⟨i, li, hi⟩ := l a hb
          have := w.dj k i a ha hi
          omega
        · rcases List.mem_append.mp hq with z | z
          · exact ⟨k, Nat.le_refl _, z⟩
          · obtain ⟨i, a, b⟩ := l q z
            exact ⟨i, by omega, b⟩
      · exact h.elim
end
/-- the parameters that stay -/
def stay (R : List Nat) (np : Nat) : List Nat := (List.range np).filter fun k => !R.contains k
section
variable {P : Program} {w : World} {K : PySem.W.Frag} {mg : Str → Option Value} {base : Heap} {x qual : Str} {params : Arguments} {body : List Stmt} {scope : Scope} {dvs : List V} {kws : List (Str × V)} {f : Addr} {fd : FuncData}
theorem body_core {X : Cx} {T : Tb} {N ps : List Str} {R : List Nat} {g : DS} {body : List Stmt} {vs : List V} {H : Hp} {Q : VK} {E : XK} (hT : T.flo = fun _ => none) (hT2 : T.pin = []) (hle : ps.length ≤ N.length) (hb : SSs T X (fun cls d _ H' => E cls d H') (stay R ps.length) g body) (h : spS T (bodyS N.length R ps.length g) vs H Q E) :
    ∃ t, PSs X body t ∧ t { nx := fun _ H' => Q .non H', rt := Q } (L2.start N vs) H := by
  obtain ⟨C, os, fo, KR, KE, sub, ro, nd, ot, ⟨hl, hR, hg⟩, hq, hx⟩ := h
  have hv : vs.length = ps.length := by rw [← ro.length]; exact hl
  let pn : List (Nat × Option V) := (List.range ps.length).filterMap fun i => if R.contains i then none else some (i, vs[i]?)
  have hpn : ∀ q ∈ pn, q.1 ∈ stay R ps.length ∧ q.2 = vs[q.1]? := fun q hq => by
    obtain ⟨i, hi, e⟩ := List.mem_filterMap.mp hq
    split at e
    · cases e
    · rename_i hc
      cases e
      exact ⟨List.mem_filter.mpr ⟨hi, by simpa using hc⟩, rfl⟩
  refine ⟨PreS T (fun cls d _ H' => E cls d H') pn g, hb pn ⟨fun q hq => (hpn q hq).1, fun q hq => by rw [hT2] at hq; simp at hq⟩, ?_⟩
  obtain ⟨F0, a1, a2, a3, a4, a5⟩ := orep_ft ro nd
  have st : ∀ i, i < vs.length → (L2.start N vs)[i]? = some (vs[i]?) := fun i hi => by
    unfold L2.start
    rw [List.getElem?_append_left (by simpa using hi), List.getElem?_map]
    simp [hi]
  have w0 : Wd T C H (os.map some ++ List.replicate (N.length - ps.length) none) (L2.start N vs) F0 := by
    refine ⟨by rw [hT]; exact fun a o e => by (cases e), fun q hq => by (rw [hT2] at hq; simp at hq), sub, ?_, fun i o e => ?_, fun i h => ?_, a3, a4, fun i p hp => ot p (a5 i p hp)⟩
    · unfold L2.start
      simp [hl, hv]
    · have hi : i < os.length := by
        by_cases z : i < os.length
        · exact z
        · rw [List.getElem?_append_right (by simpa using z)] at e
          have := List.mem_of_getElem? e
          have := List.eq_of_mem_replicate this
          cases this
      rw [List.getElem?_append_left (by simpa using hi), List.getElem?_map] at e
      have e' : os[i]? = some o := by simpa [hi] using e
      obtain ⟨v, hv', r⟩ := a1 i o e'
      exact ⟨v, by rw [st i (by rw [hv, ← hl]; exact hi), hv'], r⟩
    · by_cases z : i < os.length
      · exact absurd (by rw [List.getElem?_append_left (by simpa using z), List.getElem?_map]; simp [z]) (h (os[i]))
      · exact a2 i (by omega)
  have p0 : Pin pn (L2.start N vs) := fun q hq => by
    obtain ⟨m, e⟩ := hpn q hq
    have lt : q.1 < vs.length := by
      have := (List.mem_filter.mp m).1
      rw [hv]; simpa using this
    rw [e]; exact st q.1 lt
  have hR' : ∀ j ∈ R, 0 ≤ j → ∀ o, os[j - 0]? = some o → shO o = true := fun j hj _ o e => hR j hj o (by simpa using e)
  have hpin : ∀ j v, vs[j]? = some v → (0 + j) ∉ R → (0 + j, some v) ∈ pn := fun j v e hn => by
    have lt : j < ps.length := by rw [← hv]; exact (List.getElem?_eq_some_iff.mp e).1
    refine List.mem_filterMap.mpr ⟨0 + j, by simpa using lt, ?_⟩
    have : R.contains (0 + j) = false := by simpa using hn
    rw [if_neg (by rw [this]; exact Bool.false_ne_true)]
    simp [e]
  have own0 : ∀ q, Own F0 q → q ∈ fo := fun q ⟨i, hi⟩ => a5 i q hi
  refine ⟨C, _, F0, _, w0, p0, hg, ⟨fun C' H' E' σ' F' w' p' fr k' => ?_, fun C' H' E' σ' F' o v g' w' p' r nd' ot' fr k' => ?_, fun _ _ _ _ _ _ _ _ h => h.elim, fun _ _ _ _ _ _ _ _ h => h.elim, fun C' H' E' σ' F' e cls d w' p' fr er k' => ?_⟩⟩
  · obtain ⟨os', f', ro', nf', lf, kk⟩ := out_ok w' p' fr.cl ro hR' hpin k'
    refine hq C' H' (.sh .non) .non [] os' f' w'.sub (.sh .non) ro' (by simpa using nf') (fun q hq => ?_) (fr.weak own0 fun q hq => ?_) kk
    · obtain ⟨i, _, hi⟩ := lf q (by simpa using hq)
      exact w'.out i q hi
    · obtain ⟨i, _, hi⟩ := lf q (by simpa using hq)
      exact ⟨i, hi⟩
  · obtain ⟨os', f', ro', nf', lf, kk⟩ := out_ok w' p' fr.cl ro hR' hpin k'
    refine hq C' H' o v g' os' f' w'.sub r ro' (List.nodup_append.mpr ⟨nf', nd', fun a ha b hb e => ?_⟩) (fun q hq => ?_) (fr.weak own0 fun q hq => ?_) kk
    · subst e
      obtain ⟨i, _, hi⟩ := lf a ha
      exact (ot' a hb).2 ⟨i, hi⟩
    · rcases List.mem_append.mp hq with z | z
      · obtain ⟨i, _, hi⟩ := lf q z
        exact w'.out i q hi
      · exact (ot' q z).1
    · rcases List.mem_append.mp hq with z | z
      · obtain ⟨i, _, hi⟩ := lf q z
        exact .inl ⟨i, hi⟩
      · exact .inr z
  · obtain ⟨os', f', ro', nf', lf, kk⟩ := out_ok w' p' fr.cl ro hR' hpin k'
    refine hx C' H' e cls d os' f' w'.sub ro' nf' (fun q hq => ?_) (fr.weak own0 fun q hq => ?_) er kk
    · obtain ⟨i, _, hi⟩ := lf q hq
      exact w'.out i q hi
    · obtain ⟨i, _, hi⟩ := lf q hq
      exact ⟨i, hi⟩
theorem fn_body {T : Tb} {N ps : List Str} {k : Nat} {R : List Nat} {g : DS} (F : FunD K x qual params body scope dvs kws f fd) (S : FnScope N ps scope) (hT : T.flo = fun _ => none) (hT2 : T.pin = []) (hle : ps.length ≤ N.length)
    (hb : ∀ (cdv : Value) (A : Around) (outer : List PySem.Env) (s : Shared) (H : Hp) (E : XK), Room k (A.deeper (envOfC qual scope s.heap.objs.size f cdv)) →
      SSs T (cxOf (L2.CX P w) P w K mg base N qual scope f cdv A outer s H E) (fun cls d _ H' => E cls d H') (stay R ps.length) g body) :
    FnOk P w K mg base (L2.CX P w) (k + 1) f fd ps (spS T (bodyS N.length R ps.length g)) :=
  F.ok S (fun vs H Q E ⟨C, os, fo, KR, KE, _, r, _, _, ⟨hl, _⟩, _⟩ => by rw [← r.length]; exact hl) fun cdv A outer s H vs Q E hr h => body_core hT hT2 hle (hb cdv A outer s H E hr) h
end
/-- a wider promise -/
theorem spS_imp {T : Tb} {S S' : Spec} (h : ∀ os KR KE, S' os KR KE → S os KR KE) {vs : List V} {H : Hp} {Q : VK} {E : XK} (k : spS T S' vs H Q E) : spS T S vs H Q E :=
  let ⟨C, os, f, KR, KE, a, b, c, d, e, g⟩ := k
  ⟨C, os, f, KR, KE, a, b, c, d, h os KR KE e, g⟩
/-- the arguments' inner places are given up at the call -/
def flatS (S : Spec) : Spec := fun os KR KE => S (os.map O.flat) KR KE
theorem flatL {T : Tb} {C H : Hp} : ∀ {os : List O} {vs : List V} {f : List Addr}, ORepL T C H os vs f → f.Nodup → ∃ g, (∀ p ∈ g, p ∈ f) ∧ g.Nodup ∧ ∀ C', Sub C C' → (∀ p ∈ f, p ∉ g → ∀ u, H p = some u → C' p = some u) → ORepL T C' H (os.map O.flat) vs g
  | _, _, _, .nil, _ => ⟨[], fun _ h => h, List.nodup_nil, fun _ _ _ => .nil⟩
  | _, _, _, .cons (f := f1) (g := f2) (o := o) (v := v1) h r, nd => by
    obtain ⟨n1, n2, n3⟩ := List.nodup_append.mp nd
    obtain ⟨g, lg, ng, k⟩ := flatL r n2
    have hd : ∃ g1, (∀ p ∈ g1, p ∈ f1) ∧ g1.Nodup ∧ ∀ C', Sub C C' → (∀ p ∈ f1, p ∉ g1 → ∀ u, H p = some u → C' p = some u) → ORep T C' H o.flat v1 g1 := by
      cases h with
      | sh r => exact ⟨[], fun _ h => by simp at h, List.nodup_nil, fun C' s _ => .sh (r.mono s)⟩
      | @lst p vs os fl hp r =>
        obtain ⟨np, nf⟩ := List.nodup_cons.mp n1
        refine ⟨[p], fun q hq => by rw [List.mem_singleton] at hq; subst hq; exact List.mem_cons_self, by simp, fun C' s hk => ?_⟩
        have q := ORepL.close s r fun q hq u hu => hk q (List.mem_cons_of_mem _ hq) (fun z => by rw [List.mem_singleton] at z; subst z; exact np hq) u hu
        rw [viewL_map] at q
        have := ORep.lst hp (ORepL.shs q)
        simpa [O.flat, List.map_map, Function.comp_def] using this
      | @ins p dx c fs os fl hp r =>
        obtain ⟨np, nf⟩ := List.nodup_cons.mp n1
        refine ⟨[p], fun q hq => by rw [List.mem_singleton] at hq; subst hq; exact List.mem_cons_self, by simp, fun C' s hk => ?_⟩
        have q := ORepF.close s r fun q hq u hu => hk q (List.mem_cons_of_mem _ hq) (fun z => by rw [List.mem_singleton] at z; subst z; exact np hq) u hu
        rw [viewF_map] at q
        have := ORep.ins hp (ORepF.shs q)
        simpa [O.flat, List.map_map, Function.comp_def] using this
    obtain ⟨g1, lg1, ng1, k1⟩ := hd
    refine ⟨g1 ++ g, fun p hp => (List.mem_append.mp hp).elim (fun z => List.mem_append_left _ (lg1 p z)) fun z => List.mem_append_right _ (lg p z), List.nodup_append.mpr ⟨ng1, ng, fun a ha b hb => n3 a (lg1 a ha) b (lg b hb)⟩, fun C' s hk => ?_⟩
    refine .cons (k1 C' s fun p hp np u hu => hk p (List.mem_append_left _ hp) (fun z => (List.mem_append.mp z).elim np fun y => n3 p hp p (lg p y) rfl) u hu) (k C' s fun p hp np u hu => hk p (List.mem_append_right _ hp) (fun z => (List.mem_append.mp z).elim (fun y => n3 p (lg1 p y) p hp rfl) np) u hu)
theorem spS_flat {T : Tb} {S : Spec} {vs : List V} {H : Hp} {Q : VK} {E : XK} (k : spS T (flatS S) vs H Q E) : spS T S vs H Q E := by
  obtain ⟨C, os, f, KR, KE, sub, ro, nd, ot, hs, hq, hx⟩ := k
  obtain ⟨g, lg, ng, k⟩ := flatL ro nd
  let S' := f.filter fun p => decide (p ∉ g)
  have hS : ∀ p, p ∈ S' ↔ p ∈ f ∧ p ∉ g := fun p => by simp [S']
  have r2 := k (cl C H S') (cl_sub sub) fun p hp np u hu => cl_at ((hS p).mpr ⟨hp, np⟩) hu
  have fr : Fr C H (· ∈ f) (cl C H S') H (· ∈ g) := Fr.close sub (fun p hp => ((hS p).mp hp).1) lg
  refine ⟨cl C H S', _, g, KR, KE, cl_le sub, r2, ng, fun p hp => by rw [cl_out fun z => ((hS p).mp z).2 hp]; exact ot p (lg p hp), hs, ?_, ?_⟩
  · exact fun C' H' o v g' os' f' s r ro' nd' ot' fr' kk => hq C' H' o v g' os' f' s r ro' nd' ot' (fr.trans fr' fun _ z => z) kk
  · exact fun C' H' e cls d os' f' s ro' nd' ot' fr' er kk => hx C' H' e cls d os' f' s ro' nd' ot' (fr.trans fr' fun _ z => z) er kk

/-! ### an exception's own __init__: fields stored, one after the other -/
def spI (C : Addr) (ns : List Str) : Sp := fun vs H Q _ => ∃ (a : Addr) (ws : List V), vs = .ref a :: ws ∧ ws.length = ns.length ∧ H a = some (exo a C none) ∧
  ∀ dx fs, H dx = none → dx ≠ a → (∀ (i : Nat) (n : Str) (v : V), ns[i]? = some n → ws[i]? = some v → fs.lookup n = some v) → Q .non (upd (upd H dx (exd dx fs)) a (exo a C (some dx)))
inductive InitBody : List (Str × Str) → List Stmt → Prop
  | nil : InitBody [] []
  | cons {f q : Str} {p1 p2 p3 p4 : Pos} {l : List (Str × Str)} {b : List Stmt} (h : InitBody l b) : InitBody ((f, q) :: l) (.Assign [.Attribute (.Name "self" p1) f p2] (.Name q p3) p4 :: b)
def tInit (K : PySem.W.Frag) : List (Str × Nat) → TS
  | [] => tNext
  | (f, i) :: l => tSeq (tOst K f (tVar 0) (tVar i)) (tInit K l)
end Pv

set_option Elab.async false
set_option linter.all false
set_option maxRecDepth 100000
set_option maxHeartbeats 4000000
set_option autoImplicit false
/-! PvK: exceptions: made, raised, caught. -/
namespace Pv
open PySem PySem.Spec PyProof.Rows L2

section
variable {P : Program} {w : World} {K : PySem.W.Frag} {mg : Str → Option Value} {base : Heap}
theorem swap_name {x : Str} {p : Pos} {t : Option Expr} {l : Nat} {env : PySem.Env} : swapsWith (.Name x p) t l env = pure false := rfl
/-- the places of the stores: the j-th one reads slot o + j -/
theorem init_run {X : Cx} {C : Addr} (hK : X.K = K) (T : OexC K C) (h0 : X.N[0]? = some ("self" : Str)) (v0 : Vis X.env.scope "self") : ∀ {l : List (Str × Str)} {b : List Stmt} (o : Nat), InitBody l b → (∀ j f q, l[j]? = some (f, q) → X.N[o + j]? = some q ∧ Vis X.env.scope q ∧ (q == ("__debug__" : Str)) = false ∧ (q == ("__classdict__" : Str)) = false) →
    ∃ t, PSs X b t ∧ ∀ (D : Ends) (σ : L2.St) (H H' : Hp) (a : Addr) (ws : List V) (fs : List (Str × V)), σ[0]? = some (some (.ref a)) → ws.length = l.length → (∀ j v, ws[j]? = some v → σ[o + j]? = some (some v)) → (∀ f q, (f, q) ∈ l → PySem.W.findIn K (.ref C) f = some none) → l.length + fs.length ≤ 900 →
      ((H a = some (exo a C none) ∧ H' = H ∧ fs = [] ∧ l ≠ []) ∨ ∃ dx, H' = upd (upd H dx (exd dx fs)) a (exo a C (some dx)) ∧ dx ≠ a ∧ H dx = none) →
      (∀ dx, dx ≠ a → H dx = none → D.nx σ (upd (upd H dx (exd dx ((((l.map (·.1)).zip ws).reverse) ++ fs))) a (exo a C (some dx)))) → t D σ H'
  | [], _, o, .nil, _ => ⟨tNext, pss_nil, fun D σ H H' a ws fs _ hw _ _ _ h k => by
      rcases h with ⟨_, _, _, e⟩ | ⟨dx, rfl, ne, n⟩
      · exact absurd rfl e
      · have : ws = [] := List.length_eq_zero_iff.mp hw
        subst this
        have := k dx ne n
        show D.nx σ _
        simpa using this⟩
  | (f, q) :: l, _, o, .cons (p1 := p1) (p2 := p2) (p3 := p3) (p4 := p4) (b := b) hb, hl => by
    obtain ⟨t, ht, kt⟩ := init_run hK T h0 v0 (o + 1) hb fun j f' q' e => by
      have := hl (j + 1) f' q' (by simpa using e)
      have e2 : o + (j + 1) = o + 1 + j := by omega
      rw [e2] at this
      exact this
    obtain ⟨a1, a2, a3, a4⟩ := hl 0 f q (by simp)
    refine ⟨_, pss_cons (ps_ost (pe_var h0 v0) (pe_var (i := o) (by simpa using a1) a2 a3 a4)) ht, fun D σ H H' a ws fs hs hw hσ hf hz h k => ?_⟩
    cases ws with
    | nil => simp at hw
    | cons y ws =>
      refine ⟨y, by simpa using hσ 0 y (by simp), .ref a, hs, a, C, rfl, by rw [hK]; exact T, by rw [hK]; exact hf f q List.mem_cons_self, ?_⟩
      have hσ' : ∀ j v, ws[j]? = some v → σ[o + 1 + j]? = some (some v) := fun j v e => by
        have := hσ (j + 1) v (by simpa using e)
        have e2 : o + (j + 1) = o + 1 + j := by omega
        rw [e2] at this
        exact this
      have hf' : ∀ f' q', (f', q') ∈ l → PySem.W.findIn K (.ref C) f' = some none := fun f' q' m => hf f' q' (List.mem_cons_of_mem _ m)
      have hz' : l.length + ((f, y) :: fs).length ≤ 900 := by simp at hz ⊢; omega
      have k' : ∀ dx, dx ≠ a → H dx = none → D.nx σ (upd (upd H dx (exd dx ((((l.map (·.1)).zip ws).reverse) ++ ((f, y) :: fs)))) a (exo a C (some dx))) := fun dx ne n => by
        have := k dx ne n
        simpa using this
      rcases h with ⟨e, rfl, rfl, _⟩ | ⟨dx, rfl, ne, n⟩
      · refine .inl ⟨e, fun dx n ne => ?_⟩
        exact kt D σ H' _ a ws [(f, y)] hs (by simpa using hw) hσ' hf' hz' (.inr ⟨dx, rfl, ne, n⟩) k'
      · refine .inr ⟨dx, fs, by rw [upd_same], by rw [upd_ne ne, upd_same], by simp at hz; omega, ?_⟩
        have e : upd (upd (upd H dx (exd dx fs)) a (exo a C (some dx))) dx (exd dx ((f, y) :: fs)) = upd (upd H dx (exd dx ((f, y) :: fs))) a (exo a C (some dx)) := by
          funext z
          by_cases z1 : z = dx
          · subst z1; rw [upd_same, upd_ne ne, upd_same]
          · rw [upd_ne z1]
            by_cases z2 : z = a
            · subst z2; rw [upd_same, upd_same]
            · rw [upd_ne z2, upd_ne z2, upd_ne z1, upd_ne z1]
        rw [e]
        exact kt D σ H _ a ws ((f, y) :: fs) hs (by simpa using hw) hσ' hf' hz' (.inr ⟨dx, rfl, ne, n⟩) k'
theorem zip_lookup {ns : List Str} : ∀ {ws : List V}, ns.Nodup → ∀ (i : Nat) (n : Str) (v : V), ns[i]? = some n → ws[i]? = some v → (ns.zip ws).reverse.lookup n = some v := by
  intro ws nd i n v h1 h2
  have m : (n, v) ∈ (ns.zip ws).reverse := by
    rw [List.mem_reverse]
    refine List.mem_iff_getElem?.mpr ⟨i, ?_⟩
    rw [List.getElem?_zip_eq_some]
    exact ⟨h1, h2⟩
  have uq : ∀ (l : List (Str × V)), (l.map (·.1)).Nodup → (n, v) ∈ l → l.lookup n = some v := by
    intro l
    induction l with
    | nil => intro _ h; simp at h
    | cons p l ih =>
      obtain ⟨a, b⟩ := p
      intro hn hm
      rw [List.lookup_cons]
      obtain ⟨hn1, hn2⟩ := List.nodup_cons.mp (by simpa using hn : (a :: l.map (·.1)).Nodup)
      rcases List.mem_cons.mp hm with e | hm
      · cases e; simp
      · have ne : n ≠ a := fun e => hn1 (by rw [← e]; exact List.mem_map.mpr ⟨(n, v), hm, rfl⟩)
        have : (n == a) = false := by simpa using ne
        rw [this]
        exact ih hn2 hm
  refine uq _ ?_ m
  rw [List.map_reverse]
  have key : ((ns.zip ws).map (·.1)).Nodup := by
    have : ∀ (ns : List Str) (ws : List V), ns.Nodup → ((ns.zip ws).map (·.1)).Nodup := by
      intro ns
      induction ns with
      | nil => intro ws _; simp
      | cons a ns ih =>
        intro ws h
        cases ws with
        | nil => simp
        | cons b ws =>
          obtain ⟨h1, h2⟩ := List.nodup_cons.mp h
          rw [List.zip_cons_cons, List.map_cons]
          refine List.nodup_cons.mpr ⟨fun m => ?_, ih ws h2⟩
          obtain ⟨⟨x, y⟩, mm, rfl⟩ := List.mem_map.mp m
          exact h1 (List.of_mem_zip mm).1
    exact this ns ws nd
  exact (List.reverse_perm _).nodup_iff.mpr key
/-- such an __init__ -/
theorem init_ok {x qual : Str} {params : Arguments} {body : List Stmt} {scope : Scope} {f : Addr} {fd : FuncData} {N ns qs : List Str} {C : Addr} (F : FunD K x qual params body scope [] [] f fd) (S : FnScope N ("self" :: qs) scope) (hb : InitBody (ns.zip qs) body) (hl : ns.length = qs.length)
    (hne : ns ≠ []) (hnd : ns.Nodup) (hlen : ns.length ≤ 900) (T : OexC K C) (hno : ∀ n ∈ ns, PySem.W.findIn K (.ref C) n = some none) (hq : ∀ q ∈ qs, (q == ("__debug__" : Str)) = false ∧ (q == ("__classdict__" : Str)) = false) (k : Nat) :
    FnOk P w K mg base (L2.CX P w) (k + 1) f fd ("self" :: qs) (spI C ns) := by
  refine F.ok S (fun vs H Q E ⟨a, ws, e, l, _⟩ => by rw [e, List.length_cons, List.length_cons, l, hl]) fun cdv A outer s H vs Q E hr ⟨a, ws, e, lw, ha, kq⟩ => ?_
  subst e
  have pre : ∀ (i : Nat) (p : Str), (("self" : Str) :: qs)[i]? = some p → N[i]? = some p := fun i p h => by
    have lt : i < (("self" : Str) :: qs).length := (List.getElem?_eq_some_iff.mp h).1
    have e : (N.take (("self" : Str) :: qs).length)[i]? = some p := by rw [S.pre]; exact h
    rw [List.getElem?_take] at e
    rw [if_pos lt] at e
    exact e
  have vis : ∀ p ∈ (("self" : Str) :: qs), Vis scope p := fun p hp => (S.par p hp).elim .inl fun z => .inr (.inl z)
  obtain ⟨t, ht, kt⟩ := init_run (X := cxOf (L2.CX P w) P w K mg base N qual scope f cdv A outer s H E) (K := K) rfl T (pre 0 "self" rfl) (vis _ List.mem_cons_self) 1 hb fun j f' q' e => by
    have e2 : qs[j]? = some q' := (List.getElem?_zip_eq_some.mp e).2
    refine ⟨pre (1 + j) q' (by rw [Nat.add_comm]; simpa using e2), vis q' (List.mem_cons_of_mem _ (List.mem_of_getElem? e2)), ?_⟩
    exact hq q' (List.mem_of_getElem? e2)
  refine ⟨t, ht, kt _ _ H H a ws [] ?_ ?_ (fun j v e => ?_) (fun f' q' m => hno f' (List.of_mem_zip m).1) ?_ (.inl ⟨ha, rfl, rfl, fun e => ?_⟩) fun dx ne n => ?_⟩
  · unfold L2.start; simp
  · rw [List.length_zip, lw, hl]; simp
  · unfold L2.start
    have : j < ws.length := (List.getElem?_eq_some_iff.mp e).1
    rw [List.getElem?_append_left (by simp; omega), List.getElem?_map]
    have e3 : (V.ref a :: ws)[1 + j]? = some v := by rw [Nat.add_comm]; simpa using e
    rw [e3]; rfl
  · simp; omega
  · have h1 : (ns.zip qs).length = 0 := by rw [e]; rfl
    rw [List.length_zip, hl] at h1
    have h2 : qs.length = 0 := by omega
    rw [← hl] at h2
    exact hne (List.length_eq_zero_iff.mp h2)
  · rw [List.append_nil]
    refine kq dx _ n ne fun i n' v h1 h2 => ?_
    have e : (ns.zip qs).map (·.1) = ns := by
      have : ∀ (ns qs : List Str), ns.length = qs.length → (ns.zip qs).map (·.1) = ns := by
        intro ns
        induction ns with
        | nil => intro qs _; simp
        | cons a ns ih =>
          intro qs h
          cases qs with
          | nil => simp at h
          | cons b qs => rw [List.zip_cons_cons, List.map_cons, ih qs (by simpa using h)]
      exact this ns qs hl
    rw [e]
    exact zip_lookup hnd i n' v h1 h2
end

/-! ### raise C(e, ..) -/
def sRaise (c : Nat) (ks : List Nat) (fs : DA) : DS := fun E K => fs E (fun as E1 => capOs E1 as fun os E2 => os.length = ks.length ∧ K.ex ⟨c, ks.zip (os.map O.view)⟩ E2) K.ex
theorem lookup_zip {ks : List Nat} : ∀ {ds : List D} {k : Nat} {d : D}, (ks.zip ds).lookup k = some d → ∃ i : Nat, ks[i]? = some k ∧ ds[i]? = some d := by
  induction ks with
  | nil => intro ds k d h; simp at h
  | cons a ks ih =>
    intro ds k d h
    cases ds with
    | nil => simp at h
    | cons b ds =>
      rw [List.zip_cons_cons, List.lookup_cons] at h
      by_cases e : k = a
      · subst e
        simp at h
        subst h
        exact ⟨0, rfl, rfl⟩
      · have : (k == a) = false := by simpa using e
        rw [this] at h
        obtain ⟨i, h1, h2⟩ := ih h
        exact ⟨i + 1, by simpa using h1, by simpa using h2⟩
section
variable {X : Cx} {T : Tb} {W : WX} {ks : List Nat} {fs : DA} {e : Expr} {es : List Expr} {x : Str} {p pos pos2 : Pos} {c : Nat} {fk : List Nat} {ns : List Str} {fI : Addr} {k : Nat} {fd : FuncData} {ps : List Str}
theorem ss_raise (hK : X.K = T.K) (hc : X.calm = true) (tk : Takes X W) (hns : fk.map (fun j => T.nm[j]?) = ns.map some) (TC : OexC X.K (T.ca c)) (iC : PySem.W.findIn X.K (.ref (T.ca c)) "__init__" = some (some (.ref fI))) (tI : PySem.W.typeIn X.K (.ref fI) = some (.type "function"))
    (F1 : FnOk X.prog X.w X.K X.mg X.base (L2.CX X.prog X.w) k fI fd ps (spI (T.ca c) ns)) (hr : Room (k + 1) X.A) (hb : Binds X.K fd ps []) (hg : Gl X x) (hm : X.mg x = some (.ref (T.ca c))) (ha : SA T X W fs (e :: es)) (hsm : fk.length ≤ 900)
    (hdb : (x == ("__debug__" : Str)) = false) (he : starEach (e :: es) X.env = (false, eval e X.env) :: starEach es X.env) (hpl : (backTo pos (starEach es X.env)).any (·.1) = false) :
    SS T X W ks (sRaise c fk fs) (.Raise (some (.Call (.Name x p) (e :: es) [] pos)) none pos2) := fun pn hp =>
  (ps_raise hc tk (pmk_oex TC iC tI F1 hr hb .nil (fun pins σ H s e s' I h => passL pins σ H s e s' I h) hg hm ha hdb he hpl)).imp fun D σ H ⟨C, E, F, K, w, p, kk, q⟩ => by
    have hlen : ns.length = fk.length := by
      have := congrArg List.length hns
      simpa using this.symm
    refine ⟨C, E, F, _, _, w, kk, fun C1 H1 E1 F1' as vs f1 x1 k1 => ?_, q.xc p⟩
    obtain ⟨C2, E2, F2, os, w2, ro, ⟨sz, k2⟩, fr2, s2, n2⟩ := caps_ok x1.wd x1.al x1.ot k1
    have lv : vs.length = ns.length := by rw [← ro.length, sz, hlen]
    refine ⟨by omega, fun a na => ⟨a, vs, by simp, lv, upd_same, fun dx gs nd ne hl => ?_⟩⟩
    have hne : dx ≠ a := ne
    have ndH : H1 dx = none := by rw [← nd, upd_ne hne]
    refine ⟨rfl, dx, gs, upd_same, by rw [upd_ne hne, upd_same], ndH, ?_⟩
    -- the exception's own object is out of sight again
    have eH : upd (del (upd (upd (upd H1 a (exo a (T.ca c) none)) dx (exd dx gs)) a (exo a (T.ca c) (some dx))) a) dx (.xd gs) = upd H1 dx (.xd gs) := by
      funext z
      by_cases z1 : z = dx
      · subst z1; rw [upd_same, upd_same]
      · rw [upd_ne z1, upd_ne z1]
        by_cases z2 : z = a
        · subst z2; rw [del_same]; exact na.symm
        · rw [del_ne z2, upd_ne z2, upd_ne z1, upd_ne z2]
    rw [eH]
    -- the arguments' own places are given up, the dict is data
    have ot2 : ∀ r ∈ f1, C2 r = none ∧ ¬ Own F2 r := fun r hr => ⟨by rw [n2 r (x1.ot r hr).2]; exact (x1.ot r hr).1, fun z => (x1.ot r hr).2 (s2 r z)⟩
    have w3 : Wd T (cl C2 H1 f1) H1 E2 σ F2 := w2.move (cl_sub w2.sub) (cl_le w2.sub) (fun _ _ _ e => e) fun r hr => by
      rw [cl_out fun z => (ot2 r z).2 hr]
      obtain ⟨i, hi⟩ := hr
      exact w2.out i r hi
    have rl : RepL T (cl C2 H1 f1) (os.map O.view) vs := by
      rw [← viewL_map]
      exact ORepL.close (cl_sub w2.sub) ro fun r hr u hu => cl_at hr hu
    have gr : Grow (cl C2 H1 f1) H1 (upd (cl C2 H1 f1) dx (.xd gs)) (upd H1 dx (.xd gs)) [] := Grow.tup w3.sub ndH
    have fr3 : Fr C H (Own F) (cl C2 H1 f1) H1 (Own F2) := (x1.fr.side fr2).trans (Fr.close (a := fun p => Own F2 p ∨ p ∈ f1) (b := Own F2) w2.sub (fun r hr => .inr hr) fun r hr => .inl hr) fun _ z => z
    refine q.ex _ _ E2 σ F2 _ _ _ (w3.grow gr) p (fr3.trans (gr.fr (own' := Own F2) fun _ z => .inl z) fun _ z => z) ⟨rfl, .inr ⟨dx, gs, rfl, upd_same, fun j d ej => ?_⟩⟩ k2
    obtain ⟨i, h1, h2⟩ := lookup_zip ej
    obtain ⟨v, hv, rv⟩ := rl.get h2
    have hn : (fk.map (fun j => T.nm[j]?))[i]? = some (T.nm[j]?) := by rw [List.getElem?_map, h1]; rfl
    rw [hns, List.getElem?_map] at hn
    cases en : ns[i]? with
    | none => rw [en] at hn; cases hn
    | some n =>
      rw [en] at hn
      have : T.nm[j]? = some n := (Option.some.inj hn).symm
      exact ⟨n, v, this, hl i n v en hv, rv.mono gr.c⟩
end
end Pv

set_option Elab.async false
set_option linter.all false
set_option maxRecDepth 100000
set_option maxHeartbeats 4000000
set_option autoImplicit false
/-! PvL: try. -/
namespace Pv
open PySem PySem.Spec PyProof.Rows L2

/-- another floor, other pins -/
def Tb.re (T : Tb) (f : Hp) (p : List (Nat × V)) : Tb := { T with flo := f, pin := p }
structure Like (T U : Tb) : Prop where
  K : U.K = T.K
  nm : U.nm = T.nm
  ca : U.ca = T.ca
theorem Tb.re_like {T : Tb} {f : Hp} {p : List (Nat × V)} : Like T (T.re f p) := ⟨rfl, rfl, rfl⟩
theorem Like.symm {T U : Tb} (h : Like T U) : Like U T := ⟨h.K.symm, h.nm.symm, h.ca.symm⟩
section
variable {T U : Tb} {C H : Hp}
mutual
theorem Rep.like (h : Like T U) : ∀ {d : D} {v : V}, Rep T C d v → Rep U C d v
  | _, _, .non => .non
  | _, _, .bl b => .bl b
  | _, _, .int i => .int i
  | _, _, .str x => .str x
  | _, _, .tup q r => .tup (by rw [h.K]; exact q) (RepL.like h r)
  | _, _, .lst q r => .lst (by rw [h.K]; exact q) (RepL.like h r)
  | _, _, .ins q r => .ins (by rw [h.ca]; exact q) (RepF.like h r)
  | _, _, .dic q => .dic q
theorem RepL.like (h : Like T U) : ∀ {ds : List D} {vs : List V}, RepL T C ds vs → RepL U C ds vs
  | _, _, .nil => .nil
  | _, _, .cons q r => .cons (Rep.like h q) (RepL.like h r)
theorem RepF.like (h : Like T U) : ∀ {ds : List (Nat × D)} {vs : List (Str × V)}, RepF T C ds vs → RepF U C ds vs
  | _, _, .nil => .nil
  | _, _, .cons n q r => .cons (by rw [h.nm]; exact n) (Rep.like h q) (RepF.like h r)
end
mutual
theorem ORep.like (h : Like T U) : ∀ {o : O} {v : V} {f : List Addr}, ORep T C H o v f → ORep U C H o v f
  | _, _, _, .sh r => .sh (r.like h)
  | _, _, _, .lst q r => .lst q (ORepL.like h r)
  | _, _, _, .ins q r => .ins (by rw [h.ca]; exact q) (ORepF.like h r)
theorem ORepL.like (h : Like T U) : ∀ {o : List O} {v : List V} {f : List Addr}, ORepL T C H o v f → ORepL U C H o v f
  | _, _, _, .nil => .nil
  | _, _, _, .cons q r => .cons (ORep.like h q) (ORepL.like h r)
theorem ORepF.like (h : Like T U) : ∀ {o : List (Nat × O)} {v : List (Str × V)} {f : List Addr}, ORepF T C H o v f → ORepF U C H o v f
  | _, _, _, .nil => .nil
  | _, _, _, .cons n q r => .cons (by rw [h.nm]; exact n) (ORep.like h q) (ORepF.like h r)
end
theorem ERep.like (h : Like T U) {e : Er} {cls : Value} {d : Option Addr} (r : ERep T C e cls d) : ERep U C e cls d :=
  ⟨by rw [h.ca]; exact r.cls, r.fs.elim .inl fun ⟨dd, fs, a, b, c⟩ => .inr ⟨dd, fs, a, b, fun k x q => let ⟨n, v, q1, q2, q3⟩ := c k x q; ⟨n, v, by rw [h.nm]; exact q1, q2, q3.like h⟩⟩⟩
theorem Wd.like {E : Env} {σ : St} {F : Ft} (h : Like T U) (w : Wd T C H E σ F) (hf : Sub U.flo C) (hp : ∀ q ∈ U.pin, σ[q.1]? = some (some q.2)) : Wd U C H E σ F :=
  ⟨hf, hp, w.sub, w.len, fun i o e => let ⟨v, e1, r⟩ := w.rep i o e; ⟨v, e1, r.like h⟩, w.emp, w.nd, w.dj, w.out⟩
end
/-- a wish that is never used -/
def W0 : WX := fun _ _ _ _ => True
theorem _root_.L2.PSs.some_ {α : Type} {X : Cx} {e : List Stmt} {t : α → TS} (h : ∀ a, PSs X e (t a)) : PSs X e (fun D σ H => ∃ a, t a D σ H) := ⟨fun pins s σ H D I ⟨a, q⟩ => (h a).run pins s σ H D I q⟩

/-! ### try: g, except .. as slot i: h -/
def sTryAs (i : Nat) (m : Nat → Option Bool) (g : DS) (h : Er → DS) : DS := fun E K => g E { K with ex := fun e E1 => match m e.c with
  | some true => i < E1.length ∧ h e (E1.set i none) { nx := fun E2 => K.nx (E2.set i none), rt := K.rt, bk := fun E2 => K.bk (E2.set i none), ct := fun E2 => K.ct (E2.set i none), ex := fun _ _ => False }
  | some false => K.ex e E1
  | none => False }
/-- what an except suite knows -/
structure Su (T : Tb) (i : Nat) (e : Er) (a : Addr) (cls : Value) (d : Option Addr) (U : Tb) : Prop where
  li : Like T U
  er : ERep U U.flo e cls d
  pin : (i, V.ref a) ∈ U.pin
section
variable {X : Cx} {T : Tb} {W : WX} {ks : List Nat} {g : DS} {h : Er → DS} {x n : Str} {c : Value} {i : Nat} {body suite : List Stmt} {b₀ : Stmt} {np pos pos' : Pos} {m : Nat → Option Bool}
theorem as_in {C H C1 H1 : Hp} {F F1 : Ft} {E1 : Env} {σ1 : St} {K : DEnds} {D : Ends} {e : Er} {cls : Value} {d : Option Addr} {pn : List (Nat × Option V)} (hp : Pn T pn ks) (hk : i ∉ ks) (q : EndsOk T W pn C H F K D)
    (w1 : Wd T C1 H1 E1 σ1 F1) (p1 : Pin pn σ1) (fr : Fr C H (Own F) C1 H1 (Own F1)) (er : ERep T C1 e cls d) {a : Addr} (lt : i < E1.length)
    (k : h e (E1.set i none) { nx := fun E2 => K.nx (E2.set i none), rt := K.rt, bk := fun E2 => K.bk (E2.set i none), ct := fun E2 => K.ct (E2.set i none), ex := fun _ _ => False }) :
    PreS (T.re C1 ((i, .ref a) :: T.pin)) W0 pn (h e) { nx := fun σ' H' => D.nx (σ'.set i none) H', rt := D.rt, bk := fun σ' H' => D.bk (σ'.set i none) H', ct := fun σ' H' => D.ct (σ'.set i none) H' } (σ1.set i (some (.ref a))) H1 := by
  have ni : ∀ z ∈ T.pin, z.1 ≠ i := fun z hz e => hk (e ▸ hp.2 z hz)
  have np : ∀ z ∈ pn, z.1 ≠ i := fun z hz e => hk (e ▸ hp.1 z hz)
  have q1 := q.step fr fun _ z => z
  have w2 : Wd (T.re C1 ((i, .ref a) :: T.pin)) C1 H1 (E1.set i none) (σ1.set i (some (.ref a))) (updF F1 i []) :=
    (w1.dropS ni).like Tb.re_like (Sub.refl _) fun z hz => by
      rcases List.mem_cons.mp hz with e | hz
      · subst e
        have : i < σ1.length := by rw [← w1.len]; exact lt
        simp [this]
      · rw [List.getElem?_set_ne (Ne.symm (ni z hz))]; exact w1.pin z hz
  have own2 : ∀ p, Own (updF F1 i []) p → Own F1 p := fun p z => (own_updF z).elim (fun y => by simp at y) id
  have back : ∀ {C2 H2 : Hp} {E2 : Env} {σ2 : St} {F2 : Ft}, Wd (T.re C1 ((i, .ref a) :: T.pin)) C2 H2 E2 σ2 F2 → Wd T C2 H2 (E2.set i none) (σ2.set i none) (updF F2 i []) := fun {C2 H2 E2 σ2 F2} w => by
    have w3 : Wd T C2 H2 E2 σ2 F2 := w.like Tb.re_like.symm (w1.flo.trans w.flo) fun z hz => w.pin z (List.mem_cons_of_mem _ hz)
    exact w3.dropS ni
  have fr2 : ∀ {C2 H2 : Hp} {F2 : Ft}, Fr C1 H1 (Own (updF F1 i [])) C2 H2 (Own F2) → Fr C1 H1 (Own F1) C2 H2 (Own (updF F2 i [])) := fun {C2 H2 F2} f => f.weak own2 fun p z => (own_updF z).elim (fun y => by simp at y) id
  refine ⟨C1, _, _, _, w2, p1.set np, k, ⟨fun C2 H2 E2 σ2 F2 w p f k => ?_, fun C2 H2 E2 σ2 F2 o v f w p r nd ot f' k => ?_, fun C2 H2 E2 σ2 F2 w p f k => ?_, fun C2 H2 E2 σ2 F2 w p f k => ?_, fun _ _ _ _ _ _ _ _ _ _ _ _ k => k.elim⟩⟩
  · exact q1.nx _ _ _ _ _ (back w) (p.set np) (fr2 f) k
  · exact q1.rt C2 H2 E2 σ2 F2 o v f (w.like Tb.re_like.symm (w1.flo.trans w.flo) fun z hz => w.pin z (List.mem_cons_of_mem _ hz)) p (r.like Tb.re_like.symm) nd ot (f'.weak own2 fun _ z => z) k
  · exact q1.bk _ _ _ _ _ (back w) (p.set np) (fr2 f) k
  · exact q1.ct _ _ _ _ _ (back w) (p.set np) (fr2 f) k
theorem ss_try_as (hst : X.stack = X.env :: X.outer) (hf : X.env.frame = some X.env.locals) (hN : X.N.Nodup) (hi : X.N[i]? = some n) (hln : X.env.kindOf n = some .local) (hc : Names X x c) (tk : Takes X W) (hk : i ∉ ks)
    (hm : ∀ k b, m k = some b → PySem.W.exmOne X.K (.ref (T.ca k)) c = some b)
    (hb : ∀ (W' : WX) (pn : List (Addr × Obj)) (xe : Value → Shared → Prop), Takes (X.tr pn xe) W' → PassesOwn (model X.prog X.w) X.A X.env xe → SSs T (X.tr pn xe) W' ks g body)
    (hsu : ∀ (a : Addr) (oe : Obj) (cls : Value) (d : Option Addr) (pn : List (Addr × Obj)) (e : Er) (U : Tb), Zc cls d oe → (∃ vs, oe.data = .fields vs) → Su T i e a cls d U → SSs U (X.suite a ((a, oe) :: pn)) W0 (i :: ks) (h e) (b₀ :: suite)) :
    SS T X W ks (sTryAs i m g h) (.Try body [.ExceptHandler (some (.Name x np)) (some n) (b₀ :: suite) pos'] [] [] pos) := fun pn hp => by
  refine (ps_try_as (i := i) (ts := fun a cls d D σ H => ∃ (z : { z : Er × Hp // ERep T z.2 z.1 cls d }), PreS (T.re z.1.2 ((i, .ref a) :: T.pin)) W0 pn (h z.1.1) D σ H) hst hf hN hi hln hc tk (fun W' pn' xe t1 t2 => hb W' pn' xe t1 t2 pn hp)
    fun a oe cls d pn' hz hf' => PSs.some_ fun z => hsu a oe cls d pn' z.1.1 _ hz hf' ⟨Tb.re_like, z.2.like Tb.re_like, List.mem_cons_self⟩ pn ⟨fun q hq => List.mem_cons_of_mem _ (hp.1 q hq), fun q hq => (List.mem_cons.mp hq).elim (fun e => by subst e; exact List.mem_cons_self) fun z => List.mem_cons_of_mem _ (hp.2 q z)⟩).imp fun D σ H ⟨C, E, F, K, w, p, k, q⟩ => ?_
  refine ⟨C, E, F, _, w, p, k, ⟨q.nx, q.rt, q.bk, q.ct, fun C1 H1 E1 σ1 F1 e cls d w1 p1 fr er k1 => ?_⟩⟩
  dsimp only at k1
  cases hb : m e.c with
  | none => rw [hb] at k1; exact k1.elim
  | some b =>
    rw [hb] at k1
    refine ⟨b, by rw [er.cls]; exact hm _ _ hb, fun eb a na => ?_, fun eb => ?_⟩
    · subst eb
      obtain ⟨lt, k1⟩ := k1
      exact ⟨⟨(e, C1), er⟩, as_in hp hk q w1 p1 fr er lt k1⟩
    · subst eb
      exact q.ex C1 H1 E1 σ1 F1 e cls d w1 p1 fr er k1
end

/-! ### a caught exception's fields, its kind -/
def dXf (cs : List Nat) (k : Nat) (e : Er) : DE := fun E KR _ => cs.contains e.c = true ∧ match e.fs.lookup k with
  | some d => KR (.val (.sh d)) E
  | none => False
/-- what an exception's class must say -/
def excB (K : PySem.W.Frag) (D : Addr) : Bool := xfB K D && ((PySem.W.clsIn K D).isSome && (decide (PySem.W.findIn K (.ref D) "__class__" = some (some (.builtin "object.__class__"))) && (decide (PySem.W.specialIn K (.builtin "object.__class__") "__get__" = some (some (.builtin "getset_descriptor.__get__"))) &&
  (decide (PySem.W.takesIn K (.builtin "object.__class__") = some true) && decide (PySem.W.mroIn K D (.type "object") = some true)))))
section
variable {X : Cx} {T U : Tb} {e : Er} {cls : Value} {d : Option Addr} {a : Addr} {oe : Obj} {pn : List (Addr × Obj)} {i : Nat} {n x : Str} {pos p : Pos} {cs : List Nat} {k : Nat}
theorem se_xf (hK : X.K = T.K) (S : Su T i e a cls d U) (hz : Zc cls d oe) (hf : ∃ vs, oe.data = .fields vs) (hc : ∀ c ∈ cs, excB X.K (T.ca c) = true ∧ PySem.W.findIn X.K (.ref (T.ca c)) n = some none) (hnd : T.nm.Nodup) (hn : T.nm[k]? = some n)
    (hN : X.N[i]? = some x) (hv : Vis X.env.scope x) (hd : (x == ("__debug__" : Str)) = false) (hcd : (x == ("__classdict__" : Str)) = false) (hb : attributeBase (.Name x p) n X.env (eval (.Name x p) X.env) = eval (.Name x p) X.env) :
    SE U (X.suite a ((a, oe) :: pn)) W0 (dXf cs k e) (.Attribute (.Name x p) n pos) := by
  by_cases hin : cs.contains e.c = true
  · obtain ⟨hx, hno⟩ := hc e.c (by simpa using hin)
    have hxf : XfC X.K (T.ca e.c) := xfB_ok (Bool.and_eq_true_iff.mp hx).1
    refine (pe_xf hxf hno hz hf (pe_var (X := X.suite a ((a, oe) :: pn)) (i := i) hN hv hd hcd) hb).imp fun σ H Q ⟨C, E, F, KR, KE, w, ⟨_, k1⟩, kr, _⟩ => ?_
    refine ⟨.ref a, w.pin _ S.pin, rfl, by rw [S.er.cls, S.li.ca], ?_⟩
    cases hl : e.fs.lookup k with
    | none => rw [hl] at k1; exact k1.elim
    | some dx =>
      rw [hl] at k1
      rcases S.er.fs with ⟨z, _⟩ | ⟨dd, fs, ed, ec, kk⟩
      · rw [z] at hl; cases hl
      · obtain ⟨n', v, e1, e2, r⟩ := kk k dx hl
        have : n' = n := by
          rw [S.li.nm, hn] at e1
          exact (Option.some.inj e1).symm
        subst this
        exact ⟨dd, fs, v, ed, w.sub _ _ (w.flo _ _ ec), e2, kr _ _ _ _ _ _ [] (R1.self w (.val (.sh (r.mono w.flo)))) k1⟩
  · exact ⟨fun pins s σ H Q I ⟨_, _, _, _, _, _, ⟨k1, _⟩, _⟩ => absurd k1 hin⟩
/-- isinstance(e, c), e what the suite holds -/
def rIsD (K : PySem.W.Frag) (D a : Addr) (d : Option Addr) : List V → Hp → VK → Prop := fun xs H Q => ∃ (c : V) (cv : Value) (b : Bool), xs = [.ref a, c] ∧ (∀ u, RelV c u → u = cv) ∧ (d = none ∨ ∃ dd fs, d = some dd ∧ H dd = some (.xd fs)) ∧ PySem.W.kitOne K (.ref D) cv = some b ∧ Q (.bl b) H
theorem call_isD {X : Cx} {a D : Addr} {d : Option Addr} {oe : Obj} {pn : List (Addr × Obj)} (hx : excB X.K D = true) (hz : Zc (.ref D) d oe) (hf : ∃ vs, oe.data = .fields vs) : CallR (X.suite a ((a, oe) :: pn)) (.builtin "isinstance") (rIsD X.K D a d) := by
  obtain ⟨x1, x⟩ := Bool.and_eq_true_iff.mp hx
  obtain ⟨hcl, x⟩ := Bool.and_eq_true_iff.mp x
  obtain ⟨x2, x⟩ := Bool.and_eq_true_iff.mp x
  obtain ⟨x3, x⟩ := Bool.and_eq_true_iff.mp x
  obtain ⟨x4, x5⟩ := Bool.and_eq_true_iff.mp x
  have Z := xfB_ok x1
  intro pins s σ H xs us Q I r h
  obtain ⟨c, cv, b, rfl, hcv, hd, e, q⟩ := h
  cases r with
  | cons rx rr => cases rr with
    | cons rt rr =>
      cases rr
      cases rx
      have ec := hcv _ rt
      subst ec
      have hget := (I.pin (a, oe) (List.mem_append_left _ List.mem_cons_self)).1
      obtain ⟨vs, hv⟩ := hf
      have nc : PySem.W.notCls oe = true := by unfold PySem.W.notCls; rw [hv] <;> rfl
      rcases hd with hd | ⟨dd, fs, hd, hH⟩
      · have J : PySem.W.InstAt s.heap a oe D none := ⟨hget, hz.1, nc, by rw [hz.2, hd]; trivial⟩
        exact PySem.W.kia_one (PySem.W.kitx_exc hcl Z.ga Z.gg Z.exC (of_decide_eq_true x2) (of_decide_eq_true x3) (of_decide_eq_true x4) (of_decide_eq_true x5)) I.kIn J e (fun z => nomatch z) fun tk => ⟨.bl b, H, I.kept (t' := tk) fun _ _ z => z, rfl, q⟩
      · obtain ⟨mA, hns, hr⟩ : ObjOk X.prog X.w H s.heap dd (.xd fs) := I.hok dd _ hH
        obtain ⟨od, ho, hl⟩ := lookIn_ns hns
        have J : PySem.W.InstAt s.heap a oe D (some od) := ⟨hget, hz.1, nc, by rw [hz.2, hd]; exact ho⟩
        exact PySem.W.kia_one (PySem.W.kitx_exc hcl Z.ga Z.gg Z.exC (of_decide_eq_true x2) (of_decide_eq_true x3) (of_decide_eq_true x4) (of_decide_eq_true x5)) I.kIn J e (fun z => nomatch z) fun tk => ⟨.bl b, H, I.kept (t' := tk) fun _ _ z => z, rfl, q⟩
def dXis (m : Nat → Option Bool) (e : Er) : DE := fun E KR _ => match m e.c with
  | some b => KR (.val (.sh (.bl b))) E
  | none => False
theorem se_xis {c : V} {u : Value} {m : Nat → Option Bool} {p2 : Pos} {t : Expr} (hK : X.K = T.K) (S : Su T i e a cls d U) (hz : Zc cls d oe) (hf : ∃ vs, oe.data = .fields vs) (hcv : ClsV c u) (hm : ∀ k b, m k = some b → excB X.K (T.ca k) = true ∧ PySem.W.kitOne X.K (.ref (T.ca k)) u = some b)
    (hg : Gl X "isinstance") (hmg : X.mg "isinstance" = none) (hN : X.N[i]? = some x) (hv : Vis X.env.scope x) (hd : (x == ("__debug__" : Str)) = false) (hcd : (x == ("__classdict__" : Str)) = false) (ht : PE (X.suite a ((a, oe) :: pn)) t (tC c))
    (h1 : starEach [.Name x p2, t] X.env = (false, eval (.Name x p2) X.env) :: starEach [t] X.env) (h2 : starEach [t] X.env = (false, eval t X.env) :: starEach [] X.env) (hpl : (backTo pos (starEach [t] X.env)).any (·.1) = false) :
    SE U (X.suite a ((a, oe) :: pn)) W0 (dXis m e) (.Call (.Name "isinstance" p) [.Name x p2, t] [] pos) := by
  cases hb : m e.c with
  | none => exact ⟨fun pins s σ H Q I ⟨_, _, _, _, _, _, k1, _⟩ => by unfold dXis at k1; rw [hb] at k1; exact k1.elim⟩
  | some b =>
    obtain ⟨hx, hk⟩ := hm _ _ hb
    have ecls : cls = .ref (T.ca e.c) := by rw [S.er.cls, S.li.ca]
    subst ecls
    refine (pe_callB (call_isD hx hz hf) hg hmg (by decide +kernel) (pa_cons (pe_var (X := X.suite a ((a, oe) :: pn)) (i := i) hN hv hd hcd) (pa_cons ht pa_nil h2) h1) (by decide) (by decide) h1 hpl).imp fun σ H Q ⟨C, E, F, KR, KE, w, k1, kr, _⟩ => ?_
    refine ⟨.ref a, w.pin _ S.pin, c, u, b, rfl, fun _ r => hcv.eq r, ?_, hk, kr _ _ _ _ _ _ [] (R1.self w (.val (.sh (.bl b)))) ?_⟩
    · rcases S.er.fs with ⟨_, z⟩ | ⟨dd, fs, ed, ec, _⟩
      · exact .inl z
      · exact .inr ⟨dd, fs, ed, w.sub _ _ (w.flo _ _ ec)⟩
    · unfold dXis at k1; rw [hb] at k1; exact k1
end
end Pv

set_option Elab.async false
set_option linter.all false
set_option maxRecDepth 100000
set_option maxHeartbeats 4000000
set_option autoImplicit false
/-! PvM: short names with the side conditions filled in. -/
namespace Pv
open PySem PySem.Spec PyProof.Rows L2

/-- a def that may be called -/
structure Fn (P : Program) (w : World) (K : PySem.W.Frag) (mg : Str → Option Value) (base : Heap) (T : Tb) (x : Str) (ps : List Str) (k : Nat) (S : Spec) (f : Addr) (fd : FuncData) : Prop where
  ok : FnOk P w K mg base (L2.CX P w) k f fd ps (spS T S)
  mg : mg x = some (.ref f)
  keep : PySem.W.keepIn K (.ref f) = true
/-- n arguments are written, the rest is ds -/
def Bd (K : PySem.W.Frag) (fd : FuncData) (ps : List Str) (dds : List D) : Prop := ∃ ds dvs, Binds K fd ps ds ∧ Vals dvs ds ∧ ∀ T : Tb, T.K = K → ∀ C, RepL T C dds dvs
theorem Bd.all {K : PySem.W.Frag} {fd : FuncData} {ps : List Str} (h : Binds K fd ps []) : Bd K fd ps [] := ⟨[], [], h, .nil, fun _ _ _ => .nil⟩

section
variable {X : Cx} {T : Tb} {W : WX} {ks : List Nat}
theorem ev (i : Nat) {x : Str} {pos : Pos} (hN : X.N[i]? = some x := by rfl) (hv : Vis X.env.scope x := by first | exact Or.inl rfl | exact Or.inr (Or.inl rfl) | exact Or.inr (Or.inr rfl)) (hd : (x == ("__debug__" : Str)) = false := by decide) (hcd : (x == ("__classdict__" : Str)) = false := by decide) : SE T X W (dVar i) (.Name x pos) := se_var hN hv hd hcd
section
variable {f g : DE} {fs : DA} {a b e : Expr} {es : List Expr} {pos p : Pos} {x : Str}
theorem sc (he : SE T X W f e) (hr : SA T X W fs es) (hs : starEach (e :: es) X.env = (false, eval e X.env) :: starEach es X.env := by rfl) : SA T X W (dCons f fs) (e :: es) := sa_cons he hr hs
theorem eadd (hK : X.K = T.K) (ha : SE T X W f a) (hb : SE T X W g b) : SE T X W (dB gAdd (dCons f (dCons g dNil))) (.BinOp a .Add b pos) := se_op (X := X) op_addAll (by rw [hK]; exact bi_add) ha hb
theorem emul (hK : X.K = T.K) (ha : SE T X W f a) (hb : SE T X W g b) : SE T X W (dB gMul (dCons f (dCons g dNil))) (.BinOp a .Mult b pos) := se_op (X := X) op_mulAll (by rw [hK]; exact bi_mul) ha hb
theorem esub (ha : SE T X W f a) (hb : SE T X W g b) : SE T X W (dB gSub (dCons f (dCons g dNil))) (.BinOp a .Sub b pos) := se_op (X := X) op_sub bi_I20 ha hb
theorem efdiv (ha : SE T X W f a) (hb : SE T X W g b) : SE T X W (dB gFdiv (dCons f (dCons g dNil))) (.BinOp a .FloorDiv b pos) := se_op (X := X) op_fdivG bi_I2 ha hb
theorem emod (ha : SE T X W f a) (hb : SE T X W g b) : SE T X W (dB gMod (dCons f (dCons g dNil))) (.BinOp a .Mod b pos) := se_op (X := X) op_modN bi_I2 ha hb
theorem epow (ha : SE T X W f a) (hb : SE T X W g b) : SE T X W (dB gPow (dCons f (dCons g dNil))) (.BinOp a .Pow b pos) := se_op (X := X) op_pow bi_I2 ha hb
theorem eneg (ha : SE T X W f a) : SE T X W (dB gNeg (dCons f dNil)) (.UnaryOp .USub a pos) := se_un (X := X) un_neg bi_neg ha
theorem elt (ha : SE T X W f a) (hb : SE T X W g b) (hm : behindInMarks .Lt b = false := by rfl) : SE T X W (dB gLt (dCons f (dCons g dNil))) (.Compare a [.Lt] [b] pos) := se_cmp (X := X) op_lt bi_B2 ha hb hm
theorem ele (ha : SE T X W f a) (hb : SE T X W g b) (hm : behindInMarks .LtE b = false := by rfl) : SE T X W (dB gLe (dCons f (dCons g dNil))) (.Compare a [.LtE] [b] pos) := se_cmp (X := X) op_le bi_B2 ha hb hm
theorem egt (ha : SE T X W f a) (hb : SE T X W g b) (hm : behindInMarks .Gt b = false := by rfl) : SE T X W (dB gGt (dCons f (dCons g dNil))) (.Compare a [.Gt] [b] pos) := se_cmp (X := X) op_gt bi_B2 ha hb hm
theorem ege (ha : SE T X W f a) (hb : SE T X W g b) (hm : behindInMarks .GtE b = false := by rfl) : SE T X W (dB gGe (dCons f (dCons g dNil))) (.Compare a [.GtE] [b] pos) := se_cmp (X := X) op_ge bi_B2 ha hb hm
theorem eeq (hK : X.K = T.K) (hu : X.A.units + 64 < cLine) (ha : SE T X W f a) (hb : SE T X W g b) (hm : behindInMarks .Eq b = false := by rfl) : SE T X W (dB (gEq false) (dCons f (dCons g dNil))) (.Compare a [.Eq] [b] pos) := se_cmp (X := X) ((op_eqD hu).or op_eq) (by rw [hK]; exact bi_eq) ha hb hm
theorem ene (hK : X.K = T.K) (hu : X.A.units + 64 < cLine) (ha : SE T X W f a) (hb : SE T X W g b) (hm : behindInMarks .NotEq b = false := by rfl) : SE T X W (dB (gEq true) (dCons f (dCons g dNil))) (.Compare a [.NotEq] [b] pos) := se_cmp (X := X) ((op_neD hu).or op_ne) (by rw [hK]; exact bi_ne) ha hb hm
theorem eis (ha : SE T X W f a) (hb : SE T X W g b) (hm : behindInMarks .Is b = false := by rfl) : SE T X W (dB (gIs false) (dCons f (dCons g dNil))) (.Compare a [.Is] [b] pos) := se_cmp (X := X) op_isAll bi_is ha hb hm
theorem eisn (ha : SE T X W f a) (hb : SE T X W g b) (hm : behindInMarks .IsNot b = false := by rfl) : SE T X W (dB (gIs true) (dCons f (dCons g dNil))) (.Compare a [.IsNot] [b] pos) := se_cmp (X := X) op_notAll bi_isnot ha hb hm
theorem eix (hK : X.K = T.K) (ha : SE T X W f a) (hb : SE T X W g b) (hs : PlainIx b := by intro _ _; rfl) : SE T X W (dB gIx (dCons f (dCons g dNil))) (.Subscript a b pos) := se_ix (X := X) ix_seq (by rw [hK]; exact bi_ix) ha hb hs
/-- a chain of two orders of whole numbers -/
theorem echain {c : Expr} {h : DE} {op op' : CmpOp} {g1 g2 : G} {r r' : R2} (ho : OpR X (compareOp op) r) (ho' : OpR X (compareOp op') r') (hb : BI T (r2 r) g1) (hb' : BI T (r2 r') g2) (ha : SE T X W f a) (h2 : SE T X W g b) (h3 : SE T X W h c) (hm : lastMarks [op, op'] [b, c] = false := by rfl) :
    SE T X W (dChain g1 g2 f g h) (.Compare a [op, op'] [b, c] pos) := se_chain ho ho' hb hb' ha h2 h3 hm
/-! calls of built-in names -/
theorem elen (hK : X.K = T.K) (hm : X.mg "len" = none) (ha : SA T X W fs (e :: es)) (hg : Gl X "len" := by rfl) (he : starEach (e :: es) X.env = (false, eval e X.env) :: starEach es X.env := by rfl) (hpl : (backTo pos (starEach es X.env)).any (·.1) = false := by rfl) :
    SE T X W (dB gLen fs) (.Call (.Name "len" p) (e :: es) [] pos) := se_callB (X := X) call_len (by rw [hK]; exact bi_len) hg hm boot_len ha (by decide) (by decide) he hpl
theorem eabs (hm : X.mg "abs" = none) (ha : SA T X W fs (e :: es)) (hg : Gl X "abs" := by rfl) (he : starEach (e :: es) X.env = (false, eval e X.env) :: starEach es X.env := by rfl) (hpl : (backTo pos (starEach es X.env)).any (·.1) = false := by rfl) :
    SE T X W (dB gAbs fs) (.Call (.Name "abs" p) (e :: es) [] pos) := se_callB (X := X) call_abs bi_abs hg hm boot_abs ha (by decide) (by decide) he hpl
theorem eint (hm : X.mg "int" = none) (ha : SA T X W fs (e :: es)) (hg : Gl X "int" := by rfl) (he : starEach (e :: es) X.env = (false, eval e X.env) :: starEach es X.env := by rfl) (hpl : (backTo pos (starEach es X.env)).any (·.1) = false := by rfl) :
    SE T X W (dB gInt fs) (.Call (.Name "int" p) (e :: es) [] pos) := se_callTy (X := X) call_intA bi_int hg hm boot_int ha (by decide) (by decide) he hpl
theorem egcd (hm : X.mg x = some (.builtin "math.gcd")) (ha : SA T X W fs (e :: es)) (hg : Gl X x := by rfl) (hdb : (x == ("__debug__" : Str)) = false := by decide) (he : starEach (e :: es) X.env = (false, eval e X.env) :: starEach es X.env := by rfl) (hpl : (backTo pos (starEach es X.env)).any (·.1) = false := by rfl) :
    SE T X W (dB gGcd fs) (.Call (.Name x p) (e :: es) [] pos) := se_callBfun (X := X) cr_gcd bi_gcd hg hm ha hdb he hpl
/-! calls of defs -/
theorem ecall {P : Program} {w : World} {K : PySem.W.Frag} {mg : Str → Option Value} {base : Heap} {ps : List Str} {k : Nat} {S : Spec} {dds : List D} {fA : Addr} {fd : FuncData} (F : Fn P w K mg base T x ps k S fA fd) (hP : X.prog = P) (hw : X.w = w) (hK : X.K = K) (hT : T.K = K) (hmg : X.mg = mg) (hba : X.base = base)
    (hb : Bd K fd ps dds) (hr : Room k X.A) (tk : Takes X W) (ha : SA T X W fs (e :: es)) (hg : Gl X x := by rfl) (hdb : (x == ("__debug__" : Str)) = false := by decide) (he : starEach (e :: es) X.env = (false, eval e X.env) :: starEach es X.env := by rfl) (hpl : (backTo pos (starEach es X.env)).any (·.1) = false := by rfl) :
    SE T X W (dCall S dds fs) (.Call (.Name x p) (e :: es) [] pos) := by
  obtain ⟨ds, dvs, b, v, r⟩ := hb
  subst hP hw hK hmg hba
  exact se_call F.ok hr hg F.mg F.keep b v (r T hT) tk ha hdb he hpl
end
/-! one written by place, one by name -/
def dCallK11 (S : Spec) (gD : D → D → List D) (f g : DE) : DE := fun E KR KE => f E (fun a E1 => g E1 (fun b E2 => capOs E2 [a, b] fun os E3 => match os with
  | [o1, o2] => S ((gD o1.view o2.view).map .sh) (fun o _ => KR (.val o) E3) (fun _ _ => False)
  | _ => False) KE) KE
structure Bk (K : PySem.W.Frag) (fd : FuncData) (ps ks : List Str) (gD : D → D → List D) : Prop where
  ex : ∃ (g : List Value → List Value → List Value) (gV : List V → List V → List V), KBn K fd ps 1 ks g gV ∧ ∀ (T : Tb) (C : Hp) (d e : D) (v w : V), T.K = K → Rep T C d v → Rep T C e w → RepL T C (gD d e) (gV [v] [w])
theorem ecallK11 {P : Program} {w : World} {K : PySem.W.Frag} {mg : Str → Option Value} {base : Heap} {ps : List Str} {k : Nat} {S : Spec} {gD : D → D → List D} {fA : Addr} {fd : FuncData} {f g : DE} {e1 e2 : Expr} {x nm : Str} {p pos kpos : Pos} (F : Fn P w K mg base T x ps k S fA fd) (hP : X.prog = P) (hw : X.w = w) (hK : X.K = K) (hT : T.K = K) (hmg : X.mg = mg) (hba : X.base = base)
    (hb : Bk K fd ps [nm] gD) (hr : Room k X.A) (ha : SE T X W f e1) (hb2 : SE T X W g e2) (hg : Gl X x := by rfl) (hdb : (x == ("__debug__" : Str)) = false := by decide)
    (hall : (backToKw pos (keywordEach [⟨some nm, e2, kpos⟩] X.env)).all (·.1.isSome) = true := by rfl) (hks : (backToKw pos (keywordEach [⟨some nm, e2, kpos⟩] X.env)).filterMap (·.1) = [nm] := by rfl) (he : starEach [e1] X.env = (false, eval e1 X.env) :: starEach [] X.env := by rfl)
    (hpl : ((backTo pos (starEach [e1] X.env)).any (·.1) || (backToKw pos (keywordEach [⟨some nm, e2, kpos⟩] X.env)).any (·.1.isNone)) = false := by rfl) :
    SE T X W (dCallK11 S gD f g) (.Call (.Name x p) [e1] [⟨some nm, e2, kpos⟩] pos) := by
  obtain ⟨gg, gV, hB, hR⟩ := hb.ex
  subst hP hw hK hmg hba
  refine (pe_callN F.ok hr hg F.mg F.keep hB passL (pa_cons ha pa_nil he) (pk_cons hb2 pk_nil) hall hks hdb he hpl).imp fun σ H Q ⟨C, E, F0, KR, KE, w0, k0, hq, hx⟩ => ?_
  refine ⟨C, E, F0, _, KE, w0, k0, fun C1 H1 E1 F1 a v f1 x1 k1 => ?_, hx⟩
  refine ⟨C1, E1, F1, _, KE, x1.wd, k1, fun C2 H2 E2 F2 b u f2 x2 k2 => ?_, hx.step x1.fr fun _ z => .inl z⟩
  have xx : Rs T C H F0 σ C2 H2 E2 F2 [a, b] [v, u] (f1 ++ f2) := Rs.cons x1 (Rs.one x2)
  obtain ⟨C3, E3, F3, os, w3, ro, k3, fr3, s3, n3⟩ := caps_ok xx.wd xx.al xx.ot k2
  have ot3 : ∀ r ∈ f1 ++ f2, C3 r = none ∧ ¬ Own F3 r := fun r hr => ⟨by rw [n3 r (xx.ot r hr).2]; exact (xx.ot r hr).1, fun z => (xx.ot r hr).2 (s3 r z)⟩
  have w4 : Wd T (cl C3 H2 (f1 ++ f2)) H2 E3 σ F3 := w3.move (cl_sub w3.sub) (cl_le w3.sub) (fun _ _ _ e => e) fun r hr => by
    rw [cl_out fun z => (ot3 r z).2 hr]
    obtain ⟨i, hi⟩ := hr
    exact w3.out i r hi
  have rl : RepL T (cl C3 H2 (f1 ++ f2)) (os.map O.view) [v, u] := by
    rw [← viewL_map]
    exact ORepL.close (cl_sub w3.sub) ro fun r hr u hu => cl_at hr hu
  have fr4 : Fr C H (Own F0) (cl C3 H2 (f1 ++ f2)) H2 (Own F3) := (xx.fr.side fr3).trans (Fr.close (a := fun p => Own F3 p ∨ p ∈ f1 ++ f2) (b := Own F3) w3.sub (fun r hr => .inr hr) fun r hr => .inl hr) fun _ z => z
  refine ⟨rfl, rfl, ?_⟩
  split at k3
  · rename_i o1 o2
    simp only [List.map_cons, List.map_nil] at rl
    cases rl with
    | cons r1 r2 => cases r2 with
      | cons r2 r3 =>
        refine ⟨cl C3 H2 (f1 ++ f2), _, [], _, _, w4.sub, ORepL.shs (hR T _ _ _ v u hT r1 r2), List.nodup_nil, fun p hp => by simp at hp, k3, fun C5 H5 o y g5 os5 f5 sb ro5 rl5 nd5 ot5 fr5 kk => ?_, fun _ _ _ _ _ _ _ _ _ _ _ _ _ kk => kk.elim⟩
        have w5 : Wd T C5 H5 E3 σ F3 := w4.apart fr5 sb fun p _ hp => by simp at hp
        refine hq C5 H5 E3 F3 _ y g5 ⟨w5, .val ro5, (List.nodup_append.mp nd5).2.1, fun p hp => ⟨ot5 p (List.mem_append_right _ hp), fun ⟨i, hi⟩ => ?_⟩, ?_⟩ kk
        · obtain ⟨u0, hu0⟩ := w4.own_there hi
          exact (fr5.fo p u0 hu0 (w4.out i p hi) (by simp)).2.2 (List.mem_append_right _ hp)
        · exact ⟨fr4.cl.trans fr5.cl, fun p o e n q => by
            obtain ⟨e1, n1, q1⟩ := fr4.fo p o e n q
            obtain ⟨e2, n2, q2⟩ := fr5.fo p o e1 n1 (by simp)
            exact ⟨e2, n2, fun z => z.elim q1 fun z => q2 (List.mem_append_right _ z)⟩⟩
  · exact k3.elim
end
end Pv

set_option Elab.async false
set_option linter.all false
set_option maxRecDepth 100000
set_option maxHeartbeats 4000000
set_option autoImplicit false
/-! PvN: short names for tests, kinds, statements. -/
namespace Pv
open PySem PySem.Spec PyProof.Rows L2

/-! ### kinds -/
section
variable {T : Tb}
theorem kd_int : KdOk T [] .int (.ty "int") (.type "int") := ⟨.ty _, fun d h => by
  cases d with
  | ins c fs => cases h
  | _ => kernel_rfl⟩
theorem kd_bool : KdOk T [] .bool (.ty "bool") (.type "bool") := ⟨.ty _, fun d h => by
  cases d with
  | ins c fs => cases h
  | _ => kernel_rfl⟩
theorem kd_str : KdOk T [] .str (.ty "str") (.type "str") := ⟨.ty _, fun d h => by
  cases d with
  | ins c fs => cases h
  | _ => kernel_rfl⟩
theorem kd_tuple : KdOk T [] .tuple (.ty "tuple") (.type "tuple") := ⟨.ty _, fun d h => by
  cases d with
  | ins c fs => cases h
  | _ => kernel_rfl⟩
theorem kd_list : KdOk T [] .list (.ty "list") (.type "list") := ⟨.ty _, fun d h => by
  cases d with
  | ins c fs => cases h
  | _ => kernel_rfl⟩
end
section
variable {X : Cx} {T : Tb} {W : WX} {ks : List Nat}
section
variable {f g : DE} {fs : DA} {ft gt : DT} {a b e : Expr} {es rest : List Expr} {pos p pt : Pos} {x : Str}
/-- a built-in type's name as a class -/
theorem pty {n : String} (hg : Gl X x) (hm : X.mg x = none) (hv : bootBuiltins x = some (.type n)) (hn : x ≠ "__name__" := by decide) (hd : (x == ("__debug__" : Str)) = false := by decide) : PE X (.Name x pos) (tC (.ty n)) := pe_bltn hg hm hv rfl hn hd
theorem pcl {u : Addr} (hm : X.mg x = some (.ref u)) (hg : Gl X x := by rfl) (hd : (x == ("__debug__" : Str)) = false := by decide) : PE X (.Name x pos) (tC (.ref u)) := pe_glob hg hm rfl hd
theorem eisi {kn : List Nat} {k : Kd} {c : V} {u : Value} {t : Expr} (hK : X.K = T.K) (hi : ∀ c ∈ kn, ClsI T.K (T.ca c)) (hk : KdOk T kn k c u) (hm : X.mg "isinstance" = none) (he : SE T X W f e) (ht : PE X t (tC c)) (hg : Gl X "isinstance" := by rfl)
    (h1 : starEach [e, t] X.env = (false, eval e X.env) :: starEach [t] X.env := by rfl) (h2 : starEach [t] X.env = (false, eval t X.env) :: starEach [] X.env := by rfl) (hpl : (backTo pos (starEach [t] X.env)).any (·.1) = false := by rfl) :
    SE T X W (dIsi kn [k] f) (.Call (.Name "isinstance" p) [e, t] [] pos) := se_isi hK hi hk hg hm he ht h1 h2 hpl
theorem no_kn {K : PySem.W.Frag} {ca : Nat → Addr} : ∀ c ∈ ([] : List Nat), ClsI K (ca c) := fun c h => by simp at h
/-! ### tests -/
theorem tt (hK : X.K = T.K) (h : SE T X W f e) (he : ∀ whole, isTrue e X.env whole = (do let v ← whole; standAt e.pos; holding [v] (truthy v)) := by intro _; rfl) : ST T X W (dTru f) e := st_tru hK h he
theorem tnot (h : ST T X W ft a) : ST T X W (dNotT ft) (.UnaryOp .Not a pos) := st_not h
theorem tor1 (h : ST T X W ft a) : SW T X W ft (.BoolOp .Or [a] pos) := sw_or1 h
theorem tand1 (h : ST T X W ft a) : SW T X W ft (.BoolOp .And [a] pos) := sw_and1 h
theorem tor (h : ST T X W ft a) (h2 : SW T X W gt (.BoolOp .Or (b :: rest) pos)) : SW T X W (dOrT ft gt) (.BoolOp .Or (a :: b :: rest) pos) := sw_or h h2
theorem tand (h : ST T X W ft a) (h2 : SW T X W gt (.BoolOp .And (b :: rest) pos)) : SW T X W (dAndT ft gt) (.BoolOp .And (a :: b :: rest) pos) := sw_and h h2
theorem tw (h : SW T X W ft e) : ST T X W ft e := PW.pt h
end
/-! ### statements -/
section
variable {f g : DE} {fs : DA} {ft : DT} {g1 g2 : DS} {st : Stmt} {rest body : List Stmt} {e tg : Expr} {es : List Expr} {pos p : Pos} {x : Str}
theorem ret (he : SE T X W f e) : SS T X W ks (sRet ks f) (.Return (some e) pos) := ss_ret he
theorem asg (i : Nat) (nd : X.N.Nodup) (he : SE T X W f e) (hi : X.N[i]? = some x := by rfl) (hx : Loc X.env.scope x := by first | exact Or.inl rfl | exact Or.inr rfl) (hk : i ∉ ks := by decide) (hs : swapsWith e (some (.Name x p)) pos.line X.env = pure false := by rfl)
    (hf : X.fn x = true ∨ X.env.scope.names.lookup x = some .local := by first | exact Or.inl rfl | exact Or.inr rfl) : SS T X W ks (sAsg i f) (.Assign [.Name x p] e pos) := ss_asg nd hi hx he hk hs hf rfl
theorem xpr (he : SE T X W f e) (hs : swapsWith e none pos.line X.env = pure false := by rfl) : SS T X W ks (sExpr f) (.Expr e pos) := ss_expr he hs
theorem nmi (i : Nat) (nd : X.N.Nodup) (hi : X.N[i]? = some x := by rfl) (hx : Loc X.env.scope x := by first | exact Or.inl rfl | exact Or.inr rfl) (hk : i ∉ ks := by decide) (hf : X.fn x = true ∨ X.env.scope.names.lookup x = some .local := by first | exact Or.inl rfl | exact Or.inr rfl) : SG T X ks (gNm i) (.Name x pos) := sg_name nd hi hx hk hf
theorem forr {is : List Nat} {fi : DI} {gg : DG} {iter : Expr} (hpo : PassesOwn (model X.prog X.w) X.A X.env X.xe) (hi : SI T X W tg fi iter) (hg : SG T X (is ++ ks) gg tg) (hb : SSs T X W (is ++ ks) g1 body) (hc : X.calm = true := by rfl) (hs : ∀ x, foldedSetIterable iter X.env x = pure x := by intro _; rfl) :
    SS T X W ks (sFor is fi gg g1) (.For tg iter body [] pos) := ss_for hpo hc hi hg hb hs
theorem rg1 (hm : X.mg "range" = none) (he : SE T X W f e) (hg : Gl X "range" := by rfl) (hs : starEach [e] X.env = (false, eval e X.env) :: starEach [] X.env := by rfl) : SI T X W tg (iRg1 f) (.Call (.Name "range" p) [e] [] pos) := si_rg1 hg hm he hs
theorem setIx (i : Nat) {ie : Expr} {fi : DE} {p1 p2 : Pos} (he : SE T X W f e) (hi : SE T X W fi ie) (hN : X.N[i]? = some x := by rfl) (hv : Vis X.env.scope x := by first | exact Or.inl rfl | exact Or.inr (Or.inl rfl) | exact Or.inr (Or.inr rfl)) (hd : (x == ("__debug__" : Str)) = false := by decide)
    (hcd : (x == ("__classdict__" : Str)) = false := by decide)
    (ha : ∀ v, assign (.Subscript (.Name x p1) ie p2) X.env v = (do
      let ov ← holding [v] (eval (.Name x p1) X.env)
      let iv ← holding [v, ov] (eval ie X.env)
      standAt p2
      holding [v, ov, iv] (setItem ov iv v)
      release [v, ov, iv] []) := by intro _; rfl)
    (hs : swapsWithSole [.Subscript (.Name x p1) ie p2] e pos.line X.env = pure false := by rfl) (hw : swappedStores [.Subscript (.Name x p1) ie p2] e X.env = pure none := by rfl)
    (h1 : (assignEach [.Subscript (.Name x p1) ie p2] X.env).map (·.2) = [assign (.Subscript (.Name x p1) ie p2) X.env] := by rfl) :
    SS T X W ks (sSetIx i fi f) (.Assign [.Subscript (.Name x p1) ie p2] e pos) := ss_setIx hN hv hd hcd he hi ha hs hw h1
theorem app (i : Nat) {apos px : Pos} (hK : X.K = T.K) (he : SE T X W f e) (hN : X.N[i]? = some x := by rfl) (hv : Vis X.env.scope x := by first | exact Or.inl rfl | exact Or.inr (Or.inl rfl) | exact Or.inr (Or.inr rfl)) (hd : (x == ("__debug__" : Str)) = false := by decide)
    (hcd : (x == ("__classdict__" : Str)) = false := by decide)
    (hbase : attributeBase (.Name x px) "append" X.env (eval (.Name x px) X.env) = eval (.Name x px) X.env := by rfl)
    (hfew : ((backTo pos (starEach [e] X.env)).all (fun x => !x.1) && (backToKw pos (keywordEach [] X.env)).all (fun x => x.1.isSome) && decide (([e] : List Expr).length + ([] : List Keyword).length + (if ([] : List Keyword).isEmpty then 0 else 1) < 30)) = true := by rfl)
    (hline : (apos.endLine == pos.line) = true := by rfl) (hs : starEach [e] X.env = (false, eval e X.env) :: starEach [] X.env := by rfl) (hplain : (backTo pos (starEach [] X.env)).any (·.1) = false := by rfl) :
    SE T X W (dAppend i f) (.Call (.Attribute (.Name x px) "append" apos) [e] [] pos) := se_append hK hN hv hd hcd he hbase hfew hline hs hplain
theorem unp {n k0 : Nat} {h : DGs} {ts : List Expr} (hK : X.K = T.K) (h1 : SGs T X ks h ts) (hc : X.calm = true := by rfl) (hn : (assignEach ts X.env).length = n := by rfl) (hst : (assignEach ts X.env).findIdx? (·.1) = none := by rfl) : SG T X ks (gUnp n h) (.Tuple ts k0 pos) := sg_unp hK hc h1 hn hst
theorem gcs {gg : DG} {h : DGs} {ts : List Expr} (h1 : SG T X ks gg tg) (h2 : SGs T X ks h ts) (hs : (assignEach (tg :: ts) X.env).map (·.2) = assign tg X.env :: (assignEach ts X.env).map (·.2) := by rfl) : SGs T X ks (gOne gg h) (tg :: ts) := sgs_cons h1 h2 hs
theorem asgG {gg : DG} (he : SE T X W f e) (hg : SG T X ks gg tg) (hs : swapsWithSole [tg] e pos.line X.env = pure false := by rfl) (hw : swappedStores [tg] e X.env = pure none := by rfl) (h1 : (assignEach [tg] X.env).map (·.2) = [assign tg X.env] := by rfl) : SS T X W ks (sAsgG gg f) (.Assign [tg] e pos) := ss_asgG he hg hs hw h1
theorem par (i j : Nat) {y : Str} {a b : Expr} {px py pt : Pos} {kt k2 : Nat} {pt2 : Pos} (nd : X.N.Nodup) (ha : SA T X W fs [a, b]) (hc : X.calm = true := by rfl) (hi : X.N[i]? = some x := by rfl) (hj : X.N[j]? = some y := by rfl) (hij : i ≠ j := by decide)
    (hx : X.env.scope.names.lookup x = some .local := by rfl) (hy : X.env.scope.names.lookup y = some .local := by rfl) (hki : i ∉ ks := by decide) (hkj : j ∉ ks := by decide)
    (hw : swappedStores [.Tuple [.Name x px, .Name y py] kt pt] (.Tuple [a, b] k2 pt2) X.env = pure (some [x, y]) := by rfl)
    (hs : swapsWithSole [.Tuple [.Name x px, .Name y py] kt pt] (.Tuple [a, b] k2 pt2) pos.line X.env = pure false := by rfl) :
    SS T X W ks (sPar i j fs) (.Assign [.Tuple [.Name x px, .Name y py] kt pt] (.Tuple [a, b] k2 pt2) pos) := ss_par hc nd hi hj hij hx hy hki hkj ha hw hs
end
end
/-! ### comparisons as tests -/
def dTb (f : DE) : DT := fun E KB KE => f E (fun a E1 => match a with
  | .val (.sh (.bl b)) => KB b E1
  | _ => False) KE
section
variable {X : Cx} {T : Tb} {W : WX} {f fa fb fc : DE} {a b c : Expr} {pos : Pos} {g : G} {r : R2}
theorem pre_tb {σ : St} {H : Hp} {Q : Bool → Hp → Prop} (h : PreT T W (dTb f) σ H Q) : PreE T W f σ H fun x H1 => ∃ k, x = .bl k ∧ Q k H1 := by
  obtain ⟨C, E, F, KR, KE, w, k, hq, hx⟩ := h
  refine ⟨C, E, F, _, KE, w, k, fun C1 H1 E1 F1 a v f1 x k1 => ?_, hx⟩
  split at k1
  · rename_i o b
    have ar := x.ar
    cases ar with
    | val ro => cases ro with
      | sh r =>
        cases r
        exact ⟨b, rfl, hq C1 H1 E1 F1 b x.wd (x.fr.weak (fun _ z => z) fun p z => .inl z) k1⟩
  · exact k1.elim
theorem st_cmp {op : CmpOp} (ho : OpR X (compareOp op) r) (hb : BI T (r2 r) g) (ha : SE T X W fa a) (h2 : SE T X W fb b) (hm : behindInMarks op b = false) : ST T X W (dTb (dB g (dCons fa (dCons fb dNil)))) (.Compare a [op] [b] pos) :=
  (pt_cmpR ho ha h2 hm).imp fun σ H Q h => pre_bi2 hb (pre_tb h)
theorem st_chain {op op' : CmpOp} {h : G} {r' : R2} (ho : OpR X (compareOp op) r) (ho' : OpR X (compareOp op') r') (hb : BI T (r2 r) g) (hb' : BI T (r2 r') h) (ha : SE T X W fa a) (h2 : SE T X W fb b) (h3 : SE T X W fc c) (hm : lastMarks [op, op'] [b, c] = false) :
    ST T X W (dTb (dChain g h fa fb fc)) (.Compare a [op, op'] [b, c] pos) := (pt_chain ho ho' ha h2 h3 hm).imp fun σ H Q k => pre_chain hb hb' (pre_tb k)
theorem tlt (ha : SE T X W fa a) (hb : SE T X W fb b) (hm : behindInMarks .Lt b = false := by rfl) : ST T X W (dTb (dB gLt (dCons fa (dCons fb dNil)))) (.Compare a [.Lt] [b] pos) := st_cmp (X := X) op_lt bi_B2 ha hb hm
theorem tle (ha : SE T X W fa a) (hb : SE T X W fb b) (hm : behindInMarks .LtE b = false := by rfl) : ST T X W (dTb (dB gLe (dCons fa (dCons fb dNil)))) (.Compare a [.LtE] [b] pos) := st_cmp (X := X) op_le bi_B2 ha hb hm
theorem tgt (ha : SE T X W fa a) (hb : SE T X W fb b) (hm : behindInMarks .Gt b = false := by rfl) : ST T X W (dTb (dB gGt (dCons fa (dCons fb dNil)))) (.Compare a [.Gt] [b] pos) := st_cmp (X := X) op_gt bi_B2 ha hb hm
theorem tge (ha : SE T X W fa a) (hb : SE T X W fb b) (hm : behindInMarks .GtE b = false := by rfl) : ST T X W (dTb (dB gGe (dCons fa (dCons fb dNil)))) (.Compare a [.GtE] [b] pos) := st_cmp (X := X) op_ge bi_B2 ha hb hm
theorem teq (hK : X.K = T.K) (hu : X.A.units + 64 < cLine) (ha : SE T X W fa a) (hb : SE T X W fb b) (hm : behindInMarks .Eq b = false := by rfl) : ST T X W (dTb (dB (gEq false) (dCons fa (dCons fb dNil)))) (.Compare a [.Eq] [b] pos) := st_cmp (X := X) ((op_eqD hu).or op_eq) (by rw [hK]; exact bi_eq) ha hb hm
theorem tne (hK : X.K = T.K) (hu : X.A.units + 64 < cLine) (ha : SE T X W fa a) (hb : SE T X W fb b) (hm : behindInMarks .NotEq b = false := by rfl) : ST T X W (dTb (dB (gEq true) (dCons fa (dCons fb dNil)))) (.Compare a [.NotEq] [b] pos) := st_cmp (X := X) ((op_neD hu).or op_ne) (by rw [hK]; exact bi_ne) ha hb hm
theorem tis (ha : SE T X W fa a) (hb : SE T X W fb b) (hm : behindInMarks .Is b = false := by rfl) : ST T X W (dTb (dB (gIs false) (dCons fa (dCons fb dNil)))) (.Compare a [.Is] [b] pos) := st_cmp (X := X) op_isAll bi_is ha hb hm
theorem tisn (ha : SE T X W fa a) (hb : SE T X W fb b) (hm : behindInMarks .IsNot b = false := by rfl) : ST T X W (dTb (dB (gIs true) (dCons fa (dCons fb dNil)))) (.Compare a [.IsNot] [b] pos) := st_cmp (X := X) op_notAll bi_isnot ha hb hm
end
/-! ### raise, try -/
/-- an own error class with fields: what is known of it -/
structure Ec (K : PySem.W.Frag) (C : Addr) (ns : List Str) (fI : Addr) (fd : FuncData) (qs : List Str) : Prop where
  oe : OexC K C
  ini : PySem.W.findIn K (.ref C) "__init__" = some (some (.ref fI))
  ty : PySem.W.typeIn K (.ref fI) = some (.type "function")
  ok : ∀ (P : Program) (w : World) (mg : Str → Option Value) (base : Heap) (k : Nat), FnOk P w K mg base (L2.CX P w) (k + 1) fI fd ("self" :: qs) (spI C ns)
  bd : Binds K fd ("self" :: qs) []
section
variable {X : Cx} {T : Tb} {W : WX} {ks : List Nat} {fs : DA} {e : Expr} {es : List Expr} {x : Str} {p pos pos2 : Pos} {c k : Nat} {fk : List Nat} {ns qs : List Str} {fI : Addr} {fd : FuncData}
theorem rse (hK : X.K = T.K) (E : Ec X.K (T.ca c) ns fI fd qs) (tk : Takes X W) (hns : fk.map (fun j => T.nm[j]?) = ns.map some) (hr : Room (k + 2) X.A) (hm : X.mg x = some (.ref (T.ca c))) (ha : SA T X W fs (e :: es)) (hsm : fk.length ≤ 900 := by decide) (hc : X.calm = true := by rfl) (hg : Gl X x := by rfl)
    (hdb : (x == ("__debug__" : Str)) = false := by decide) (he : starEach (e :: es) X.env = (false, eval e X.env) :: starEach es X.env := by rfl) (hpl : (backTo pos (starEach es X.env)).any (·.1) = false := by rfl) :
    SS T X W ks (sRaise c fk fs) (.Raise (some (.Call (.Name x p) (e :: es) [] pos)) none pos2) := ss_raise hK hc tk hns E.oe E.ini E.ty (E.ok X.prog X.w X.mg X.base k) hr E.bd hg hm ha hsm hdb he hpl
end
end Pv

set_option Elab.async false
set_option linter.all false
set_option maxRecDepth 100000
set_option maxHeartbeats 4000000
set_option autoImplicit false
/-! PvO: what the head tells: constants, error classes. -/
namespace Pv
open PySem PySem.Spec PyProof.Rows L2

/-- u stands in K for the data d -/
def repB (K : PySem.W.Frag) : Nat → D → Value → Bool
  | 0, _, _ => false
  | n + 1, d, u => match d, u with
    | .non, .none => true
    | .bl b, .bool c => decide (b = c)
    | .int i, .int j _ => decide (i = j)
    | .str x, .str y _ => decide (x = y)
    | .tup ds, .ref a => match K.lookup a with
      | some o => decide (o.cls = .type "tuple") && (match o.data with
        | .seq its _ => decide (its.size ≤ sizeLine) && (decide (ds.length = its.toList.length) && (ds.zip its.toList).all fun p => repB K n p.1 p.2)
        | _ => false)
      | none => false
    | .lst ds, .ref a => match K.lookup a with
      | some o => decide (o.cls = .type "list") && (decide (o.dict = none) && (match o.data with
        | .seq its _ => decide (its.size ≤ sizeLine) && (decide (ds.length = its.toList.length) && (ds.zip its.toList).all fun p => repB K n p.1 p.2)
        | _ => false))
      | none => false
    | _, _ => false
theorem bsplit {a b : Bool} (h : (a && b) = true) : a = true ∧ b = true := Bool.and_eq_true_iff.mp h
theorem repB_ok {K : PySem.W.Frag} : ∀ (n : Nat) (d : D) (u : Value), repB K n d u = true → ∃ v, RelV v u ∧ ∀ (T : Tb) (C : Hp), T.K = K → Rep T C d v := by
  intro n
  induction n with
  | zero => intro d u h; cases h
  | succ n ih =>
    have all : ∀ (ds : List D) (us : List Value), ds.length = us.length → ((ds.zip us).all fun p => repB K n p.1 p.2) = true → ∃ vs, Vals vs us ∧ ∀ (T : Tb) (C : Hp), T.K = K → RepL T C ds vs := by
      intro ds
      induction ds with
      | nil => intro us hl _; cases us with
        | nil => exact ⟨[], .nil, fun _ _ _ => .nil⟩
        | cons u us => cases hl
      | cons d ds ih2 => intro us hl h; cases us with
        | nil => cases hl
        | cons u us =>
          rw [List.zip_cons_cons, List.all_cons] at h
          obtain ⟨h1, h2⟩ := bsplit h
          obtain ⟨v, r1, k1⟩ := ih d u h1
          obtain ⟨vs, r2, k2⟩ := ih2 us (by simpa using hl) h2
          exact ⟨v :: vs, .cons r1 r2, fun T C e => .cons (k1 T C e) (k2 T C e)⟩
    intro d u h
    unfold repB at h
    split at h
    · exact ⟨.non, rfl, fun _ _ _ => .non⟩
    · exact ⟨.bl _, by rw [of_decide_eq_true h]; rfl, fun _ _ _ => .bl _⟩
    · exact ⟨.int _, ⟨_, by rw [of_decide_eq_true h]⟩, fun _ _ _ => .int _⟩
    · exact ⟨.str _, ⟨_, by rw [of_decide_eq_true h]⟩, fun _ _ _ => .str _⟩
    · rename_i ds a
      split at h
      · rename_i o ho
        obtain ⟨h1, h2⟩ := bsplit h
        split at h2
        · rename_i its m hd
          obtain ⟨h3, h4⟩ := bsplit h2
          obtain ⟨h5, h6⟩ := bsplit h4
          obtain ⟨vs, r, k⟩ := all ds its.toList (of_decide_eq_true h5) h6
          exact ⟨.ref a, rfl, fun T C e => .tup (.inr ⟨o, its, m, by rw [e]; exact ho, of_decide_eq_true h1, hd, of_decide_eq_true h3, r⟩) (k T C e)⟩
        · cases h2
      · cases h
    · rename_i ds a
      split at h
      · rename_i o ho
        obtain ⟨h1, h2⟩ := bsplit h
        obtain ⟨h7, h2⟩ := bsplit h2
        split at h2
        · rename_i its m hd
          obtain ⟨h3, h4⟩ := bsplit h2
          obtain ⟨h5, h6⟩ := bsplit h4
          obtain ⟨vs, r, k⟩ := all ds its.toList (of_decide_eq_true h5) h6
          exact ⟨.ref a, rfl, fun T C e => .lst (.inr ⟨o, its, m, by rw [e]; exact ho, of_decide_eq_true h1, of_decide_eq_true h7, hd, of_decide_eq_true h3, r⟩) (k T C e)⟩
        · cases h2
      · cases h
    · cases h
/-- the module's name x holds the data d -/
def glB (K : PySem.W.Frag) (x : Str) (d : D) : Bool := match PySem.W.nsIn K mainGlobals x with
  | some (some u) => repB K 9 d u
  | _ => false
/-- .. as it stands -/
structure GlD (K : PySem.W.Frag) (mg : Str → Option Value) (x : Str) (d : D) : Prop where
  ex : ∃ v u, mg x = some u ∧ RelV v u ∧ ∀ (T : Tb) (C : Hp), T.K = K → Rep T C d v
theorem glB_ok {K : PySem.W.Frag} {h : Heap} {mg : Str → Option Value} (X : K.In h) (G : h.Ns mainGlobals mg) {x : Str} {d : D} (e : glB K x d = true) : GlD K mg x d := by
  unfold glB at e
  split at e
  · rename_i u hu
    obtain ⟨v, r, k⟩ := repB_ok 9 d u e
    exact ⟨v, u, PySem.W.mg_of X G hu, r, k⟩
  · cases e
theorem egl {X : Cx} {T : Tb} {W : WX} {x : Str} {d : D} {pos : Pos} {K : PySem.W.Frag} {mg : Str → Option Value} (G : GlD K mg x d) (hT : T.K = K) (hmg : X.mg = mg) (hg : Gl X x := by rfl) (hd : (x == ("__debug__" : Str)) = false := by decide) : SE T X W (dC d) (.Name x pos) := by
  obtain ⟨v, u, e, r, k⟩ := G.ex
  exact se_glob hg (by rw [hmg]; exact e) r (fun C => k T C hT) hd
/-- a module's name is a built-in function -/
def blB (K : PySem.W.Frag) (x : Str) (id : String) : Bool := decide (PySem.W.nsIn K mainGlobals x = some (some (.builtin id)))
theorem blB_ok {K : PySem.W.Frag} {h : Heap} {mg : Str → Option Value} (X : K.In h) (G : h.Ns mainGlobals mg) {x : Str} {id : String} (e : blB K x id = true) : mg x = some (.builtin id) := PySem.W.mg_of X G (of_decide_eq_true e)

/-! ### error classes -/
def oexB (K : PySem.W.Frag) (C : Addr) : Bool := (match K.lookup C with
  | some ⟨.type t, _, .cls cd, sl⟩ => decide (t = "type") && (match cd.mro, sl.toList with
    | .ref C' :: bm, [_, _, _, _, some (.builtin n), _] => decide (C' = C) && (decide (n = "ValueError.__new__") && (cd.hasDict && (!cd.hasDel && PySem.HandSPX.refsVE bm)))
    | _, _ => false)
  | _ => false) && (decide (PySem.W.findIn K (.ref C) "__setattr__" = some (some (.builtin "object.__setattr__"))) && (decide (PySem.W.subIn K (.ref C) (.type "BaseException") = some true) && (decide (PySem.W.typeIn K (.ref C) = some (.type "type")) && PySem.W.keepIn K (.ref C))))
theorem oexB_ok {K : PySem.W.Frag} {C : Addr} (h : oexB K C = true) : OexC K C := by
  obtain ⟨h1, h⟩ := bsplit h
  obtain ⟨h2, h⟩ := bsplit h
  obtain ⟨h3, h⟩ := bsplit h
  obtain ⟨h4, h5⟩ := bsplit h
  refine ⟨?_, of_decide_eq_true h2, of_decide_eq_true h3, of_decide_eq_true h4, h5⟩
  split at h1
  · rename_i t dd cd sl ho
    obtain ⟨e1, h1⟩ := bsplit h1
    split at h1
    · rename_i C' bm k0 k1 k2 k3 n k5 hm hs
      obtain ⟨e2, h1⟩ := bsplit h1
      obtain ⟨e3, h1⟩ := bsplit h1
      obtain ⟨e4, h1⟩ := bsplit h1
      obtain ⟨e5, e6⟩ := bsplit h1
      obtain ⟨nm, bs, mro, ns, qn, hd, sn, sub, ab, col, del⟩ := cd
      dsimp only at hm e4 e5
      have e1 := of_decide_eq_true e1
      have e2 := of_decide_eq_true e2
      have e3 := of_decide_eq_true e3
      have e5 : del = false := by simpa using e5
      subst e1 e2 e3 e4 e5 hm
      refine ⟨nm, qn, ns, bs, bm, sn, sub, ab, col, dd, k0, k1, k2, k3, k5, ?_, e6⟩
      have e7 : sl = #[k0, k1, k2, k3, some (.builtin "ValueError.__new__"), k5] := by
        apply Array.toList_inj.mp
        rw [hs]
      rw [ho, e7]
    · cases h1
  · cases h1
/-- an error class that stores its arguments, as the hook reads it -/
def ecB (K : PySem.W.Frag) (x : Str) (ns : List Str) : Bool := oexB K (He.ga K x) && (decide (PySem.W.findIn K (.ref (He.ga K x)) "__init__" = some (some (.ref (He.ma K (He.ga K x) "__init__")))) && (decide (PySem.W.typeIn K (.ref (He.ma K (He.ga K x) "__init__")) = some (.type "function")) && ns.all fun n => decide (PySem.W.findIn K (.ref (He.ga K x)) n = some none)))
theorem ec_ok {K : PySem.W.Frag} {x iname qual : Str} {params : Arguments} {body : List Stmt} {scope : Scope} {fd : FuncData} {N ns qs : List Str} (e : ecB K x ns = true) (F : FunD K iname qual params body scope [] [] (He.ma K (He.ga K x) "__init__") fd) (S : FnScope N ("self" :: qs) scope) (hb : InitBody (ns.zip qs) body)
    (hl : ns.length = qs.length) (hne : ns ≠ []) (hnd : ns.Nodup) (hlen : ns.length ≤ 900) (hq : ∀ q ∈ qs, (q == ("__debug__" : Str)) = false ∧ (q == ("__classdict__" : Str)) = false) (bd : Binds K fd ("self" :: qs) []) : Ec K (He.ga K x) ns (He.ma K (He.ga K x) "__init__") fd qs := by
  obtain ⟨h1, h⟩ := bsplit e
  obtain ⟨h2, h⟩ := bsplit h
  obtain ⟨h3, h4⟩ := bsplit h
  have T := oexB_ok h1
  exact ⟨T, of_decide_eq_true h2, of_decide_eq_true h3, fun P w mg base k => init_ok F S hb hl hne hnd hlen T (fun n hn => of_decide_eq_true (List.all_eq_true.mp h4 n hn)) hq k, bd⟩
/-- which of the classes xs (by number) an except clause naming c catches -/
def exmB (K : PySem.W.Frag) (x y : Str) (b : Bool) : Bool := decide (PySem.W.exmOne K (.ref (He.ga K x)) (.ref (He.ga K y)) = some b)
/-- isinstance of an error of class x -/
def kitB (K : PySem.W.Frag) (x : Str) (u : Value) (b : Bool) : Bool := excB K (He.ga K x) && decide (PySem.W.kitOne K (.ref (He.ga K x)) u = some b)
end Pv

set_option Elab.async false
set_option linter.all false
set_option maxRecDepth 100000
set_option maxHeartbeats 4000000
set_option autoImplicit false
/-! PvP: list comprehensions of one clause. -/
namespace Pv
open PySem PySem.Spec PyProof.Rows L2

def wipeE (E : Env) : List Nat → Env
  | [] => E
  | v :: vs => (wipeE E vs).set v none
theorem wipeE_length (E : Env) : ∀ vs, (wipeE E vs).length = E.length
  | [] => rfl
  | v :: vs => by unfold wipeE; rw [List.length_set, wipeE_length E vs]
theorem wipeE_some {E : Env} {i : Nat} {o : O} : ∀ {vs : List Nat}, (wipeE E vs)[i]? = some (some o) → i ∉ vs
  | [], _ => by simp
  | v :: vs, h => by
    unfold wipeE at h
    rcases set_get h with ⟨_, e⟩ | ⟨ne, h⟩
    · cases e
    · have := wipeE_some h
      simp only [List.mem_cons, not_or]
      exact ⟨ne, this⟩
section
variable {T : Tb} {C H : Hp} {E : Env} {σ : St} {F : Ft}
theorem Wd.wipe (hT : T.pin = []) (w : Wd T C H E σ F) : ∀ vs : List Nat, ∃ F', Wd T C H (wipeE E vs) (L2.wipe σ vs) F' ∧ ∀ p, Own F' p → Own F p
  | [] => ⟨F, w, fun _ z => z⟩
  | v :: vs => by
    obtain ⟨F', w', l⟩ := Wd.wipe hT w vs
    exact ⟨_, w'.dropS (i := v) (x := none) fun q hq => by rw [hT] at hq; simp at hq, fun p z => l p ((own_updF z).elim (fun y => by simp at y) id)⟩
theorem Wd.unwipe (hT : T.pin = []) {vs : List Nat} (w : Wd T C H (wipeE E vs) (L2.wipe σ vs) F) : Wd T C H (wipeE E vs) σ F :=
  ⟨w.flo, fun q hq => by rw [hT] at hq; simp at hq, w.sub, by rw [w.len, wipe_length], fun i o e => by
    obtain ⟨v, e1, r⟩ := w.rep i o e
    rw [wipe_out (wipeE_some e)] at e1
    exact ⟨v, e1, r⟩, w.emp, w.nd, w.dj, w.out⟩
end
/-- the slots that are not the block's own, with what they hold -/
def outs (n : Nat) (vs : List Nat) : List Nat := (List.range n).filter fun i => !vs.contains i
def pnOf (σ : St) (vs : List Nat) : List (Nat × Option V) := (outs σ.length vs).filterMap fun i => (σ[i]?).map fun x => (i, x)
theorem pnOf_mem {σ : St} {vs : List Nat} {q : Nat × Option V} (h : q ∈ pnOf σ vs) : q.1 ∈ outs σ.length vs ∧ σ[q.1]? = some q.2 := by
  obtain ⟨i, hi, e⟩ := List.mem_filterMap.mp h
  cases hx : σ[i]? with
  | none => rw [hx] at e; cases e
  | some x =>
    rw [hx] at e
    cases e
    exact ⟨hi, hx⟩
theorem outs_mem {n i : Nat} {vs : List Nat} : i ∈ outs n vs ↔ i < n ∧ i ∉ vs := by
  unfold outs
  rw [List.mem_filter]
  simp
theorem pnOf_wipe {σ : St} {vs : List Nat} : Pin (pnOf σ vs) (L2.wipe σ vs) := fun q hq => by
  obtain ⟨h1, h2⟩ := pnOf_mem hq
  rw [wipe_out (outs_mem.mp h1).2]; exact h2
theorem wipe_in {σ : St} {j : Nat} : ∀ {vs : List Nat}, j ∈ vs → j < σ.length → (L2.wipe σ vs)[j]? = some none
  | [], h, _ => by simp at h
  | v :: vs, h, lt => by
    unfold L2.wipe
    by_cases e : v = j
    · subst e
      rw [List.getElem?_set_self (by rw [wipe_length]; exact lt)]
    · rw [List.getElem?_set_ne e]
      exact wipe_in ((List.mem_cons.mp h).resolve_left fun z => e z.symm) lt
theorem wipe_eq {σ σ2 : St} {vs : List Nat} (h : Pin (pnOf σ vs) σ2) (hl : σ2.length = σ.length) : L2.wipe σ2 vs = L2.wipe σ vs := by
  refine List.ext_getElem? fun j => ?_
  by_cases lt : j < σ.length
  · by_cases m : j ∈ vs
    · rw [wipe_in m (by rw [hl]; exact lt), wipe_in m lt]
    · rw [wipe_out m, wipe_out m]
      have := h (j, σ[j]) (List.mem_filterMap.mpr ⟨j, outs_mem.mpr ⟨lt, m⟩, by rw [List.getElem?_eq_getElem lt]; rfl⟩)
      rw [this, List.getElem?_eq_getElem lt]
  · rw [List.getElem?_eq_none (by rw [wipe_length, hl]; omega), List.getElem?_eq_none (by rw [wipe_length]; omega)]

abbrev WF : WX := fun _ _ _ _ => False
def dYes : DT := fun E KB _ => KB true E
def lcD (ps : List (Nat × O)) (vs : List Nat) (gg : DG) (tt : DT) (fe : DE) : List D → List O → Env → (List O → Env → Prop) → Prop
  | [], acc, E, K => holds ps E ∧ K acc E
  | d :: ds, acc, E, K => holds ps E ∧ gg d E fun E1 => E1.length = E.length ∧ tt E1 (fun b E2 => if b = true then fe E2 (fun a E3 => capO E3 a fun o E4 => acc.length < sizeLine ∧ lcD ps vs gg tt fe ds (acc ++ [o]) (wipeE E4 vs) K) (fun _ _ => False)
      else lcD ps vs gg tt fe ds acc (wipeE E2 vs) K) (fun _ _ => False)
def dLc (vs : List Nat) (fi : DI) (gg : DG) (tt : DT) (fe : DE) : DE := fun E KR KE => fi E (fun ds ps E1 => lcD ps vs gg tt fe ds [] (wipeE E1 vs) fun os E2 => KR (.val (.lst os)) E2) KE
section
variable {T : Tb} {W : WX}
theorem keepF {C H C2 H2 : Hp} {own own2 : Addr → Prop} (x : Fr C H own C2 H2 own2) {l : List Addr} (h : ∀ p ∈ l, C p = none ∧ ¬ own p) (t : ∀ p ∈ l, ∃ u, H p = some u) : ∀ p ∈ l, (∀ u, H p = some u → H2 p = some u) ∧ C2 p = none ∧ ¬ own2 p := fun p hp => by
  obtain ⟨u, hu⟩ := t p hp
  obtain ⟨a, b, c⟩ := x.fo p u hu (h p hp).1 (h p hp).2
  exact ⟨fun u' hu' => by rw [hu] at hu'; cases hu'; exact a, b, c⟩
/-- what holds between two turns -/
structure LcI (T : Tb) (σ : St) (ps : List (Nat × O)) (vs : List Nat) (gg : DG) (tt : DT) (fe : DE) (D0 : Addr) (C1 H1 : Hp) (own1 : Addr → Prop) (ds : List D) (K : List O → Env → Prop) (H' : Hp) (C' : Hp) (E0 : Env) (F' : Ft) (acc : List O) (av : List V) (f : List Addr) : Prop where
  wd : Wd T C' H' (wipeE E0 vs) (L2.wipe σ vs) F'
  at_ : H' D0 = some (.lst av)
  rep : ORepL T C' H' acc av f
  nd : (D0 :: f).Nodup
  ot : ∀ p ∈ D0 :: f, C' p = none ∧ ¬ Own F' p
  fr : Fr C1 H1 own1 C' H' (fun p => Own F' p ∨ p ∈ D0 :: f)
  k : lcD ps vs gg tt fe ds acc (wipeE E0 vs) K
theorem LcI.there {σ : St} {ps : List (Nat × O)} {vs : List Nat} {gg : DG} {tt : DT} {fe : DE} {D0 : Addr} {C1 H1 : Hp} {own1 : Addr → Prop} {ds : List D} {K : List O → Env → Prop} {H' C' : Hp} {E0 : Env} {F' : Ft} {acc : List O} {av : List V} {f : List Addr}
    (i : LcI T σ ps vs gg tt fe D0 C1 H1 own1 ds K H' C' E0 F' acc av f) : ∀ p ∈ D0 :: f, ∃ u, H' p = some u := fun p hp => by
  rcases List.mem_cons.mp hp with e | hp
  · subst e; exact ⟨_, i.at_⟩
  · exact i.rep.there p hp
theorem pre_lc (hT : T.pin = []) {vs : List Nat} {fi : DI} {gg : DG} {tt : DT} {fe : DE} {σ : St} {H : Hp} {Q : VK} (h : PreE T W (dLc vs fi gg tt fe) σ H Q) :
    tLc (PreI T W fi) (PreG T (pnOf σ vs) gg) (PreT T WF tt) (PreE T WF fe) vs σ H Q := by
  obtain ⟨C, E, F, KR, KE, w, k, hq, hx⟩ := h
  refine ⟨C, E, F, _, KE, w, k, fun C1 H1 E1 F1 ds ps J w1 fr1 wk hps k1 D0 hD => ?_, hx⟩
  obtain ⟨F2, w2, l2⟩ := w1.wipe hT vs
  have grD : Grow C1 H1 C1 (upd H1 D0 (.lst [])) [D0] := Grow.own w1.sub hD
  refine ⟨fun i m H' => m = ds.length - i ∧ i ≤ ds.length ∧ ∃ C' E0 F' acc av f, LcI T σ ps vs gg tt fe D0 C1 H1 (Own F1) (ds.drop i) (fun os E2 => KR (.val (.lst os)) E2) H' C' E0 F' acc av f,
    ⟨ds.length, by simp, Nat.zero_le _, C1, E1, F2, [], [], [], w2.grow grD, upd_same, .nil, by simp, fun p hp => ?_, ?_, k1⟩, ?_⟩
  · rw [List.mem_singleton] at hp
    subst hp
    exact ⟨none_of_sub w1.sub hD, fun z => by
      obtain ⟨i, hi⟩ := z
      obtain ⟨u, hu⟩ := w2.own_there hi
      rw [hD] at hu; cases hu⟩
  · exact grD.fr fun p z => z.elim (fun y => .inl (l2 p y)) .inr
  rintro i m H' ⟨rfl, hi, C', E0, F', acc, av, f, I⟩
  have src : ∀ z ∈ ps, ∃ v f, σ[z.1]? = some (some v) ∧ ORep T C' H' z.2 v f := fun z hz => by
    have hold : holds ps (wipeE E0 vs) := by
      have := I.k
      cases hd : ds.drop i with
      | nil => rw [hd] at this; exact this.1
      | cons _ _ => rw [hd] at this; exact this.1
    obtain ⟨v, e1, r⟩ := I.wd.rep z.1 z.2 (hold z hz)
    exact ⟨v, _, (wipe_some e1).1, r⟩
  have Wk := wk C' H' I.fr.cl I.wd.sub src
  by_cases lt : i < ds.length
  · refine .inr ⟨Wk.go i lt, fun H'' => ∃ C' E0 F' acc av f, LcI T σ ps vs gg tt fe D0 C1 H1 (Own F1) (ds.drop (i + 1)) (fun os E2 => KR (.val (.lst os)) E2) H'' C' E0 F' acc av f,
      fun H'' h => ⟨ds.length - (i + 1), by omega, rfl, lt, h⟩, fun x H3 y => ?_⟩
    obtain ⟨C3, d, gr, hd, rd⟩ := Wk.yld i x H3 lt y
    have k3 := I.k
    rw [drop_cons hd] at k3
    obtain ⟨_, k3⟩ := k3
    have w3 := I.wd.grow gr
    have fr3 : Fr C' H' (Own F') C3 H3 (Own F') := gr.fr fun _ z => .inl z
    refine ⟨C3, wipeE E0 vs, F', d, _, w3, pnOf_wipe, rd, k3, fun C4 H4 E4 σ4 F4 w4 p4 fr4 ⟨hl4, k4⟩ => ?_⟩
    have ew : L2.wipe σ4 vs = L2.wipe σ vs := wipe_eq p4 (by rw [← w4.len, hl4, w3.len, wipe_length])
    refine ⟨ew, C4, E4, F4, _, _, w4, k4, fun C5 H5 E5 F5 b w5 fr5 k5 => ?_, fun _ _ _ _ _ _ _ _ _ _ z => z⟩
    have frA : Fr C' H' (Own F') C5 H5 (Own F5) := (fr3.trans fr4 fun _ z => z).trans fr5 fun _ z => z
    cases b with
    | true =>
      rw [if_pos rfl] at k5
      show (if true = true then _ else _)
      rw [if_pos rfl]
      refine ⟨C5, E5, F5, _, _, w5, k5, fun C6 H6 E6 F6 a v g x6 k6 => ?_, fun _ _ _ _ _ _ _ _ _ _ z => z⟩
      obtain ⟨C7, E7, F7, o, w7, ro, ot7, fr7, hz, k7⟩ := cap_r x6 k6
      have frT : Fr C' H' (Own F') C7 H6 (fun p => Own F7 p ∨ p ∈ g) := frA.trans fr7 fun _ z => z
      have kp := keepF frT I.ot I.there
      obtain ⟨kD, cD, oD⟩ := kp D0 List.mem_cons_self
      have hD6 : H6 D0 = some (.lst av) := kD _ I.at_
      have ndI := List.nodup_cons.mp I.nd
      refine ⟨av, hD6, by rw [← I.rep.length]; exact hz, ?_⟩
      have fne : ∀ p ∈ f, p ≠ D0 := fun p hp e => ndI.1 (e ▸ hp)
      have gne : ∀ p ∈ g, p ≠ D0 := fun p hp e => oD (.inr (e ▸ hp))
      have sub8 : Sub C7 (upd H6 D0 (.lst (av ++ [v]))) := fun q u e => by
        have ne : q ≠ D0 := fun z => by rw [z, cD] at e; cases e
        rw [upd_ne ne]; exact w7.sub q u e
      have w8 : Wd T C7 (upd H6 D0 (.lst (av ++ [v]))) E7 σ4 F7 := w7.move (Sub.refl _) sub8 (fun q hq u e => upd_keep (fun z => oD (.inl (z ▸ hq))) e) fun q ⟨j, hq⟩ => w7.out j q hq
      obtain ⟨F8, w9, l9⟩ := w8.wipe hT vs
      rw [ew] at w9
      refine ⟨C7, E7, F8, acc ++ [o], av ++ [v], f ++ g, w9, upd_same, ?_, ?_, fun p hp => ?_, ⟨I.fr.cl.trans frT.cl, fun p u e n q => ?_⟩, k7⟩
      · exact ORepL.snoc (ro.keep (Sub.refl _) fun p hp u e => upd_keep (gne p hp) e) (I.rep.keep frT.cl fun p hp u e => upd_keep (fne p hp) ((kp p (List.mem_cons_of_mem _ hp)).1 u e))
      · refine List.nodup_cons.mpr ⟨fun z => (List.mem_append.mp z).elim (fun y => ndI.1 y) fun y => oD (.inr y), List.nodup_append.mpr ⟨ndI.2, x6.nd, fun p hp q hq e => ?_⟩⟩
        subst e
        exact (kp p (List.mem_cons_of_mem _ hp)).2.2 (.inr hq)
      · rcases List.mem_cons.mp hp with e | hp
        · subst e; exact ⟨cD, fun z => oD (.inl (l9 _ z))⟩
        · rcases List.mem_append.mp hp with z | z
          · exact ⟨(kp p (List.mem_cons_of_mem _ z)).2.1, fun y => (kp p (List.mem_cons_of_mem _ z)).2.2 (.inl (l9 _ y))⟩
          · exact ⟨(ot7 p z).1, fun y => (ot7 p z).2 (l9 _ y)⟩
      · obtain ⟨e1, n1, q1⟩ := I.fr.fo p u e n q
        obtain ⟨e2, n2, q2⟩ := frT.fo p u e1 n1 fun z => q1 (.inl z)
        have ne : p ≠ D0 := fun z => q1 (.inr (by rw [z]; exact List.mem_cons_self))
        refine ⟨upd_keep ne e2, n2, fun z => ?_⟩
        rcases z with z | z
        · exact q2 (.inl (l9 _ z))
        · rcases List.mem_cons.mp z with z | z
          · exact ne z
          · rcases List.mem_append.mp z with z | z
            · exact q1 (.inr (List.mem_cons_of_mem _ z))
            · exact q2 (.inr z)
    | false =>
      rw [if_neg (by decide)] at k5
      show (if false = true then _ else _)
      rw [if_neg (by decide)]
      have kp := keepF frA I.ot I.there
      obtain ⟨F8, w9, l9⟩ := w5.wipe hT vs
      rw [ew] at w9
      refine ⟨C5, E5, F8, acc, av, f, w9, (kp D0 List.mem_cons_self).1 _ I.at_, I.rep.keep frA.cl fun p hp u e => (kp p (List.mem_cons_of_mem _ hp)).1 u e, I.nd, fun p hp => ⟨(kp p hp).2.1, fun z => (kp p hp).2.2 (l9 p z)⟩, ?_, k5⟩
      exact (I.fr.side frA).weak (fun _ z => z) fun p z => z.elim (fun y => .inl (l9 p y)) .inr
  · have e : ds.drop i = [] := List.drop_eq_nil_of_le (by omega)
    have k3 := I.k
    rw [e] at k3
    obtain ⟨_, k3⟩ := k3
    refine .inl ⟨Wk.stop i (by omega), hq C' H' _ F' _ _ (D0 :: f) ⟨I.wd.unwipe hT, .val (.lst I.at_ I.rep), I.nd, I.ot, fr1.trans I.fr fun _ z => z⟩ k3⟩
end
section
variable {X : Cx} {T : Tb} {W : WX} {ks : List Nat} {elt tg iter : Expr} {ifs : List Expr} {scope : Scope} {own : List (Str × Nat)} {pos : Pos} {fi : DI} {gg : DG} {tt : DT} {fe : DE}
theorem se_lc (hT : T.pin = []) (hc : X.calm = true) (hN : X.N.Nodup) (hi : SI T X W tg fi iter) (ok : BlkOk X.N X.env.scope scope own)
    (hg : ∀ (s : Shared) (H : Hp) (C : Addr) (cl : List (Str × Addr)) (fp : List Addr), SG T (X.blk s H scope (compEnvC scope cl C X.env) fp) (outs X.N.length (own.map (·.2))) gg tg)
    (ht : ∀ (s : Shared) (H : Hp) (C : Addr) (cl : List (Str × Addr)) (fp : List Addr), PTs (X.blk s H scope (compEnvC scope cl C X.env) fp) ifs (PreT T WF tt))
    (he : ∀ (s : Shared) (H : Hp) (C : Addr) (cl : List (Str × Addr)) (fp : List Addr), SE T (X.blk s H scope (compEnvC scope cl C X.env) fp) WF fe elt) (hs : ∀ x, foldedSetIterable iter X.env x = pure x) :
    SE T X W (dLc (own.map (·.2)) fi gg tt fe) (.ListComp elt [⟨tg, iter, ifs, 0⟩] scope pos) := by
  refine ⟨fun pins s σ H Q I h => ?_⟩
  refine (pe_lc (g := PreG T (pnOf σ (own.map (·.2))) gg) hc hN hi ok (fun s' H' C cl fp => hg s' H' C cl fp _ ⟨fun q hq => ?_, fun q hq => by rw [hT] at hq; simp at hq⟩) ht he hs).run pins s σ H Q I (pre_lc hT h)
  have := (pnOf_mem hq).1
  rw [I.len] at this
  exact this
theorem pts_yes {X : Cx} : PTs X [] (PreT T WF dYes) := ⟨fun pins s σ H Q I ⟨C, E, F, KR, KE, w, k, hq, _⟩ => pts_nil.run pins s σ H Q I (hq C H E F true w Fr.refl k)⟩
/-- x = [..]: the list goes into the name at once -/
theorem ss_asgLc {i : Nat} {y : Str} {py spos : Pos} (hT : T.pin = []) (hc : X.calm = true) (hN : X.N.Nodup) (hy : X.N[i]? = some y) (hyl : X.env.scope.names.lookup y = some .local) (hk : i ∉ ks)
    (hsw : swapsWith (.ListComp elt [⟨tg, iter, ifs, 0⟩] scope pos) (some (.Name y py)) spos.line X.env = pure true) (hi : SI T X W tg fi iter) (ok : BlkOk X.N X.env.scope scope own)
    (hg : ∀ (s : Shared) (H : Hp) (C : Addr) (cl : List (Str × Addr)) (fp : List Addr), SG T (X.blk s H scope (compEnvC scope cl C X.env) fp) (outs X.N.length (own.map (·.2))) gg tg)
    (ht : ∀ (s : Shared) (H : Hp) (C : Addr) (cl : List (Str × Addr)) (fp : List Addr), PTs (X.blk s H scope (compEnvC scope cl C X.env) fp) ifs (PreT T WF tt))
    (he : ∀ (s : Shared) (H : Hp) (C : Addr) (cl : List (Str × Addr)) (fp : List Addr), SE T (X.blk s H scope (compEnvC scope cl C X.env) fp) WF fe elt) (hs : ∀ x, foldedSetIterable iter X.env x = pure x) :
    SS T X W ks (sAsg i (dLc (own.map (·.2)) fi gg tt fe)) (.Assign [.Name y py] (.ListComp elt [⟨tg, iter, ifs, 0⟩] scope pos) spos) := fun pn hp => by
  refine ⟨fun pins s σ H D I h => ?_⟩
  refine (ps_setLc (g := PreG T (pnOf σ (own.map (·.2))) gg) hc hN hy hyl hsw hi ok (fun s' H' C cl fp => hg s' H' C cl fp _ ⟨fun q hq => ?_, fun q hq => by rw [hT] at hq; simp at hq⟩) ht he hs).run pins s σ H D I ?_
  · have := (pnOf_mem hq).1
    rw [I.len] at this
    exact this
  obtain ⟨C, E, F, K, w, p, k, q⟩ := h
  have lt : i < σ.length := by rw [I.len]; exact (List.getElem?_eq_some_iff.mp hy).1
  refine pre_lc hT (W := W) ⟨C, E, F, _, _, w, k, fun C1 H1 E1 F1 a v fr y1 k1 => ?_, q.xc p⟩
  obtain ⟨C2, E2, F2, o, w2, k2, fr2⟩ := store_wd y1 lt (fun z hz e => hk (e ▸ hp.2 z hz)) k1
  exact q.nx C2 H1 _ _ F2 w2 (p.set fun z hz e => hk (e ▸ hp.1 z hz)) fr2 k2
end
end Pv

set_option Elab.async false
set_option linter.all false
set_option maxRecDepth 100000
set_option maxHeartbeats 4000000
set_option autoImplicit false
/-! PvQ: tuple(), list(), isinstance of two kinds; readings of comprehensions by steps. -/
namespace Pv
open PySem PySem.Spec PyProof.Rows L2
section
variable {X : Cx} {T : Tb} {W : WX} {f : DE} {fs : DA} {e : Expr} {es : List Expr} {pos p : Pos}
theorem etuple (hK : X.K = T.K) (hm : X.mg "tuple" = none) (ha : SA T X W fs (e :: es)) (hg : Gl X "tuple" := by rfl) (he : starEach (e :: es) X.env = (false, eval e X.env) :: starEach es X.env := by rfl) (hpl : (backTo pos (starEach es X.env)).any (·.1) = false := by rfl) :
    SE T X W (dB gTuple fs) (.Call (.Name "tuple" p) (e :: es) [] pos) := se_callTy (X := X) call_tuple_of (by rw [hK]; exact bi_tuple) hg hm (by decide +kernel) ha (by decide) (by decide) he hpl
theorem elist (hK : X.K = T.K) (hm : X.mg "list" = none) (ha : SA T X W fs (e :: es)) (hg : Gl X "list" := by rfl) (he : starEach (e :: es) X.env = (false, eval e X.env) :: starEach es X.env := by rfl) (hpl : (backTo pos (starEach es X.env)).any (·.1) = false := by rfl) :
    SE T X W (dB gList fs) (.Call (.Name "list" p) (e :: es) [] pos) := se_callTy (X := X) call_list_of (by rw [hK]; exact bi_list) hg hm (by decide +kernel) ha (by decide) (by decide) he hpl
theorem eisi2 {kn : List Nat} {k k2 : Kd} {c1 c2 : V} {u1 u2 : Value} {t1 t2 : Expr} {kt : Nat} {pt : Pos} (hK : X.K = T.K) (hi : ∀ c ∈ kn, ClsI T.K (T.ca c)) (hk1 : KdOk T kn k c1 u1) (hk2 : KdOk T kn k2 c2 u2) (hm : X.mg "isinstance" = none) (he : SE T X W f e) (ht1 : PE X t1 (tC c1)) (ht2 : PE X t2 (tC c2)) (hg : Gl X "isinstance" := by rfl)
    (h1 : starEach [e, .Tuple [t1, t2] kt pt] X.env = (false, eval e X.env) :: starEach [.Tuple [t1, t2] kt pt] X.env := by rfl) (h2 : starEach [.Tuple [t1, t2] kt pt] X.env = (false, eval (.Tuple [t1, t2] kt pt) X.env) :: starEach [] X.env := by rfl)
    (h3 : starEach [t1, t2] X.env = (false, eval t1 X.env) :: starEach [t2] X.env := by rfl) (h4 : starEach [t2] X.env = (false, eval t2 X.env) :: starEach [] X.env := by rfl)
    (hpl : (backTo pos (starEach [.Tuple [t1, t2] kt pt] X.env)).any (·.1) = false := by rfl) :
    SE T X W (dIsi kn [k, k2] f) (.Call (.Name "isinstance" p) [e, .Tuple [t1, t2] kt pt] [] pos) := se_isi2 hK hi hk1 hk2 hg hm he ht1 ht2 h1 h2 h3 h4 hpl
end
section
variable {x : Option O} {E : List (Option O)} {KR : KA} {KE : KX}
theorem x_lc {vs : List Nat} {fi : DI} {gg : DG} {tt : DT} {fe : DE} : dLc vs fi gg tt fe (x :: E) KR KE = fi (x :: E) (fun ds ps E1 => lcD ps vs gg tt fe ds [] (wipeE E1 vs) fun os E2 => KR (.val (.lst os)) E2) KE := rfl
theorem x_yes {KB : Bool → Env → Prop} : dYes (x :: E) KB KE = KB true (x :: E) := rfl
theorem x_w0 : wipeE (x :: E) [] = x :: E := rfl
theorem x_ws {v : Nat} {vs : List Nat} : wipeE (x :: E) (v :: vs) = (wipeE (x :: E) vs).set v none := rfl
end
end Pv

set_option Elab.async false
set_option linter.all false
set_option maxRecDepth 100000
set_option maxHeartbeats 4000000
set_option autoImplicit false
/-! PvR: zip of two, each a list or a tuple (turned from the library's two readings of zip). -/
namespace Pv
open PySem PySem.Spec PyProof.Rows L2

/-- b: a tuple (else a list) -/
def SqH (b : Bool) (h : Heap) (l : Addr) (xs : Array Value) : Prop := if b = true then h.IsTuple l xs else h.IsList l xs
def ItH (b : Bool) (h : Heap) (i l : Addr) (k : Nat) : Prop := if b = true then h.IsTupleIter i l k else h.IsListIter i l k
def SqB (b : Bool) (K : PySem.W.Frag) (H : Hp) (a : Addr) (xs : List V) : Prop := if b = true then SqT K H a xs else SqL K H a xs
theorem SqH.ext {b : Bool} {h h' : Heap} {l c : Addr} {xs : Array Value} (x : SqH b h l xs) (e : Heap.ExtBut c h h') (n : l ≠ c) : SqH b h' l xs := by
  cases b
  · exact Heap.IsList.extBut x e n
  · exact Heap.IsTuple.extBut x e n
theorem ItH.ext {b : Bool} {h h' : Heap} {i l c : Addr} {k : Nat} (x : ItH b h i l k) (e : Heap.ExtBut c h h') (n : i ≠ c) : ItH b h' i l k := by
  cases b
  · exact Heap.IsListIter.extBut x e n
  · exact Heap.IsTupleIter.extBut x e n
theorem ItH.at_ {b : Bool} {h h' : Heap} {i l : Addr} {k : Nat} (x : ItH b h i l k) (e : ∀ o, h.get? i = some o → h'.get? i = some o) : ItH b h' i l k := by
  cases b
  · exact Heap.IsListIter.at x e
  · exact Heap.IsTupleIter.at x e
theorem ItH.obj {b : Bool} {h : Heap} {i l : Addr} {k : Nat} (x : ItH b h i l k) : ∃ o vs, h.get? i = some o ∧ o.data = .fields vs := by
  cases b
  · obtain ⟨o, e, _, d⟩ := x; exact ⟨o, _, e, d⟩
  · obtain ⟨o, e, _, d⟩ := x; exact ⟨o, _, e, d⟩
section
variable {prog : Program} {w : World} {A : Around} {E : Value → Shared → Prop} {s : Shared}
theorem nx_item {b : Bool} {i l : Addr} {k : Nat} {xs : Array Value} {x : Value} {Q : Value → Shared → Prop} (hi : ItH b s.heap i l k) (hl : SqH b s.heap l xs) (hx : xs[k]? = some x) (hq : ∀ h', ItH b h' i l (k + 1) → Heap.SameBut i s.heap h' → Q x { s with heap := h' }) :
    wpAny (model prog w) A (Builtin.SmallTypes.nextOf (.ref i)) Q E s := by
  cases b
  · exact wpAny_nextOf_list_item hi hl hx hq
  · exact RZ.nextOf_tuple_item hi hl hx hq
theorem nx_end {b : Bool} {i l : Addr} {k : Nat} {xs : Array Value} {Q : Value → Shared → Prop} (hh : A.handled = none) (hi : ItH b s.heap i l k) (hl : SqH b s.heap l xs) (hx : xs[k]? = none) (he : ∀ h' e, Heap.ExtBut i s.heap h' → (∃ o, h'.get? e = some o ∧ o.cls = .type "StopIteration") → E (.ref e) { s with heap := h' }) :
    wpAny (model prog w) A (Builtin.SmallTypes.nextOf (.ref i)) Q E s := by
  cases b
  · exact wpAny_nextOf_list_end hh hi hl hx he
  · exact RZ.nextOf_tuple_end hh hi hl hx he
variable {z t u i1 i2 l1 l2 : Addr} {k1 k2 : Nat} {xs ys : Array Value} {b c : Bool} {v1 v2 : Value}
theorem zp_item {x y : Value} {Q : Value → Shared → Prop} (D : ZipApart z t u i1 i2 l1 l2) (hz : IsZip s.heap z t u .none) (ht : IsPair s.heap t (.ref i1) (.ref i2)) (hu : IsPair s.heap u v1 v2) (h1 : ItH b s.heap i1 l1 k1) (h2 : ItH c s.heap i2 l2 k2) (g1 : SqH b s.heap l1 xs) (g2 : SqH c s.heap l2 ys)
    (hx : xs[k1]? = some x) (hy : ys[k2]? = some y) (hq : ∀ h', IsZip h' z t u (rawInt s.heap.objs.size) → IsPair h' u x y → ItH b h' i1 l1 (k1 + 1) → ItH c h' i2 l2 (k2 + 1) → IsPair h' s.heap.objs.size x y → h'.objs.size = s.heap.objs.size + 1 →
      (∀ a o, a ≠ z → a ≠ u → a ≠ i1 → a ≠ i2 → s.heap.get? a = some o → h'.get? a = some o) → Q (.ref s.heap.objs.size) { s with heap := h' }) :
    wpAny (model prog w) A (Builtin.«zip.__next__» ⟨[.ref z], []⟩) (fun fin s' => ∃ v, fin = .done (.ret v) ∧ Q v s') E s := by
  show wpAny _ _ (field (.ref z) 2 >>= _) _ _ _
  refine wpAny_bind (wpAny_field hz rfl (x := .bool false) rfl ?_); show wpAny _ _ (field (.ref z) 3 >>= _) _ _ _
  refine wpAny_bind (wpAny_field hz rfl (x := .ref t) rfl (wpAny_bind (wpAny_seqItems ht rfl ?_))); show wpAny _ _ (Builtin.SmallTypes.ownedTupleIsFree (.ref z) >>= _) _ _ _
  refine wpAny_bind ?_; unfold Builtin.SmallTypes.ownedTupleIsFree
  refine wpAny_bind (wpAny_field hz rfl (x := .none) rfl (wpAny_pure ?_)); simp only [if_true]
  refine wpAny_bind (wpAny_rule (wpAny_bind (wpAny_field hz rfl (x := .ref u) rfl (wpAny_bind (wpAny_setField_rec hz (by simp) fun a1 z1 s1 => ?_))))); replace z1 : IsZip a1 z t u .ellipsis := z1
  refine wpAny_bind ?_; simp only [List.zipIdx_cons, List.zipIdx_nil, List.forIn_cons, List.forIn_nil]; refine wpAny_bind (wpAny_bind (wpAny_onRaise ?_)); show wpAny _ _ (Builtin.SmallTypes.nextOf (.ref i1) >>= _) _ _ _
  refine wpAny_bind (nx_item (h1.ext s1.extBut D.i1z) (g1.ext s1.extBut D.l1z) hx fun a2 m1 s2 => wpAny_pure ?_)
  have u2 : IsPair a2 u v1 v2 := s2.extBut _ _ D.TOi1 (s1.extBut _ _ D.TOz hu)
  refine wpAny_bind (wpAny_seqItems u2 rfl (wpAny_bind (wpAny_updateSeq_pair u2 fun a3 u3 s3 => ?_))); replace u3 : IsPair a3 u x v2 := u3
  refine wpAny_bind (wpAny_letGo (wpAny_pure (wpAny_bind (wpAny_bind (wpAny_onRaise ?_))))); show wpAny _ _ (Builtin.SmallTypes.nextOf (.ref i2) >>= _) _ _ _
  refine wpAny_bind (nx_item (((h2.ext s1.extBut D.i2z).ext s2.extBut D.i12.symm).ext s3.extBut D.TOi2.symm) (((g2.ext s1.extBut D.l2z).ext s2.extBut D.l2i1).ext s3.extBut D.l2TO) hy fun a4 m2 s4 => wpAny_pure ?_)
  have u4 : IsPair a4 u x v2 := s4.extBut _ _ D.TOi2 u3
  refine wpAny_bind (wpAny_seqItems u4 rfl (wpAny_bind (wpAny_updateSeq_pair u4 fun a5 u5 s5 => ?_))); replace u5 : IsPair a5 u x y := u5
  refine wpAny_bind (wpAny_letGo (wpAny_pure (wpAny_pure (wpAny_bind (wpAny_seqItems u5 rfl (wpAny_bind (wpAny_newTuple ?_)))))))
  have sz : a5.objs.size = s.heap.objs.size := by rw [s5.1, s4.1, s3.1, s2.1, s1.1]
  have z5 : IsZip a5 z t u .ellipsis := s5.extBut _ _ D.TOz.symm (s4.extBut _ _ D.i2z.symm (s3.extBut _ _ D.TOz.symm (s2.extBut _ _ D.i1z.symm z1)))
  have kk : ∀ a o, a ≠ z → a ≠ u → a ≠ i1 → a ≠ i2 → s.heap.get? a = some o → a5.get? a = some o := fun a o c1 c2 c3 c4 e => s5.extBut _ _ c2 (s4.extBut _ _ c4 (s3.extBut _ _ c2 (s2.extBut _ _ c3 (s1.extBut _ _ c1 e))))
  have n1 : ItH b a5 i1 l1 (k1 + 1) := ((m1.ext s3.extBut D.TOi1.symm).ext s4.extBut D.i12).ext s5.extBut D.TOi1.symm
  have n2 : ItH c a5 i2 l2 (k2 + 1) := m2.ext s5.extBut D.TOi2.symm
  have zl : z < a5.objs.size := Heap.lt_size z5
  have ul : u < a5.objs.size := Heap.lt_size u5
  show wpAny _ _ (Builtin.SmallTypes.ownedTupleHandOut (.ref z) (.ref a5.objs.size) >>= _) _ _ _
  refine wpAny_bind ?_; unfold Builtin.SmallTypes.ownedTupleHandOut
  have z6 : IsZip (a5.push { cls := .type "tuple", data := .seq #[x, y] }) z t u .ellipsis := Heap.get?_push_of_some _ z5
  refine wpAny_bind (wpAny_setField_rec z6 (by simp) fun a7 z7 s7 => ?_); replace z7 : IsZip a7 z t u (rawInt a5.objs.size) := z7
  refine wpAny_setField_rec z7 (by simp) fun a8 z8 s8 => ?_; replace z8 : IsZip a8 z t u (rawInt a5.objs.size) := z8
  have up : ∀ a o, a ≠ z → a5.get? a = some o → a8.get? a = some o := fun a o c1 e => s8.extBut _ _ c1 (s7.extBut _ _ c1 (Heap.get?_push_of_some _ e))
  have p8 : IsPair a8 a5.objs.size x y := s8.extBut _ _ (Nat.ne_of_gt zl) (s7.extBut _ _ (Nat.ne_of_gt zl) (Heap.get?_push_size _ rfl))
  have q8 : a8.objs.size = a5.objs.size + 1 := by rw [s8.1, s7.1, Heap.size_push]
  rw [sz] at z8 p8 q8
  refine wpAny_pure ⟨_, rfl, ?_⟩; show Q (.ref a5.objs.size) _; rw [sz]
  exact hq a8 z8 (up _ _ D.TOz u5) (n1.at_ fun o e => up _ o D.i1z e) (n2.at_ fun o e => up _ o D.i2z e) p8 q8 fun a o c1 c2 c3 c4 e => up a o c1 (kk a o c1 c2 c3 c4 e)
theorem zp_end {Q : Fin → Shared → Prop} (hh : A.handled = none) (D : ZipApart z t u i1 i2 l1 l2) (hz : IsZip s.heap z t u .none) (ht : IsPair s.heap t (.ref i1) (.ref i2)) (hu : IsPair s.heap u v1 v2) (h1 : ItH b s.heap i1 l1 k1) (h2 : ItH c s.heap i2 l2 k2) (g1 : SqH b s.heap l1 xs) (g2 : SqH c s.heap l2 ys)
    (hend : xs[k1]? = none ∨ ys[k2]? = none) (he : ∀ h' e, (∀ a o, a ≠ z → a ≠ u → a ≠ i1 → a ≠ i2 → s.heap.get? a = some o → h'.get? a = some o) → (∃ o, h'.get? e = some o ∧ o.cls = .type "StopIteration") → E (.ref e) { s with heap := h' }) :
    wpAny (model prog w) A (Builtin.«zip.__next__» ⟨[.ref z], []⟩) Q E s := by
  show wpAny _ _ (field (.ref z) 2 >>= _) _ _ _
  refine wpAny_bind (wpAny_field hz rfl (x := .bool false) rfl ?_); show wpAny _ _ (field (.ref z) 3 >>= _) _ _ _
  refine wpAny_bind (wpAny_field hz rfl (x := .ref t) rfl (wpAny_bind (wpAny_seqItems ht rfl ?_))); show wpAny _ _ (Builtin.SmallTypes.ownedTupleIsFree (.ref z) >>= _) _ _ _
  refine wpAny_bind ?_; unfold Builtin.SmallTypes.ownedTupleIsFree
  refine wpAny_bind (wpAny_field hz rfl (x := .none) rfl (wpAny_pure ?_)); simp only [if_true]
  refine wpAny_bind (wpAny_rule (wpAny_bind (wpAny_field hz rfl (x := .ref u) rfl (wpAny_bind (wpAny_setField_rec hz (by simp) fun a1 z1 s1 => ?_))))); replace z1 : IsZip a1 z t u .ellipsis := z1
  refine wpAny_bind ?_; simp only [List.zipIdx_cons, List.zipIdx_nil, List.forIn_cons, List.forIn_nil]; refine wpAny_bind (wpAny_bind (wpAny_onRaise ?_)); show wpAny _ _ (Builtin.SmallTypes.nextOf (.ref i1) >>= _) _ _ _
  cases hx : xs[k1]? with
  | none =>
    refine wpAny_bind (nx_end hh (h1.ext s1.extBut D.i1z) (g1.ext s1.extBut D.l1z) hx fun a2 e s2 hs => ?_)
    obtain ⟨oe, ho, hc⟩ := hs
    have z2 : IsZip a2 z t u .ellipsis := s2 _ _ D.i1z.symm z1
    have ez : e ≠ z := fun q => by subst q; rw [z2] at ho; cases ho; simp at hc
    exact wpAny_setField_rec z2 (by simp) fun a3 _ s3 => he a3 e (fun a o c1 _ c3 _ q => s3.extBut _ _ c1 (s2 _ _ c3 (s1.extBut _ _ c1 q))) ⟨oe, s3.extBut _ _ ez ho, hc⟩
  | some x =>
    have hy : ys[k2]? = none := hend.elim (fun h => by rw [hx] at h; cases h) id
    refine wpAny_bind (nx_item (h1.ext s1.extBut D.i1z) (g1.ext s1.extBut D.l1z) hx fun a2 m1 s2 => wpAny_pure ?_)
    have u2 : IsPair a2 u v1 v2 := s2.extBut _ _ D.TOi1 (s1.extBut _ _ D.TOz hu)
    refine wpAny_bind (wpAny_seqItems u2 rfl (wpAny_bind (wpAny_updateSeq_pair u2 fun a3 u3 s3 => wpAny_bind (wpAny_letGo (wpAny_pure (wpAny_bind (wpAny_bind (wpAny_onRaise ?_)))))))); show wpAny _ _ (Builtin.SmallTypes.nextOf (.ref i2) >>= _) _ _ _
    refine wpAny_bind (nx_end hh (((h2.ext s1.extBut D.i2z).ext s2.extBut D.i12.symm).ext s3.extBut D.TOi2.symm) (((g2.ext s1.extBut D.l2z).ext s2.extBut D.l2i1).ext s3.extBut D.l2TO) hy fun a4 e s4 hs => ?_)
    obtain ⟨oe, ho, hc⟩ := hs
    have z4 : IsZip a4 z t u .ellipsis := s4 _ _ D.i2z.symm (s3.extBut _ _ D.TOz.symm (s2.extBut _ _ D.i1z.symm z1))
    have ez : e ≠ z := fun q => by subst q; rw [z4] at ho; cases ho; simp at hc
    exact wpAny_setField_rec z4 (by simp) fun a5 _ s5 => he a5 e (fun a o c1 c2 c3 c4 q => s5.extBut _ _ c1 (s4 _ _ c4 (s3.extBut _ _ c2 (s2.extBut _ _ c3 (s1.extBut _ _ c1 q))))) ⟨oe, s5.extBut _ _ ez ho, hc⟩
theorem pz_item {x y : Value} {Q : Option Value → Shared → Prop} (D : ZipApart z t u i1 i2 l1 l2) (hz : IsZip s.heap z t u .none) (ht : IsPair s.heap t (.ref i1) (.ref i2)) (hu : IsPair s.heap u v1 v2) (h1 : ItH b s.heap i1 l1 k1) (h2 : ItH c s.heap i2 l2 k2) (g1 : SqH b s.heap l1 xs) (g2 : SqH c s.heap l2 ys)
    (hx : xs[k1]? = some x) (hy : ys[k2]? = some y) (hq : ∀ h', IsZip h' z t u (rawInt s.heap.objs.size) → IsPair h' u x y → ItH b h' i1 l1 (k1 + 1) → ItH c h' i2 l2 (k2 + 1) → IsPair h' s.heap.objs.size x y → h'.objs.size = s.heap.objs.size + 1 →
      (∀ a o, a ≠ z → a ≠ u → a ≠ i1 → a ≠ i2 → s.heap.get? a = some o → h'.get? a = some o) → Q (some (.ref s.heap.objs.size)) { s with heap := h' }) : wpAny (model prog w) A (pyNext (.ref z)) Q E s := by
  have tz : s.TypeIs (.ref z) "zip" := ⟨_, hz, rfl⟩
  unfold pyNext
  exact wpAny_bind (wpAny_attempt (wpAny_callSpecial?_slot (name := Str.ofString "__next__") tz F.slot_zip_next (wpAny_call_entry F.slot_zip_next tz F.entry_zip_next (zp_item D hz ht hu h1 h2 g1 g2 hx hy fun h' c1 c2 c3 c4 c5 c6 c7 => wpAny_pure (hq h' c1 c2 c3 c4 c5 c6 c7)) (F.args_zip_next_1 _))))
theorem pz_end {Q : Option Value → Shared → Prop} (hh : A.handled = none) (D : ZipApart z t u i1 i2 l1 l2) (hz : IsZip s.heap z t u .none) (ht : IsPair s.heap t (.ref i1) (.ref i2)) (hu : IsPair s.heap u v1 v2) (h1 : ItH b s.heap i1 l1 k1) (h2 : ItH c s.heap i2 l2 k2) (g1 : SqH b s.heap l1 xs) (g2 : SqH c s.heap l2 ys)
    (hend : xs[k1]? = none ∨ ys[k2]? = none) (hq : ∀ h', (∀ a o, a ≠ z → a ≠ u → a ≠ i1 → a ≠ i2 → s.heap.get? a = some o → h'.get? a = some o) → Q none { s with heap := h' }) : wpAny (model prog w) A (pyNext (.ref z)) Q E s := by
  have tz : s.TypeIs (.ref z) "zip" := ⟨_, hz, rfl⟩
  unfold pyNext
  refine wpAny_bind (wpAny_attempt (wpAny_callSpecial?_slot (name := Str.ofString "__next__") tz F.slot_zip_next (wpAny_call_entry F.slot_zip_next tz F.entry_zip_next (zp_end hh D hz ht hu h1 h2 g1 g2 hend fun h' e hk he => ?_) (F.args_zip_next_1 _))))
  obtain ⟨o, ho, hc⟩ := he
  exact wpAny_bind (wpAny_isInstance (T := "StopIteration") (b := true) ⟨o, ho, hc⟩ isSubtype_stop (wpAny_pure (hq _ hk)))
end
end Pv

set_option Elab.async false
set_option linter.all false
set_option maxRecDepth 100000
set_option maxHeartbeats 4000000
set_option autoImplicit false
/-! PvS: zip(a, b) walked: the call, the turns, the reading. -/
namespace Pv
open PySem PySem.Spec PyProof.Rows L2

def itN (b : Bool) : String := if b = true then "tuple_iterator" else "list_iterator"
abbrev zq1 (b : Bool) (h : Heap) (l1 : Addr) : Heap := h.push { cls := .type (itN b), data := .fields #[.ref l1, .int 0 0] }
abbrev zq2 (b c : Bool) (h : Heap) (l1 l2 : Addr) : Heap := (zq1 b h l1).push { cls := .type (itN c), data := .fields #[.ref l2, .int 0 0] }
abbrev zq3 (b c : Bool) (h : Heap) (l1 l2 : Addr) : Heap := (zq2 b c h l1 l2).push { cls := .type "tuple", data := .seq #[.ref h.objs.size, .ref (zq1 b h l1).objs.size] }
abbrev zq4 (b c : Bool) (h : Heap) (l1 l2 : Addr) : Heap := (zq3 b c h l1 l2).push { cls := .type "tuple", data := .seq #[.none, .none] }
abbrev zq5 (b c : Bool) (h : Heap) (l1 l2 : Addr) : Heap := (zq4 b c h l1 l2).push { cls := .type "zip", data := .fields #[.none, .bool false, .bool false, .ref (zq2 b c h l1 l2).objs.size, .ref (zq3 b c h l1 l2).objs.size] }
theorem zq_new (b c : Bool) (l1 l2 : Addr) (xs ys : Array Value) : Meets (Builtin.«zip.__new__» ⟨[.type "zip", .ref l1, .ref l2], []⟩) (fun _ R s => SqH b s.heap l1 xs ∧ SqH c s.heap l2 ys ∧ R (.ok (.ret (.ref (zq4 b c s.heap l1 l2).objs.size))) { s with heap := zq5 b c s.heap l1 l2 }) :=
  .of_wp fun prog w A R s h => by
    obtain ⟨hp, g, d, tk, os⟩ := s
    obtain ⟨h1, h2, h⟩ := h
    have hsub := sub_zip
    cases b <;> cases c
    · have m1 : Heap.IsList (Shared.heap ⟨hp, g, d, tk, os⟩) l1 xs := h1
      have m2 : Heap.IsList (Shared.heap ⟨hp.push { cls := .type "list_iterator", data := .fields #[.ref l1, .int 0 0] }, g, d, tk, os⟩) l2 ys := Heap.IsList.push (show hp.IsList l2 ys from h2) _
      wp_walk using wpAny_pyIter_list m1, wpAny_pyIter_list m2
      exact ⟨_, rfl, h⟩
    · have m1 : Heap.IsList (Shared.heap ⟨hp, g, d, tk, os⟩) l1 xs := h1
      have m2 : Heap.IsTuple (Shared.heap ⟨hp.push { cls := .type "list_iterator", data := .fields #[.ref l1, .int 0 0] }, g, d, tk, os⟩) l2 ys := Heap.IsTuple.push (show hp.IsTuple l2 ys from h2) _
      wp_walk using wpAny_pyIter_list m1, wpAny_pyIter_tuple m2
      exact ⟨_, rfl, h⟩
    · have m1 : Heap.IsTuple (Shared.heap ⟨hp, g, d, tk, os⟩) l1 xs := h1
      have m2 : Heap.IsList (Shared.heap ⟨hp.push { cls := .type "tuple_iterator", data := .fields #[.ref l1, .int 0 0] }, g, d, tk, os⟩) l2 ys := Heap.IsList.push (show hp.IsList l2 ys from h2) _
      wp_walk using wpAny_pyIter_tuple m1, wpAny_pyIter_list m2
      exact ⟨_, rfl, h⟩
    · have m1 : Heap.IsTuple (Shared.heap ⟨hp, g, d, tk, os⟩) l1 xs := h1
      have m2 : Heap.IsTuple (Shared.heap ⟨hp.push { cls := .type "tuple_iterator", data := .fields #[.ref l1, .int 0 0] }, g, d, tk, os⟩) l2 ys := Heap.IsTuple.push (show hp.IsTuple l2 ys from h2) _
      wp_walk using wpAny_pyIter_tuple m1, wpAny_pyIter_tuple m2
      exact ⟨_, rfl, h⟩
section
variable {prog : Program} {w : World} {A : Around} {E : Value → Shared → Prop} {s : Shared}
theorem itH_new {b : Bool} {h : Heap} {i l : Addr} (e : h.get? i = some { cls := .type (itN b), data := .fields #[.ref l, .int 0 0] }) : ItH b h i l 0 := by
  cases b
  · exact ⟨_, e, rfl, rfl⟩
  · exact ⟨_, e, rfl, rfl⟩
theorem call_zq {b c : Bool} {l1 l2 : Addr} {xs ys : Array Value} {Q : Value → Shared → Prop} (h1 : SqH b s.heap l1 xs) (h2 : SqH c s.heap l2 ys)
    (h : ∀ h', IsZip h' (s.heap.objs.size + 4) (s.heap.objs.size + 2) (s.heap.objs.size + 3) .none → IsPair h' (s.heap.objs.size + 2) (.ref s.heap.objs.size) (.ref (s.heap.objs.size + 1)) → IsPair h' (s.heap.objs.size + 3) .none .none →
      ItH b h' s.heap.objs.size l1 0 → ItH c h' (s.heap.objs.size + 1) l2 0 → (∀ a o, s.heap.get? a = some o → h'.get? a = some o) → Q (.ref (s.heap.objs.size + 4)) { s with heap := h' }) : wpAny (model prog w) A (call (.type "zip") [.ref l1, .ref l2]) Q E s := by
  refine callType_new PySem.F.called_zip (by decide) (PySem.F.typeCall_zip_2 _ _) (PySem.F.newCall_zip_2 _ _) (fun obj => PySem.F.args_object_init_3 obj _ _) PySem.F.entry_zip_new (zq_new b c l1 l2 xs ys) ⟨h1, h2, ?_⟩
  have z1 : (zq1 b s.heap l1).objs.size = s.heap.objs.size + 1 := Heap.size_push ..
  have z2 : (zq2 b c s.heap l1 l2).objs.size = s.heap.objs.size + 2 := by rw [Heap.size_push, z1]
  have z3 : (zq3 b c s.heap l1 l2).objs.size = s.heap.objs.size + 3 := by rw [Heap.size_push, z2]
  have z4 : (zq4 b c s.heap l1 l2).objs.size = s.heap.objs.size + 4 := by rw [Heap.size_push, z3]
  have g5 : (zq5 b c s.heap l1 l2).get? (zq4 b c s.heap l1 l2).objs.size = some _ := Heap.get?_push_size _ rfl
  have g4 : (zq5 b c s.heap l1 l2).get? (zq3 b c s.heap l1 l2).objs.size = some _ := Heap.get?_push_of_some _ (Heap.get?_push_size _ rfl)
  have g3 : (zq5 b c s.heap l1 l2).get? (zq2 b c s.heap l1 l2).objs.size = some _ := Heap.get?_push_of_some _ (Heap.get?_push_of_some _ (Heap.get?_push_size _ rfl))
  have g2 : (zq5 b c s.heap l1 l2).get? (zq1 b s.heap l1).objs.size = some _ := Heap.get?_push_of_some _ (Heap.get?_push_of_some _ (Heap.get?_push_of_some _ (Heap.get?_push_size _ rfl)))
  have g1 : (zq5 b c s.heap l1 l2).get? s.heap.objs.size = some _ := Heap.get?_push_of_some _ (Heap.get?_push_of_some _ (Heap.get?_push_of_some _ (Heap.get?_push_of_some _ (Heap.get?_push_size _ rfl))))
  show _ ∧ _
  rw [z2, z3, z4] at g5
  rw [z1, z2] at g3
  rw [z3] at g4
  rw [z1] at g2
  rw [z4]
  exact ⟨⟨_, g5, rfl⟩, h _ g5 g3 g4 (itH_new g1) (itH_new g2) fun a o x => Heap.get?_push_of_some _ (Heap.get?_push_of_some _ (Heap.get?_push_of_some _ (Heap.get?_push_of_some _ (Heap.get?_push_of_some _ x))))⟩
end
/-- pairs of what stands at a and at e -/
def ItB (K : PySem.W.Frag) (b c : Bool) (a e : Addr) : It :=
  ⟨fun i H => ∃ (xs ys : List V) (x y : V), SqB b K H a xs ∧ SqB c K H e ys ∧ xs[i]? = some x ∧ ys[i]? = some y,
    fun i H v H' => ∃ T x y, v = .ref T ∧ H T = none ∧ H' = upd H T (.tup [x, y]) ∧ (∀ xs, SqB b K H a xs → xs[i]? = some x) ∧ ∀ ys, SqB c K H e ys → ys[i]? = some y,
    fun i H => ∃ xs ys : List V, SqB b K H a xs ∧ SqB c K H e ys ∧ (xs.length ≤ i ∨ ys.length ≤ i)⟩
theorem inv_sq {X : Cx} {pins : List (Addr × Obj)} {σ : L2.St} {H : Hp} {s : Shared} {b : Bool} {a : Addr} {xs : List V} (I : Inv X pins σ H s) (q : SqB b X.K H a xs) : ∃ its : List Value, Vals xs its ∧ SqH b s.heap a its.toArray ∧ a < s.heap.objs.size := by
  cases b
  · obtain ⟨its, rv, p, _⟩ := I.list q
    exact ⟨its, rv, p.isList, p.lt⟩
  · obtain ⟨its, rv, p, _⟩ := I.tuple q
    obtain ⟨o1, ho1, _⟩ := id p
    exact ⟨its, rv, p, Heap.lt_size ho1⟩
theorem inv_inj {X : Cx} {pins : List (Addr × Obj)} {σ : L2.St} {H : Hp} {s : Shared} {b : Bool} {a : Addr} {xs ys : List V} (I : Inv X pins σ H s) (p : SqB b X.K H a xs) (q : SqB b X.K H a ys) : xs = ys := by
  cases b
  · exact I.list_inj p q
  · exact I.tuple_inj p q
end Pv

set_option Elab.async false
set_option linter.all false
set_option maxRecDepth 100000
set_option maxHeartbeats 4000000
set_option autoImplicit false
/-! PvT: a walk over zip(a, b). -/
namespace Pv
open PySem PySem.Spec PyProof.Rows L2

theorem turn_zq {P : Program} {w : World} {K : PySem.W.Frag} {elts : List Expr} {kk : Nat} {tpos : Pos} {bb cc : Bool} {a b z TI TO i1 i2 : Addr} (D : ZipApart z TI TO i1 i2 a b) :
    Turn P w K (.Tuple elts kk tpos) (ItB K bb cc a b) [z, TI, TO, i1, i2] z (fun i h => IsZip h z TI TO .none ∧ IsPair h TI (.ref i1) (.ref i2) ∧ (∃ x y, IsPair h TO x y) ∧ ItH bb h i1 a i ∧ ItH cc h i2 b i) where
  mem := by simp
  obj := fun i h ⟨hz, ht, ⟨x, y, hu⟩, h1, h2⟩ c hc => by
    obtain ⟨o1, v1, e1, d1⟩ := h1.obj
    obtain ⟨o2, v2, e2, d2⟩ := h2.obj
    have e' : c = z ∨ c = TI ∨ c = TO ∨ c = i1 ∨ c = i2 := by simpa using hc
    rcases e' with q | q | q | q | q <;> rw [q]
    · exact ⟨_, hz, fun v q => nomatch q⟩
    · exact ⟨_, ht, fun v q => nomatch q⟩
    · exact ⟨_, hu, fun v q => nomatch q⟩
    · exact ⟨o1, e1, fun v q => by rw [d1] at q; cases q⟩
    · exact ⟨o2, e2, fun v q => by rw [d2] at q; cases q⟩
  keep := fun i h h' ⟨hz, ht, ⟨x, y, hu⟩, h1, h2⟩ k => ⟨k z (by simp) _ hz, k TI (by simp) _ ht, ⟨x, y, k TO (by simp) _ hu⟩, h1.at_ fun o q => k i1 (by simp) o q, h2.at_ fun o q => k i2 (by simp) o q⟩
  item := by
    intro X hP hw hK hc i pins s σ H E I hf ⟨hz, ht, ⟨x0, y0, hu⟩, h1, h2⟩ ⟨xs, ys, x, y, qx, qy, hx, hy⟩
    subst hP hw hK
    obtain ⟨js, rv, p, _⟩ := inv_sq I qx
    obtain ⟨js2, rv2, p2, _⟩ := inv_sq I qy
    obtain ⟨u, eu, ru⟩ := rv.get hx
    obtain ⟨u2, eu2, ru2⟩ := rv2.get hy
    have zl : z < s.heap.objs.size := Heap.lt_size hz
    refine pz_item D hz ht hu h1 h2 p p2 (x := u) (y := u2) (by simpa using eu) (by simpa using eu2) fun h' z' TO' n1 n2 hT hsz hk => ⟨_, rfl, wpAny_letOwnedTupleGo_zip (s := { s with heap := h' }) z' fun h'' z'' sb => ?_⟩
    have hT2 : h''.get? s.heap.objs.size = some { cls := .type "tuple", data := .seq #[u, u2] } := (sb.2 _ (Nat.ne_of_gt zl)).trans hT
    have new : ObjOk X.prog X.w (upd H s.heap.objs.size (.tup [x, y])) h'' s.heap.objs.size (.tup [x, y]) := ⟨by show 2 ≤ sizeLine; decide, [u, u2], .cons ru (.cons ru2 .nil), ⟨_, hT2, rfl, _, rfl⟩⟩
    have I1 : Inv X pins σ (upd H s.heap.objs.size (.tup [x, y])) { s with heap := h'' } := I.turnedNew (t' := s.toks) (ch := [z, TI, TO, i1, i2]) (fun c o hb q => by
      have m : ∀ y ∈ [z, TI, TO, i1, i2], c ≠ y := fun y hy e => hb (e ▸ hy)
      exact (sb.2 c (m z (by simp))).trans (hk c o (m z (by simp)) (m TO (by simp)) (m i1 (by simp)) (m i2 (by simp)) q)) hf (Nat.le_refl _) new
    refine ⟨.ref s.heap.objs.size, _, I1, rfl, ⟨_, x, y, rfl, I.hok.fresh (Nat.le_refl _), rfl, fun l hl => by rw [inv_inj I hl qx]; exact hx, fun l hl => by rw [inv_inj I hl qy]; exact hy⟩, ⟨z'', (sb.2 _ D.TIz).trans (hk _ _ D.TIz D.TITO D.TIi1 D.TIi2 ht), ⟨u, u2, (sb.2 _ D.TOz).trans TO'⟩, n1.at_ fun o q => (sb.2 _ D.i1z).trans q, n2.at_ fun o q => (sb.2 _ D.i2z).trans q⟩, fun c hcm => ?_⟩
    have hlt : c < s.heap.objs.size := by
      obtain ⟨_, _, e1, _⟩ := h1.obj
      obtain ⟨_, _, e2, _⟩ := h2.obj
      have e' : c = z ∨ c = TI ∨ c = TO ∨ c = i1 ∨ c = i2 := by simpa using hcm
      rcases e' with q | q | q | q | q <;> rw [q]
      · exact zl
      · exact Heap.lt_size ht
      · exact Heap.lt_size hu
      · exact Heap.lt_size e1
      · exact Heap.lt_size e2
    rw [upd_ne (Nat.ne_of_lt hlt)]
    exact (hf c hcm).1
  done := by
    intro X hP hw hK hc i pins s σ H E I hf ⟨hz, ht, ⟨x0, y0, hu⟩, h1, h2⟩ ⟨xs, ys, qx, qy, hend⟩
    subst hP hw hK
    obtain ⟨js, rv, p, _⟩ := inv_sq I qx
    obtain ⟨js2, rv2, p2, _⟩ := inv_sq I qy
    have l1 := rv.length
    have l2 := rv2.length
    have he : js.toArray[i]? = none ∨ js2.toArray[i]? = none := hend.elim (fun q => .inl (by simp; omega)) fun q => .inr (by simp; omega)
    exact pz_end (I.ok.hd hc) D hz ht hu h1 h2 p p2 he fun h' hk => ⟨rfl, I.turnedL (t' := s.toks) (ch := [z, TI, TO, i1, i2]) (fun c o hb q => by
      have m : ∀ y ∈ [z, TI, TO, i1, i2], c ≠ y := fun y hy e => hb (e ▸ hy)
      exact hk c o (m z (by simp)) (m TO (by simp)) (m i1 (by simp)) (m i2 (by simp)) q) hf⟩
  self := fun A i s Q E st h => wpAny_pyIter_zip st.1 h
def iZq (K : PySem.W.Frag) (ta : TA) : TI := fun σ H R => ta σ H fun vs H1 => ∃ bb cc a b xs ys, vs = [.ref a, .ref b] ∧ SqB bb K H1 a xs ∧ SqB cc K H1 b ys ∧ R (ItB K bb cc a b) H1
theorem pi_zq {X : Cx} {e e2 : Expr} {ta : TA} {p pos tpos : Pos} {elts : List Expr} {kk : Nat} (hg : Gl X "zip") (hm : X.mg "zip" = none) (ha : PA X [e, e2] ta) (hs : starEach [e, e2] X.env = (false, eval e X.env) :: starEach [e2] X.env) (hpl : (backTo pos (starEach [e2] X.env)).any (·.1) = false) :
    PI X (.Tuple elts kk tpos) (.Call (.Name "zip" p) [e, e2] [] pos) (iZq X.K ta) := by
  refine ⟨fun pins s σ H R I h => Call_ (ld_blt I hg hm PyProof.Rows.boot_zip (PyProof.Rows.callWith_type1 (thn (ha.run pos pins s σ H _ I h) fun us s1 ⟨vs, H1, I1, r1, q1⟩ => ?_) hs hpl))⟩
  obtain ⟨bb, cc, a, b, xs, ys, ex, qx, qy, q⟩ := q1
  subst ex
  cases r1 with
  | cons r rr => cases rr with
    | cons r' rr =>
      cases rr
      cases r
      cases r'
      obtain ⟨js, rv, p1, la⟩ := inv_sq I1 qx
      obtain ⟨js2, rv2, p2, lb⟩ := inv_sq I1 qy
      refine call_zq p1 p2 fun h' hz ht hu h1 h2 hk => wpAny_pyIter_zip hz ?_
      have I2 : Inv X pins σ H1 { s1 with heap := h' } := I1.kept (t' := s1.toks) hk
      refine ⟨s1.heap.objs.size + 4, [s1.heap.objs.size + 4, s1.heap.objs.size + 2, s1.heap.objs.size + 3, s1.heap.objs.size, s1.heap.objs.size + 1], _, _, H1, rfl, I2, turn_zq (PySem.W.ktu_apart s1.heap.objs.size a b la lb), ⟨hz, ht, ⟨_, _, hu⟩, h1, h2⟩, fun c hcm => ?_, q⟩
      have hle : s1.heap.objs.size ≤ c := by
        have e' : c = s1.heap.objs.size + 4 ∨ c = s1.heap.objs.size + 2 ∨ c = s1.heap.objs.size + 3 ∨ c = s1.heap.objs.size ∨ c = s1.heap.objs.size + 1 := by simpa using hcm
        rcases e' with z | z | z | z | z <;> rw [z] <;> first | exact Nat.le_refl _ | exact Nat.le_add_right _ _
      exact I1.fpOk hle (I1.hok.fresh hle)

/-! ### the reading -/
def seqD : D → Option (List D)
  | .lst xs => some xs
  | .tup xs => some xs
  | _ => none
def zipD (xs ys : List D) : List D := (xs.zip ys).map fun p => .tup [p.1, p.2]
def iZip (f g : DE) : DI := fun E KR KE => f E (fun a E1 => g E1 (fun b E2 => dSrc E2 [a, b] fun ds ps E3 => match ds with
  | [d, e] => match seqD d, seqD e with
    | some xs, some ys => KR (zipD xs ys) ps E3
    | _, _ => False
  | _ => False) KE) KE
section
variable {X : Cx} {T : Tb} {W : WX} {f g : DE} {e e2 : Expr} {p pos tpos : Pos} {elts : List Expr} {kk : Nat}
def tupB : D → Bool
  | .tup _ => true
  | _ => false
theorem vrep_sq {C H : Hp} (s : Sub C H) {d : D} {v : V} {xs : List D} (h : VRep T C H d v) (k : seqD d = some xs) : ∃ a vs, v = .ref a ∧ SqB (tupB d) T.K H a vs ∧ RepL T C xs vs := by
  cases d with
  | lst ds => cases k; obtain ⟨p, vs, e, q, r⟩ := h.seqL s; exact ⟨p, vs, e, q, r⟩
  | tup ds => cases k; obtain ⟨p, vs, e, q, r⟩ := h.seqT s; exact ⟨p, vs, e, q, r⟩
  | _ => cases k
theorem zipD_length (xs ys : List D) : (zipD xs ys).length = min xs.length ys.length := by simp [zipD]
theorem zipD_at {xs ys : List D} {i : Nat} {d e : D} (h1 : xs[i]? = some d) (h2 : ys[i]? = some e) : (zipD xs ys)[i]? = some (.tup [d, e]) := by
  unfold zipD
  rw [List.getElem?_map, List.getElem?_zip_eq_some.mpr (show xs[i]? = some (d, e).1 ∧ ys[i]? = some (d, e).2 from ⟨h1, h2⟩)]
  rfl
theorem sqB_inj {K : PySem.W.Frag} {H : Hp} {b : Bool} {a : Addr} {xs : List V} (h : SqB b K H a xs) : SqB b K H a xs := h
theorem walk_zip {C H : Hp} {b c : Bool} {a1 a2 : Addr} {vs us : List V} {xs ys : List D} (hs : Sub C H) (q1 : SqB b T.K H a1 vs) (q2 : SqB c T.K H a2 us) (r1 : RepL T C xs vs) (r2 : RepL T C ys us) : WalkAt T (ItB T.K b c a1 a2) (zipD xs ys) C H where
  go := fun i lt => by
    rw [zipD_length] at lt
    have l1 := r1.length
    have l2 := r2.length
    have e1 : i < vs.length := by omega
    have e2 : i < us.length := by omega
    exact ⟨vs, us, vs[i], us[i], q1, q2, by simp [e1], by simp [e2]⟩
  yld := fun i x H' lt y => by
    obtain ⟨A, u, v, rfl, hA, rfl, y1, y2⟩ := y
    obtain ⟨d, e1, p1⟩ := r1.get' (y1 vs q1)
    obtain ⟨e, e2, p2⟩ := r2.get' (y2 us q2)
    have gr : Grow C H (upd C A (.tup [u, v])) (upd H A (.tup [u, v])) [] := Grow.tup hs hA
    exact ⟨_, .tup [d, e], gr, zipD_at e1 e2, .tup (.inl (.inl upd_same)) (.cons (p1.mono gr.c) (.cons (p2.mono gr.c) .nil))⟩
  stop := fun i le => by
    rw [zipD_length] at le
    have l1 := r1.length
    have l2 := r2.length
    exact ⟨vs, us, q1, q2, by omega⟩
theorem si_zip (hK : X.K = T.K) (hm : X.mg "zip" = none) (he : SE T X W f e) (he2 : SE T X W g e2) (hg : Gl X "zip" := by rfl) (hs : starEach [e, e2] X.env = (false, eval e X.env) :: starEach [e2] X.env := by rfl) (hs2 : starEach [e2] X.env = (false, eval e2 X.env) :: starEach [] X.env := by rfl) (hpl : (backTo pos (starEach [e2] X.env)).any (·.1) = false := by rfl) :
    SI T X W (.Tuple elts kk tpos) (iZip f g) (.Call (.Name "zip" p) [e, e2] [] pos) := by
  refine (pi_zq hg hm (pa_cons he (pa_cons he2 pa_nil hs2) hs) hs hpl).imp fun σ H R ⟨C, E, F, KR, KE, w, k, hq, hx⟩ => ?_
  refine ⟨C, E, F, _, KE, w, k, fun C1 H1 E1 F1 a v f1 x1 k1 => ⟨C1, E1, F1, _, KE, x1.wd, k1, fun C2 H2 E2 F2 b u f2 x2 k2 => ?_, hx.step x1.fr fun _ z => .inl z⟩, hx⟩
  have z := Rs.cons x1 (Rs.one x2)
  obtain ⟨C3, E3, F3, ds, ps, w3, k3, fr3, hp, so, _⟩ := src_ok z.wd z.al z.nd z.ot k2
  have fr := z.fr.trans fr3 fun _ z => z
  obtain ⟨d, e, rfl, vr1, vr2⟩ := (so C3 H2 (Sub.refl _) w3.sub (holds_own w3 hp)).two
  dsimp only at k3
  cases e1 : seqD d with
  | none => rw [e1] at k3; exact k3.elim
  | some xs =>
    cases e2 : seqD e with
    | none => rw [e1, e2] at k3; exact k3.elim
    | some ys =>
      rw [e1, e2] at k3
      obtain ⟨a1, vs, rfl, q1, r1⟩ := vrep_sq w3.sub vr1 e1
      obtain ⟨a2, us, rfl, q2, r2⟩ := vrep_sq w3.sub vr2 e2
      rw [hK]
      refine ⟨_, _, a1, a2, vs, us, rfl, q1, q2, hq C3 H2 E3 F3 _ ps _ w3 fr (fun C4 H4 s1 s2 hs => ?_) hp k3⟩
      obtain ⟨d', e', ee, u1, u2⟩ := (so C4 H4 s1 s2 hs).two
      cases ee
      obtain ⟨_, vs4, ea, q3, r3⟩ := vrep_sq s2 u1 e1
      cases ea
      obtain ⟨_, us4, ea, q4, r4⟩ := vrep_sq s2 u2 e2
      cases ea
      exact walk_zip s2 q3 q4 r3 r4
end
section
variable {x : Option O} {E : List (Option O)} {KE : KX} {f g : DE}
theorem x_izip {Ki : List D → List (Nat × O) → Env → Prop} : iZip f g (x :: E) Ki KE = f (x :: E) (fun a E1 => g E1 (fun b E2 => dSrc E2 [a, b] fun ds ps E3 => match ds with
  | [d, e] => match seqD d, seqD e with
    | some xs, some ys => Ki (zipD xs ys) ps E3
    | _, _ => False
  | _ => False) KE) KE := rfl
end
end Pv

set_option Elab.async false
set_option linter.all false
set_option maxRecDepth 100000
set_option maxHeartbeats 4000000
set_option autoImplicit false
/-! PvU: defs that are run where no printing is under way (for repr). -/
namespace Pv
open PySem PySem.Spec PyProof.Rows L2

/-- as FnOk, around which nothing is being printed -/
structure FnG (P : Program) (w : World) (K : PySem.W.Frag) (mg : Str → Option Value) (base : Heap) (CX : CXT) (k : Nat) (f : Addr) (fd : FuncData) (ps : List Str) (sp : Sp) : Prop where
  len : ∀ vs H Q E, sp vs H Q E → vs.length = ps.length
  run : ∀ (A : Around) (outer : List PySem.Env) (s : Shared) (H : Hp) (args : Args) (us : List Value) (vs : List V) (Q : VK) (E : XK), A.guards = some [] → Room k A → Env0 P w K mg base A outer s H → BindsTo s fd args (ps.zip us) → Vals vs us → sp vs H Q E →
    codeAny (model P w) A (.call (.ref f) args) (CR CX outer P w H s Q E) s
section
variable {P : Program} {w : World} {K : PySem.W.Frag} {mg : Str → Option Value} {base : Heap} {CX : CXT} {k : Nat} {f : Addr} {fd : FuncData} {ps : List Str} {sp sp' : Sp}
theorem FnG.of (F : FnOk P w K mg base CX k f fd ps sp) : FnG P w K mg base CX k f fd ps sp := ⟨F.len, fun A outer s H args us vs Q E _ => F.run A outer s H args us vs Q E⟩
theorem FnG.imp (F : FnG P w K mg base CX k f fd ps sp) (h : ∀ vs H Q E, sp' vs H Q E → sp vs H Q E) : FnG P w K mg base CX k f fd ps sp' :=
  ⟨fun vs H Q E q => F.len vs H Q E (h _ _ _ _ q), fun A outer s H args us vs Q E g hr he hb hv hs => F.run A outer s H args us vs Q E g hr he hb hv (h _ _ _ _ hs)⟩
theorem fnG_of {name qual : Str} {params : Arguments} {body : List Stmt} {scope : Scope} {dV kV doc pm cdv ct oc : Value} {an od : Option Addr} {osl : Array (Option Value)} {N : List Str} (lk : K.lookup f = some ⟨oc, od, .func (PySem.W.fnOf name qual params body scope dV kV doc pm an cdv ct), osl⟩)
    (hcd : PySem.W.codeIn K cdv qual = true) (S : FnScope N ps scope) (len : ∀ vs H Q E, sp vs H Q E → vs.length = ps.length)
    (hbody : ∀ (A : Around) (outer : List PySem.Env) (s : Shared) (H : Hp) (vs : List V) (Q : VK) (E : XK), A.guards = some [] → Room k (A.deeper (envOfC qual scope s.heap.objs.size f cdv)) → sp vs H Q E →
      ∃ t, PSs (cxOf CX P w K mg base N qual scope f cdv A outer s H E) body t ∧ t { nx := fun _ H' => Q .non H', rt := Q } (L2.start N vs) H) :
    FnG P w K mg base CX (k + 1) f (PySem.W.fnOf name qual params body scope dV kV doc pm an cdv ct) ps sp := by
  refine ⟨len, fun A outer s H args us vs Q E hgd hr e0 hb r hsp => ?_⟩
  have hl := len _ _ _ _ hsp
  have KX : K.In s.heap := e0.mod.kin.keeps fun b o e => (e0.bs b o e).1
  have lim : s.heap.NoLimit := e0.mod.nolimit.keeps fun b o e => (e0.bs b o e).1
  have kinds : ∀ y ∈ ps.zip us, scope.names.lookup y.1 = some .local ∨ (scope.names.lookup y.1 = some .cell ∧ ((cellsFrom (s.heap.objs.size + 1) scope.names []).lookup y.1).isSome = true) := fun ⟨n, v⟩ hy =>
    (S.par n (List.of_mem_zip hy).1).elim .inl fun q => .inr ⟨q, PySem.W.cellsFrom_some _ _ _ (.inl q)⟩
  refine codeAny_call_function hr.depth (KX _ _ lk) rfl S.co S.gen rfl (PySem.W.codeRec_of KX hcd) (hb _ _ _ _ (wpAny_newFunctionEnv_cells S.kind kinds fun env he s1 x => ?_))
  subst he
  refine ⟨lim.keeps x.toInCall.keep, codeAny_func ?_⟩
  obtain ⟨t, ht, hq⟩ := hbody A outer s H vs Q E hgd (hr.deeper _) hsp
  have I : Inv (cxOf CX P w K mg base N qual scope f cdv A outer s H E) [] (L2.start N vs) H s1 := inv_start S hr.hd e0 hl r x
  refine wpAny_mono (ht.run [] s1 (L2.start N vs) H _ I hq) (fun fl s' hs => ?_) fun e s' hs => hs
  have fin : ∀ {σ' : L2.St} {H' : Hp} {v : V} {u : Value}, Inv (cxOf CX P w K mg base N qual scope f cdv A outer s H E) [] σ' H' s' → RelV v u → Q v H' → CE outer P w H s Q u s' := fun {σ' H' v u} J rv q => ⟨v, H', J.os, J.bare, J.base, J.hok, rv, q⟩
  cases fl with
  | ret u => obtain ⟨v, σ', H', J, rv, q⟩ := hs; exact fin J rv q
  | next => obtain ⟨σ', H', J, q⟩ := hs; exact fin (v := V.non) (u := Value.none) J rfl q
  | brk => obtain ⟨_, _, _, q⟩ := hs; exact q.elim
  | cont => obtain ⟨_, _, _, q⟩ := hs; exact q.elim
theorem funD_okG {x qual : Str} {params : Arguments} {body : List Stmt} {scope : Scope} {dvs : List V} {kws : List (Str × V)} {N : List Str} (F : FunD K x qual params body scope dvs kws f fd) (S : FnScope N ps scope) (len : ∀ vs H Q E, sp vs H Q E → vs.length = ps.length)
    (hbody : ∀ (cdv : Value) (A : Around) (outer : List PySem.Env) (s : Shared) (H : Hp) (vs : List V) (Q : VK) (E : XK), A.guards = some [] → Room k (A.deeper (envOfC qual scope s.heap.objs.size f cdv)) → sp vs H Q E →
      ∃ t, PSs (cxOf CX P w K mg base N qual scope f cdv A outer s H E) body t ∧ t { nx := fun _ H' => Q .non H', rt := Q } (L2.start N vs) H) : FnG P w K mg base CX (k + 1) f fd ps sp := by
  obtain ⟨oc, od, dV, kV, doc, pm, an, cdv, ct, osl, rfl, lk, hcd, _, _⟩ := F.ex
  exact fnG_of lk hcd S len fun A outer s H vs Q E g hr hsp => hbody cdv A outer s H vs Q E g hr hsp
end
end Pv

set_option Elab.async false
set_option linter.all false
set_option maxRecDepth 100000
set_option maxHeartbeats 4000000
set_option autoImplicit false
/-! PvV: calls of defs where nothing is being printed; calls with keywords; repr; the empty dict; insert. -/
namespace Pv
open PySem PySem.Spec PyProof.Rows L2

/-! ### calls -/
section
variable {X : Cx} {CX : CXT} {k n : Nat} {f : Addr} {fd : FuncData} {ps nms : List Str} {sp : Sp} {dvs : List V} {ds : List Value} {E : St → XK} {x : Str} {p pos : Pos} {e : Expr} {es : List Expr} {t tk : TA} {kws : List Keyword} {g : List Value → List Value → List Value} {gV : List V → List V → List V}
theorem run_fnG {pins : List (Addr × Obj)} {σ : St} {H : Hp} {s : Shared} {Q : VK} {us0 us : List Value} {kw : List (Str × Value)} {vs : List V} (F : FnG X.prog X.w X.K X.mg X.base CX k f fd ps sp) (hgd : X.A.guards = some []) (hr : Room k X.A)
    (hb : BindsTo s fd ⟨us0, kw⟩ (ps.zip us)) (hx : PassesAt CX X σ (E σ)) (I : Inv X pins σ H s) (r : Vals vs us) (h : sp vs H Q (E σ)) : wpAny (model X.prog X.w) X.A (call (.ref f) us0 kw) (EP X pins σ Q) X.xe s := by
  have go := F.run X.A X.stack s H ⟨us0, kw⟩ us vs Q (E σ) hgd hr I.env0 hb r h
  refine wpAny_call (codeAny_mono go fun r s' hq => ?_)
  cases r with
  | error e => exact hx pins H s e s' I hq
  | ok fl =>
    cases fl with
    | ret u => exact I.after hq
    | _ => exact False.elim hq
theorem pe_callG (F : FnG X.prog X.w X.K X.mg X.base CX k f fd ps sp) (hgd : X.A.guards = some []) (hr : Room k X.A) (hg : Gl X x) (hm : X.mg x = some (.ref f)) (hk : PySem.W.keepIn X.K (.ref f) = true) (hb : Binds X.K fd ps ds) (hd : Vals dvs ds) (hx : ∀ σ, PassesAt CX X σ (E σ))
    (ha : PA X (e :: es) t) (hdb : (x == ("__debug__" : Str)) = false) (he : starEach (e :: es) X.env = (false, eval e X.env) :: starEach es X.env) (hpl : (backTo pos (starEach es X.env)).any (·.1) = false) :
    PE X (.Call (.Name x p) (e :: es) [] pos) (tCallD sp dvs E t) := by
  refine ⟨fun pins s σ H Q I h => wpAny_Call_Name_kw (ld_glob I hg hm ?_ hdb)⟩
  refine PySem.W.callWith_K (h₀ := X.base) I.ok.mod.kin hk (thn (ha.run pos pins s σ H _ I h) fun us s1 ⟨vs, H1, I1, r, q⟩ => ⟨I1.kIn, ?_⟩) he hpl
  have r2 : Vals (vs ++ dvs) (us ++ ds) := r.append hd
  have hl : (us ++ ds).length = ps.length := r2.length.symm.trans (F.len _ _ _ _ q)
  exact run_fnG F hgd hr (hb s1 us I1.kIn hl) (hx σ) I1 r2 q
def tCallGK (n m : Nat) (sp : Sp) (gV : List V → List V → List V) (E : St → XK) (t tk : TA) : TE := fun σ H Q => t σ H fun vs H1 => tk σ H1 fun zs H2 => (vs.length = n ∧ zs.length = m) ∧ sp (gV vs zs) H2 Q (E σ)
theorem pe_callGK (F : FnG X.prog X.w X.K X.mg X.base CX k f fd ps sp) (hgd : X.A.guards = some []) (hr : Room k X.A) (hg : Gl X x) (hm : X.mg x = some (.ref f)) (hk : PySem.W.keepIn X.K (.ref f) = true) (hb : KBn X.K fd ps n nms g gV) (hx : ∀ σ, PassesAt CX X σ (E σ))
    (ha : PA X (e :: es) t) (hkw : PK X kws tk) (hall : (backToKw pos (keywordEach kws X.env)).all (·.1.isSome) = true) (hks : (backToKw pos (keywordEach kws X.env)).filterMap (·.1) = nms) (hdb : (x == ("__debug__" : Str)) = false) (he : starEach (e :: es) X.env = (false, eval e X.env) :: starEach es X.env)
    (hpl : ((backTo pos (starEach (e :: es) X.env)).any (·.1) || (backToKw pos (keywordEach kws X.env)).any (·.1.isNone)) = false) :
    PE X (.Call (.Name x p) (e :: es) kws pos) (tCallGK n nms.length sp gV E t tk) := by
  refine ⟨fun pins s σ H Q I h => wpAny_Call_Name_kw (ld_glob I hg hm ?_ hdb)⟩
  refine PySem.W.callWith_KW (h₀ := X.base) I.ok.mod.kin hk hall (thn (ha.run pos pins s σ H _ I h) fun us s1 ⟨vs, H1, I1, r, q⟩ => thn (hkw.run pos pins s1 σ H1 _ I1 q) fun ws s2 ⟨zs, H2, I2, rz, l, q2⟩ => ⟨I2.kIn, ?_⟩) hpl he
  rw [hks]
  exact run_fnG F hgd hr (hb.to s2 us ws I2.kIn (r.length.symm.trans l.1) (rz.length.symm.trans l.2)) (hx σ) I2 (hb.rel r rz) q2
theorem se_callG {T : Tb} {W : WX} {S : Spec} {dds : List D} {fs : DA} (F : FnG X.prog X.w X.K X.mg X.base (L2.CX X.prog X.w) k f fd ps (spS T S)) (hgd : X.A.guards = some []) (hr : Room k X.A) (hg : Gl X x) (hm : X.mg x = some (.ref f)) (hk : PySem.W.keepIn X.K (.ref f) = true) (hb : Binds X.K fd ps ds) (hd : Vals dvs ds)
    (rd : ∀ C, RepL T C dds dvs) (tk : Takes X W) (ha : SA T X W fs (e :: es)) (hdb : (x == ("__debug__" : Str)) = false) (he : starEach (e :: es) X.env = (false, eval e X.env) :: starEach es X.env) (hpl : (backTo pos (starEach es X.env)).any (·.1) = false) :
    SE T X W (dCall S dds fs) (.Call (.Name x p) (e :: es) [] pos) :=
  (pe_callG F hgd hr hg hm hk hb hd (fun σ => passAt tk σ) ha hdb he hpl).imp fun σ H Q h => by
    obtain ⟨C, E, F, KR, KE, w, k, hq, hx⟩ := h
    exact ⟨C, E, F, _, KE, w, k, fun C1 H1 E1 F1 as vs f1 x k1 => call_ok rd x k1 hq hx, hx⟩
end
/-! keywords' values -/
abbrev SK (T : Tb) (X : Cx) (W : WX) (f : DA) (kws : List Keyword) : Prop := PK X kws (PreA T W f)
section
variable {X : Cx} {T : Tb} {W : WX} {f : DE} {g fs hs : DA} {e : Expr} {kws : List Keyword} {nm : Option Str} {kpos : Pos}
theorem _root_.L2.PK.imp {t t' : TA} (h : PK X kws t) (k : ∀ σ H Q, t' σ H Q → t σ H Q) : PK X kws t' := ⟨fun p pins s σ H Q I q => h.run p pins s σ H Q I (k σ H Q q)⟩
theorem sk_nil : SK T X W dNil [] := pk_nil.imp fun σ H Q ⟨C, E, F, KR, KE, w, k, hq, _⟩ => hq C H E F [] [] [] (Rs.nil w) k
theorem sk_cons (he : SE T X W f e) (hr : SK T X W g kws) : SK T X W (dCons f g) (⟨nm, e, kpos⟩ :: kws) := (pk_cons he hr).imp fun σ H Q h => pre_cons h
theorem AL.append {C H : Hp} {σ : St} : ∀ {as bs : List A} {vs ws : List V} {f g : List Addr}, AL T C H σ as vs f → AL T C H σ bs ws g → AL T C H σ (as ++ bs) (vs ++ ws) (f ++ g)
  | _, _, _, _, _, _, .nil, s => s
  | _, _, _, _, _, _, .cons h r, s => by
    have := AL.cons h (AL.append r s)
    simpa using this
theorem Rs.append {C H C1 H1 C2 H2 : Hp} {F F1 F2 : Ft} {σ : St} {E1 E2 : Env} {as bs : List A} {vs ws : List V} {f1 f2 : List Addr} (x : Rs T C H F σ C1 H1 E1 F1 as vs f1) (y : Rs T C1 H1 F1 σ C2 H2 E2 F2 bs ws f2) :
    Rs T C H F σ C2 H2 E2 F2 (as ++ bs) (vs ++ ws) (f1 ++ f2) := by
  have k := keepF y.fr x.ot x.al.there
  refine ⟨y.wd, (x.al.keep y.fr.cl fun p hp u hu => (k p hp).1 u hu).append y.al, List.nodup_append.mpr ⟨x.nd, y.nd, fun p hp q hq e => ?_⟩, fun p hp => ?_, x.fr.cl.trans y.fr.cl, fun p o e n q => ?_⟩
  · subst e
    exact (k p hp).2.2 (.inr hq)
  · rcases List.mem_append.mp hp with hp | hp
    · exact ⟨(k p hp).2.1, fun z => (k p hp).2.2 (.inl z)⟩
    · exact y.ot p hp
  · obtain ⟨e1, n1, q1⟩ := x.fr.fo p o e n q
    obtain ⟨e2, n2, q2⟩ := y.fr.fo p o e1 n1 fun z => q1 (.inl z)
    exact ⟨e2, n2, fun z => z.elim (fun z => q2 (.inl z)) fun z => (List.mem_append.mp z).elim (fun z => q1 (.inr z)) fun z => q2 (.inr z)⟩
end
/-- a call with keywords: what is handed over is given up -/
def dCallKw (S : Spec) (n m : Nat) (gD : List D → List D → List D) (fs hs : DA) : DE := fun E KR KE => fs E (fun as E1 => hs E1 (fun bs E2 => capOs E2 (as ++ bs) fun os E3 =>
  (as.length = n ∧ bs.length = m) ∧ S ((gD ((os.map O.view).take n) ((os.map O.view).drop n)).map .sh) (fun o _ => KR (.val o) E3) (fun e _ => KE e E3)) KE) KE
structure BkG (K : PySem.W.Frag) (fd : FuncData) (ps : List Str) (n : Nat) (ks : List Str) (gD : List D → List D → List D) : Prop where
  ex : ∃ (g : List Value → List Value → List Value) (gV : List V → List V → List V), KBn K fd ps n ks g gV ∧ ∀ (T : Tb) (C : Hp) (ds es : List D) (vs ws : List V), T.K = K → RepL T C ds vs → RepL T C es ws → RepL T C (gD ds es) (gV vs ws)
theorem AL.length {T : Tb} {C H : Hp} {σ : St} : ∀ {as : List A} {vs : List V} {f : List Addr}, AL T C H σ as vs f → as.length = vs.length
  | _, _, _, .nil => rfl
  | _, _, _, .cons _ r => congrArg (· + 1) (AL.length r)
section
variable {X : Cx} {k n : Nat} {f : Addr} {fd : FuncData} {ps nms : List Str} {x : Str} {p pos : Pos} {e : Expr} {es : List Expr} {kws : List Keyword} {T : Tb} {W : WX} {S : Spec} {fs hs : DA} {gD : List D → List D → List D}
theorem se_callGK (F : FnG X.prog X.w X.K X.mg X.base (L2.CX X.prog X.w) k f fd ps (spS T S)) (hgd : X.A.guards = some []) (hr : Room k X.A) (hg : Gl X x) (hm : X.mg x = some (.ref f)) (hk : PySem.W.keepIn X.K (.ref f) = true) (hT : T.K = X.K) (hb : BkG X.K fd ps n nms gD) (tk : Takes X W)
    (ha : SA T X W fs (e :: es)) (hkw : SK T X W hs kws) (hall : (backToKw pos (keywordEach kws X.env)).all (·.1.isSome) = true) (hks : (backToKw pos (keywordEach kws X.env)).filterMap (·.1) = nms) (hdb : (x == ("__debug__" : Str)) = false) (he : starEach (e :: es) X.env = (false, eval e X.env) :: starEach es X.env)
    (hpl : ((backTo pos (starEach (e :: es) X.env)).any (·.1) || (backToKw pos (keywordEach kws X.env)).any (·.1.isNone)) = false) :
    SE T X W (dCallKw S n nms.length gD fs hs) (.Call (.Name x p) (e :: es) kws pos) := by
  obtain ⟨gg, gV, hB, hR⟩ := hb.ex
  refine (pe_callGK F hgd hr hg hm hk hB (fun σ => passAt tk σ) ha hkw hall hks hdb he hpl).imp fun σ H Q ⟨C, E, F0, KR, KE, w0, k0, hq, hx⟩ => ?_
  refine ⟨C, E, F0, _, KE, w0, k0, fun C1 H1 E1 F1 as vs f1 x1 k1 => ?_, hx⟩
  refine ⟨C1, E1, F1, _, KE, x1.wd, k1, fun C2 H2 E2 F2 bs us f2 x2 k2 => ?_, hx.step x1.fr fun _ z => .inl z⟩
  have xx := Rs.append x1 x2
  obtain ⟨C3, E3, F3, os, w3, ro, k3, fr3, s3, n3⟩ := caps_ok xx.wd xx.al xx.ot k2
  have ot3 : ∀ r ∈ f1 ++ f2, C3 r = none ∧ ¬ Own F3 r := fun r hr => ⟨by rw [n3 r (xx.ot r hr).2]; exact (xx.ot r hr).1, fun z => (xx.ot r hr).2 (s3 r z)⟩
  have w4 : Wd T (cl C3 H2 (f1 ++ f2)) H2 E3 σ F3 := w3.move (cl_sub w3.sub) (cl_le w3.sub) (fun _ _ _ e => e) fun r hr => by
    rw [cl_out fun z => (ot3 r z).2 hr]
    obtain ⟨i, hi⟩ := hr
    exact w3.out i r hi
  have rl : RepL T (cl C3 H2 (f1 ++ f2)) (os.map O.view) (vs ++ us) := by
    rw [← viewL_map]
    exact ORepL.close (cl_sub w3.sub) ro fun r hr u hu => cl_at hr hu
  have fr4 : Fr C H (Own F0) (cl C3 H2 (f1 ++ f2)) H2 (Own F3) := (xx.fr.side fr3).trans (Fr.close (a := fun p => Own F3 p ∨ p ∈ f1 ++ f2) (b := Own F3) w3.sub (fun r hr => .inr hr) fun r hr => .inl hr) fun _ z => z
  obtain ⟨⟨ln, lm⟩, k3⟩ := k3
  have lv : vs.length = n := x1.al.length.symm.trans ln
  have rt : RepL T (cl C3 H2 (f1 ++ f2)) ((os.map O.view).take n) vs := by
    have := rl.take n
    rwa [← lv, List.take_left, lv] at this
  have rd : RepL T (cl C3 H2 (f1 ++ f2)) ((os.map O.view).drop n) us := by
    have := rl.drop n
    rwa [← lv, List.drop_left, lv] at this
  refine ⟨⟨lv, x2.al.length.symm.trans lm⟩, cl C3 H2 (f1 ++ f2), _, [], _, _, w4.sub, ORepL.shs (hR T _ _ _ vs us hT rt rd), List.nodup_nil, fun p hp => by simp at hp, k3, fun C5 H5 o y g5 os5 f5 sb ro5 rl5 nd5 ot5 fr5 kk => ?_, fun C5 H5 e5 cls d5 os5 f5 sb ro5 nd5 ot5 fr5 er kk => ?_⟩
  · have w5 : Wd T C5 H5 E3 σ F3 := w4.apart fr5 sb fun p _ hp => by simp at hp
    refine hq C5 H5 E3 F3 _ y g5 ⟨w5, .val ro5, (List.nodup_append.mp nd5).2.1, fun p hp => ⟨ot5 p (List.mem_append_right _ hp), fun ⟨i, hi⟩ => ?_⟩, ?_⟩ kk
    · obtain ⟨u0, hu0⟩ := w4.own_there hi
      exact (fr5.fo p u0 hu0 (w4.out i p hi) (by simp)).2.2 (List.mem_append_right _ hp)
    · exact ⟨fr4.cl.trans fr5.cl, fun p o e n q => by
        obtain ⟨e1, n1, q1⟩ := fr4.fo p o e n q
        obtain ⟨e2, n2, q2⟩ := fr5.fo p o e1 n1 (by simp)
        exact ⟨e2, n2, fun z => z.elim q1 fun z => q2 (List.mem_append_right _ z)⟩⟩
  · have w5 : Wd T C5 H5 E3 σ F3 := w4.apart fr5 sb fun p _ hp => by simp at hp
    refine hx C5 H5 E3 F3 e5 cls d5 w5 ⟨fr4.cl.trans fr5.cl, fun p o e n q => ?_⟩ er kk
    obtain ⟨e1, n1, q1⟩ := fr4.fo p o e n q
    obtain ⟨e2, n2, q2⟩ := fr5.fo p o e1 n1 (by simp)
    exact ⟨e2, n2, q1⟩
end
/-- a def that may be called -/
structure FnQ (P : Program) (w : World) (K : PySem.W.Frag) (mg : Str → Option Value) (base : Heap) (T : Tb) (x : Str) (ps : List Str) (k : Nat) (S : Spec) (f : Addr) (fd : FuncData) : Prop where
  ok : FnG P w K mg base (L2.CX P w) k f fd ps (spS T S)
  mg : mg x = some (.ref f)
  keep : PySem.W.keepIn K (.ref f) = true
section
variable {X : Cx} {T : Tb} {W : WX} {fs hs : DA} {e : Expr} {es : List Expr} {pos p : Pos} {x : Str} {P : Program} {w : World} {K : PySem.W.Frag} {mg : Str → Option Value} {base : Heap} {ps nms : List Str} {k n : Nat} {S : Spec} {dds : List D} {fA : Addr} {fd : FuncData} {kws : List Keyword} {gD : List D → List D → List D}
theorem ecallG (F : FnQ P w K mg base T x ps k S fA fd) (hP : X.prog = P) (hw : X.w = w) (hK : X.K = K) (hT : T.K = K) (hmg : X.mg = mg) (hba : X.base = base)
    (hb : Bd K fd ps dds) (hgd : X.A.guards = some []) (hr : Room k X.A) (tk : Takes X W) (ha : SA T X W fs (e :: es)) (hg : Gl X x := by rfl) (hdb : (x == ("__debug__" : Str)) = false := by decide) (he : starEach (e :: es) X.env = (false, eval e X.env) :: starEach es X.env := by rfl) (hpl : (backTo pos (starEach es X.env)).any (·.1) = false := by rfl) :
    SE T X W (dCall S dds fs) (.Call (.Name x p) (e :: es) [] pos) := by
  obtain ⟨ds, dvs, b, v, r⟩ := hb
  subst hP hw hK hmg hba
  exact se_callG F.ok hgd hr hg F.mg F.keep b v (r T hT) tk ha hdb he hpl
theorem ecallKw (F : FnQ P w K mg base T x ps k S fA fd) (hP : X.prog = P) (hw : X.w = w) (hK : X.K = K) (hT : T.K = K) (hmg : X.mg = mg) (hba : X.base = base)
    (hb : BkG K fd ps n nms gD) (hgd : X.A.guards = some []) (hr : Room k X.A) (tk : Takes X W) (ha : SA T X W fs (e :: es)) (hkw : SK T X W hs kws) (hg : Gl X x := by rfl) (hdb : (x == ("__debug__" : Str)) = false := by decide)
    (hall : (backToKw pos (keywordEach kws X.env)).all (·.1.isSome) = true := by rfl) (hks : (backToKw pos (keywordEach kws X.env)).filterMap (·.1) = nms := by rfl) (he : starEach (e :: es) X.env = (false, eval e X.env) :: starEach es X.env := by rfl)
    (hpl : ((backTo pos (starEach (e :: es) X.env)).any (·.1) || (backToKw pos (keywordEach kws X.env)).any (·.1.isNone)) = false := by rfl) :
    SE T X W (dCallKw S n nms.length gD fs hs) (.Call (.Name x p) (e :: es) kws pos) := by
  subst hP hw hK hmg hba
  exact se_callGK F.ok hgd hr hg F.mg F.keep hT hb tk ha hkw hall hks hdb he hpl
end
/-! a def by its body -/
section
variable {P : Program} {w : World} {K : PySem.W.Frag} {mg : Str → Option Value} {base : Heap} {x qual : Str} {params : Arguments} {body : List Stmt} {scope : Scope} {dvs : List V} {kws : List (Str × V)} {f : Addr} {fd : FuncData}
theorem fn_bodyG {T : Tb} {N ps : List Str} {k : Nat} {R : List Nat} {g : DS} (F : FunD K x qual params body scope dvs kws f fd) (S : FnScope N ps scope) (hT : T.flo = fun _ => none) (hT2 : T.pin = []) (hle : ps.length ≤ N.length)
    (hb : ∀ (cdv : Value) (A : Around) (outer : List PySem.Env) (s : Shared) (H : Hp) (E : XK), A.guards = some [] → Room k (A.deeper (envOfC qual scope s.heap.objs.size f cdv)) →
      SSs T (cxOf (L2.CX P w) P w K mg base N qual scope f cdv A outer s H E) (fun cls d _ H' => E cls d H') (stay R ps.length) g body) :
    FnG P w K mg base (L2.CX P w) (k + 1) f fd ps (spS T (bodyS N.length R ps.length g)) :=
  funD_okG F S (fun vs H Q E ⟨C, os, fo, KR, KE, _, r, _, _, ⟨hl, _⟩, _⟩ => by rw [← r.length]; exact hl) fun cdv A outer s H vs Q E hgd hr h => body_core hT hT2 hle (hb cdv A outer s H E hgd hr) h
end
theorem fn_of_bodyG {P : Program} {w : World} {K : PySem.W.Frag} {mg : Str → Option Value} {base : Heap} {T : Tb} {x : Str} {ps : List Str} {k : Nat} {S S' : Pv.Spec} {f : Addr} {fd : FuncData} (h : FnG P w K mg base (L2.CX P w) k f fd ps (spS T S')) (c : ∀ os KR KE, S os KR KE → S' os KR KE) (hm : mg x = some (.ref f))
    (hk : PySem.W.keepIn K (.ref f) = true) : FnQ P w K mg base T x ps k S f fd := ⟨h.imp fun vs H Q E z => spS_imp c z, hm, hk⟩

/-! ### repr -/
def gRepr : G := fun ds K => match ds with
  | [d] => (d.plain = true ∧ d.py.showable = true ∧ d.py.hasDict = false ∧ d.py.depth ≤ 60 ∧ d.py.shown.length ≤ sizeLine ∧ (∃ xs, d = .tup xs ∨ d = .lst xs)) ∧ K (.sh (.str d.py.shown))
  | _ => False
def rRepr (K : PySem.W.Frag) : List V → Hp → VK → Prop := fun vs H Q => ∃ (a : Addr) (d : PyData), vs = [.ref a] ∧ Dp K H (.ref a) d ∧ d.showable = true ∧ d.hasDict = false ∧ d.depth ≤ 60 ∧ d.shown.length ≤ sizeLine ∧ Q (.str d.shown) H
theorem call_repr {X : Cx} (hgd : X.A.guards = some []) (hu : X.A.units + 64 < cLine) : CallR X (.builtin "repr") (rRepr X.K) := by
  intro pins s σ H vs us Q I r h
  obtain ⟨a, d, rfl, hd, h1, h2, h3, h4, q⟩ := h
  obtain ⟨u, rfl, ru⟩ := vals1 r
  obtain rfl : u = Value.ref a := ru
  obtain ⟨as, rd⟩ := Dp.reads I d _ _ hd rfl
  exact repr_of_reads' rd h1 (PyData.noDict_hsm h2) hgd (by omega) (fun _ _ e => e) (fun h' u tk hk => ⟨.str d.shown, H, I.kept hk, ⟨_, rfl⟩, q⟩) h4
theorem bi_repr {T : Tb} : BI T (rRepr T.K) gRepr := fun C0 H vs ds Q K s vl k hq => by
  unfold gRepr at k
  split at k
  · obtain ⟨⟨p1, p2, p3, p4, p5, xs, p6⟩, k⟩ := k
    rename_i d
    cases vl with
    | cons h1 r => cases r with
      | nil =>
        rename_i v
        have dp := h1.dp s p1
        rcases p6 with rfl | rfl
        · obtain ⟨p, vs, rfl, _, _⟩ := h1.seqT s
          exact ⟨p, _, rfl, dp, p2, p3, p4, p5, hq C0 H _ _ [] (Grow.refl s) (.sh (.str _)) k⟩
        · obtain ⟨p, vs, rfl, _, _⟩ := h1.seqL s
          exact ⟨p, _, rfl, dp, p2, p3, p4, p5, hq C0 H _ _ [] (Grow.refl s) (.sh (.str _)) k⟩
  · exact k.elim
theorem erepr {X : Cx} {T : Tb} {W : WX} {fs : DA} {e : Expr} {es : List Expr} {p pos : Pos} (hK : X.K = T.K) (hgd : X.A.guards = some []) (hu : X.A.units + 64 < cLine) (hm : X.mg "repr" = none) (ha : SA T X W fs (e :: es)) (hg : Gl X "repr" := by rfl) (he : starEach (e :: es) X.env = (false, eval e X.env) :: starEach es X.env := by rfl) (hpl : (backTo pos (starEach es X.env)).any (·.1) = false := by rfl) :
    SE T X W (dB gRepr fs) (.Call (.Name "repr" p) (e :: es) [] pos) := se_callB (X := X) (call_repr hgd hu) (by rw [hK]; exact bi_repr) hg hm (by decide +kernel) ha (by decide) (by decide) he hpl

/-! ### the empty dict -/
def dDic : DE := fun E KR _ => KR (.val (.sh .dic)) E
theorem edic {X : Cx} {T : Tb} {W : WX} {pos : Pos} : SE T X W dDic (.Dict [] [] pos) := pe_dnewK.imp fun σ H Q h => by
  obtain ⟨C, E, F, KR, KE, w, k, hq, _⟩ := h
  intro p hp
  have gr : Grow C H (upd C p (.dK [])) (upd H p (.dK [])) [] := Grow.tup w.sub hp
  exact hq _ _ E F _ _ [] (R1.grow w gr (.val (.sh (.dic upd_same))) Fr.refl) k

/-! ### insert -/
def dInsert (i : Nat) (fs : DA) : DE := fun E KR KE => match E[i]? with
  | some (some (.lst _)) => fs E (fun as E1 => capOs E1 as fun os E2 => match os, E2[i]? with
    | [.sh (.int j), o], some (some (.lst xs)) => xs.length < sizeLine ∧ 0 ≤ j ∧ j < 2 ^ 63 ∧ KR (.val (.sh .non)) (E2.set i (some (.lst (xs.take j.toNat ++ [o] ++ xs.drop j.toNat))))
    | _, _ => False) KE
  | _ => False
def rInsert : V → List V → Hp → VK → Prop := fun x vs H Q => ∃ (l : Addr) (xs : List V) (i : Int) (y : V), x = .ref l ∧ vs = [.int i, y] ∧ H l = some (.lst xs) ∧ xs.length < sizeLine ∧ 0 ≤ i ∧ i < 2 ^ 63 ∧ Q .non (upd H l (.lst (xs.take i.toNat ++ [y] ++ xs.drop i.toNat)))
section
variable {X : Cx} {T : Tb} {W : WX} {i : Nat} {fs : DA} {x : Str} {px apos pos : Pos} {e1 e2 : Expr}
theorem ORepL.split {C H : Hp} : ∀ (n : Nat) {os : List O} {vs : List V} {f : List Addr}, ORepL T C H os vs f → ∃ f1 f2, f = f1 ++ f2 ∧ ORepL T C H (os.take n) (vs.take n) f1 ∧ ORepL T C H (os.drop n) (vs.drop n) f2
  | 0, _, _, f, h => ⟨[], f, rfl, .nil, h⟩
  | _ + 1, _, _, _, .nil => ⟨[], [], rfl, .nil, .nil⟩
  | n + 1, _, _, _, .cons (f := g) h r => by
    obtain ⟨f1, f2, e, a, b⟩ := ORepL.split n r
    exact ⟨g ++ f1, f2, by rw [e, List.append_assoc], .cons h a, b⟩
theorem pre_insert {σ : St} {H : Hp} {Q : VK} (h : PreE T W (dInsert i fs) σ H Q) : ∃ v, σ[i]? = some (some v) ∧ tyV T.K "list" v H ∧ PreA T W fs σ H fun vs H1 => rInsert v vs H1 Q := by
  obtain ⟨C, E, F, KR, KE, w, k, hq, hx⟩ := h
  unfold dInsert at k
  split at k
  · rename_i os0 e0
    obtain ⟨v0, hv0, r0⟩ := w.rep i _ e0
    have ty : tyV T.K "list" v0 H := by
      generalize F i = g at r0
      cases r0 with
      | lst hp rl => exact .inl ⟨rfl, _, SqL.of hp⟩
    refine ⟨v0, hv0, ty, C, E, F, _, _, w, k, fun C1 H1 E1 F1 as us f1 y k1 => ?_, hx⟩
    obtain ⟨C2, E2, F2, os, w2, ros, k2, fr2, s2, n2⟩ := caps_ok y.wd y.al y.ot k1
    have ot : ∀ r ∈ f1, C2 r = none ∧ ¬ Own F2 r := fun r hr => ⟨by rw [n2 r (y.ot r hr).2]; exact (y.ot r hr).1, fun z => (y.ot r hr).2 (s2 r z)⟩
    have frA : Fr C H (Own F) C2 H1 (fun p => Own F2 p ∨ p ∈ f1) := y.fr.side fr2
    split at k2
    · rename_i j o xs e1
      obtain ⟨sz, j0, j1, k2⟩ := k2
      have ndy := y.nd
      cases ros with
      | cons r1 r2 => cases r2 with
        | cons ro r3 =>
          cases r3
          cases r1 with
          | sh r1 =>
            cases r1
            rename_i v g
            simp only [List.nil_append, List.append_nil] at ot frA ndy
            obtain ⟨v2, hv2, r2⟩ := w2.rep i _ e1
            rw [hv0] at hv2
            have e2 := Option.some.inj (Option.some.inj hv2)
            subst e2
            have ndF := w2.nd i
            have inF : ∀ p, p ∈ F2 i → Own F2 p := fun p hp => ⟨i, hp⟩
            generalize hF : F2 i = Fi at r2 ndF inF
            cases r2 with
            | @lst pp vs _ fl hpp rl =>
              obtain ⟨np, nfl⟩ := List.nodup_cons.mp ndF
              have hpF : pp ∈ F2 i := by rw [hF]; exact List.mem_cons_self
              obtain ⟨g1, g2, eg, ra, rb⟩ := ORepL.split j.toNat rl
              subst eg
              have pf : pp ∉ g := fun z => (ot pp z).2 (inF pp List.mem_cons_self)
              have mem : ∀ q, q ∈ g1 ++ (g ++ []) ++ g2 → q ∈ g1 ++ g2 ∨ q ∈ g := fun q hq => by
                simp only [List.mem_append, List.append_nil] at hq ⊢
                rcases hq with (z | z) | z
                · exact .inl (.inl z)
                · exact .inr z
                · exact .inl (.inr z)
              have pg : pp ∉ g1 ++ (g ++ []) ++ g2 := fun z => (mem pp z).elim np pf
              have rg := (ra.append (.cons ro .nil)).append rb
              have rn : ORep T C2 (upd H1 pp (.lst (vs.take j.toNat ++ [v] ++ vs.drop j.toNat))) (.lst (xs.take j.toNat ++ [o] ++ xs.drop j.toNat)) (.ref pp) (pp :: (g1 ++ (g ++ []) ++ g2)) := .lst upd_same (rg.keep (Sub.refl _) fun q hq u hu => upd_keepN pg hq hu)
              obtain ⟨na, nb, nc⟩ := List.nodup_append.mp nfl
              have far : ∀ a, a ∈ g1 ++ g2 → ∀ b, b ∈ g → a ≠ b := fun a ha b hb e => by subst e; exact (ot a hb).2 (inF a (List.mem_cons_of_mem _ ha))
              have nd2 : (g1 ++ (g ++ []) ++ g2).Nodup := by
                rw [List.append_nil]
                refine List.nodup_append.mpr ⟨List.nodup_append.mpr ⟨na, ndy, fun a ha b hb => far a (List.mem_append_left _ ha) b hb⟩, nb, fun a ha b hb e => ?_⟩
                rcases List.mem_append.mp ha with z | z
                · exact nc a z b hb e
                · exact far b (List.mem_append_right _ hb) a z e.symm
              have w5 := w2.mutate hpF hv0 rn (List.nodup_cons.mpr ⟨pg, nd2⟩) fun q hq => by
                rcases List.mem_cons.mp hq with rfl | hq
                · exact ⟨w2.out i _ hpF, .inl hpF⟩
                · rcases mem q hq with z | z
                  · have : q ∈ F2 i := by rw [hF]; exact List.mem_cons_of_mem _ z
                    exact ⟨w2.out i q this, .inl this⟩
                  · exact ⟨(ot q z).1, .inr (ot q z).2⟩
              refine ⟨pp, vs, j, v, rfl, rfl, hpp, by rw [← rl.length]; exact sz, j0, j1, ?_⟩
              refine hq C2 _ _ _ _ _ [] (R1.after (own := Own _) (F1 := updF F2 i (pp :: (g1 ++ (g ++ []) ++ g2))) ?_ (fun _ z => z) (R1.self w5 (.val (.sh .non)))) k2
              refine frA.trans (Fr.mutate (own := fun p => Own F2 p ∨ p ∈ g) (.inl ⟨i, hpF⟩) fun r hr => ?_) fun _ z => z
              rcases own_updF hr with z | z
              · rcases List.mem_cons.mp z with rfl | z
                · exact .inl ⟨i, hpF⟩
                · rcases mem r z with y | y
                  · exact .inl ⟨i, by rw [hF]; exact List.mem_cons_of_mem _ y⟩
                  · exact .inr y
              · exact .inl z
    · exact k2.elim
  · exact k.elim
theorem ins (i : Nat) (hK : X.K = T.K) (ha : SA T X W fs [e1, e2]) (hN : X.N[i]? = some x := by rfl) (hv : Vis X.env.scope x := by first | exact Or.inl rfl | exact Or.inr (Or.inl rfl) | exact Or.inr (Or.inr rfl)) (hd : (x == ("__debug__" : Str)) = false := by decide)
    (hcd : (x == ("__classdict__" : Str)) = false := by decide)
    (hbase : attributeBase (.Name x px) "insert" X.env (eval (.Name x px) X.env) = eval (.Name x px) X.env := by rfl)
    (hfew : ((backTo pos (starEach [e1, e2] X.env)).all (fun x => !x.1) && (backToKw pos (keywordEach [] X.env)).all (fun x => x.1.isSome) && decide (([e1, e2] : List Expr).length + ([] : List Keyword).length + (if ([] : List Keyword).isEmpty then 0 else 1) < 30)) = true := by rfl)
    (hline : (apos.endLine == pos.line) = true := by rfl) (hs : starEach [e1, e2] X.env = (false, eval e1 X.env) :: starEach [e2] X.env := by rfl) (hplain : (backTo pos (starEach [e2] X.env)).any (·.1) = false := by rfl) :
    SE T X W (dInsert i fs) (.Call (.Attribute (.Name x px) "insert" apos) [e1, e2] [] pos) :=
  (pe_bm PySem.F.plainAttrs_list PySem.F.slot_list_insert PySem.F.type_list_insert mt_insert (pe_var hN hv hd hcd) ha hbase hfew hline hs hplain).imp fun σ H Q h => by
    rw [hK]
    exact pre_insert h
end
end Pv

set_option Elab.async false
set_option linter.all false
set_option maxRecDepth 100000
set_option maxHeartbeats 4000000
set_option autoImplicit false
/-! PvX: texts: str(), startswith, split, in, slices, f-strings; all(). -/
namespace Pv
open PySem PySem.Spec PyProof.Rows L2
section
variable {X : Cx} {T : Tb} {W : WX} {fs : DA} {f g : DE} {e e2 : Expr} {es : List Expr} {p pos apos : Pos}
/-! str(x) -/
def gStr : G := fun ds K => match ds with
  | [.int i] => i.natAbs.log2 < 1920 ∧ K (.sh (.str (toString i)))
  | _ => False
theorem bi_str : BI T (fun xs H Q => ∃ i, xs = [.int i] ∧ i.natAbs.log2 < 1920 ∧ Q (.str (toString i)) H) gStr := fun C0 H vs ds Q K s vl k hq => by
  unfold gStr at k
  split at k
  · obtain ⟨v, rfl, h1⟩ := vl.inv1
    rw [h1.int]
    exact ⟨_, rfl, k.1, ans s (.str _) hq k.2⟩
  · exact k.elim
theorem estr (hm : X.mg "str" = none) (ha : SA T X W fs (e :: es)) (hg : Gl X "str" := by rfl) (he : starEach (e :: es) X.env = (false, eval e X.env) :: starEach es X.env := by rfl) (hpl : (backTo pos (starEach es X.env)).any (·.1) = false := by rfl) :
    SE T X W (dB gStr fs) (.Call (.Name "str" p) (e :: es) [] pos) := se_callTy (X := X) call_str_int bi_str hg hm (by decide +kernel) ha (by decide) (by decide) he hpl
/-! all([..]) of truths -/
def gAll : G := fun ds K => match ds with
  | [.lst xs] => ∃ bs : List Bool, xs = bs.map D.bl ∧ K (.sh (.bl (bs.all id)))
  | _ => False
theorem rep_bls {C : Hp} : ∀ {bs : List Bool} {vs : List V}, RepL T C (bs.map D.bl) vs → vs = bs.map V.bl
  | [], _, h => by cases h; rfl
  | b :: bs, _, h => by
    cases h with
    | cons h r =>
      cases h
      rw [rep_bls r]; rfl
theorem bi_all : BI T (rAll T.K) gAll := fun C0 H vs ds Q K s vl k hq => by
  unfold gAll at k
  split at k
  · obtain ⟨v, rfl, h1⟩ := vl.inv1
    obtain ⟨p, vs, rfl, a1, b1⟩ := h1.seqL s
    obtain ⟨bs, rfl, k⟩ := k
    rw [rep_bls b1] at a1
    exact ⟨p, bs, rfl, a1, ans s (.bl _) hq k⟩
  · exact k.elim
theorem eall (hK : X.K = T.K) (hm : X.mg "all" = none) (ha : SA T X W fs (e :: es)) (hc : X.calm = true := by rfl) (hg : Gl X "all" := by rfl) (he : starEach (e :: es) X.env = (false, eval e X.env) :: starEach es X.env := by rfl) (hpl : (backTo pos (starEach es X.env)).any (·.1) = false := by rfl) :
    SE T X W (dB gAll fs) (.Call (.Name "all" p) (e :: es) [] pos) := se_callB (X := X) (cr_all hc) (by rw [hK]; exact bi_all) hg hm (by decide +kernel) ha (by decide) (by decide) he hpl
/-! in, not in: texts -/
def gIn (neg : Bool) : G := fun ds K => match ds with
  | [.str a, .str b] => K (.sh (.bl (if neg then !Txt.contains b a else Txt.contains b a)))
  | _ => False
theorem bi_in : BI T (r2 fun x y H Q => ∃ i j, x = .str i ∧ y = .str j ∧ Q (.bl (!(Builtin.Str.occurrences j i 0 j.length 1).isEmpty)) H) (gIn false) := fun C0 H vs ds Q K s vl k hq => by
  unfold gIn at k
  split at k
  · obtain ⟨v, w, rfl, h1, h2⟩ := vl.inv2
    rw [h1.str, h2.str]
    exact ⟨_, _, rfl, rfl, ans s (.bl _) hq k⟩
  · exact k.elim
theorem bi_notin : BI T (r2 fun x y H Q => ∃ i j, x = .str i ∧ y = .str j ∧ Q (.bl (!(!(Builtin.Str.occurrences j i 0 j.length 1).isEmpty))) H) (gIn true) := fun C0 H vs ds Q K s vl k hq => by
  unfold gIn at k
  split at k
  · obtain ⟨v, w, rfl, h1, h2⟩ := vl.inv2
    rw [h1.str, h2.str]
    exact ⟨_, _, rfl, rfl, ans s (.bl _) hq k⟩
  · exact k.elim
theorem ein (ha : SE T X W f e) (hb : SE T X W g e2) (hm : behindInMarks .In e2 = false := by rfl) : SE T X W (dB (gIn false) (dCons f (dCons g dNil))) (.Compare e [.In] [e2] pos) := se_cmp (X := X) op_in_str bi_in ha hb hm
theorem enin (ha : SE T X W f e) (hb : SE T X W g e2) (hm : behindInMarks .NotIn e2 = false := by rfl) : SE T X W (dB (gIn true) (dCons f (dCons g dNil))) (.Compare e [.NotIn] [e2] pos) := se_cmp (X := X) op_notin_str bi_notin ha hb hm
theorem tin (ha : SE T X W f e) (hb : SE T X W g e2) (hm : behindInMarks .In e2 = false := by rfl) : ST T X W (dTb (dB (gIn false) (dCons f (dCons g dNil)))) (.Compare e [.In] [e2] pos) := st_cmp (X := X) op_in_str bi_in ha hb hm
theorem tnin (ha : SE T X W f e) (hb : SE T X W g e2) (hm : behindInMarks .NotIn e2 = false := by rfl) : ST T X W (dTb (dB (gIn true) (dCons f (dCons g dNil)))) (.Compare e [.NotIn] [e2] pos) := st_cmp (X := X) op_notin_str bi_notin ha hb hm
end
/-! what is a text, a whole number, as soon as it is reckoned -/
def strO (s : Option (Option O)) (K : Str → Prop) : Prop := match s with
  | some (some (.sh (.str y))) => K y
  | _ => False
def intO (s : Option (Option O)) (K : Int → Prop) : Prop := match s with
  | some (some (.sh (.int y))) => K y
  | _ => False
def strA (E : Env) (a : A) (K : Str → Prop) : Prop := match a with
  | .val o => strO (some (some o)) K
  | .slot j => strO E[j]? K
def intA (E : Env) (a : A) (K : Int → Prop) : Prop := match a with
  | .val o => intO (some (some o)) K
  | .slot j => intO E[j]? K
section
variable {T : Tb} {C H C1 H1 C2 H2 : Hp} {F F1 F2 : Ft} {σ : St} {E1 E2 : Env} {a : A} {v : V} {f : List Addr}
theorem strA_ok {K : Str → Prop} (x : R1 T C H F σ C1 H1 E1 F1 a v f) (k : strA E1 a K) : ∃ y, v = .str y ∧ K y := by
  have ar := x.ar
  cases ar with
  | @val o _ _ r =>
    simp only [strA] at k
    unfold strO at k
    split at k
    · rename_i y e
      have e := Option.some.inj (Option.some.inj e)
      subst e
      cases r with
      | sh r => cases r; exact ⟨_, rfl, k⟩
    · exact k.elim
  | @slot i _ hv =>
    simp only [strA] at k
    unfold strO at k
    split at k
    · rename_i y e
      obtain ⟨v2, hv2, r⟩ := x.wd.rep i _ e
      rw [hv] at hv2
      obtain rfl := Option.some.inj (Option.some.inj hv2)
      generalize F1 i = g at r
      cases r with
      | sh r => cases r; exact ⟨_, rfl, k⟩
    · exact k.elim
theorem intA_ok {K : Int → Prop} (x : R1 T C H F σ C1 H1 E1 F1 a v f) (k : intA E1 a K) : ∃ y, v = .int y ∧ K y := by
  have ar := x.ar
  cases ar with
  | @val o _ _ r =>
    simp only [intA] at k
    unfold intO at k
    split at k
    · rename_i y e
      have e := Option.some.inj (Option.some.inj e)
      subst e
      cases r with
      | sh r => cases r; exact ⟨_, rfl, k⟩
    · exact k.elim
  | @slot i _ hv =>
    simp only [intA] at k
    unfold intO at k
    split at k
    · rename_i y e
      obtain ⟨v2, hv2, r⟩ := x.wd.rep i _ e
      rw [hv] at hv2
      obtain rfl := Option.some.inj (Option.some.inj hv2)
      generalize F1 i = g at r
      cases r with
      | sh r => cases r; exact ⟨_, rfl, k⟩
    · exact k.elim
/-- a result, later on -/
theorem R1.later (x : R1 T C H F σ C1 H1 E1 F1 a v f) (w : Wd T C2 H2 E2 σ F2) (fr : Fr C1 H1 (fun p => Own F1 p ∨ p ∈ f) C2 H2 (fun p => Own F2 p ∨ p ∈ f)) (o2 : ∀ p ∈ f, C2 p = none ∧ ¬ Own F2 p) (kp : ∀ p ∈ f, ∀ u, H1 p = some u → H2 p = some u) : R1 T C H F σ C2 H2 E2 F2 a v f :=
  ⟨w, x.ar.keep fr.cl kp, x.nd, o2, x.fr.trans fr fun _ z => z⟩
theorem R1.step (x : R1 T C H F σ C1 H1 E1 F1 a v f) (w : Wd T C2 H2 E2 σ F2) (fr : Fr C1 H1 (Own F1) C2 H2 (Own F2)) : R1 T C H F σ C2 H2 E2 F2 a v f := by
  have kp := keepF fr x.ot x.ar.there
  refine ⟨w, x.ar.keep fr.cl fun p hp u hu => (kp p hp).1 u hu, x.nd, fun p hp => (kp p hp).2, ⟨x.fr.cl.trans fr.cl, fun p o e n q => ?_⟩⟩
  obtain ⟨e1, n1, q1⟩ := x.fr.fo p o e n q
  obtain ⟨e2, n2, q2⟩ := fr.fo p o e1 n1 fun z => q1 (.inl z)
  exact ⟨e2, n2, fun z => z.elim q2 fun z => q1 (.inr z)⟩
end
/-! o.m(e) of a text -/
def dM1 (g : G) (fo fe : DE) : DE := fun E KR KE => fo E (fun a E1 => strA E1 a fun _ => fe E1 (fun b E2 => dViews E2 [a, b] fun ds E3 => g ds fun o => KR (.val o) E3) KE) KE
section
variable {X : Cx} {T : Tb} {W : WX} {f g : DE} {o e : Expr} {p pos apos : Pos} {G1 : G} {r : V → List V → Hp → VK → Prop}
theorem pre_m1 (hb : BI T (fun vs H Q => match vs with
    | x :: xs => r x xs H Q
    | [] => False) G1) {σ : St} {H : Hp} {Q : VK} (h : PreE T W (dM1 G1 f g) σ H Q) : tM1 r (PreE T W f) (PreE T W g) σ H Q := by
  obtain ⟨C, E, F, KR, KE, w, k, hq, hx⟩ := h
  refine ⟨C, E, F, _, KE, w, k, fun C1 H1 E1 F1 a v f1 x k1 => ?_, hx⟩
  obtain ⟨y, e, k2⟩ := strA_ok x k1
  refine ⟨⟨y, e⟩, C1, E1, F1, _, KE, x.wd, k2, fun C2 H2 E2 F2 b u f2 z k3 => ?_, hx.step x.fr fun _ z => .inl z⟩
  have := fin_bi (r := fun vs H Q => match vs with
    | x :: xs => r x xs H Q
    | [] => False) hb (Rs.cons x (Rs.one z)) k3 hq
  exact this
def gStart : G := fun ds K => match ds with
  | [.str a, .str b] => K (.sh (.bl (Txt.startswith a b)))
  | _ => False
def gSplit : G := fun ds K => match ds with
  | [.str a, .str b] => ((b.length == 0) = false ∧ a.length + 2 ≤ sizeLine) ∧ K (.lst ((Txt.split a b).map fun y => .sh (.str y)))
  | _ => False
theorem bi_start : BI T (fun vs H Q => match vs with
    | x :: xs => (fun x xs H Q => ∃ a b, x = V.str a ∧ xs = [V.str b] ∧ Q (.bl (Txt.startswith a b)) H) x xs H Q
    | [] => False) gStart := fun C0 H vs ds Q K s vl k hq => by
  unfold gStart at k
  split at k
  · obtain ⟨v, w, rfl, h1, h2⟩ := vl.inv2
    rw [h1.str, h2.str]
    exact ⟨_, _, rfl, rfl, ans s (.bl _) hq k⟩
  · exact k.elim
theorem rep_strs {C : Hp} : ∀ ys : List Str, RepL T C (ys.map D.str) (ys.map V.str)
  | [] => .nil
  | y :: ys => .cons (.str y) (rep_strs ys)
theorem bi_split : BI T (fun vs H Q => match vs with
    | x :: xs => (fun x xs H Q => ∃ a b, x = V.str a ∧ xs = [V.str b] ∧ (b.length == 0) = false ∧ a.length + 2 ≤ sizeLine ∧ rNewStrs (Txt.split a b) H Q) x xs H Q
    | [] => False) gSplit := fun C0 H vs ds Q K s vl k hq => by
  unfold gSplit at k
  split at k
  · obtain ⟨v, w, rfl, h1, h2⟩ := vl.inv2
    rw [h1.str, h2.str]
    have e : ∀ l : List Str, (l.map fun y => O.sh (.str y)) = (l.map D.str).map .sh := fun l => by rw [List.map_map]; rfl
    rw [e] at k
    exact ⟨_, _, rfl, rfl, k.1.1, k.1.2, fun p hp => ansL s (rep_strs _) hp hq k.2⟩
  · exact k.elim
theorem estart (ho : SE T X W f o) (he : SE T X W g e) (hs : starEach [e] X.env = [(false, eval e X.env)] := by rfl) (hbase : attributeBase o "startswith" X.env (eval o X.env) = eval o X.env := by rfl) (hline : (apos.endLine == pos.line) = true := by rfl) :
    SE T X W (dM1 gStart f g) (.Call (.Attribute o "startswith" apos) [e] [] pos) := (pe_m1 PySem.F.slot_str_startswith PySem.F.type_str_startswith mt_startswith ho he hs hbase hline).imp fun σ H Q h => pre_m1 bi_start h
theorem esplit (ho : SE T X W f o) (he : SE T X W g e) (hs : starEach [e] X.env = [(false, eval e X.env)] := by rfl) (hbase : attributeBase o "split" X.env (eval o X.env) = eval o X.env := by rfl) (hline : (apos.endLine == pos.line) = true := by rfl) :
    SE T X W (dM1 gSplit f g) (.Call (.Attribute o "split" apos) [e] [] pos) := (pe_m1 PySem.F.slot_str_split PySem.F.type_str_split mt_split ho he hs hbase hline).imp fun σ H Q h => pre_m1 bi_split h
end
/-! slices -/
abbrev DO := Env → (Option Int → Env → Prop) → KX → Prop
def dPart0 : DO := fun E K _ => K none E
def dPart (f : DE) : DO := fun E K KE => f E (fun a E1 => intA E1 a fun i => K (some i) E1) KE
def cutD (xs : List D) (lo hi : Option Int) : List D := (xs.drop (HT.sIx xs.length 0 lo)).take (HT.sIx xs.length xs.length hi - HT.sIx xs.length 0 lo)
def gCut (lo hi : Option Int) : G := fun ds K => match ds with
  | [.str z] => z.length ≤ sizeLine ∧ K (.sh (.str (cutS z lo hi)))
  | [.lst xs] => K (.lst ((cutD xs lo hi).map .sh))
  | [.tup xs] => K (.sh (.tup (cutD xs lo hi)))
  | _ => False
def dSl (lo hi : DO) (f : DE) : DE := fun E KR KE => f E (fun a E1 => lo E1 (fun l E2 => hi E2 (fun u E3 => dViews E3 [a] fun ds E4 => gCut l u ds fun o => KR (.val o) E4) KE) KE) KE
def rCut (K : PySem.W.Frag) : V → Option Int → Option Int → Hp → VK → Prop := fun x lo hi H Q => (rSlS x lo hi H Q ∨ rSlL K x lo hi H Q) ∨ rSlA K x lo hi H Q
def PreO (T : Tb) (W : WX) (f : DO) : TO := fun σ H Q => ∃ C E F KR KE, Wd T C H E σ F ∧ f E KR KE ∧ (∀ C' H' E' F' o, Wd T C' H' E' σ F' → Fr C H (Own F) C' H' (Own F') → KR o E' → Q o H') ∧ XC T W C H F σ KE
abbrev SO (T : Tb) (X : Cx) (W : WX) (f : DO) (e : Option Expr) : Prop := PO X e (PreO T W f)
section
variable {X : Cx} {T : Tb} {W : WX} {f : DE} {fl fu : DO} {e : Expr} {lo hi : Option Expr} {pos p2 : Pos}
theorem so_none : SO T X W dPart0 none := ⟨fun pins s σ H Q I ⟨C, E, F, KR, KE, w, k, hq, _⟩ => po_none.run pins s σ H Q I (hq C H E F none w Fr.refl k)⟩
theorem so_some (h : SE T X W f e) : SO T X W (dPart f) (some e) := ⟨fun pins s σ H Q I ⟨C, E, F, KR, KE, w, k, hq, hx⟩ => (po_some h).run pins s σ H Q I ⟨C, E, F, _, KE, w, k, fun C1 H1 E1 F1 a v f1 x k1 => by
  obtain ⟨i, e, k2⟩ := intA_ok x k1
  exact ⟨i, e, hq C1 H1 E1 F1 _ x.wd (x.fr.weak (fun _ z => z) fun _ z => .inl z) k2⟩, hx⟩⟩
theorem rep_cut {C : Hp} {ds : List D} {vs : List V} (r : RepL T C ds vs) (l u : Option Int) : RepL T C (cutD ds l u) (cutV vs l u) := by
  unfold cutD cutV
  rw [r.length]
  exact (r.drop _).take _
theorem bi_cut {l u : Option Int} : BI T (fun vs H Q => match vs with
    | [x] => rCut T.K x l u H Q
    | _ => False) (gCut l u) := fun C0 H vs ds Q K s vl k hq => by
  unfold gCut at k
  split at k
  · obtain ⟨v, rfl, h1⟩ := vl.inv1
    rw [h1.str]
    exact .inl (.inl ⟨_, rfl, k.1, ans s (.str _) hq k.2⟩)
  · obtain ⟨v, rfl, h1⟩ := vl.inv1
    obtain ⟨p, vs, rfl, a1, b1⟩ := h1.seqL s
    exact .inl (.inr ⟨p, vs, rfl, a1, fun l hl => ansL s (rep_cut b1 _ _) hl hq k⟩)
  · obtain ⟨v, rfl, h1⟩ := vl.inv1
    have r0 := h1.flat rfl
    obtain ⟨p, vs, rfl, a1, b1⟩ := h1.seqT s
    refine .inr ⟨p, vs, rfl, a1, fun hw => ?_, fun _ l hl => ansT s (rep_cut b1 _ _) hl hq k⟩
    rename_i xs
    have e : cutD xs l u = xs := by
      unfold cutD
      rw [b1.length, hw.1, hw.2, List.drop_zero, Nat.sub_zero, ← b1.length, List.take_length]
    rw [e] at k
    exact ans s r0 hq k
  · exact k.elim
theorem esl (hK : X.K = T.K) (he : SE T X W f e) (hl : SO T X W fl lo) (hu : SO T X W fu hi) : SE T X W (dSl fl fu f) (.Subscript e (.Slice lo hi none p2) pos) :=
  (pe_slice ((sl_str.or sl_list).or sl_tupA) he hl hu).imp fun σ H Q h => by
    obtain ⟨C, E, F, KR, KE, w, k, hq, hx⟩ := h
    refine ⟨C, E, F, _, KE, w, k, fun C1 H1 E1 F1 a v f1 x k1 => ?_, hx⟩
    have hx1 := hx.step x.fr fun _ z => .inl z
    refine ⟨C1, E1, F1, _, KE, x.wd, k1, fun C2 H2 E2 F2 l w2 fr2 k2 => ?_, hx1⟩
    refine ⟨C2, E2, F2, _, KE, w2, k2, fun C3 H3 E3 F3 u w3 fr3 k3 => ?_, hx1.step fr2 fun _ z => z⟩
    have y := x.step w3 (fr2.trans fr3 fun _ z => z)
    have := fin_bi (bi_cut (l := l) (u := u)) (Rs.one y) k3 hq
    rw [hK]
    exact this
end
/-! f-strings -/
def gFmt : G := fun ds K => match ds with
  | [.str y] => y.length ≤ sizeLine ∧ K (.sh (.str y))
  | [.int i] => i.natAbs.log2 < 1920 ∧ K (.sh (.str (toString i)))
  | _ => False
def dJs : List DE → Str → Env → (Str → Env → Prop) → KX → Prop
  | [], acc, E, K, _ => K acc E
  | f :: fs, acc, E, K, KE => f E (fun a E1 => strA E1 a fun y => (acc ++ y).length ≤ sizeLine ∧ dJs fs (acc ++ y) E1 K KE) KE
def dJoin (fs : List DE) : DE := fun E KR KE => dJs fs Str.empty E (fun out E1 => KR (.val (.sh (.str out))) E1) KE
def SJ (T : Tb) (X : Cx) (W : WX) (fs : List DE) (es : List Expr) : Prop := ∃ ts, PJ X es ts ∧ ∀ (acc : Str) (C : Hp) (E : Env) (F : Ft) (K : Str → Env → Prop) (KE : KX) (σ : St) (H : Hp) (Q : Str → Hp → Prop), Wd T C H E σ F → dJs fs acc E K KE →
  (∀ C' H' E' F' out, Wd T C' H' E' σ F' → Fr C H (Own F) C' H' (Own F') → K out E' → Q out H') → XC T W C H F σ KE → tJs ts acc σ H Q
section
variable {X : Cx} {T : Tb} {W : WX} {f : DE} {fs : List DE} {e v1 v2 : Expr} {es rest : List Expr} {pos : Pos}
theorem bi_fmt : BI T (r1 fun x H Q => (∃ y : Str, x = .str y ∧ y.length ≤ sizeLine ∧ Q (.str y) H) ∨ ∃ i : Int, x = .int i ∧ i.natAbs.log2 < 1920 ∧ Q (.str (toString i)) H) gFmt := fun C0 H vs ds Q K s vl k hq => by
  unfold gFmt at k
  split at k
  · obtain ⟨v, rfl, h1⟩ := vl.inv1
    rw [h1.str]
    exact .inl ⟨_, rfl, k.1, ans s (.str _) hq k.2⟩
  · obtain ⟨v, rfl, h1⟩ := vl.inv1
    rw [h1.int]
    exact .inr ⟨_, rfl, k.1, ans s (.str _) hq k.2⟩
  · exact k.elim
theorem efmt (he : SE T X W f e) : SE T X W (dB gFmt (dCons f dNil)) (.FormattedValue e (-1) none pos) := (pe_fmt he).imp fun σ H Q h => pre_bi1 bi_fmt h
theorem sj_nil : SJ T X W [] [] := ⟨[], .nil, fun acc C E F K KE σ H Q w k hq _ => hq C H E F acc w Fr.refl k⟩
theorem sj_cons (he : SE T X W f e) (hr : SJ T X W fs es) : SJ T X W (f :: fs) (e :: es) := by
  obtain ⟨ts, pj, h⟩ := hr
  refine ⟨_, .cons he pj, fun acc C E F K KE σ H Q w k hq hx => ?_⟩
  refine ⟨C, E, F, _, KE, w, k, fun C1 H1 E1 F1 a v f1 x k1 => ?_, hx⟩
  obtain ⟨y, e, sz, k2⟩ := strA_ok x k1
  have fr : Fr C H (Own F) C1 H1 (Own F1) := x.fr.weak (fun _ z => z) fun _ z => .inl z
  exact ⟨y, e, sz, h (acc ++ y) C1 E1 F1 K KE σ H1 Q x.wd k2 (fun C2 H2 E2 F2 out w2 fr2 k3 => hq C2 H2 E2 F2 out w2 (fr.trans fr2 fun _ z => z) k3) (hx.step fr fun _ z => z)⟩
theorem ejoin (h : SJ T X W fs (v1 :: v2 :: rest)) : SE T X W (dJoin fs) (.JoinedStr (v1 :: v2 :: rest) pos) := by
  obtain ⟨ts, pj, h⟩ := h
  refine (pe_joined pj).imp fun σ H Q ⟨C, E, F, KR, KE, w, k, hq, hx⟩ => ?_
  refine h Str.empty C E F _ KE σ H _ w k (fun C' H' E' F' out w' fr k' => ?_) hx
  exact hq C' H' E' F' _ _ [] ⟨w', .val (.sh (.str out)), List.nodup_nil, fun p hp => by simp at hp, fr.weak (fun _ z => z) fun p z => z.elim id fun q => by simp at q⟩ k'
end
end Pv

set_option Elab.async false
set_option linter.all false
set_option maxRecDepth 100000
set_option maxHeartbeats 4000000
set_option autoImplicit false
/-! PwA: promises of the common defs. -/
namespace Pv
open PySem PySem.Spec PyProof.Rows L2

abbrev oI (n : Int) : O := .sh (.int n)
abbrev oB (b : Bool) : O := .sh (.bl b)
/-- a size -/
def Wb (n : Nat) (i : Int) : Prop := i.natAbs < 2 ^ n
/-- the hand that draws -/
def Hand (o : O) : Prop := ∃ (cells : List Int) (p r t : Int), o.flat = .lst [.sh (.lst (cells.map D.int)), oI p, oI r, oI t] ∧ (∀ c ∈ cells, 0 ≤ c) ∧ 0 ≤ p ∧ 0 ≤ r
def S__law_hand : Spec := fun os KR _ => ∃ ns : List Int, os = [.sh (.lst (ns.map D.int))] ∧ ns.length ≤ 63 ∧ ∀ l, Hand (.lst l) → KR (.lst l) os
def S__law_mixed : Spec := fun os KR _ => ∃ a b : Int, os = [oI a, oI b] ∧ ∀ n : Int, KR (oI n) os
def S__law_take : Spec := fun os KR _ => ∃ (l : List O) (m : Int), os = [.lst l, oI m] ∧ Hand (.lst l) ∧ 0 < m ∧ Wb 64 m ∧ ∀ (n : Int) l', 0 ≤ n → n < m → Hand (.lst l') → KR (oI n) [.lst l', oI m]
def S__law_gcd : Spec := fun os KR _ => ∃ a b : Int, os = [oI a, oI b] ∧ KR (oI (Int.gcd a b)) os
/-- a ratio in lowest terms -/
def low (a b : Int) : Int × Int := let g : Int := if b < 0 then -(Int.gcd a b : Int) else Int.gcd a b; (a.fdiv g, b.fdiv g)
abbrev dR (q : Int × Int) : D := .tup [.int q.1, .int q.2]
def S__law_ratio : Spec := fun os KR _ => ∃ a b : Int, os = [oI a, oI b] ∧ b ≠ 0 ∧ Wb 8100 a ∧ Wb 8100 b ∧ KR (.sh (dR (low a b))) os
/-- size and form of a drawn ratio -/
def Rt (n : Nat) (q : Int × Int) : Prop := Wb n q.1 ∧ Wb n q.2 ∧ 0 < q.2 ∧ Int.gcd q.1 q.2 = 1
abbrev qPlus (p q : Int × Int) : Int × Int := low (p.1 * q.2 + q.1 * p.2) (p.2 * q.2)
abbrev qLess (p q : Int × Int) : Int × Int := low (p.1 * q.2 - q.1 * p.2) (p.2 * q.2)
abbrev qTimes (p q : Int × Int) : Int × Int := low (p.1 * q.1) (p.2 * q.2)
def S2q (r : Int × Int → Int × Int → D) : Spec := fun os KR _ => ∃ p q : Int × Int, os = [.sh (dR p), .sh (dR q)] ∧ Rt 4000 p ∧ Rt 4000 q ∧ KR (.sh (r p q)) os
def S__law_plus : Spec := S2q fun p q => dR (qPlus p q)
def S__law_times : Spec := S2q fun p q => dR (qTimes p q)
def S__law_less : Spec := S2q fun p q => dR (qLess p q)
def S__law_below : Spec := S2q fun p q => .bl (decide (p.1 * q.2 < q.1 * p.2))
def sameD (d : D) (q : Int × Int) : Bool := match d with
  | .tup [.int a, .int b] => decide (a = q.1) && decide (b = q.2)
  | _ => false
def S__law_same : Spec := fun os KR _ => ∃ (d : D) (q : Int × Int), os = [.sh d, .sh (dR q)] ∧ d.plain = true ∧ KR (oB (sameD d q)) os
def S__law_number : Spec := fun os KR _ => ∃ l, os = [.lst l] ∧ Hand (.lst l) ∧ ∀ (n : Int) l', Wb 110 n → Hand (.lst l') → KR (oI n) [.lst l']
def S__law_any_ratio : Spec := fun os KR _ => ∃ l, os = [.lst l] ∧ Hand (.lst l) ∧ ∀ (q : Int × Int) l', Rt 110 q → Hand (.lst l') → KR (.sh (dR q)) [.lst l']
def odds : List D := [.non, .bl true, .bl false, .str "1", .tup [], .lst [.int 1, .int 2], .tup [.int 2, .int 4], .tup [.int 1, .int 0], .tup [.int 1, .int (-1)], .tup [.bl true, .int 1], .tup [.int 1, .bl true], .tup [.int 1, .int 2, .int 3], .lst [.int 3, .int 1]]
def S__law_odd : Spec := fun os KR _ => ∃ l, os = [.lst l] ∧ Hand (.lst l) ∧ ∀ (d : D) l', d ∈ odds → Hand (.lst l') → KR (.sh d) [.lst l']
def S__law_truth : Spec := fun os KR _ => ∃ c b : Bool, os = [oB c, oB b] ∧ KR (oB (c == b)) os
/-! ### the package's numbers and ratios -/
def bndD : D → Bool
  | .non => true
  | .int _ => true
  | _ => false
def wholeD (d lo hi : D) : Bool := match d with
  | .int i => (match lo with | .int a => decide (a ≤ i) | _ => true) && (match hi with | .int b => decide (i ≤ b) | _ => true)
  | _ => false
def noIns : D → Bool
  | .ins .. => false
  | _ => true
def S_is_whole : Spec := fun os KR _ => ∃ d lo hi : D, os = [.sh d, .sh lo, .sh hi] ∧ noIns d = true ∧ bndD lo = true ∧ bndD hi = true ∧ KR (oB (wholeD d lo hi)) os
def ratioD (d : D) : Bool := match d with
  | .tup [.int a, .int b] => decide (1 ≤ b) && decide (Int.gcd a b = 1)
  | _ => false
def S_is_ratio : Spec := fun os KR _ => ∃ o : O, os = [o] ∧ o.view.plain = true ∧ KR (oB (ratioD o.view)) [o.flat]
def S_lowered : Spec := S__law_ratio
def S_plus : Spec := S__law_plus
def S_minus : Spec := S__law_less
def S_times : Spec := S__law_times
def S_over (c : Nat) : Spec := fun os KR KE => ∃ p q : Int × Int, os = [.sh (dR p), .sh (dR q)] ∧ Rt 4000 p ∧ Rt 4000 q ∧ (q.1 = 0 → KE ⟨c, [(0, .str "zero")]⟩ os) ∧ (q.1 ≠ 0 → KR (.sh (dR (low (p.1 * q.2) (p.2 * q.1)))) os)
def S_negative : Spec := fun os KR _ => ∃ p : Int × Int, os = [.sh (dR p)] ∧ KR (.sh (dR (-p.1, p.2))) os
def cmpI (a b : Int) : Int := if a < b then -1 else if b < a then 1 else 0
def S_compare : Spec := S2q fun p q => .int (cmpI (p.1 * q.2) (q.1 * p.2))
/-- a whole number is not too large -/
def okM : D → Prop
  | .int i => Wb 8100 i
  | _ => True
def madeD (a b : D) : D := match a, b with
  | .int i, .int j => if j = 0 then .tup [.str "bottom"] else dR (low i j)
  | .int _, _ => .tup [.str "bottom"]
  | _, _ => .tup [.str "top"]
def S_make_ratio (c : Nat) : Spec := fun os KR KE => ∃ a b : D, os = [.sh a, .sh b] ∧ noIns a = true ∧ noIns b = true ∧ okM a ∧ okM b ∧ (match madeD a b with
  | .tup [.str w] => KE ⟨c, [(0, .str w)]⟩ os
  | d => KR (.sh d) os)
end Pv

set_option Elab.async false
set_option linter.all false
set_option maxRecDepth 100000
set_option maxHeartbeats 1000000
set_option autoImplicit false
/-! PwB: helpers for the promises' proofs. -/
namespace Pv
open PySem PySem.Spec PyProof.Rows L2
section
variable {α : Type}
theorem at_lt {xs : List α} {n : Nat} (h : n < xs.length) : atI xs (n : Int) = xs[n]? := by
  unfold atI ixN
  rw [if_pos (by omega), if_pos (by omega)]
  simp
theorem at_0 {a : α} {xs : List α} : atI (a :: xs) 0 = some a := by
  have := at_lt (xs := a :: xs) (n := 0) (by simp)
  simpa using this
theorem at_1 {a b : α} {xs : List α} : atI (a :: b :: xs) 1 = some b := by
  have := at_lt (xs := a :: b :: xs) (n := 1) (by simp)
  simpa using this
theorem at_2 {a b c : α} {xs : List α} : atI (a :: b :: c :: xs) 2 = some c := by
  have := at_lt (xs := a :: b :: c :: xs) (n := 2) (by simp)
  simpa using this
theorem at_3 {a b c d : α} {xs : List α} : atI (a :: b :: c :: d :: xs) 3 = some d := by
  have := at_lt (xs := a :: b :: c :: d :: xs) (n := 3) (by simp)
  simpa using this
theorem ixN_lt {n i : Nat} (h : i < n) : ixN n (i : Int) = some i := by
  unfold ixN
  rw [if_pos (by omega), if_pos (by omega)]
  simp
theorem at_int {xs : List α} {i : Int} (h0 : 0 ≤ i) (h : i < xs.length) : atI xs i = xs[i.toNat]? := by
  obtain ⟨n, rfl⟩ := Int.eq_ofNat_of_zero_le h0
  rw [at_lt (by simpa using h)]
  simp
end
theorem gcd_step {x y : Int} (hx : 0 ≤ x) (hy : 0 < y) : Int.gcd y (x.fmod y) = Int.gcd x y := by
  obtain ⟨m, rfl⟩ := Int.eq_ofNat_of_zero_le hx
  obtain ⟨n, rfl⟩ := Int.eq_ofNat_of_zero_le (Int.le_of_lt hy)
  rw [Int.fmod_eq_emod_of_nonneg _ (Int.natCast_nonneg n), ← Int.natCast_emod, Int.gcd_natCast_natCast, Int.gcd_natCast_natCast, Nat.gcd_comm n, ← Nat.gcd_rec, Nat.gcd_comm]
/-! sizes -/
theorem Wb.mono {a b : Nat} {i : Int} (h : Wb a i) (l : a ≤ b) : Wb b i := Nat.lt_of_lt_of_le h (Nat.pow_le_pow_right (by decide) l)
theorem Wb.mul {a b : Nat} {i j : Int} (h : Wb a i) (k : Wb b j) : Wb (a + b) (i * j) := wide_lt h k
theorem Wb.add {a : Nat} {i j : Int} (h : Wb a i) (k : Wb a j) : Wb (a + 1) (i + j) := by
  unfold Wb at *
  have := Int.natAbs_add_le i j
  have e : 2 ^ (a + 1) = 2 ^ a * 2 := Nat.pow_succ ..
  omega
theorem Wb.neg {a : Nat} {i : Int} (h : Wb a i) : Wb a (-i) := by
  unfold Wb at *
  rw [Int.natAbs_neg]; exact h
theorem Wb.sub {a : Nat} {i j : Int} (h : Wb a i) (k : Wb a j) : Wb (a + 1) (i - j) := by
  rw [Int.sub_eq_add_neg]; exact h.add k.neg
theorem mulOk {a b : Nat} {i j : Int} (h : Wb a i) (k : Wb b j) (ha : 0 < a := by decide) (hb : 0 < b := by decide) (l : a + b ≤ 1000000 := by decide) : IntMulOk i j := (wide_mul h k ha hb l).ok
theorem mulOk_r {i j : Int} (h0 : -(2 ^ 64) < j) (h1 : j < 2 ^ 64) : IntMulOk i j := CMul.ok (.inr ⟨h0, h1⟩)
theorem mulOk_l {i j : Int} (h0 : -(2 ^ 64) < i) (h1 : i < 2 ^ 64) : IntMulOk i j := CMul.ok (.inl ⟨h0, h1⟩)
theorem divOk {b : Nat} {j : Int} (h : j ≠ 0) (hb : Wb b j) (h0 : 0 < b := by decide) (h9 : b ≤ 9000 := by decide) : j ≠ 0 ∧ j.natAbs.log2 < 9000 := ⟨h, Nat.lt_of_lt_of_le (PySem.Flt.log2_lt_of h0 hb) h9⟩
theorem fmod_lt {i j : Int} (h : 0 < j) : 0 ≤ i.fmod j ∧ i.fmod j < j := ⟨Int.fmod_nonneg_of_pos i h, Int.fmod_lt_of_pos i h⟩
/-! lowest terms -/
theorem gcd_pos {a b : Int} (h : b ≠ 0) : 0 < Int.gcd a b := Int.gcd_pos_of_ne_zero_right a h
theorem gcd_wb {a b : Int} {n : Nat} (h : b ≠ 0) (hb : Wb n b) : Wb n (Int.gcd a b : Int) := by
  unfold Wb at *
  rw [Int.natAbs_natCast]
  have : Int.gcd a b ≤ b.natAbs := Nat.le_of_dvd (by omega) (Int.gcd_dvd_natAbs_right a b)
  omega
theorem div_wb {a g : Int} {n : Nat} (h : Wb n a) : Wb n (a / g) := Nat.lt_of_le_of_lt (Int.natAbs_ediv_le_natAbs a g) h
theorem low_eq {a b : Int} (h : b ≠ 0) : low a b = if b < 0 then (-(a / (Int.gcd a b : Int)), -(b / (Int.gcd a b : Int))) else (a / (Int.gcd a b : Int), b / (Int.gcd a b : Int)) := by
  have hg := gcd_pos (a := a) h
  have da : (Int.gcd a b : Int) ∣ a := Int.gcd_dvd_left ..
  have db : (Int.gcd a b : Int) ∣ b := Int.gcd_dvd_right ..
  unfold low
  by_cases hb : b < 0
  · simp only [if_pos hb]
    rw [Int.fdiv_eq_ediv_of_dvd (Int.neg_dvd.mpr da), Int.fdiv_eq_ediv_of_dvd (Int.neg_dvd.mpr db), Int.ediv_neg, Int.ediv_neg]
  · simp only [if_neg hb]
    rw [Int.fdiv_eq_ediv_of_dvd da, Int.fdiv_eq_ediv_of_dvd db]
theorem low_rt {a b : Int} {n : Nat} (h : b ≠ 0) (ha : Wb n a) (hb : Wb n b) : Rt n (low a b) := by
  have hg := gcd_pos (a := a) h
  have g1 : Int.gcd (a / (Int.gcd a b : Int)) (b / (Int.gcd a b : Int)) = 1 := Int.gcd_ediv_gcd_ediv_gcd hg
  have db : (Int.gcd a b : Int) ∣ b := Int.gcd_dvd_right ..
  have e : b / (Int.gcd a b : Int) * (Int.gcd a b : Int) = b := Int.ediv_mul_cancel db
  have gp : (0 : Int) < (Int.gcd a b : Int) := by omega
  rw [low_eq h]
  by_cases hneg : b < 0
  · rw [if_pos hneg]
    refine ⟨?_, ?_, ?_, ?_⟩
    · exact (div_wb ha).neg
    · exact (div_wb hb).neg
    · show 0 < -(b / (Int.gcd a b : Int))
      have : b / (Int.gcd a b : Int) < 0 := by
        rcases Int.lt_trichotomy (b / (Int.gcd a b : Int)) 0 with z | z | z
        · exact z
        · rw [z] at e; omega
        · have := Int.mul_pos z gp; omega
      omega
    · show Int.gcd (-(a / (Int.gcd a b : Int))) (-(b / (Int.gcd a b : Int))) = 1
      rw [Int.neg_gcd, Int.gcd_neg]; exact g1
  · rw [if_neg hneg]
    refine ⟨div_wb ha, div_wb hb, ?_, g1⟩
    show 0 < b / (Int.gcd a b : Int)
    rcases Int.lt_trichotomy (b / (Int.gcd a b : Int)) 0 with z | z | z
    · have := Int.mul_neg_of_neg_of_pos z gp; omega
    · rw [z] at e; omega
    · exact z
theorem Rt.mono {m n : Nat} {q : Int × Int} (h : Rt m q) (l : m ≤ n) : Rt n q := ⟨Wb.mono h.1 l, Wb.mono h.2.1 l, h.2.2⟩
theorem low_self {q : Int × Int} {n : Nat} (h : Rt n q) : low q.1 q.2 = q := by
  obtain ⟨_, _, h3, h4⟩ := h
  rw [low_eq (by omega), if_neg (by omega), h4]
  simp
end Pv

set_option Elab.async false
set_option linter.all false
set_option maxRecDepth 100000
set_option maxHeartbeats 1000000
set_option autoImplicit false
/-! PwC: the readings by steps, each for an environment that is written out. -/
namespace Pv
open PySem PySem.Spec PyProof.Rows
section
variable {x : Option O} {E : List (Option O)} {K : DEnds} {KR : KA} {KE : KX} {KB : Bool → Env → Prop} {KA2 : List A → Env → Prop} {f g : DE} {fs : DA} {a b c : DS} {t u : DT} {i j : Nat} {G1 : G} {S : Spec} {dds : List D}
theorem x_c {d : D} : dC d (x :: E) KR KE = KR (.val (.sh d)) (x :: E) := rfl
theorem x_var : dVar i (x :: E) KR KE = (match (x :: E)[i]? with
  | some (some _) => KR (.slot i) (x :: E)
  | _ => False) := rfl
theorem x_nil : dNil (x :: E) KA2 KE = KA2 [] (x :: E) := rfl
theorem x_cons : dCons f fs (x :: E) KA2 KE = f (x :: E) (fun a E1 => fs E1 (fun as E2 => KA2 (a :: as) E2) KE) KE := rfl
theorem x_b : dB G1 fs (x :: E) KR KE = fs (x :: E) (fun as E1 => dViews E1 as fun ds E2 => G1 ds fun o => KR (.val o) E2) KE := rfl
theorem x_vnil {Kd : List D → Env → Prop} : dViews (x :: E) [] Kd = Kd [] (x :: E) := by rw [dViews]
theorem x_vval {Kd : List D → Env → Prop} {o : O} {r : List A} : dViews (x :: E) (.val o :: r) Kd = dViews (x :: E) r fun ds E' => Kd (o.view :: ds) E' := by rw [dViews]
theorem x_vslot {Kd : List D → Env → Prop} {r : List A} : dViews (x :: E) (.slot i :: r) Kd = (match (x :: E)[i]? with
  | some (some o) => dViews ((x :: E).set i (some o.flat)) r fun ds E' => Kd (o.view :: ds) E'
  | _ => False) := by rw [dViews] <;> rfl
theorem x_kval {Ko : O → Env → Prop} {o : O} : capO (x :: E) (.val o) Ko = Ko o (x :: E) := rfl
theorem x_kslot {Ko : O → Env → Prop} : capO (x :: E) (.slot i) Ko = (match (x :: E)[i]? with
  | some (some (.sh d)) => Ko (.sh d) (x :: E)
  | some (some o) => Ko (.sh o.view) ((x :: E).set i (some (.sh o.view)))
  | _ => False) := rfl
theorem x_knil {Ko : List O → Env → Prop} : capOs (x :: E) [] Ko = Ko [] (x :: E) := by rw [capOs]
theorem x_kcons {Ko : List O → Env → Prop} {y : A} {r : List A} : capOs (x :: E) (y :: r) Ko = capO (x :: E) y fun o E1 => capOs E1 r fun os E2 => Ko (o :: os) E2 := by rw [capOs]
theorem x_lst : dLst fs (x :: E) KR KE = fs (x :: E) (fun as E1 => capOs E1 as fun os E2 => os.length ≤ sizeLine ∧ KR (.val (.lst os)) E2) KE := rfl
theorem x_tup : dTup fs (x :: E) KR KE = fs (x :: E) (fun as E1 => capOs E1 as fun os E2 => os.length ≤ sizeLine ∧ KR (.val (.sh (.tup (os.map O.view)))) E2) KE := rfl
theorem x_call : dCall S dds fs (x :: E) KR KE = fs (x :: E) (fun as E1 => dTake E1 as fun os E2 => S (os ++ dds.map .sh) (fun o os' => KR (.val o) (dPut E2 as os')) (fun e os' => KE e (dPut E2 as os'))) KE := rfl
theorem x_tnil {Ko : List O → Env → Prop} : dTake (x :: E) [] Ko = Ko [] (x :: E) := by rw [dTake]
theorem x_tval {Ko : List O → Env → Prop} {o : O} {r : List A} : dTake (x :: E) (.val o :: r) Ko = dTake (x :: E) r fun os E' => Ko (o :: os) E' := by rw [dTake]
theorem x_tslot {Ko : List O → Env → Prop} {r : List A} : dTake (x :: E) (.slot i :: r) Ko = (match (x :: E)[i]? with
  | some (some (.sh d)) => dTake (x :: E) r fun os E' => Ko (.sh d :: os) E'
  | some (some o) => dTake ((x :: E).set i none) r fun os E' => Ko (o :: os) E'
  | _ => False) := by rw [dTake] <;> rfl
theorem x_pval {o o' : O} {r : List A} {os : List O} : dPut (x :: E) (.val o :: r) (o' :: os) = dPut (x :: E) r os := by rw [dPut]
theorem x_pslot {o' : O} {r : List A} {os : List O} : dPut (x :: E) (.slot i :: r) (o' :: os) = (match (x :: E)[i]? with
  | some none => dPut ((x :: E).set i (some o')) r os
  | _ => dPut (x :: E) r os) := by rw [dPut] <;> rfl
theorem x_pnil {os : List O} : dPut (x :: E) [] os = x :: E := by rw [dPut] <;> simp
theorem x_callK {S : Spec} {gD : D → D → List D} : dCallK11 S gD f g (x :: E) KR KE = f (x :: E) (fun a E1 => g E1 (fun b E2 => capOs E2 [a, b] fun os E3 => match os with
  | [o1, o2] => S ((gD o1.view o2.view).map .sh) (fun o _ => KR (.val o) E3) (fun _ _ => False)
  | _ => False) KE) KE := rfl
theorem x_tru : dTru f (x :: E) KB KE = f (x :: E) (fun a E1 => dViews E1 [a] fun ds E2 => match ds with
  | [d] => truD d fun b => KB b E2
  | _ => False) KE := rfl
theorem x_tb : dTb f (x :: E) KB KE = f (x :: E) (fun a E1 => match a with
  | .val (.sh (.bl b)) => KB b E1
  | _ => False) KE := rfl
theorem x_nott : dNotT t (x :: E) KB KE = t (x :: E) (fun b E1 => KB (!b) E1) KE := rfl
theorem x_andt : dAndT t u (x :: E) KB KE = t (x :: E) (fun b E1 => if b = true then u E1 KB KE else KB false E1) KE := rfl
theorem x_ort : dOrT t u (x :: E) KB KE = t (x :: E) (fun b E1 => if b = true then KB true E1 else u E1 KB KE) KE := rfl
theorem x_ifx : dIf t f g (x :: E) KR KE = t (x :: E) (fun b E1 => if b = true then f E1 KR KE else g E1 KR KE) KE := rfl
theorem x_andv : dAndV f g (x :: E) KR KE = f (x :: E) (fun a E1 => dViews E1 [a] fun ds E2 => match ds with
  | [d] => truD d fun b => if b = true then g E2 KR KE else flatD d = true ∧ KR (.val (.sh d)) E2
  | _ => False) KE := rfl
theorem x_orv : dOrV f g (x :: E) KR KE = f (x :: E) (fun a E1 => dViews E1 [a] fun ds E2 => match ds with
  | [d] => truD d fun b => if b = true then flatD d = true ∧ KR (.val (.sh d)) E2 else g E2 KR KE
  | _ => False) KE := rfl
theorem x_notv : dNotV f (x :: E) KR KE = f (x :: E) (fun a E1 => dViews E1 [a] fun ds E2 => match ds with
  | [d] => truD d fun b => KR (.val (.sh (.bl (!b)))) E2
  | _ => False) KE := rfl
theorem x_isi {kn : List Nat} {ks : List Kd} : dIsi kn ks f (x :: E) KR KE = f (x :: E) (fun a E1 => dViews E1 [a] fun ds E2 => match ds with
  | [d] => knownD kn d = true ∧ KR (.val (.sh (.bl (ks.any fun k => isK k d)))) E2
  | _ => False) KE := rfl
theorem x_xf {cs : List Nat} {k : Nat} {e : Er} : dXf cs k e (x :: E) KR KE = (cs.contains e.c = true ∧ match e.fs.lookup k with
  | some d => KR (.val (.sh d)) (x :: E)
  | none => False) := rfl
theorem x_xis {m : Nat → Option Bool} {e : Er} : dXis m e (x :: E) KR KE = (match m e.c with
  | some b => KR (.val (.sh (.bl b))) (x :: E)
  | none => False) := rfl
theorem x_app : dAppend i f (x :: E) KR KE = (match (x :: E)[i]? with
  | some (some (.lst _)) => f (x :: E) (fun a E1 => capO E1 a fun o E2 => match E2[i]? with
    | some (some (.lst os)) => os.length < sizeLine ∧ KR (.val (.sh .non)) (E2.set i (some (.lst (os ++ [o]))))
    | _ => False) KE
  | _ => False) := rfl
theorem x_chain {G2 : G} {h : DE} : dChain G1 G2 f g h (x :: E) KR KE = f (x :: E) (fun a E1 => g E1 (fun b E2 => dViews E2 [a, b] fun ds E3 => G1 ds fun o => match o with
  | .sh (.bl true) => h E3 (fun c E4 => dViews E4 [.val (.sh (ds.getD 1 .non)), c] fun ds2 E5 => flatD (ds.getD 1 .non) = true ∧ G2 ds2 fun o => KR (.val o) E5) KE
  | .sh (.bl false) => KR (.val (.sh (.bl false))) E3
  | _ => False) KE) KE := rfl
theorem x_fld {cs : List Nat} {k : Nat} : dFld cs k f (x :: E) KR KE = f (x :: E) (fun a E1 => dViews E1 [a] fun ds E2 => match ds with
  | [.ins c fs] => cs.contains c = true ∧ (match fs.lookup k with
    | some d => KR (.val (.sh d)) E2
    | none => False)
  | _ => False) KE := by
  unfold dFld
  rfl
theorem x_trN {k : Bool → Prop} : truD .non k = k false := rfl
theorem x_trB {k : Bool → Prop} {b : Bool} : truD (.bl b) k = k b := rfl
theorem x_trI {k : Bool → Prop} {i : Int} : truD (.int i) k = k (i != 0) := rfl
theorem x_trS {k : Bool → Prop} {s : Str} : truD (.str s) k = (s.length ≤ sizeLine ∧ k ((s.length : Int) != 0)) := rfl
theorem x_trT {k : Bool → Prop} {l : List D} : truD (.tup l) k = k (!l.isEmpty) := rfl
theorem x_trL {k : Bool → Prop} {l : List D} : truD (.lst l) k = k (!l.isEmpty) := rfl
/-! statements -/
theorem x_next : sNext (x :: E) K = K.nx (x :: E) := rfl
theorem x_seq : sSeq a b (x :: E) K = a (x :: E) { K with nx := fun E1 => b E1 K } := rfl
theorem x_break : sBreak (x :: E) K = K.bk (x :: E) := rfl
theorem x_cont : sCont (x :: E) K = K.ct (x :: E) := rfl
theorem x_expr : sExpr f (x :: E) K = f (x :: E) (fun _ E1 => K.nx E1) K.ex := rfl
theorem x_ret {ks : List Nat} : sRet ks f (x :: E) K = f (x :: E) (fun a E1 => retO ks E1 a fun o E2 => K.rt o E2) K.ex := rfl
theorem x_rval {ks : List Nat} {o : O} {Ko : O → Env → Prop} : retO ks (x :: E) (.val o) Ko = Ko o (x :: E) := rfl
theorem x_rslot {ks : List Nat} {Ko : O → Env → Prop} : retO ks (x :: E) (.slot i) Ko = (if ks.contains i then capO (x :: E) (.slot i) Ko else match (x :: E)[i]? with
  | some (some (.sh d)) => Ko (.sh d) (x :: E)
  | some (some o) => Ko o ((x :: E).set i none)
  | _ => False) := rfl
theorem x_retn : sRetN (x :: E) K = K.rt (.sh .non) (x :: E) := rfl
theorem x_if : sIf t a b (x :: E) K = t (x :: E) (fun c E1 => if c = true then a E1 K else b E1 K) K.ex := rfl
theorem x_asg : sAsg i f (x :: E) K = f (x :: E) (fun a E1 => capO E1 a fun o E2 => K.nx (E2.set i (some o))) K.ex := rfl
theorem x_setix : sSetIx i f g (x :: E) K = g (x :: E) (fun a E1 => capO E1 a fun o E2 => match E2[i]? with
  | some (some _) => f E2 (fun b E3 => dViews E3 [b] fun ds E4 => match ds, E4[i]? with
    | [.int k], some (some (.lst os)) => (match L2.ixN os.length k with
      | some j => K.nx (E4.set i (some (.lst (os.set j o))))
      | none => False)
    | _, _ => False) K.ex
  | _ => False) K.ex := by
  unfold sSetIx
  rfl
theorem x_par : sPar i j fs (x :: E) K = fs (x :: E) (fun as E1 => capOs E1 as fun os E2 => match os with
  | [o1, o2] => K.nx ((E2.set i (some o1)).set j (some o2))
  | _ => False) K.ex := rfl
theorem x_asgg {gg : DG} : sAsgG gg f (x :: E) K = f (x :: E) (fun a E1 => capO E1 a fun o E2 => gg o.view E2 K.nx) K.ex := rfl
theorem x_gnm {d : D} {Ke : Env → Prop} : gNm i d (x :: E) Ke = Ke ((x :: E).set i (some (.sh d))) := rfl
theorem x_gunp {n : Nat} {h : DGs} {ds : List D} {Ke : Env → Prop} : gUnp n h (.tup ds) (x :: E) Ke = (ds.length = n ∧ h ds (x :: E) Ke) := rfl
theorem x_gunl {n : Nat} {h : DGs} {ds : List D} {Ke : Env → Prop} : gUnp n h (.lst ds) (x :: E) Ke = (ds.length = n ∧ h ds (x :: E) Ke) := rfl
theorem x_gone {gg : DG} {h : DGs} {d : D} {r : List D} {Ke : Env → Prop} : gOne gg h (d :: r) (x :: E) Ke = gg d (x :: E) fun E1 => h r E1 Ke := rfl
theorem x_gno {Ke : Env → Prop} : gNo [] (x :: E) Ke = Ke (x :: E) := rfl
theorem x_raise {n : Nat} {ks : List Nat} : sRaise n ks fs (x :: E) K = fs (x :: E) (fun as E1 => capOs E1 as fun os E2 => os.length = ks.length ∧ K.ex ⟨n, ks.zip (os.map O.view)⟩ E2) K.ex := rfl
theorem x_try {m : Nat → Option Bool} {h : Er → DS} : sTryAs i m a h (x :: E) K = a (x :: E) { K with ex := fun e E1 => match m e.c with
  | some true => i < E1.length ∧ h e (E1.set i none) { nx := fun E2 => K.nx (E2.set i none), rt := K.rt, bk := fun E2 => K.bk (E2.set i none), ct := fun E2 => K.ct (E2.set i none), ex := fun _ _ => False }
  | some false => K.ex e E1
  | none => False } := rfl
theorem x_for {is : List Nat} {fi : DI} {gg : DG} : sFor is fi gg a (x :: E) K = fi (x :: E) (fun ds ps E1 => (ps.all fun q => is.contains q.1) = true ∧ forD ps gg a ds E1 K) K.ex := rfl
theorem x_iseq {Ki : List D → List (Nat × O) → Env → Prop} : iSeq f (x :: E) Ki KE = f (x :: E) (fun a E1 => dSrc E1 [a] fun ds ps E2 => match ds with
  | [d] => match itemsD d with
    | some xs => Ki xs ps E2
    | none => False
  | _ => False) KE := rfl
theorem x_irg1 {Ki : List D → List (Nat × O) → Env → Prop} : iRg1 f (x :: E) Ki KE = f (x :: E) (fun a E1 => dViews E1 [a] fun ds E2 => match ds with
  | [.int j] => (-(2 ^ 62) ≤ j ∧ j < 2 ^ 62) ∧ Ki (rgD 0 j.toNat) [] E2
  | _ => False) KE := rfl
theorem x_snil {Ks : List D → List (Nat × O) → Env → Prop} : dSrc (x :: E) [] Ks = Ks [] [] (x :: E) := by rw [dSrc]
theorem x_sval {Ks : List D → List (Nat × O) → Env → Prop} {o : O} {r : List A} : dSrc (x :: E) (.val o :: r) Ks = dSrc (x :: E) r fun ds ps E' => Ks (o.view :: ds) ps E' := by rw [dSrc]
theorem x_sslot {Ks : List D → List (Nat × O) → Env → Prop} {r : List A} : dSrc (x :: E) (.slot i :: r) Ks = (match (x :: E)[i]? with
  | some (some (.sh d)) => dSrc (x :: E) r fun ds ps E' => Ks (d :: ds) ps E'
  | some (some o) => dSrc ((x :: E).set i (some o.flat)) r fun ds ps E' => Ks (o.view :: ds) ((i, o.flat) :: ps) E'
  | _ => False) := by rw [dSrc] <;> rfl
theorem x_onil {R : List Nat} {k : Nat} {Ko : List O → Prop} : outK R (x :: E) k [] Ko = Ko [] := by rw [outK]
theorem x_ocons {R : List Nat} {k : Nat} {o : O} {os : List O} {Ko : List O → Prop} : outK R (x :: E) k (o :: os) Ko = (if R.contains k then outK R (x :: E) (k + 1) os fun r => Ko (o :: r) else match (x :: E)[k]? with
  | some (some o') => outK R (x :: E) (k + 1) os fun r => Ko (o' :: r)
  | _ => False) := by rw [outK] <;> rfl
/-- a body at its arguments -/
theorem x_body {n np : Nat} {R : List Nat} {o : O} {os : List O} {KR : O → List O → Prop} {KE : Er → List O → Prop} (hl : (o :: os).length = np) (hR : ∀ k ∈ R, ∀ u, (o :: os)[k]? = some u → shO u = true) (h : a ((o :: os).map some ++ List.replicate (n - np) none)
    { nx := fun E => outK R E 0 (o :: os) (KR (.sh .non)), rt := fun v E => outK R E 0 (o :: os) (KR v), bk := fun _ => False, ct := fun _ => False, ex := fun e E => outK R E 0 (o :: os) (KE e) }) : bodyS n R np a (o :: os) KR KE := ⟨hl, hR, h⟩
end
theorem view_lst {os : List O} : (O.lst os).view = .lst (os.map O.view) := by rw [O.view, viewL_map]
theorem view_sh' {d : D} : (O.sh d).view = d := by rw [O.view]
theorem flat_sh {d : D} : (O.sh d).flat = .sh d := by rw [O.flat]
theorem flat_lst {os : List O} : (O.lst os).flat = .lst (os.map fun o => .sh o.view) := by rw [O.flat]
end Pv

set_option Elab.async false
set_option linter.all false
set_option maxRecDepth 100000
set_option maxHeartbeats 1000000
set_option autoImplicit false
/-! PwD: ==. -/
namespace Pv
open PySem PySem.Spec PyProof.Rows
theorem ok_int {i : Int} : (D.int i).okEq = true := by rfl
theorem ok_bl {i : Bool} : (D.bl i).okEq = true := by rfl
theorem ok_str {i : Str} : (D.str i).okEq = PyData.strOk i := by
  simp [D.okEq, D.plain, D.py, SeqAt.shaped, PyData.canLay0, PyData.depth]
theorem ok_t1 {i : Str} : (D.tup [.str i]).okEq = PyData.strOk i := by
  simp [D.okEq, D.plain, D.plainL, D.py, D.pyL, SeqAt.shaped, PyData.canLay0, PyData.canLayAll0, PyData.depth, PyData.depthAll]
theorem ok_non : D.non.okEq = true := by rfl
theorem ok_tup0 : (D.tup []).okEq = true := by rfl
theorem ok_tI {x y : Int} : (D.tup [.int x, .int y]).okEq = true := by rfl
theorem eq_int {i j : Int} : PyData.eqv (D.int i).py (D.int j).py = decide (i = j) := by
  simp [D.py, PyData.eqv, Bool.beq_eq_decide_eq]
theorem eq_str {i j : Str} : PyData.eqv (D.str i).py (D.str j).py = decide (i = j) := by
  simp [D.py, PyData.eqv, Bool.beq_eq_decide_eq]
theorem eq_t1 {i j : Str} : PyData.eqv (D.tup [.str i]).py (D.tup [.str j]).py = decide (i = j) := by
  simp [D.py, D.pyL, PyData.eqv, PyData.eqvAll, Bool.beq_eq_decide_eq]
theorem eq_tI1 {a b : Int} {j : Str} : PyData.eqv (D.tup [.int a, .int b]).py (D.tup [.str j]).py = false := by
  simp [D.py, D.pyL, PyData.eqv, PyData.eqvAll, Bool.beq_eq_decide_eq]
theorem ix40 : L2.ixN 4 0 = some 0 := by decide
theorem ix41 : L2.ixN 4 1 = some 1 := by decide
theorem ix42 : L2.ixN 4 2 = some 2 := by decide
theorem ix43 : L2.ixN 4 3 = some 3 := by decide
theorem at_ints {cells : List Int} {p : Int} (h0 : 0 ≤ p) (h : p < cells.length) : ∃ c ∈ cells, L2.atI (cells.map D.int) p = some (.int c) := by
  refine ⟨cells[p.toNat]'(by omega), List.getElem_mem _, ?_⟩
  rw [at_int h0 (by simpa using h), List.getElem?_map, List.getElem?_eq_getElem (by omega)]
  rfl
/-! things without names in them -/
def Ev (f : DE) (o : O) : Prop := ∀ (E : Env) (KR : KA) (KE : KX), KR (.val o) E → f E KR KE
def EvL (fs : DA) (os : List O) : Prop := ∀ (E : Env) (K : List A → Env → Prop) (KE : KX), K (os.map A.val) E → fs E K KE
theorem ev_c {d : D} : Ev (dC d) (.sh d) := fun E KR KE k => k
theorem evl_nil : EvL dNil [] := fun E K KE k => k
theorem evl_cons {f : DE} {o : O} {fs : DA} {os : List O} (h : Ev f o) (r : EvL fs os) : EvL (dCons f fs) (o :: os) := fun E K KE k => h E _ KE (r E _ KE k)
theorem capOs_vals {E : Env} {K : List O → Env → Prop} : ∀ os : List O, K os E → capOs E (os.map A.val) K
  | [], k => by rw [List.map_nil, capOs]; exact k
  | o :: os, k => by rw [List.map_cons, capOs, capO]; exact capOs_vals (K := fun os E2 => K (o :: os) E2) os k
theorem ev_tup {fs : DA} {os : List O} (h : EvL fs os) (hl : os.length ≤ sizeLine) : Ev (dTup fs) (.sh (.tup (os.map O.view))) := fun E KR KE k => h E _ KE (capOs_vals os ⟨hl, k⟩)
theorem ev_lst {fs : DA} {os : List O} (h : EvL fs os) (hl : os.length ≤ sizeLine) : Ev (dLst fs) (.lst os) := fun E KR KE k => h E _ KE (capOs_vals os ⟨hl, k⟩)
theorem ev_neg {f : DE} {i : Int} (h : Ev f (oI i)) : Ev (dB gNeg (dCons f dNil)) (oI (-i)) := fun E KR KE k => by
  unfold dB dCons dNil
  exact h E _ KE (by simpa [dViews, gNeg, O.view] using k)
/-- a statement by itself -/
theorem seq_split {a b : DS} {E : Env} {K : DEnds} (P : Env → Prop) (head : ∀ b' : DS, (∀ E1, P E1 → b' E1 K) → sSeq a b' E K) (tail : ∀ E1, P E1 → b E1 K) : sSeq a b E K := head b tail
theorem okw {w : Str} (h : PyData.strOk w = true := by rfl) : PyData.strOk w = true := h
end Pv

set_option Elab.async false
set_option linter.all false
set_option maxRecDepth 100000
set_option maxHeartbeats 1000000
set_option autoImplicit false
/-! PwE: the law's promise, defs' bindings. -/
namespace Pv
open PySem PySem.Spec PyProof.Rows L2
/-! the law's own promise -/
theorem rep_ints {T : Tb} {C : Hp} : ∀ ns : List Int, RepL T C (ns.map D.int) (ns.map V.int)
  | [] => .nil
  | n :: ns => .cons (.int n) (rep_ints ns)
theorem law_sp {T : Tb} {S : Pv.Spec} {H : Hp} {a : Addr} {ns : List Int} (h : L2.SqL T.K H a (ns.map V.int)) (k : S [.sh (.lst (ns.map D.int))] (fun o _ => o = oB true) (fun _ _ => False)) : spS T S [.ref a] H (fun v _ => v = .bl true) (fun _ _ _ => False) :=
  ⟨H, _, [], _, _, Sub.refl _, .cons (.sh (.lst h (rep_ints ns))) .nil, List.nodup_nil, fun p hp => by simp at hp, k, fun C' H' o v g os' f' _ r _ _ _ _ e => by
    subst e
    cases r with
    | sh r => cases r; rfl, fun _ _ _ _ _ _ _ _ _ _ _ _ _ e => e⟩
theorem bd_some {K : PySem.W.Frag} {fd : FuncData} {ps : List Str} {dvs : List V} {dds : List D} (h : ∃ ds, L2.Vals dvs ds ∧ L2.Binds K fd ps ds) (r : ∀ (T : Tb) (C : Hp), RepL T C dds dvs) : Bd K fd ps dds :=
  let ⟨ds, v, b⟩ := h
  ⟨ds, dvs, b, v, fun T _ C => r T C⟩
theorem fn_of_body {P : Program} {w : World} {K : PySem.W.Frag} {mg : Str → Option Value} {base : Heap} {T : Tb} {x : Str} {ps : List Str} {k : Nat} {S S' : Pv.Spec} {f : Addr} {fd : FuncData} (h : L2.FnOk P w K mg base (L2.CX P w) k f fd ps (spS T S')) (c : ∀ os KR KE, S os KR KE → S' os KR KE) (hm : mg x = some (.ref f))
    (hk : PySem.W.keepIn K (.ref f) = true) : Fn P w K mg base T x ps k S f fd := ⟨h.imp fun vs H Q E z => spS_imp c z, hm, hk⟩
/-- a law whose defs may raise: what is let out hangs on the world -/
theorem walkW {l : PySem.W.OpenLaw} {n k : Nat} {q : Program} {loose : List Str} {XP : (Str → Option Value) → Heap → Prop} {YP : World → Heap → Prop} {d : DefRec} {x : Str} (hn : l.most = some n) (hn2 : n ≤ sizeLine) (hdf : d.params.defaults = []) (hr : Room k callerA)
    (F : ∀ (w : World) (mg : Str → Option Value) (fa : Addr) (h : Heap), YP w h → h.Ns mainGlobals mg → mg d.name = some (.ref fa) → ∃ (K : PySem.W.Frag) (fd : FuncData) (sp : Sp), K.In h ∧ (∀ (s : Shared) (u : Value), BindsTo s fd ⟨[u], []⟩ [(x, u)]) ∧
        (∀ (H : Hp) (a : Addr) (ns : List Int), ns.length ≤ n → Only H → SqL K H a (ns.map V.int) → sp [.ref a] H (fun v _ => v = .bl true) fun _ _ _ => False) ∧ ∀ base : Heap, K.In base → base.Ns mainGlobals mg → FnOk l.prog w K mg base (L2.CX l.prog w) k fa fd [x] sp) :
    PySem.W.WalkO q loose XP YP l.row.toRowW d [] (fun f vs => PySem.call f vs) :=
  Att.attach_call hn hdf fun w s₀ s₁ mg mb fa o pm cd doc a vs ns G Y ho hd hcd hmg hobj hints hlen hg => by
    obtain ⟨K, fd, sp, KX, hb, hsp, hF⟩ := F w mg fa _ Y G.T.g hmg
    refine law_call KX G.T.g G.T.b G.T.builtins G.T.nolimit hg hobj hints (Nat.le_trans hlen hn2) hr hF hb (fun H hO hS => hsp H a ns hlen hO hS) fun H e s' z => ?_
    obtain ⟨_, _, _, _, _, _, _, _, _, _, _, _, y⟩ := z
    exact y.elim
end Pv

set_option Elab.async false
set_option linter.all false
set_option maxRecDepth 100000
set_option maxHeartbeats 1000000
set_option autoImplicit false
/-! PwF: the law's own def called where nothing is being printed. -/
namespace Pv
open PySem PySem.Spec PyProof.Rows L2
section
variable {P : Program} {w : World} {K : PySem.W.Frag} {mg mb : Str → Option Value} {CX : CXT} {k : Nat} {fa a : Addr} {fd : FuncData} {x : Str} {sp : Sp} {st : Shared} {vs : List Value} {ns : List Int}
/-- .. from a heap of known things T that holds the script at most -/
theorem law_from (kin : K.In st.heap) (glob : st.heap.Ns mainGlobals mg) (blt : st.heap.Ns builtinsNs mb) (boot : ∀ z : Str, z ≠ "__name__" → mb z = bootBuiltins z) (lim : st.heap.NoLimit) (gens : st.gens = #[]) (at_ : st.heap.get? a = some { cls := .type "list", data := .seq vs.toArray })
    (room : Room k callerA) (F : ∀ base : Heap, K.In base → base.Ns mainGlobals mg → FnG P w K mg base CX k fa fd [x] sp) (bind : ∀ (s : Shared) (u : Value), BindsTo s fd ⟨[u], []⟩ [(x, u)]) (none_out : ∀ H e s', CX [] H st (fun _ _ _ => False) e s' → False)
    {T : Hp} (only : Only T) (prom : sp [.ref a] T (fun v _ => v = .bl true) fun _ _ _ => False) (ok : HOk P w T st.heap) (just : ∀ b, b ≠ a → T b = none) (apart : T a = none ∨ K.lookup a = none) :
    codeAny (model P w) callerA (.call (.ref fa) ⟨[.ref a], []⟩) (fun r s' => r = .ok (.ret (.bool true)) ∧ OldK st.heap s'.heap ∧ s'.os = st.os ∧ AllBare s'.gens) st := by
  have dicts : ∀ {b : Addr} {o : Obj} {es : Array DictEntry} {ep : Nat}, st.heap.get? b = some o → o.data = .dict es ep → T b = none := fun {b o es ep} e d => just b fun z => by
    rw [z, at_] at e
    obtain rfl := Option.some.inj e
    have : Data.seq vs.toArray _ = Data.dict es ep := d
    cases this
  have names : ∀ {b : Addr} {m : Str → Option Value}, st.heap.Ns b m → (hidT st.heap T).Ns b m := fun ⟨o, es, ep, e, d, r⟩ => ⟨o, es, ep, hidT_get e (dicts e d), d, r⟩
  have kin2 : K.In (hidT st.heap T) := fun b o e => hidT_get (kin b o e) (by
    by_cases z : b = a
    · subst z
      exact apart.elim id fun y => by rw [y] at e; cases e
    · exact just b z)
  have md : Mod K mg (hidT st.heap T) := ⟨kin2, names glob, ⟨mb, names blt, boot⟩, let ⟨mc, l1, l2⟩ := lim; ⟨mc, names l1, l2⟩⟩
  have env : Env0 P w K mg (hidT st.heap T) callerA [] st T := ⟨rfl, md, fun b o e => of_hidT e, Nat.le_of_eq (hidT_size _ _), trivial, fun b hb => absurd (show b ∈ ([] : List Addr) from hb) (by simp), ok, .of_eq gens⟩
  have go := (F _ kin2 (names glob)).run callerA [] st T ⟨[.ref a], []⟩ [.ref a] [.ref a] _ _ rfl room env (bind st (.ref a)) (.cons rfl .nil) prom
  refine codeAny_mono go fun r s' h => ?_
  cases r with
  | error e => exact (none_out T e s' h).elim
  | ok fl =>
    cases fl with
    | ret u =>
      obtain ⟨v, H', sameOs, bare, un, ok2, rel, q⟩ := h
      have qv : v = .bl true := q
      subst qv
      have ru : u = Value.bool true := rel
      subst ru
      refine ⟨rfl, OldK.of_keep fun b o e => ?_, sameOs, bare⟩
      cases q : T b with
      | none => exact un.keep b o e q (fun z => absurd (show b ∈ ([] : List Addr) from z) (by simp)) (by simp)
      | some u =>
        rcases only b with z | ⟨ob, xs, z⟩
        · rw [q] at z; cases z
        · obtain ⟨e1, _⟩ := ok b _ z
          obtain ⟨e2, _⟩ := ok2 b _ (un.frzs b ob _ z)
          rw [e] at e1
          obtain rfl := Option.some.inj e1
          exact e2
    | _ => exact False.elim h
theorem law_callG (kin : K.In st.heap) (glob : st.heap.Ns mainGlobals mg) (blt : st.heap.Ns builtinsNs mb) (boot : ∀ z : Str, z ≠ "__name__" → mb z = bootBuiltins z) (lim : st.heap.NoLimit) (gens : st.gens = #[]) (at_ : st.heap.get? a = some { cls := .type "list", data := .seq vs.toArray })
    (itg : IntsAre vs ns) (len : ns.length ≤ sizeLine) (room : Room k callerA) (F : ∀ base : Heap, K.In base → base.Ns mainGlobals mg → FnG P w K mg base CX k fa fd [x] sp) (bind : ∀ (s : Shared) (u : Value), BindsTo s fd ⟨[u], []⟩ [(x, u)])
    (prom : ∀ H : Hp, Only H → SqL K H a (ns.map V.int) → sp [.ref a] H (fun v _ => v = .bl true) fun _ _ _ => False) (none_out : ∀ H e s', CX [] H st (fun _ _ _ => False) e s' → False) :
    codeAny (model P w) callerA (.call (.ref fa) ⟨[.ref a], []⟩) (fun r s' => r = .ok (.ret (.bool true)) ∧ OldK st.heap s'.heap ∧ s'.os = st.os ∧ AllBare s'.gens) st := by
  have rel := vals_ints itg
  have lens := itg.length
  cases hk : K.lookup a with
  | some o =>
    have e := kin a o hk
    rw [at_] at e
    obtain rfl := Option.some.inj e
    refine law_from (T := fun _ => none) kin glob blt boot lim gens at_ room F bind none_out (fun _ => .inl rfl) (prom _ (fun _ => .inl rfl) ?_) (fun b u z => by cases (show (none : Option HO) = some u from z)) (fun _ _ => rfl) (.inl rfl)
    exact .inr ⟨_, vs.toArray, _, hk, rfl, rfl, rfl, by rw [List.size_toArray, lens]; exact len, by simpa using rel⟩
  | none =>
    let T : Hp := fun b => if b = a then some (.frz { cls := .type "list", data := .seq vs.toArray } (.lst (ns.map V.int))) else none
    have ta : T a = some (.frz { cls := .type "list", data := .seq vs.toArray } (.lst (ns.map V.int))) := if_pos rfl
    have tn : ∀ b, b ≠ a → T b = none := fun b hb => if_neg hb
    have to : Only T := fun b => by
      by_cases z : b = a
      · subst z; exact .inr ⟨_, _, ta⟩
      · exact .inl (tn b z)
    refine law_from (T := T) kin glob blt boot lim gens at_ room F bind none_out to (prom T to (.inl (.inr ⟨_, ta⟩))) (fun b u z => ?_) tn (.inr hk)
    by_cases hb : b = a
    · subst hb
      rw [ta] at z
      obtain rfl := Option.some.inj z
      exact ⟨at_, by rw [List.length_map]; exact len, vs, _, rel, at_⟩
    · rw [tn b hb] at z; cases z
end
theorem walkWG {l : PySem.W.OpenLaw} {n k : Nat} {q : Program} {loose : List Str} {XP : (Str → Option Value) → Heap → Prop} {YP : World → Heap → Prop} {d : DefRec} {x : Str} (hn : l.most = some n) (hn2 : n ≤ sizeLine) (hdf : d.params.defaults = []) (hr : Room k callerA)
    (F : ∀ (w : World) (mg : Str → Option Value) (fa : Addr) (h : Heap), YP w h → h.Ns mainGlobals mg → mg d.name = some (.ref fa) → ∃ (K : PySem.W.Frag) (fd : FuncData) (sp : Sp), K.In h ∧ (∀ (s : Shared) (u : Value), BindsTo s fd ⟨[u], []⟩ [(x, u)]) ∧
        (∀ (H : Hp) (a : Addr) (ns : List Int), ns.length ≤ n → Only H → SqL K H a (ns.map V.int) → sp [.ref a] H (fun v _ => v = .bl true) fun _ _ _ => False) ∧ ∀ base : Heap, K.In base → base.Ns mainGlobals mg → FnG l.prog w K mg base (L2.CX l.prog w) k fa fd [x] sp) :
    PySem.W.WalkO q loose XP YP l.row.toRowW d [] (fun f vs => PySem.call f vs) :=
  Att.attach_call hn hdf fun w s₀ s₁ mg mb fa o pm cd doc a vs ns G Y ho hd hcd hmg hobj hints hlen hg => by
    obtain ⟨K, fd, sp, KX, hb, hsp, hF⟩ := F w mg fa _ Y G.T.g hmg
    refine law_callG KX G.T.g G.T.b G.T.builtins G.T.nolimit hg hobj hints (Nat.le_trans hlen hn2) hr hF hb (fun H hO hS => hsp H a ns hlen hO hS) fun H e s' z => ?_
    obtain ⟨_, _, _, _, _, _, _, _, _, _, _, _, y⟩ := z
    exact y.elim
end Pv

set_option Elab.async false
set_option linter.all false
set_option maxRecDepth 100000
set_option maxHeartbeats 1000000
set_option autoImplicit false
/-! PwG: steps of PvV's readings; ==; repr's size. -/
namespace Pv
open PySem PySem.Spec PyProof.Rows
section
variable {x : Option O} {E : List (Option O)} {KR : KA} {KE : KX} {fs hs : DA} {i : Nat} {S : Spec}
theorem x_callKw {n m : Nat} {gD : List D → List D → List D} : dCallKw S n m gD fs hs (x :: E) KR KE = fs (x :: E) (fun as E1 => hs E1 (fun bs E2 => capOs E2 (as ++ bs) fun os E3 =>
  (as.length = n ∧ bs.length = m) ∧ S ((gD ((os.map O.view).take n) ((os.map O.view).drop n)).map .sh) (fun o _ => KR (.val o) E3) (fun e _ => KE e E3)) KE) KE := rfl
theorem x_ins : dInsert i fs (x :: E) KR KE = (match (x :: E)[i]? with
  | some (some (.lst _)) => fs (x :: E) (fun as E1 => capOs E1 as fun os E2 => match os, E2[i]? with
    | [.sh (.int j), o], some (some (.lst xs)) => xs.length < sizeLine ∧ 0 ≤ j ∧ j < 2 ^ 63 ∧ KR (.val (.sh .non)) (E2.set i (some (.lst (xs.take j.toNat ++ [o] ++ xs.drop j.toNat))))
    | _, _ => False) KE
  | _ => False) := by unfold dInsert; rfl
theorem x_dic : dDic (x :: E) KR KE = KR (.val (.sh .dic)) (x :: E) := rfl
end
/-- a slot that is given up (the kernel is not to unfold what follows) -/
def slotC (s : Option (Option O)) (f : D → Prop) (g : O → Prop) : Prop := match s with
  | some (some (.sh d)) => f d
  | some (some o) => g o
  | _ => False
theorem slotC_sh {d : D} {f : D → Prop} {g : O → Prop} : slotC (some (some (.sh d))) f g = f d := id rfl
theorem slotC_lst {l : List O} {f : D → Prop} {g : O → Prop} : slotC (some (some (.lst l))) f g = g (.lst l) := id rfl
theorem slotC_ins {c : Nat} {l : List (Nat × O)} {f : D → Prop} {g : O → Prop} : slotC (some (some (.ins c l))) f g = g (.ins c l) := id rfl
theorem y_kslot {x : Option O} {E : List (Option O)} {i : Nat} {Ko : O → Env → Prop} : capO (x :: E) (.slot i) Ko = slotC (x :: E)[i]? (fun d => Ko (.sh d) (x :: E)) (fun o => Ko (.sh o.view) ((x :: E).set i (some (.sh o.view)))) := by
  unfold capO slotC
  rfl
theorem y_kval {x : Option O} {E : List (Option O)} {Ko : O → Env → Prop} {o : O} : capO (x :: E) (.val o) Ko = Ko o (x :: E) := id rfl
theorem eqk_int {i j : Int} : eqOk (.int i) (.int j) = true := rfl
theorem eqk_str {i j : Str} : eqOk (.str i) (.str j) = true := rfl
theorem eqk_bl {i j : Bool} : eqOk (.bl i) (.bl j) = true := rfl
theorem eqv_int {i j : Int} : PyData.eqv (.int i) (.int j) = decide (i = j) := by
  simp [PyData.eqv, Bool.beq_eq_decide_eq]
theorem eqv_str {i j : Str} : PyData.eqv (.str i) (.str j) = decide (i = j) := by
  simp [PyData.eqv, Bool.beq_eq_decide_eq]
/-! how long what repr gives is, at most -/
theorem len_app (a b : Str) : (a ++ b).length = a.length + b.length := strLen_append a b
theorem len_lit (s : String) : ((s : Str)).length = s.length := PySem.ofString_length s
theorem shown_int {i : Int} {k : Nat} (hk : 0 < k) (h : Wb k i) : (PyData.shown (.int i)).length ≤ k + 1 := by
  rw [PyData.shown]
  show (Str.ofString (toString i)).length ≤ k + 1
  rw [PySem.ofString_length]
  exact int_text_length_le hk (PySem.Flt.log2_lt_of hk h)
theorem showable_int {i : Int} (h : Wb 1900 i) : (PyData.int i).showable = true := by
  rw [PyData.showable]
  exact decide_eq_true (Nat.lt_of_lt_of_le (PySem.Flt.log2_lt_of (by decide) h) (by decide))
theorem textFrom_le : ∀ (ts : List Str) (m k : Nat) (acc : Str), (∀ t ∈ ts, t.length ≤ m) → (textFrom k acc ts).length ≤ acc.length + ts.length * (m + 2)
  | [], m, k, acc, _ => by show acc.length ≤ _; simp
  | t :: ts, m, k, acc, h => by
    have := textFrom_le ts m (k + 1) (acc ++ (if k > 0 then ", " else "" : String) ++ t) fun t' ht' => h t' (List.mem_cons_of_mem _ ht')
    have ht := h t List.mem_cons_self
    have e1 : (acc ++ (if k > 0 then ", " else "" : String) ++ t).length ≤ acc.length + 2 + t.length := by
      rw [len_app, len_app]
      by_cases z : k > 0
      · rw [if_pos z]
        have : ((", " : String) : Str).length = 2 := rfl
        omega
      · rw [if_neg z]
        have : (("" : String) : Str).length = 0 := rfl
        omega
    have e2 : (textFrom k acc (t :: ts)).length = (textFrom (k + 1) (acc ++ (if k > 0 then ", " else "" : String) ++ t) ts).length := rfl
    rw [e2, List.length_cons]
    have e3 : (ts.length + 1) * (m + 2) = ts.length * (m + 2) + (m + 2) := Nat.succ_mul _ _
    omega
theorem shown_lst {xs : List PyData} {m : Nat} (h : ∀ t ∈ PyData.shownAll xs, t.length ≤ m) : (PyData.shown (.list xs)).length ≤ xs.length * (m + 2) + 2 := by
  rw [PyData.shown]
  unfold listText
  rw [len_app]
  have := textFrom_le (PyData.shownAll xs) m 0 "[" h
  have l : ∀ ys : List PyData, (PyData.shownAll ys).length = ys.length := fun ys => by
    induction ys with
    | nil => rw [PyData.shownAll] <;> rfl
    | cons y ys ih => rw [PyData.shownAll, List.length_cons, List.length_cons, ih]
  rw [l] at this
  have e1 : (("[" : String) : Str).length = 1 := rfl
  have e2 : (("]" : String) : Str).length = 1 := rfl
  omega
theorem join_le : ∀ (ts : List Str) (m : Nat), (∀ t ∈ ts, t.length ≤ m) → (Str.join ", " ts).length ≤ ts.length * (m + 2)
  | [], m, _ => by show (0 : Nat) ≤ _; omega
  | [t], m, h => by
    have := h t List.mem_cons_self
    show t.length ≤ _
    simp only [List.length_cons, List.length_nil]
    omega
  | t :: u :: ts, m, h => by
    have := join_le (u :: ts) m fun t' ht' => h t' (List.mem_cons_of_mem _ ht')
    have ht := h t List.mem_cons_self
    show (t ++ ", " ++ Str.join ", " (u :: ts)).length ≤ _
    rw [len_app, len_app, List.length_cons]
    have e2 : ((", " : String) : Str).length = 2 := rfl
    have e3 : ((u :: ts).length + 1) * (m + 2) = (u :: ts).length * (m + 2) + (m + 2) := Nat.succ_mul _ _
    omega
theorem shown_tup {xs : List PyData} {m : Nat} (h : ∀ t ∈ PyData.shownAll xs, t.length ≤ m) : (PyData.shown (.tuple xs)).length ≤ xs.length * (m + 2) + 3 := by
  rw [PyData.shown]
  unfold tupleText
  rw [len_app, len_app]
  have := join_le (PyData.shownAll xs) m h
  have l : ∀ ys : List PyData, (PyData.shownAll ys).length = ys.length := fun ys => by
    induction ys with
    | nil => rw [PyData.shownAll] <;> rfl
    | cons y ys ih => rw [PyData.shownAll, List.length_cons, List.length_cons, ih]
  rw [l] at this
  have e1 : (("(" : String) : Str).length = 1 := rfl
  have e2 : ((if (PyData.shownAll xs).length == 1 then ",)" else ")" : String) : Str).length ≤ 2 := by
    split <;> decide
  omega
theorem shownAll_mem : ∀ {xs : List PyData} {t : Str}, t ∈ PyData.shownAll xs → ∃ x ∈ xs, t = x.shown
  | [], t, h => by rw [PyData.shownAll] at h; simp at h
  | x :: xs, t, h => by
    rw [PyData.shownAll] at h
    rcases List.mem_cons.mp h with e | h
    · exact ⟨x, List.mem_cons_self, e⟩
    · obtain ⟨y, hy, e⟩ := shownAll_mem h
      exact ⟨y, List.mem_cons_of_mem _ hy, e⟩
/-! data without instances, of small numbers, not deep: it may be shown -/
mutual
/-- numbers below 2^1900; every list of at most n things; d levels at most -/
def D.sml (n : Nat) : Nat → D → Bool
  | _, .non => true
  | _, .bl _ => true
  | _, .int i => decide (i.natAbs < 2 ^ 1900)
  | d + 1, .tup xs => decide (xs.length ≤ n) && D.smlL n d xs
  | d + 1, .lst xs => decide (xs.length ≤ n) && D.smlL n d xs
  | _, _ => false
def D.smlL (n : Nat) : Nat → List D → Bool
  | _, [] => true
  | d, x :: xs => D.sml n d x && D.smlL n d xs
end
def bnd (n : Nat) : Nat → Nat
  | 0 => 1902
  | d + 1 => n * (bnd n d + 2) + 1902
mutual
theorem sml_ok {n : Nat} : ∀ {k : Nat} {d : D}, d.sml n k = true → d.plain = true ∧ d.py.showable = true ∧ d.py.hasDict = false ∧ d.py.depth ≤ k ∧ d.py.shown.length ≤ bnd n k
  | k, .non, _ => ⟨by rw [D.plain] <;> simp, by rw [D.py, PyData.showable], by rw [D.py, PyData.hasDict], by rw [D.py, PyData.depth]; omega, by
    rw [D.py, PyData.shown]; have : (("None" : String) : Str).length = 4 := rfl; cases k <;> unfold bnd <;> omega⟩
  | k, .bl b, _ => ⟨by rw [D.plain] <;> simp, by rw [D.py, PyData.showable], by rw [D.py, PyData.hasDict], by rw [D.py, PyData.depth]; omega, by
    rw [D.py, PyData.shown]
    have e1 : (("True" : String) : Str).length = 4 := rfl
    have e2 : (("False" : String) : Str).length = 5 := rfl
    cases b
    · rw [if_neg Bool.false_ne_true]; cases k <;> unfold bnd <;> omega
    · rw [if_pos rfl]; cases k <;> unfold bnd <;> omega⟩
  | k, .int i, h => by
    have hw : Wb 1900 i := by cases k <;> (rw [D.sml] at h; exact (show i.natAbs < 2 ^ 1900 from of_decide_eq_true h))
    refine ⟨by rw [D.plain] <;> simp, by rw [D.py]; exact showable_int hw, by rw [D.py, PyData.hasDict], by rw [D.py, PyData.depth]; omega, ?_⟩
    rw [D.py]
    have := shown_int (by decide) hw
    cases k <;> unfold bnd <;> omega
  | 0, .str _, h => by simp [D.sml] at h
  | _ + 1, .str _, h => by simp [D.sml] at h
  | 0, .tup _, h => by simp [D.sml] at h
  | 0, .lst _, h => by simp [D.sml] at h
  | 0, .ins _ _, h => by simp [D.sml] at h
  | _ + 1, .ins _ _, h => by simp [D.sml] at h
  | 0, .dic, h => by simp [D.sml] at h
  | _ + 1, .dic, h => by simp [D.sml] at h
  | k + 1, .tup xs, h => by
    rw [D.sml, Bool.and_eq_true] at h
    obtain ⟨h0, h1⟩ := h
    obtain ⟨p1, p2, p3, p4, p5, p6⟩ := smlL_ok h1
    refine ⟨by rw [D.plain]; exact p1, by rw [D.py, PyData.showable]; exact p2, by rw [D.py, PyData.hasDict]; exact p3, by rw [D.py, PyData.depth]; omega, ?_⟩
    rw [D.py]
    have := shown_tup (xs := D.pyL xs) (m := bnd n k) fun t ht => by
      obtain ⟨x, hx, e⟩ := shownAll_mem ht
      rw [e]; exact p5 x hx
    have h0 := of_decide_eq_true h0
    have := Nat.mul_le_mul_right (bnd n k + 2) h0
    rw [p6] at *
    unfold bnd
    omega
  | k + 1, .lst xs, h => by
    rw [D.sml, Bool.and_eq_true] at h
    obtain ⟨h0, h1⟩ := h
    obtain ⟨p1, p2, p3, p4, p5, p6⟩ := smlL_ok h1
    refine ⟨by rw [D.plain]; exact p1, by rw [D.py, PyData.showable]; exact p2, by rw [D.py, PyData.hasDict]; exact p3, by rw [D.py, PyData.depth]; omega, ?_⟩
    rw [D.py]
    have := shown_lst (xs := D.pyL xs) (m := bnd n k) fun t ht => by
      obtain ⟨x, hx, e⟩ := shownAll_mem ht
      rw [e]; exact p5 x hx
    have h0 := of_decide_eq_true h0
    have := Nat.mul_le_mul_right (bnd n k + 2) h0
    rw [p6] at *
    unfold bnd
    omega
theorem smlL_ok {n : Nat} : ∀ {k : Nat} {xs : List D}, D.smlL n k xs = true → D.plainL xs = true ∧ PyData.showableAll (D.pyL xs) = true ∧ PyData.hasDictAll (D.pyL xs) = false ∧ PyData.depthAll (D.pyL xs) ≤ k ∧ (∀ x ∈ D.pyL xs, x.shown.length ≤ bnd n k) ∧ (D.pyL xs).length = xs.length
  | k, [], _ => ⟨by rw [D.plainL], by rw [D.pyL, PyData.showableAll], by rw [D.pyL, PyData.hasDictAll], by rw [D.pyL, PyData.depthAll]; omega, fun x hx => by rw [D.pyL] at hx; simp at hx, by rw [D.pyL] <;> rfl⟩
  | k, x :: xs, h => by
    rw [D.smlL, Bool.and_eq_true] at h
    obtain ⟨a1, a2, a3, a4, a5⟩ := sml_ok h.1
    obtain ⟨p1, p2, p3, p4, p5, p6⟩ := smlL_ok h.2
    refine ⟨by rw [D.plainL, a1, p1]; rfl, by rw [D.pyL, PyData.showableAll, a2, p2]; rfl, by rw [D.pyL, PyData.hasDictAll, a3, p3]; rfl, by rw [D.pyL, PyData.depthAll]; omega, fun y hy => ?_, by rw [D.pyL, List.length_cons, List.length_cons, p6]⟩
    rw [D.pyL] at hy
    rcases List.mem_cons.mp hy with e | hy
    · rw [e]; exact a5
    · exact p5 y hy
end
/-- what repr asks -/
theorem repr_ok {n k : Nat} {d : D} (h : d.sml n k = true) (hs : ∃ xs, d = .tup xs ∨ d = .lst xs) (hk : k ≤ 60) (hb : bnd n k ≤ sizeLine) :
    d.plain = true ∧ d.py.showable = true ∧ d.py.hasDict = false ∧ d.py.depth ≤ 60 ∧ d.py.shown.length ≤ sizeLine ∧ (∃ xs, d = .tup xs ∨ d = .lst xs) :=
  let ⟨a, b, c, e, f⟩ := sml_ok h
  ⟨a, b, c, Nat.le_trans e hk, Nat.le_trans f hb, hs⟩
end Pv

set_option Elab.async false
set_option linter.all false
set_option maxRecDepth 100000
set_option maxHeartbeats 1000000
set_option autoImplicit false
/-! PwH: what is walked; ratios' sizes. -/
namespace Pv
open PySem PySem.Spec PyProof.Rows
theorem set_self {E : Env} {i : Nat} {o : O} (e : E[i]? = some (some o)) : E.set i (some o) = E := by
  refine List.ext_getElem? fun j => ?_
  by_cases ji : j = i
  · subst ji
    rw [List.getElem?_set_self (List.getElem?_eq_some_iff.mp e).1, e]
  · rw [List.getElem?_set_ne (Ne.symm ji)]
theorem src1 {E : Env} {i : Nat} {o : O} {Ks : List D → List (Nat × O) → Env → Prop} (e : E[i]? = some (some o)) (hf : o.flat = o) (k : ∀ ps : List (Nat × O), (∀ q ∈ ps, q = (i, o)) → Ks [o.view] ps E) : dSrc E [.slot i] Ks := by
  unfold dSrc
  rw [e]
  cases o with
  | sh d =>
    rw [view_sh'] at k
    show dSrc E [] _
    unfold dSrc
    exact k [] fun q hq => by simp at hq
  | lst xs =>
    show dSrc (E.set i (some (O.lst xs).flat)) [] _
    rw [hf, set_self e]
    unfold dSrc
    exact k _ fun q hq => by rw [List.mem_singleton] at hq; exact hq
  | ins c fs =>
    show dSrc (E.set i (some (O.ins c fs).flat)) [] _
    rw [hf, set_self e]
    unfold dSrc
    exact k _ fun q hq => by rw [List.mem_singleton] at hq; exact hq
theorem src_step {E : Env} {i : Nat} {o : O} {r : List A} {Ks : List D → List (Nat × O) → Env → Prop} (e : E[i]? = some (some o)) (hf : o.flat = o) (k : ∀ ps0 : List (Nat × O), (∀ q ∈ ps0, q = (i, o)) → dSrc E r fun ds ps E' => Ks (o.view :: ds) (ps0 ++ ps) E') : dSrc E (.slot i :: r) Ks := by
  unfold dSrc
  rw [e]
  cases o with
  | sh d =>
    rw [view_sh'] at k
    exact k [] fun q hq => by simp at hq
  | lst xs =>
    show dSrc (E.set i (some (O.lst xs).flat)) r _
    rw [hf, set_self e]
    exact k [(i, .lst xs)] fun q hq => by rw [List.mem_singleton] at hq; exact hq
  | ins c fs =>
    show dSrc (E.set i (some (O.ins c fs).flat)) r _
    rw [hf, set_self e]
    exact k [(i, .ins c fs)] fun q hq => by rw [List.mem_singleton] at hq; exact hq
theorem src2 {E : Env} {i j : Nat} {o u : O} {Ks : List D → List (Nat × O) → Env → Prop} (e : E[i]? = some (some o)) (e2 : E[j]? = some (some u)) (hf : o.flat = o) (hf2 : u.flat = u) (k : ∀ ps : List (Nat × O), (∀ q ∈ ps, q = (i, o) ∨ q = (j, u)) → Ks [o.view, u.view] ps E) : dSrc E [.slot i, .slot j] Ks :=
  src_step e hf fun ps0 h0 => src1 e2 hf2 fun ps h => k _ fun q hq => (List.mem_append.mp hq).elim (fun z => .inl (h0 q z)) fun z => .inr (h q z)
theorem src_val {E : Env} {o : O} {r : List A} {Ks : List D → List (Nat × O) → Env → Prop} (k : dSrc E r fun ds ps E' => Ks (o.view :: ds) ps E') : dSrc E (.val o :: r) Ks := by
  unfold dSrc
  exact k
theorem src_nil {E : Env} {Ks : List D → List (Nat × O) → Env → Prop} (k : Ks [] [] E) : dSrc E [] Ks := by
  unfold dSrc
  exact k
theorem holds1 {E : Env} {i : Nat} {o : O} {ps : List (Nat × O)} (h : ∀ q ∈ ps, q = (i, o)) (e : E[i]? = some (some o)) : holds ps E := fun q hq => by rw [h q hq]; exact e
theorem holds2 {E : Env} {i j : Nat} {o u : O} {ps : List (Nat × O)} (h : ∀ q ∈ ps, q = (i, o) ∨ q = (j, u)) (e : E[i]? = some (some o)) (e2 : E[j]? = some (some u)) : holds ps E := fun q hq => by
  rcases h q hq with z | z <;> rw [z]
  · exact e
  · exact e2
theorem holds0 {E : Env} : holds [] E := fun q hq => by simp at hq
theorem all1 {i : Nat} {o : O} {ps : List (Nat × O)} {is : List Nat} (h : ∀ q ∈ ps, q = (i, o)) (m : is.contains i = true) : (ps.all fun q => is.contains q.1) = true := List.all_eq_true.mpr fun q hq => by rw [h q hq]; exact m
theorem all2 {i j : Nat} {o u : O} {ps : List (Nat × O)} {is : List Nat} (h : ∀ q ∈ ps, q = (i, o) ∨ q = (j, u)) (m : is.contains i = true) (m2 : is.contains j = true) : (ps.all fun q => is.contains q.1) = true := List.all_eq_true.mpr fun q hq => by
  rcases h q hq with z | z <;> rw [z]
  · exact m
  · exact m2
/-! loops -/
theorem forD_inv {ps : List (Nat × O)} {gg : DG} {b : DS} {K : DEnds} (Inv : Nat → Env → Prop) (hh : ∀ i E, Inv i E → holds ps E) : ∀ {ds : List D} {E : Env} (n : Nat)
    (_ : ∀ i d E (tail : Env → Prop), ds[i]? = some d → Inv (n + i) E → (∀ E2, Inv (n + i + 1) E2 → tail E2) → gg d E fun E1 => b E1 { K with nx := tail, ct := tail, bk := K.nx })
    (_ : Inv n E) (_ : ∀ E, Inv (n + ds.length) E → K.nx E), forD ps gg b ds E K
  | [], E, n, _, h0, hn => ⟨hh _ _ h0, hn E h0⟩
  | d :: ds, E, n, step, h0, hn => by
    refine ⟨hh _ _ h0, step 0 d E _ rfl h0 fun E2 h2 => ?_⟩
    refine forD_inv Inv hh (n + 1) (fun i d' E' tail e h k => ?_) h2 fun E' h => hn E' ?_
    · have := step (i + 1) d' E' tail (by simpa using e)
      have e1 : n + (i + 1) = n + 1 + i := by omega
      rw [e1] at this
      exact this h k
    · rw [List.length_cons]
      have e1 : n + (ds.length + 1) = n + 1 + ds.length := by omega
      rw [e1]; exact h
theorem lcD_inv {ps : List (Nat × O)} {vs : List Nat} {gg : DG} {tt : DT} {fe : DE} {K : List O → Env → Prop} (Inv : Nat → List O → Env → Prop) (hh : ∀ i acc E, Inv i acc E → holds ps E) : ∀ {ds : List D} {acc : List O} {E : Env} (n : Nat)
    (_ : ∀ i d acc E (tail : List O → Env → Prop), ds[i]? = some d → Inv (n + i) acc E → (∀ acc2 E2, Inv (n + i + 1) acc2 E2 → tail acc2 E2) → gg d E fun E1 => E1.length = E.length ∧ tt E1 (fun b E2 => if b = true then fe E2 (fun a E3 => capO E3 a fun o E4 => acc.length < sizeLine ∧ tail (acc ++ [o]) (wipeE E4 vs)) (fun _ _ => False)
      else tail acc (wipeE E2 vs)) (fun _ _ => False))
    (_ : Inv n acc E) (_ : ∀ acc E, Inv (n + ds.length) acc E → K acc E), lcD ps vs gg tt fe ds acc E K
  | [], acc, E, n, _, h0, hn => ⟨hh _ _ _ h0, hn acc E h0⟩
  | d :: ds, acc, E, n, step, h0, hn => by
    refine ⟨hh _ _ _ h0, step 0 d acc E (fun acc2 E2 => lcD ps vs gg tt fe ds acc2 E2 K) rfl h0 fun acc2 E2 h2 => ?_⟩
    refine lcD_inv Inv hh (n + 1) (fun i d' acc' E' tail e h k => ?_) h2 fun acc' E' h => hn acc' E' ?_
    · have := step (i + 1) d' acc' E' tail (by simpa using e)
      have e1 : n + (i + 1) = n + 1 + i := by omega
      rw [e1] at this
      exact this h k
    · rw [List.length_cons]
      have e1 : n + (ds.length + 1) = n + 1 + ds.length := by omega
      rw [e1]; exact h
theorem rgD_at {lo : Int} {n i : Nat} {d : D} (h : (rgD lo n)[i]? = some d) : d = .int (lo + i) ∧ i < n := by
  unfold rgD at h
  rw [List.getElem?_map] at h
  by_cases z : i < n
  · rw [List.getElem?_range z] at h
    cases h
    exact ⟨rfl, z⟩
  · rw [List.getElem?_eq_none (by simpa using z)] at h
    cases h
theorem rgD_len {lo : Int} {n : Nat} : (rgD lo n).length = n := by simp [rgD]
theorem cmp_neg {a b : Int} : (cmpI a b < 0) ↔ a < b := by
  unfold cmpI
  split
  · omega
  · split <;> omega
theorem cmp_pos {a b : Int} : (0 < cmpI a b) ↔ b < a := by
  unfold cmpI
  split
  · omega
  · split <;> omega
/-! ratios -/
theorem plus_rt {a b : Nat} {p q : Int × Int} (h : Rt a p) (k : Rt b q) : Rt (a + b + 1) (qPlus p q) := by
  obtain ⟨a1, a2, a3, a4⟩ := h
  obtain ⟨b1, b2, b3, b4⟩ := k
  refine low_rt (Int.ne_of_gt (Int.mul_pos a3 b3)) ?_ ((Wb.mul a2 b2).mono (by omega))
  exact (Wb.mul a1 b2).add ((Wb.mul b1 a2).mono (by omega))
theorem less_rt {a b : Nat} {p q : Int × Int} (h : Rt a p) (k : Rt b q) : Rt (a + b + 1) (qLess p q) := by
  obtain ⟨a1, a2, a3, a4⟩ := h
  obtain ⟨b1, b2, b3, b4⟩ := k
  refine low_rt (Int.ne_of_gt (Int.mul_pos a3 b3)) ?_ ((Wb.mul a2 b2).mono (by omega))
  exact (Wb.mul a1 b2).sub ((Wb.mul b1 a2).mono (by omega))
theorem times_rt {a b : Nat} {p q : Int × Int} (h : Rt a p) (k : Rt b q) : Rt (a + b) (qTimes p q) := by
  obtain ⟨a1, a2, a3, a4⟩ := h
  obtain ⟨b1, b2, b3, b4⟩ := k
  exact low_rt (Int.ne_of_gt (Int.mul_pos a3 b3)) (Wb.mul a1 b1) (Wb.mul a2 b2)
theorem zero_rt : Rt 1 (0, 1) := ⟨by unfold Wb; decide, by unfold Wb; decide, by decide, by decide⟩
theorem one_rt : Rt 1 (1, 1) := ⟨by unfold Wb; decide, by unfold Wb; decide, by decide, by decide⟩
theorem low_zero {d : Int} (h : 0 < d) : low 0 d = (0, 1) := by
  have e : (Int.gcd 0 d : Int) = d := by rw [Int.gcd_zero_left]; omega
  rw [low_eq (by omega), if_neg (by omega), e]
  rw [Int.ediv_self (by omega)]
  simp
/-- a term of 0 changes nothing -/
theorem plus_zero_l {a : Nat} {t p q : Int × Int} (ht : Rt a t) (hp : 0 < p.2) (hq : 0 < q.2) (h : p.1 = 0 ∨ q.1 = 0) : qPlus t (qTimes p q) = t := by
  have e : qTimes p q = (0, 1) := by
    show low (p.1 * q.1) (p.2 * q.2) = (0, 1)
    have : p.1 * q.1 = 0 := by rcases h with z | z <;> rw [z] <;> simp
    rw [this]
    exact low_zero (Int.mul_pos hp hq)
  rw [e]
  show low (t.1 * 1 + 0 * t.2) (t.2 * 1) = t
  rw [Int.mul_one, Int.zero_mul, Int.add_zero, Int.mul_one]
  exact low_self ht
theorem same_self (q : Int × Int) : sameD (dR q) q = true := by simp [sameD, dR]
theorem dR_inj {p q : Int × Int} (h : dR p = dR q) : p = q := by
  obtain ⟨a, b⟩ := p
  obtain ⟨c, d⟩ := q
  simpa [dR] using h
end Pv

set_option Elab.async false
set_option linter.all false
set_option maxRecDepth 100000
set_option maxHeartbeats 1000000
set_option autoImplicit false
/-! PwI: the readings by steps, so that the kernel need not unfold what follows (no lemma is by rfl, no match is left to it). -/
namespace Pv
open PySem PySem.Spec PyProof.Rows
section
variable {α : Type} {o : O} {s : Option (Option O)}
def slotV (s : Option (Option O)) (f : O → Prop) : Prop := match s with
  | some (some o) => f o
  | _ => False
def slotN (s : Option (Option O)) (a b : α) : α := match s with
  | some none => a
  | _ => b
def slotL (s : Option (Option O)) (f : List O → Prop) : Prop := match s with
  | some (some (.lst l)) => f l
  | _ => False
def one1 (ds : List D) (f : D → Prop) : Prop := match ds with
  | [d] => f d
  | _ => False
def oneI (ds : List D) (f : Int → Prop) : Prop := match ds with
  | [.int j] => f j
  | _ => False
def two2 (os : List O) (f : O → O → Prop) : Prop := match os with
  | [a, b] => f a b
  | _ => False
def two2D (ds : List D) (f : D → D → Prop) : Prop := match ds with
  | [a, b] => f a b
  | _ => False
def someV (o : Option α) (f : α → Prop) : Prop := match o with
  | some a => f a
  | none => False
def isBl (a : A) (f : Bool → Prop) : Prop := match a with
  | .val (.sh (.bl b)) => f b
  | _ => False
def boolO (o : O) (t e : Prop) : Prop := match o with
  | .sh (.bl true) => t
  | .sh (.bl false) => e
  | _ => False
def setV (ds : List D) (s : Option (Option O)) (f : Int → List O → Prop) : Prop := match ds, s with
  | [.int k], some (some (.lst os)) => f k os
  | _, _ => False
def insV (os : List O) (s : Option (Option O)) (f : Int → O → List O → Prop) : Prop := match os, s with
  | [.sh (.int k), o], some (some (.lst os)) => f k o os
  | _, _ => False
def tryV (m : Option Bool) (a b : Prop) : Prop := match m with
  | some true => a
  | some false => b
  | none => False
def insD (ds : List D) (f : Nat → List (Nat × D) → Prop) : Prop := match ds with
  | [.ins c fs] => f c fs
  | _ => False
def unpD (n : Nat) (d : D) (f : List D → Prop) : Prop := match d with
  | .tup ds => ds.length = n ∧ f ds
  | .lst ds => ds.length = n ∧ f ds
  | _ => False
variable {f : O → Prop} {a b : α} {g : D → Prop} {d e : D} {i k : Int} {l : List O} {p q : Prop} {t : Bool}
theorem slotV_s : slotV (some (some o)) f = f o := id rfl
theorem slotN_n : slotN (some none) a b = a := id rfl
theorem slotN_s : slotN (some (some o)) a b = b := id rfl
theorem slotL_l {f : List O → Prop} : slotL (some (some (.lst l))) f = f l := id rfl
theorem one1_d : one1 [d] g = g d := id rfl
theorem oneI_i {f : Int → Prop} : oneI [.int i] f = f i := id rfl
theorem two2_o {u v : O} {f : O → O → Prop} : two2 [u, v] f = f u v := id rfl
theorem two2D_d {f : D → D → Prop} : two2D [d, e] f = f d e := id rfl
theorem someV_s {f : α → Prop} : someV (some a) f = f a := id rfl
theorem isBl_b {f : Bool → Prop} : isBl (.val (.sh (.bl t))) f = f t := id rfl
theorem boolO_b : boolO (.sh (.bl t)) p q = (if t = true then p else q) := by cases t <;> rfl
theorem setV_s {f : Int → List O → Prop} : setV [.int k] (some (some (.lst l))) f = f k l := id rfl
theorem insV_s {f : Int → O → List O → Prop} : insV [.sh (.int k), o] (some (some (.lst l))) f = f k o l := id rfl
theorem tryV_t : tryV (some true) p q = p := id rfl
theorem tryV_f : tryV (some false) p q = q := id rfl
theorem insD_i {c : Nat} {fs : List (Nat × D)} {f : Nat → List (Nat × D) → Prop} : insD [.ins c fs] f = f c fs := id rfl
end
section
variable {x : Option O} {E : List (Option O)} {K : DEnds} {KR : KA} {KE : KX} {KB : Bool → Env → Prop} {KA2 : List A → Env → Prop} {f g : DE} {fs hs : DA} {a b c : DS} {t u : DT} {i j : Nat} {G1 : G} {S : Spec} {dds : List D}
theorem z_c {d : D} : dC d (x :: E) KR KE = KR (.val (.sh d)) (x :: E) := id rfl
theorem z_var : dVar i (x :: E) KR KE = slotV (x :: E)[i]? fun _ => KR (.slot i) (x :: E) := id rfl
theorem z_nil : dNil (x :: E) KA2 KE = KA2 [] (x :: E) := id rfl
theorem z_cons : dCons f fs (x :: E) KA2 KE = f (x :: E) (fun a E1 => fs E1 (fun as E2 => KA2 (a :: as) E2) KE) KE := id rfl
theorem z_b : dB G1 fs (x :: E) KR KE = fs (x :: E) (fun as E1 => dViews E1 as fun ds E2 => G1 ds fun o => KR (.val o) E2) KE := id rfl
theorem z_vslot {Kd : List D → Env → Prop} {r : List A} : dViews (x :: E) (.slot i :: r) Kd = slotV (x :: E)[i]? fun o => dViews ((x :: E).set i (some o.flat)) r fun ds E' => Kd (o.view :: ds) E' := by
  rw [dViews]
  rfl
theorem z_kslot {Ko : O → Env → Prop} : capO (x :: E) (.slot i) Ko = slotC (x :: E)[i]? (fun d => Ko (.sh d) (x :: E)) (fun o => Ko (.sh o.view) ((x :: E).set i (some (.sh o.view)))) := y_kslot
theorem z_kval {Ko : O → Env → Prop} {o : O} : capO (x :: E) (.val o) Ko = Ko o (x :: E) := id rfl
theorem z_lst : dLst fs (x :: E) KR KE = fs (x :: E) (fun as E1 => capOs E1 as fun os E2 => os.length ≤ sizeLine ∧ KR (.val (.lst os)) E2) KE := id rfl
theorem z_tup : dTup fs (x :: E) KR KE = fs (x :: E) (fun as E1 => capOs E1 as fun os E2 => os.length ≤ sizeLine ∧ KR (.val (.sh (.tup (os.map O.view)))) E2) KE := id rfl
theorem z_call : dCall S dds fs (x :: E) KR KE = fs (x :: E) (fun as E1 => dTake E1 as fun os E2 => S (os ++ dds.map .sh) (fun o os' => KR (.val o) (dPut E2 as os')) (fun e os' => KE e (dPut E2 as os'))) KE := id rfl
theorem z_callKw {n m : Nat} {gD : List D → List D → List D} : dCallKw S n m gD fs hs (x :: E) KR KE = fs (x :: E) (fun as E1 => hs E1 (fun bs E2 => capOs E2 (as ++ bs) fun os E3 =>
  (as.length = n ∧ bs.length = m) ∧ S ((gD ((os.map O.view).take n) ((os.map O.view).drop n)).map .sh) (fun o _ => KR (.val o) E3) (fun e _ => KE e E3)) KE) KE := id rfl
theorem z_tslot {Ko : List O → Env → Prop} {r : List A} : dTake (x :: E) (.slot i :: r) Ko = slotC (x :: E)[i]? (fun d => dTake (x :: E) r fun os E' => Ko (.sh d :: os) E') (fun o => dTake ((x :: E).set i none) r fun os E' => Ko (o :: os) E') := by
  rw [dTake]
  rfl
theorem z_pslot {o' : O} {r : List A} {os : List O} : dPut (x :: E) (.slot i :: r) (o' :: os) = slotN (x :: E)[i]? (dPut ((x :: E).set i (some o')) r os) (dPut (x :: E) r os) := by
  rw [dPut]
  rfl
theorem z_tru : dTru f (x :: E) KB KE = f (x :: E) (fun a E1 => dViews E1 [a] fun ds E2 => one1 ds fun d => truD d fun b => KB b E2) KE := id rfl
theorem z_tb : dTb f (x :: E) KB KE = f (x :: E) (fun a E1 => isBl a fun b => KB b E1) KE := id rfl
theorem z_nott : dNotT t (x :: E) KB KE = t (x :: E) (fun b E1 => KB (!b) E1) KE := id rfl
theorem z_andt : dAndT t u (x :: E) KB KE = t (x :: E) (fun b E1 => if b = true then u E1 KB KE else KB false E1) KE := id rfl
theorem z_ort : dOrT t u (x :: E) KB KE = t (x :: E) (fun b E1 => if b = true then KB true E1 else u E1 KB KE) KE := id rfl
theorem z_ifx : dIf t f g (x :: E) KR KE = t (x :: E) (fun b E1 => if b = true then f E1 KR KE else g E1 KR KE) KE := id rfl
theorem z_andv : dAndV f g (x :: E) KR KE = f (x :: E) (fun a E1 => dViews E1 [a] fun ds E2 => one1 ds fun d => truD d fun b => if b = true then g E2 KR KE else flatD d = true ∧ KR (.val (.sh d)) E2) KE := id rfl
theorem z_orv : dOrV f g (x :: E) KR KE = f (x :: E) (fun a E1 => dViews E1 [a] fun ds E2 => one1 ds fun d => truD d fun b => if b = true then flatD d = true ∧ KR (.val (.sh d)) E2 else g E2 KR KE) KE := id rfl
theorem z_notv : dNotV f (x :: E) KR KE = f (x :: E) (fun a E1 => dViews E1 [a] fun ds E2 => one1 ds fun d => truD d fun b => KR (.val (.sh (.bl (!b)))) E2) KE := id rfl
theorem z_isi {kn : List Nat} {ks : List Kd} : dIsi kn ks f (x :: E) KR KE = f (x :: E) (fun a E1 => dViews E1 [a] fun ds E2 => one1 ds fun d => knownD kn d = true ∧ KR (.val (.sh (.bl (ks.any fun k => isK k d)))) E2) KE := id rfl
theorem z_xf {cs : List Nat} {k : Nat} {e : Er} : dXf cs k e (x :: E) KR KE = (cs.contains e.c = true ∧ someV (e.fs.lookup k) fun d => KR (.val (.sh d)) (x :: E)) := by
  unfold dXf
  generalize e.fs.lookup k = o
  cases o <;> rfl
theorem z_xis {m : Nat → Option Bool} {e : Er} : dXis m e (x :: E) KR KE = someV (m e.c) fun b => KR (.val (.sh (.bl b))) (x :: E) := by
  unfold dXis
  generalize m e.c = o
  cases o <;> rfl
theorem z_app : dAppend i f (x :: E) KR KE = slotL (x :: E)[i]? fun _ => f (x :: E) (fun a E1 => capO E1 a fun o E2 => slotL E2[i]? fun os => os.length < sizeLine ∧ KR (.val (.sh .non)) (E2.set i (some (.lst (os ++ [o]))))) KE := id rfl
theorem z_chain {G2 : G} {h : DE} : dChain G1 G2 f g h (x :: E) KR KE = f (x :: E) (fun a E1 => g E1 (fun b E2 => dViews E2 [a, b] fun ds E3 => G1 ds fun o => boolO o
  (h E3 (fun c E4 => dViews E4 [.val (.sh (ds.getD 1 .non)), c] fun ds2 E5 => flatD (ds.getD 1 .non) = true ∧ G2 ds2 fun o => KR (.val o) E5) KE)
  (KR (.val (.sh (.bl false))) E3)) KE) KE := id rfl
theorem z_fld {cs : List Nat} {k : Nat} : dFld cs k f (x :: E) KR KE = f (x :: E) (fun a E1 => dViews E1 [a] fun ds E2 => insD ds fun c fs => cs.contains c = true ∧ someV (fs.lookup k) fun d => KR (.val (.sh d)) E2) KE := by
  unfold dFld
  refine congrArg (fun k => f (x :: E) k KE) (funext fun a => funext fun E1 => congrArg (dViews E1 [a]) (funext fun ds => funext fun E2 => ?_))
  rcases ds with _ | ⟨d, _ | ⟨e, r⟩⟩ <;> try rfl
  rotate_left
  · cases d <;> rfl
  cases d <;> try rfl
  rename_i c fs
  show (_ ∧ _) = (_ ∧ _)
  generalize fs.lookup k = o
  cases o <;> rfl
theorem z_ins : dInsert i fs (x :: E) KR KE = slotL (x :: E)[i]? fun _ => fs (x :: E) (fun as E1 => capOs E1 as fun os E2 => insV os E2[i]? fun j o xs => xs.length < sizeLine ∧ 0 ≤ j ∧ j < 2 ^ 63 ∧ KR (.val (.sh .non)) (E2.set i (some (.lst (xs.take j.toNat ++ [o] ++ xs.drop j.toNat))))) KE := by
  unfold dInsert
  rfl
theorem z_dic : dDic (x :: E) KR KE = KR (.val (.sh .dic)) (x :: E) := id rfl
theorem z_trN {k : Bool → Prop} : truD .non k = k false := id rfl
theorem z_trB {k : Bool → Prop} {b : Bool} : truD (.bl b) k = k b := id rfl
theorem z_trI {k : Bool → Prop} {i : Int} : truD (.int i) k = k (i != 0) := id rfl
theorem z_trS {k : Bool → Prop} {s : Str} : truD (.str s) k = (s.length ≤ sizeLine ∧ k ((s.length : Int) != 0)) := id rfl
theorem z_trT {k : Bool → Prop} {l : List D} : truD (.tup l) k = k (!l.isEmpty) := id rfl
theorem z_trL {k : Bool → Prop} {l : List D} : truD (.lst l) k = k (!l.isEmpty) := id rfl
/-! statements -/
theorem z_next : sNext (x :: E) K = K.nx (x :: E) := id rfl
theorem z_seq : sSeq a b (x :: E) K = a (x :: E) { K with nx := fun E1 => b E1 K } := id rfl
theorem z_break : sBreak (x :: E) K = K.bk (x :: E) := id rfl
theorem z_cont : sCont (x :: E) K = K.ct (x :: E) := id rfl
theorem z_expr : sExpr f (x :: E) K = f (x :: E) (fun _ E1 => K.nx E1) K.ex := id rfl
theorem z_ret {ks : List Nat} : sRet ks f (x :: E) K = f (x :: E) (fun a E1 => retO ks E1 a fun o E2 => K.rt o E2) K.ex := id rfl
theorem z_rval {ks : List Nat} {o : O} {Ko : O → Env → Prop} : retO ks (x :: E) (.val o) Ko = Ko o (x :: E) := id rfl
theorem z_rslot {ks : List Nat} {Ko : O → Env → Prop} : retO ks (x :: E) (.slot i) Ko = (if ks.contains i then capO (x :: E) (.slot i) Ko else slotC (x :: E)[i]? (fun d => Ko (.sh d) (x :: E)) (fun o => Ko o ((x :: E).set i none))) := id rfl
theorem z_retn : sRetN (x :: E) K = K.rt (.sh .non) (x :: E) := id rfl
theorem z_if : sIf t a b (x :: E) K = t (x :: E) (fun c E1 => if c = true then a E1 K else b E1 K) K.ex := id rfl
theorem z_asg : sAsg i f (x :: E) K = f (x :: E) (fun a E1 => capO E1 a fun o E2 => K.nx (E2.set i (some o))) K.ex := id rfl
theorem z_setix : sSetIx i f g (x :: E) K = g (x :: E) (fun a E1 => capO E1 a fun o E2 => slotV E2[i]? fun _ => f E2 (fun b E3 => dViews E3 [b] fun ds E4 => setV ds E4[i]? fun k os => someV (L2.ixN os.length k) fun j => K.nx (E4.set i (some (.lst (os.set j o))))) K.ex) K.ex := by
  unfold sSetIx
  refine congrArg (fun k => g (x :: E) k K.ex) (funext fun a => funext fun E1 => congrArg (capO E1 a) (funext fun o => funext fun E2 => ?_))
  generalize E2[i]? = s
  rcases s with _ | _ | o' <;> try rfl
  refine congrArg (fun k => f E2 k K.ex) (funext fun b => funext fun E3 => congrArg (dViews E3 [b]) (funext fun ds => funext fun E4 => ?_))
  generalize E4[i]? = s
  rcases ds with _ | ⟨d, _ | ⟨e, r⟩⟩ <;> try rfl
  rotate_left
  · cases d <;> rfl
  cases d <;> rcases s with _ | _ | (_ | l | _) <;> try rfl
  rename_i k
  show (match L2.ixN l.length k with
    | some j => K.nx (List.set E4 i (some (O.lst (l.set j o))))
    | none => False) = someV (L2.ixN l.length k) _
  generalize L2.ixN l.length k = q
  cases q <;> rfl
theorem z_par : sPar i j fs (x :: E) K = fs (x :: E) (fun as E1 => capOs E1 as fun os E2 => two2 os fun o1 o2 => K.nx ((E2.set i (some o1)).set j (some o2))) K.ex := id rfl
theorem z_asgg {gg : DG} : sAsgG gg f (x :: E) K = f (x :: E) (fun a E1 => capO E1 a fun o E2 => gg o.view E2 K.nx) K.ex := id rfl
theorem z_gnm {d : D} {Ke : Env → Prop} : gNm i d (x :: E) Ke = Ke ((x :: E).set i (some (.sh d))) := id rfl
theorem z_gunp {n : Nat} {h : DGs} {d : D} {Ke : Env → Prop} : gUnp n h d (x :: E) Ke = unpD n d fun ds => h ds (x :: E) Ke := by
  cases d <;> rfl
theorem unpD_t {n : Nat} {ds : List D} {f : List D → Prop} : unpD n (.tup ds) f = (ds.length = n ∧ f ds) := id rfl
theorem unpD_l {n : Nat} {ds : List D} {f : List D → Prop} : unpD n (.lst ds) f = (ds.length = n ∧ f ds) := id rfl
theorem z_gone {gg : DG} {h : DGs} {d : D} {r : List D} {Ke : Env → Prop} : gOne gg h (d :: r) (x :: E) Ke = gg d (x :: E) fun E1 => h r E1 Ke := id rfl
theorem z_gno {Ke : Env → Prop} : gNo [] (x :: E) Ke = Ke (x :: E) := id rfl
theorem z_raise {n : Nat} {ks : List Nat} : sRaise n ks fs (x :: E) K = fs (x :: E) (fun as E1 => capOs E1 as fun os E2 => os.length = ks.length ∧ K.ex ⟨n, ks.zip (os.map O.view)⟩ E2) K.ex := id rfl
theorem z_try {m : Nat → Option Bool} {h : Er → DS} : sTryAs i m a h (x :: E) K = a (x :: E) { K with ex := fun e E1 => tryV (m e.c) (i < E1.length ∧ h e (E1.set i none) { nx := fun E2 => K.nx (E2.set i none), rt := K.rt, bk := fun E2 => K.bk (E2.set i none), ct := fun E2 => K.ct (E2.set i none), ex := fun _ _ => False }) (K.ex e E1) } := by
  rw [x_try]
  refine congrArg (fun z => a (x :: E) { K with ex := z }) (funext fun e => funext fun E1 => ?_)
  generalize m e.c = o
  rcases o with _ | _ | _ <;> rfl
theorem z_for {is : List Nat} {fi : DI} {gg : DG} : sFor is fi gg a (x :: E) K = fi (x :: E) (fun ds ps E1 => (ps.all fun q => is.contains q.1) = true ∧ forD ps gg a ds E1 K) K.ex := id rfl
theorem z_iseq {Ki : List D → List (Nat × O) → Env → Prop} : iSeq f (x :: E) Ki KE = f (x :: E) (fun a E1 => dSrc E1 [a] fun ds ps E2 => one1 ds fun d => someV (itemsD d) fun xs => Ki xs ps E2) KE := by
  rw [x_iseq]
  refine congrArg (fun k => f (x :: E) k KE) (funext fun a => funext fun E1 => congrArg (dSrc E1 [a]) (funext fun ds => funext fun ps => funext fun E2 => ?_))
  rcases ds with _ | ⟨d, _ | ⟨e, r⟩⟩ <;> try rfl
  show (match itemsD d with
    | some xs => Ki xs ps E2
    | none => False) = someV (itemsD d) _
  generalize itemsD d = o
  cases o <;> rfl
theorem z_irg1 {Ki : List D → List (Nat × O) → Env → Prop} : iRg1 f (x :: E) Ki KE = f (x :: E) (fun a E1 => dViews E1 [a] fun ds E2 => oneI ds fun j => (-(2 ^ 62) ≤ j ∧ j < 2 ^ 62) ∧ Ki (rgD 0 j.toNat) [] E2) KE := id rfl
theorem z_izip {Ki : List D → List (Nat × O) → Env → Prop} : iZip f g (x :: E) Ki KE = f (x :: E) (fun a E1 => g E1 (fun b E2 => dSrc E2 [a, b] fun ds ps E3 => two2D ds fun d e => someV (seqD d) fun xs => someV (seqD e) fun ys => Ki (zipD xs ys) ps E3) KE) KE := by
  rw [x_izip]
  refine congrArg (fun k => f (x :: E) k KE) (funext fun a => funext fun E1 => congrArg (fun k => g E1 k KE) (funext fun b => funext fun E2 => congrArg (dSrc E2 [a, b]) (funext fun ds => funext fun ps => funext fun E3 => ?_)))
  rcases ds with _ | ⟨d, _ | ⟨e, _ | ⟨e2, r⟩⟩⟩ <;> try rfl
  show (match seqD d, seqD e with
    | some xs, some ys => Ki (zipD xs ys) ps E3
    | _, _ => False) = someV (seqD d) fun xs => someV (seqD e) fun ys => Ki (zipD xs ys) ps E3
  generalize seqD d = o
  generalize seqD e = o2
  cases o <;> cases o2 <;> rfl
theorem z_sslot {Ks : List D → List (Nat × O) → Env → Prop} {r : List A} : dSrc (x :: E) (.slot i :: r) Ks = slotC (x :: E)[i]? (fun d => dSrc (x :: E) r fun ds ps E' => Ks (d :: ds) ps E') (fun o => dSrc ((x :: E).set i (some o.flat)) r fun ds ps E' => Ks (o.view :: ds) ((i, o.flat) :: ps) E') := by
  rw [dSrc]
  rfl
theorem z_ocons {R : List Nat} {k : Nat} {o : O} {os : List O} {Ko : List O → Prop} : outK R (x :: E) k (o :: os) Ko = (if R.contains k then outK R (x :: E) (k + 1) os fun r => Ko (o :: r) else slotV (x :: E)[k]? fun o' => outK R (x :: E) (k + 1) os fun r => Ko (o' :: r)) := by
  rw [outK]
  rfl
theorem z_lc {vs : List Nat} {fi : DI} {gg : DG} {tt : DT} {fe : DE} : dLc vs fi gg tt fe (x :: E) KR KE = fi (x :: E) (fun ds ps E1 => lcD ps vs gg tt fe ds [] (wipeE E1 vs) fun os E2 => KR (.val (.lst os)) E2) KE := id rfl
theorem z_yes : dYes (x :: E) KB KE = KB true (x :: E) := id rfl
theorem z_w0 : wipeE (x :: E) [] = x :: E := id rfl
theorem z_ws {v : Nat} {vs : List Nat} : wipeE (x :: E) (v :: vs) = (wipeE (x :: E) vs).set v none := id rfl
end
/-! operations -/
section
variable {K : O → Prop} {i j : Int} {s t : Str} {a b : List D} {d e : D} {C : Int → Int → Prop} {g : Int → Int → D} {neg p q : Bool}
theorem g2_ii : gI2 C g [.int i, .int j] K = (C i j ∧ K (.sh (g i j))) := id rfl
theorem gAdd_ii : gAdd [.int i, .int j] K = K (.sh (.int (i + j))) := id rfl
theorem gAdd_ss : gAdd [.str s, .str t] K = (s.length + t.length ≤ sizeLine ∧ K (.sh (.str (s ++ t)))) := id rfl
theorem gAdd_ll : gAdd [.lst a, .lst b] K = (a.length + b.length ≤ sizeLine ∧ K (.lst ((a ++ b).map .sh))) := id rfl
theorem gAdd_tt : gAdd [.tup a, .tup b] K = (a.length + b.length ≤ sizeLine ∧ K (.sh (.tup (a ++ b)))) := id rfl
theorem gMul_ii : gMul [.int i, .int j] K = (IntMulOk i j ∧ K (.sh (.int (i * j)))) := id rfl
theorem gMul_li : gMul [.lst a, .int j] K = ((-(2 ^ 63) ≤ j ∧ j < 2 ^ 63 ∧ a.length * j.toNat ≤ sizeLine) ∧ K (.lst ((List.replicate j.toNat a).flatten.map .sh))) := id rfl
theorem gSub_ii : Pv.gSub [.int i, .int j] K = K (.sh (.int (i - j))) := propext ⟨fun h => h.2, fun h => ⟨trivial, h⟩⟩
theorem gLt_ii : gLt [.int i, .int j] K = K (.sh (.bl (decide (i < j)))) := propext ⟨fun h => h.2, fun h => ⟨trivial, h⟩⟩
theorem gLe_ii : gLe [.int i, .int j] K = K (.sh (.bl (decide (i ≤ j)))) := propext ⟨fun h => h.2, fun h => ⟨trivial, h⟩⟩
theorem gGt_ii : gGt [.int i, .int j] K = K (.sh (.bl (decide (j < i)))) := propext ⟨fun h => h.2, fun h => ⟨trivial, h⟩⟩
theorem gGe_ii : gGe [.int i, .int j] K = K (.sh (.bl (decide (j ≤ i)))) := propext ⟨fun h => h.2, fun h => ⟨trivial, h⟩⟩
theorem gFdiv_ii : gFdiv [.int i, .int j] K = ((j ≠ 0 ∧ j.natAbs.log2 < 9000) ∧ K (.sh (.int (i.fdiv j)))) := id rfl
theorem gMod_ii : gMod [.int i, .int j] K = (j ≠ 0 ∧ K (.sh (.int (i.fmod j)))) := id rfl
theorem gPow_ii : gPow [.int i, .int j] K = ((0 ≤ j ∧ j ≤ 1000000 ∧ i.natAbs < 2 ^ 64) ∧ K (.sh (.int (i ^ j.toNat)))) := id rfl
theorem gNeg_i : gNeg [.int i] K = K (.sh (.int (-i))) := id rfl
theorem gAbs_i : gAbs [.int i] K = K (.sh (.int (if i < 0 then -i else i))) := id rfl
theorem gInt_i : gInt [.int i] K = K (.sh (.int i)) := id rfl
theorem gInt_b : gInt [.bl p] K = K (.sh (.int (if p then 1 else 0))) := id rfl
theorem gGcd_ii : gGcd [.int i, .int j] K = K (.sh (.int ((Nat.gcd i.natAbs j.natAbs : Nat) : Int))) := id rfl
theorem gLen_l : gLen [.lst a] K = K (.sh (.int a.length)) := id rfl
theorem gLen_t : gLen [.tup a] K = K (.sh (.int a.length)) := id rfl
theorem gLen_s : gLen [.str s] K = (s.length ≤ sizeLine ∧ K (.sh (.int s.length))) := id rfl
theorem gIx_l : gIx [.lst a, .int i] K = someV (L2.atI a i) fun d => K (.sh d) := by
  unfold gIx
  show (match L2.atI a i with
    | some d => K (.sh d)
    | none => False) = _
  generalize L2.atI a i = o
  cases o <;> rfl
theorem gIx_t : gIx [.tup a, .int i] K = someV (L2.atI a i) fun d => K (.sh d) := by
  unfold gIx
  show (match L2.atI a i with
    | some d => K (.sh d)
    | none => False) = _
  generalize L2.atI a i = o
  cases o <;> rfl
theorem gIx_s : gIx [.str s, .int i] K = (s.length ≤ sizeLine ∧ someV (L2.atI s.cps.toList i) fun c => K (.sh (.str ⟨#[c]⟩))) := by
  unfold gIx
  show (_ ∧ (match L2.atI s.cps.toList i with
    | some c => K (.sh (.str ⟨#[c]⟩))
    | none => False)) = _
  generalize L2.atI s.cps.toList i = o
  cases o <;> rfl
theorem gIs_bb : gIs neg [.bl p, .bl q] K = K (.sh (.bl (if neg then !decide (p = q) else decide (p = q)))) := id rfl
theorem gIs_dn : gIs neg [d, .non] K = K (.sh (.bl (if neg then !isNon d else isNon d))) := by cases d <;> rfl
theorem gEq_de : gEq neg [d, e] K = (eqOk d e = true ∧ K (.sh (.bl (if neg then !PyData.eqv d.py e.py else PyData.eqv d.py e.py)))) := id rfl
theorem gTuple_l : gTuple [.lst a] K = K (.sh (.tup a)) := id rfl
theorem gTuple_t : gTuple [.tup a] K = K (.sh (.tup a)) := id rfl
theorem gList_l : gList [.lst a] K = K (.lst (a.map .sh)) := id rfl
theorem gList_t : gList [.tup a] K = K (.lst (a.map .sh)) := id rfl
theorem items_l : itemsD (.lst a) = some a := id rfl
theorem items_t : itemsD (.tup a) = some a := id rfl
theorem items_s : itemsD (.str s) = some (s.cps.toList.map fun c => D.str ⟨#[c]⟩) := id rfl
theorem seq_l : seqD (.lst a) = some a := id rfl
theorem seq_t : seqD (.tup a) = some a := id rfl
theorem isNon_n : isNon .non = true := id rfl
theorem isNon_i : isNon (.int i) = false := id rfl
theorem isNon_b : isNon (.bl p) = false := id rfl
theorem isNon_s : isNon (.str s) = false := id rfl
theorem isNon_t : isNon (.tup a) = false := id rfl
theorem isNon_l : isNon (.lst a) = false := id rfl
end
end Pv

set_option Elab.async false
set_option linter.all false
set_option maxRecDepth 100000
set_option maxHeartbeats 1000000
set_option autoImplicit false
/-! PwJ: steps of PvX's readings (texts, slices). -/
namespace Pv
open PySem PySem.Spec PyProof.Rows L2
section
variable {x : Option O} {E : List (Option O)} {KR : KA} {KE : KX} {f g : DE} {G1 : G} {j : Nat} {o : O} {KS : Str → Prop} {KI : Int → Prop} {fl fu : DO} {fs : List DE} {y acc : Str} {i : Int}
theorem z_m1 : dM1 G1 f g (x :: E) KR KE = f (x :: E) (fun a E1 => strA E1 a fun _ => g E1 (fun b E2 => dViews E2 [a, b] fun ds E3 => G1 ds fun o => KR (.val o) E3) KE) KE := id rfl
theorem z_strV : strA (x :: E) (.val o) KS = strO (some (some o)) KS := id rfl
theorem z_strS : strA (x :: E) (.slot j) KS = strO (x :: E)[j]? KS := id rfl
theorem strO_s : strO (some (some (.sh (.str y)))) KS = KS y := id rfl
theorem z_intV : intA (x :: E) (.val o) KI = intO (some (some o)) KI := id rfl
theorem z_intS : intA (x :: E) (.slot j) KI = intO (x :: E)[j]? KI := id rfl
theorem intO_i : intO (some (some (.sh (.int i)))) KI = KI i := id rfl
theorem z_sl : dSl fl fu f (x :: E) KR KE = f (x :: E) (fun a E1 => fl E1 (fun l E2 => fu E2 (fun u E3 => dViews E3 [a] fun ds E4 => gCut l u ds fun o => KR (.val o) E4) KE) KE) KE := id rfl
theorem z_part0 {K : Option Int → Env → Prop} : dPart0 (x :: E) K KE = K none (x :: E) := id rfl
theorem z_part {K : Option Int → Env → Prop} : dPart f (x :: E) K KE = f (x :: E) (fun a E1 => intA E1 a fun i => K (some i) E1) KE := id rfl
theorem z_join : dJoin fs (x :: E) KR KE = dJs fs Str.empty (x :: E) (fun out E1 => KR (.val (.sh (.str out))) E1) KE := id rfl
theorem z_js0 {K : Str → Env → Prop} : dJs [] acc (x :: E) K KE = K acc (x :: E) := by rw [dJs]
theorem z_js1 {K : Str → Env → Prop} : dJs (f :: fs) acc (x :: E) K KE = f (x :: E) (fun a E1 => strA E1 a fun y => (acc ++ y).length ≤ sizeLine ∧ dJs fs (acc ++ y) E1 K KE) KE := by rw [dJs]
end
section
variable {K : O → Prop} {i j : Int} {s t : Str} {a b : List D} {neg : Bool} {l u : Option Int}
theorem gStr_i : gStr [.int i] K = (i.natAbs.log2 < 1920 ∧ K (.sh (.str (toString i)))) := id rfl
theorem gAll_l : gAll [.lst a] K = ∃ bs : List Bool, a = bs.map D.bl ∧ K (.sh (.bl (bs.all id))) := id rfl
theorem gIn_ss : gIn neg [.str s, .str t] K = K (.sh (.bl (if neg then !Txt.contains t s else Txt.contains t s))) := id rfl
theorem gStart_ss : gStart [.str s, .str t] K = K (.sh (.bl (Txt.startswith s t))) := id rfl
theorem gSplit_ss : gSplit [.str s, .str t] K = (((t.length == 0) = false ∧ s.length + 2 ≤ sizeLine) ∧ K (.lst ((Txt.split s t).map fun y => .sh (.str y)))) := id rfl
theorem gCut_s : gCut l u [.str s] K = (s.length ≤ sizeLine ∧ K (.sh (.str (cutS s l u)))) := id rfl
theorem gCut_l : gCut l u [.lst a] K = K (.lst ((cutD a l u).map .sh)) := id rfl
theorem gCut_t : gCut l u [.tup a] K = K (.sh (.tup (cutD a l u))) := id rfl
theorem gFmt_s : gFmt [.str s] K = (s.length ≤ sizeLine ∧ K (.sh (.str s))) := id rfl
theorem gFmt_i : gFmt [.int i] K = (i.natAbs.log2 < 1920 ∧ K (.sh (.str (toString i)))) := id rfl
theorem gMul_si : gMul [.str s, .int j] K = ((2 ≤ j ∧ j ≤ 16777216 ∧ 1 ≤ s.length ∧ s.length * j.toNat ≤ sizeLine) ∧ K (.sh (.str (repS s j)))) := id rfl
theorem gInt_s : gInt [.str s] K = ∃ n, PySem.intText? s = some n ∧ s.length ≤ 640 ∧ K (.sh (.int n)) := id rfl
end
end Pv

set_option Elab.async false
set_option linter.all false
set_option maxRecDepth 100000
set_option maxHeartbeats 1000000
set_option autoImplicit false
set_option exponentiation.threshold 10000
/-! PwK: texts of whole numbers and ratios, written and read. -/
namespace Pv
open PySem PySem.Spec PyProof.Rows
theorem str_ext {a b : Str} (h : a.cps.toList = b.cps.toList) : a = b := TL.ext_tl h
theorem tl_app (a b : Str) : (a ++ b).cps.toList = a.cps.toList ++ b.cps.toList := TL.tl_append a b
theorem len_tl (a : Str) : a.length = a.cps.toList.length := TL.len_tl a
theorem str_eq {a b : Str} : (a = b) = (a.cps.toList = b.cps.toList) := propext ⟨fun h => by rw [h], str_ext⟩
/-! figures -/
theorem in_digits (c : Nat) : Txt.contains "0123456789" ⟨#[c]⟩ = decide (48 ≤ c ∧ c ≤ 57) := by
  unfold Txt.contains
  rw [StrLaws.found_one]
  have e : ((("0123456789" : String) : Str)).cps.toList = [48, 49, 50, 51, 52, 53, 54, 55, 56, 57] := by decide +kernel
  rw [e]
  refine decide_eq_decide.mpr ?_
  simp only [List.mem_cons, List.not_mem_nil, or_false]
  omega
def figL (cs : List Nat) : Bool := decide (1 ≤ cs.length) && decide (cs.length ≤ 300) && cs.all (fun c => decide (48 ≤ c ∧ c ≤ 57)) && (decide (cs = [48]) || decide (cs.head? ≠ some 48))
def isFig (s : Str) : Bool := figL s.cps.toList
/-- the figures of a number -/
def Canon (cs : List Nat) : Prop := NumText.AllDigits cs ∧ (cs = [48] ∨ ∃ c r, cs = c :: r ∧ 49 ≤ c)
theorem Canon.ne {cs : List Nat} (h : Canon cs) : cs ≠ [] := by
  rcases h.2 with e | ⟨c, r, e, _⟩ <;> rw [e] <;> simp
theorem digs : ∀ n : Nat, ∃ cs, Canon cs ∧ NumText.digitsVal cs = n := fun n => by
  induction n using Nat.strongRecOn with
  | ind n ih =>
    by_cases h : n < 10
    · refine ⟨[48 + n], ⟨fun d hd => by rw [List.mem_singleton] at hd; omega, ?_⟩, by show 0 * 10 + (48 + n - 48) = n; omega⟩
      by_cases z : n = 0
      · exact .inl (by rw [z])
      · exact .inr ⟨_, _, rfl, by omega⟩
    · obtain ⟨cs, ⟨h1, h2⟩, h3⟩ := ih (n / 10) (by omega)
      refine ⟨cs ++ [48 + n % 10], ⟨fun d hd => ?_, ?_⟩, ?_⟩
      · rcases List.mem_append.mp hd with hd | hd
        · exact h1 d hd
        · rw [List.mem_singleton] at hd; omega
      · rcases h2 with e | ⟨c, r, e, hc⟩
        · rw [e] at h3
          have : NumText.digitsVal [48] = 0 := rfl
          omega
        · exact .inr ⟨c, r ++ [48 + n % 10], by rw [e]; rfl, hc⟩
      · rw [NumText.digitsVal_snoc, h3]
        omega
theorem digits_of_canon {cs : List Nat} (h : Canon cs) : Nat.toDigits 10 (NumText.digitsVal cs) = cs.map Char.ofNat := by
  have hne := h.ne
  obtain ⟨c, r, e⟩ : ∃ c r, cs = c :: r := by
    cases cs with
    | nil => exact absurd rfl hne
    | cons c r => exact ⟨c, r, rfl⟩
  refine NumText.toDigits_digitsVal r.length cs (by rw [e]; rfl) h.1 ?_
  rcases h.2 with e2 | ⟨c2, r2, e2, hc⟩
  · rw [e2] at e
    cases e
    exact .inl rfl
  · exact .inr ⟨c2, r2, e2, hc⟩
/-- a number not below 0, as a text -/
def numS (n : Nat) : Str := Str.ofString (toString ((n : Nat) : Int))
def intS (i : Int) : Str := Str.ofString (toString i)
theorem tl_ofString (s : String) : (Str.ofString s).cps.toList = s.toList.map Char.toNat := by
  rw [Str.ofString_eq_toList]
theorem repr_list (n : Nat) : (Nat.repr n).toList = Nat.toDigits 10 n := by
  show (String.ofList (Nat.toDigits 10 n)).toList = _
  simp
theorem map_chars : ∀ {cs : List Nat}, NumText.AllDigits cs → (cs.map Char.ofNat).map Char.toNat = cs
  | [], _ => rfl
  | c :: cs, h => by
    have hc := h.head
    rw [List.map_cons, List.map_cons, map_chars h.tail]
    have e : ∀ c : Nat, c < 58 → (Char.ofNat c).toNat = c := by decide
    rw [e c (by omega)]
theorem tl_num {cs : List Nat} (h : Canon cs) : (numS (NumText.digitsVal cs)).cps.toList = cs := by
  unfold numS
  rw [tl_ofString]
  have e : toString ((NumText.digitsVal cs : Nat) : Int) = Nat.repr (NumText.digitsVal cs) := rfl
  rw [e, repr_list, digits_of_canon h, map_chars h.1]
theorem canon_num (n : Nat) : Canon (numS n).cps.toList ∧ NumText.digitsVal (numS n).cps.toList = n := by
  obtain ⟨cs, h, e⟩ := digs n
  have := tl_num h
  rw [e] at this
  rw [this]
  exact ⟨h, e⟩
theorem numS_inj {m n : Nat} (h : numS m = numS n) : m = n := by
  have a := (canon_num m).2
  rw [h, (canon_num n).2] at a
  exact a.symm
theorem figL_canon {cs : List Nat} (h : figL cs = true) : Canon cs ∧ cs.length ≤ 300 := by
  unfold figL at h
  simp only [Bool.and_eq_true, Bool.or_eq_true, decide_eq_true_eq, List.all_eq_true] at h
  obtain ⟨⟨⟨h1, h2⟩, h3⟩, h4⟩ := h
  refine ⟨⟨fun c hc => h3 c hc, ?_⟩, h2⟩
  rcases h4 with h4 | h4
  · exact .inl h4
  · cases cs with
    | nil => simp at h1
    | cons c r =>
      have := h3 c List.mem_cons_self
      refine .inr ⟨c, r, rfl, ?_⟩
      have : c ≠ 48 := fun z => h4 (by rw [z]; rfl)
      omega
theorem canon_figL {cs : List Nat} (h : Canon cs) (hl : cs.length ≤ 300) : figL cs = true := by
  unfold figL
  have h1 : 1 ≤ cs.length := by
    have := h.ne
    cases cs with
    | nil => exact absurd rfl this
    | cons => simp
  have h3 : cs.all (fun c => decide (48 ≤ c ∧ c ≤ 57)) = true := List.all_eq_true.mpr fun c hc => decide_eq_true (h.1 c hc)
  rw [decide_eq_true h1, decide_eq_true hl, h3]
  rcases h.2 with e | ⟨c, r, e, hc⟩
  · rw [decide_eq_true e]; rfl
  · have : cs.head? ≠ some 48 := by rw [e]; simp; omega
    rw [decide_eq_true this]; simp
theorem fig_num {p : Str} (h : isFig p = true) : ∃ n : Nat, p = numS n ∧ PySem.intText? p = some (n : Int) ∧ p.length ≤ 300 ∧ p.cps.toList.length ≤ 300 := by
  obtain ⟨hc, hl⟩ := figL_canon h
  refine ⟨NumText.digitsVal p.cps.toList, (str_ext (tl_num hc)).symm, PySem.intText_digits hc.1 hc.ne (by rw [len_tl]; omega), by rw [len_tl]; exact hl, hl⟩
theorem num_fig {n : Nat} (h : (numS n).length ≤ 300) : isFig (numS n) = true ∧ PySem.intText? (numS n) = some (n : Int) := by
  obtain ⟨hc, he⟩ := canon_num n
  rw [len_tl] at h
  refine ⟨canon_figL hc h, ?_⟩
  rw [PySem.intText_digits hc.1 hc.ne (by rw [len_tl]; omega), he]
theorem val_lt : ∀ {cs : List Nat} (_ : NumText.AllDigits cs) (a : Nat), cs.foldl (fun acc c => acc * 10 + (c - 48)) a < (a + 1) * 10 ^ cs.length
  | [], _, a => by simp
  | c :: cs, h, a => by
    have hc := h.head
    have := val_lt h.tail (a * 10 + (c - 48))
    rw [List.foldl_cons, List.length_cons, Nat.pow_succ]
    refine Nat.lt_of_lt_of_le this ?_
    have e : (a + 1) * (10 ^ cs.length * 10) = ((a + 1) * 10) * 10 ^ cs.length := by
      rw [Nat.mul_assoc, Nat.mul_comm 10]
    rw [e]
    exact Nat.mul_le_mul_right _ (by omega)
theorem num_small {n : Nat} (h : (numS n).length ≤ 300) : Wb 1000 (n : Int) := by
  obtain ⟨hc, he⟩ := canon_num n
  rw [len_tl] at h
  have := val_lt hc.1 0
  have e : NumText.digitsVal (numS n).cps.toList = (numS n).cps.toList.foldl (fun acc c => acc * 10 + (c - 48)) 0 := rfl
  rw [← e, he, Nat.zero_add, Nat.one_mul] at this
  unfold Wb
  rw [Int.natAbs_natCast]
  refine Nat.lt_of_lt_of_le this (Nat.le_trans (Nat.pow_le_pow_right (by decide) h) ?_)
  decide +kernel
theorem num_len {n k : Nat} (hk : 0 < k) (h : Wb k (n : Int)) : (numS n).length ≤ k + 1 := by
  unfold numS
  rw [PySem.ofString_length]
  exact int_text_length_le hk (PySem.Flt.log2_lt_of hk h)
/-- texts of whole numbers -/
theorem tl_int (i : Int) : (intS i).cps.toList = if i < 0 then 45 :: (numS i.natAbs).cps.toList else (numS i.natAbs).cps.toList := by
  cases i with
  | ofNat n =>
    rw [if_neg (by simp)]
    rfl
  | negSucc n =>
    rw [if_pos (Int.negSucc_lt_zero n)]
    have e : toString (Int.negSucc n) = "-" ++ Nat.repr (n + 1) := rfl
    have e2 : toString (((n + 1 : Nat)) : Int) = Nat.repr (n + 1) := rfl
    unfold intS numS
    rw [tl_ofString, e]
    have e3 : (Int.negSucc n).natAbs = n + 1 := rfl
    rw [e3, tl_ofString, e2, String.toList_append, List.map_append]
    rfl
/-! texts of ratios -/
def textQ (q : Int × Int) : Str := if q.2 = 1 then intS q.1 else intS q.1 ++ "/" ++ intS q.2
def negS (s : Str) : Bool := decide (s.cps.toList.head? = some 45)
def bareS (s : Str) : Str := if negS s = true then ⟨s.cps.toList.tail.toArray⟩ else s
def partsS (s : Str) : List Str := Txt.split (bareS s) "/"
def numT (p : Str) : Int := (PySem.intText? p).getD 0
def figsS (s : Str) : Bool := decide ((partsS s).length ≤ 2) && (partsS s).all isFig
/-- the ratio that is told -/
def toldS (s : Str) : Int × Int := (if negS s = true then -numT ((partsS s).getD 0 Str.empty) else numT ((partsS s).getD 0 Str.empty), if (partsS s).length = 2 then numT ((partsS s).getD 1 Str.empty) else 1)
def readQ (s : Str) : Option (Int × Int) := if figsS s = true ∧ ratioD (dR (toldS s)) = true ∧ textQ (toldS s) = s then some (toldS s) else none
theorem start_neg (s : Str) : Txt.startswith s "-" = negS s := by
  unfold Txt.startswith negS
  rw [StrLaws.subAt_eq]
  have e : (("-" : String) : Str).cps.toList = [45] := by decide +kernel
  have e1 : (("-" : String) : Str).length = 1 := by decide +kernel
  rw [e, e1, List.drop_zero, len_tl]
  cases h : s.cps.toList with
  | nil => simp
  | cons c r =>
    simp only [List.length_cons, List.take_succ_cons, List.take_zero, List.head?_cons, Option.some.injEq]
    have : decide (0 + 1 ≤ r.length + 1) = true := decide_eq_true (by omega)
    rw [this, Bool.true_and]
    by_cases z : c = 45
    · rw [z]; simp
    · rw [decide_eq_false z]
      simpa using z
theorem tl_mk (l : List Nat) : (⟨l.toArray⟩ : Str).cps.toList = l := by simp
theorem cut_one (s : Str) : (L2.cutS s none (some 1)).cps.toList = s.cps.toList.take 1 := by
  unfold L2.cutS
  rw [tl_mk]
  have e1 : HT.sIx s.length 0 none = 0 := rfl
  have e2 : HT.sIx s.length s.length (some 1) = min 1 s.length := HT.sIx_nat s.length s.length 1
  rw [e1, e2, List.drop_zero, Nat.sub_zero]
  cases h : s.cps.toList with
  | nil => simp
  | cons c r =>
    have : s.length = r.length + 1 := by rw [len_tl, h]; rfl
    rw [this]
    simp
theorem cut_neg (s : Str) : decide (L2.cutS s none (some 1) = "-") = negS s := by
  unfold negS
  refine decide_eq_decide.mpr ?_
  rw [str_eq, cut_one]
  have e : (("-" : String) : Str).cps.toList = [45] := by decide +kernel
  rw [e]
  cases s.cps.toList with
  | nil => simp
  | cons c r => simp
theorem cut_tail (s : Str) : L2.cutS s (some 1) none = ⟨s.cps.toList.tail.toArray⟩ := by
  refine str_ext ?_
  unfold L2.cutS
  rw [tl_mk, tl_mk]
  have e1 : HT.sIx s.length s.length none = s.length := rfl
  have e2 : HT.sIx s.length 0 (some 1) = min 1 s.length := HT.sIx_nat s.length 0 1
  rw [e1, e2]
  cases h : s.cps.toList with
  | nil => simp
  | cons c r =>
    have : s.length = r.length + 1 := by rw [len_tl, h]; rfl
    rw [this]
    have e3 : min 1 (r.length + 1) = 1 := by omega
    rw [e3]
    simp
theorem bare_len (s : Str) : (bareS s).length ≤ s.length := by
  unfold bareS
  split
  · rw [len_tl, tl_mk, len_tl]
    simp
  · exact Nat.le_refl _
def pieces (q : Int × Int) : List Str := if q.2 = 1 then [numS q.1.natAbs] else [numS q.1.natAbs, numS q.2.natAbs]
theorem num_no {n : Nat} {c : Nat} (h : c < 48) : c ∉ (numS n).cps.toList := fun z => by
  have := (canon_num n).1.1 c z
  omega
theorem num_head {n : Nat} : (numS n).cps.toList.head? ≠ some 45 := fun z => by
  cases h : (numS n).cps.toList with
  | nil => rw [h] at z; simp at z
  | cons c r =>
    rw [h] at z
    have e : c = 45 := by simpa using z
    exact num_no (n := n) (c := 45) (by decide) (by rw [h, e]; exact List.mem_cons_self)
theorem text_tl {q : Int × Int} (h2 : 1 ≤ q.2) : (textQ q).cps.toList = (if q.1 < 0 then [45] else []) ++ (Str.join "/" (pieces q)).cps.toList := by
  unfold textQ pieces
  have e1 : intS q.2 = numS q.2.natAbs := by
    refine str_ext ?_
    rw [tl_int, if_neg (by omega)]
  by_cases h : q.2 = 1
  · rw [if_pos h, if_pos h, tl_int]
    show _ = _ ++ (numS q.1.natAbs).cps.toList
    split <;> rfl
  · rw [if_neg h, if_neg h, e1]
    show _ = _ ++ (numS q.1.natAbs ++ "/" ++ numS q.2.natAbs).cps.toList
    simp only [tl_app, tl_int]
    split <;> simp
theorem join_head {q : Int × Int} : (Str.join "/" (pieces q)).cps.toList.head? = (numS q.1.natAbs).cps.toList.head? := by
  unfold pieces
  have hne := (canon_num q.1.natAbs).1.ne
  split
  · rfl
  · show (numS q.1.natAbs ++ "/" ++ numS q.2.natAbs).cps.toList.head? = _
    simp only [tl_app]
    cases h : (numS q.1.natAbs).cps.toList with
    | nil => exact absurd h hne
    | cons c r => rfl
theorem neg_text {q : Int × Int} (h2 : 1 ≤ q.2) : negS (textQ q) = decide (q.1 < 0) := by
  unfold negS
  refine decide_eq_decide.mpr ?_
  rw [text_tl h2]
  by_cases h : q.1 < 0
  · rw [if_pos h]; simp [h]
  · rw [if_neg h, List.nil_append, join_head]
    exact ⟨fun z => absurd z num_head, fun z => absurd z h⟩
theorem bare_text {q : Int × Int} (h2 : 1 ≤ q.2) : bareS (textQ q) = Str.join "/" (pieces q) := by
  refine str_ext ?_
  unfold bareS
  rw [neg_text h2]
  by_cases h : q.1 < 0
  · rw [if_pos (decide_eq_true h), tl_mk, text_tl h2, if_pos h]; rfl
  · rw [if_neg (by rw [decide_eq_false h]; decide), text_tl h2, if_neg h]; rfl
theorem parts_text {q : Int × Int} (h2 : 1 ≤ q.2) : partsS (textQ q) = pieces q := by
  unfold partsS
  rw [bare_text h2, ← TL.join_eq]
  refine TL.split_join (s := 47) (S := []) (by decide +kernel) (by decide +kernel) (by unfold pieces; split <;> simp) fun p hp => ?_
  unfold pieces at hp
  split at hp
  · rw [List.mem_singleton] at hp
    rw [hp]; exact num_no (by decide)
  · rcases List.mem_cons.mp hp with e | hp
    · rw [e]; exact num_no (by decide)
    · rw [List.mem_singleton] at hp
      rw [hp]; exact num_no (by decide)
theorem numT_num {n : Nat} (h : (numS n).length ≤ 300) : numT (numS n) = (n : Int) := by
  unfold numT
  rw [(num_fig h).2]; rfl
/-- what is written is told again -/
theorem told_text {q : Int × Int} (h2 : 1 ≤ q.2) (hp : ∀ p ∈ pieces q, p.length ≤ 300) : toldS (textQ q) = q ∧ figsS (textQ q) = true := by
  have hn : (if decide (q.1 < 0) = true then -((q.1.natAbs : Nat) : Int) else ((q.1.natAbs : Nat) : Int)) = q.1 := by
    by_cases h : q.1 < 0
    · rw [if_pos (decide_eq_true h)]; omega
    · rw [if_neg (by rw [decide_eq_false h]; decide)]; omega
  unfold toldS figsS
  rw [parts_text h2, neg_text h2]
  unfold pieces at hp ⊢
  obtain ⟨a, b⟩ := q
  dsimp only at *
  by_cases h : b = 1
  · subst h
    rw [if_pos rfl] at hp ⊢
    have l1 := hp _ (List.mem_singleton.mpr rfl)
    simp only [List.getD_cons_zero, List.length_singleton, numT_num l1, List.all_cons, List.all_nil, (num_fig l1).1, hn]
    exact ⟨rfl, rfl⟩
  · rw [if_neg h] at hp ⊢
    have l1 := hp _ List.mem_cons_self
    have l2 := hp _ (List.mem_cons_of_mem _ (List.mem_singleton.mpr rfl))
    simp only [List.getD_cons_zero, List.getD_cons_succ, List.length_cons, List.length_nil, numT_num l1, numT_num l2, List.all_cons, List.all_nil, (num_fig l1).1, (num_fig l2).1, hn, Nat.zero_add, Nat.reduceAdd, if_true]
    refine ⟨?_, rfl⟩
    have : ((b.natAbs : Nat) : Int) = b := by omega
    rw [this]
theorem parts_pos (s : Str) : 1 ≤ (partsS s).length := by
  unfold partsS Txt.split
  split
  · simp
  · split
    · simp
    · rw [length_partsBetween]; omega
/-- what is told is of a size -/
theorem told_rt {s : Str} (h : figsS s = true) : Wb 1000 (toldS s).1 ∧ Wb 1000 (toldS s).2 ∧ 0 ≤ (toldS s).2 := by
  unfold figsS at h
  rw [Bool.and_eq_true, decide_eq_true_eq, List.all_eq_true] at h
  obtain ⟨h1, h2⟩ := h
  have one : ∀ p ∈ partsS s, ∃ n : Nat, numT p = (n : Int) ∧ Wb 1000 (n : Int) := fun p hp => by
    obtain ⟨n, e, e2, l, _⟩ := fig_num (h2 p hp)
    exact ⟨n, by unfold numT; rw [e2]; rfl, num_small (by rw [← e]; exact l)⟩
  have hpos := parts_pos s
  unfold toldS
  dsimp only
  generalize partsS s = ps at *
  obtain ⟨p0, r, e⟩ : ∃ p0 r, ps = p0 :: r := by
    cases ps with
    | nil => simp at hpos
    | cons a b => exact ⟨a, b, rfl⟩
  subst e
  obtain ⟨n0, e0, w0⟩ := one p0 List.mem_cons_self
  rw [List.getD_cons_zero, e0]
  refine ⟨?_, ?_⟩
  · split
    · exact w0.neg
    · exact w0
  · split
    · rename_i h2'
      obtain ⟨p1, r2, e⟩ : ∃ p1 r2, r = p1 :: r2 := by
        cases r with
        | nil => simp at h2'
        | cons a b => exact ⟨a, b, rfl⟩
      subst e
      obtain ⟨n1, e1, w1⟩ := one p1 (List.mem_cons_of_mem _ List.mem_cons_self)
      rw [List.getD_cons_succ, List.getD_cons_zero, e1]
      exact ⟨w1, by omega⟩
    · exact ⟨by unfold Wb; decide +kernel, by decide⟩
theorem ratio_of_rt {q : Int × Int} {n : Nat} (h : Rt n q) : ratioD (dR q) = true := by
  show (decide (1 ≤ q.2) && decide (Int.gcd q.1 q.2 = 1)) = true
  rw [decide_eq_true h.2.2.2, decide_eq_true (show 1 ≤ q.2 from h.2.2.1)]
  rfl
theorem rt_of_ratio {q : Int × Int} {n : Nat} (h : ratioD (dR q) = true) (w1 : Wb n q.1) (w2 : Wb n q.2) : Rt n q := by
  have h : (decide (1 ≤ q.2) && decide (Int.gcd q.1 q.2 = 1)) = true := h
  rw [Bool.and_eq_true, decide_eq_true_eq, decide_eq_true_eq] at h
  exact ⟨w1, w2, h.1, h.2⟩
/-- the law's own reading is the same -/
theorem law_read (s : Str) (hf : figsS s = true) (h0 : (toldS s).2 ≠ 0) : readQ s = if textQ (low (toldS s).1 (toldS s).2) = s then some (low (toldS s).1 (toldS s).2) else none := by
  obtain ⟨w1, w2, p2⟩ := told_rt hf
  unfold readQ
  by_cases hr : ratioD (dR (toldS s)) = true
  · have e := low_self (rt_of_ratio hr w1 w2)
    have e : low (toldS s).1 (toldS s).2 = toldS s := e
    rw [e]
    by_cases ht : textQ (toldS s) = s
    · rw [if_pos ⟨hf, hr, ht⟩, if_pos ht]
    · rw [if_neg (fun z => ht z.2.2), if_neg ht]
  · rw [if_neg (fun z => hr z.2.1)]
    have lr := low_rt h0 w1 w2
    rw [if_neg]
    intro ht
    have l2 : 1 ≤ (low (toldS s).1 (toldS s).2).2 := lr.2.2.1
    have hp : ∀ p ∈ pieces (low (toldS s).1 (toldS s).2), p.length ≤ 300 := fun p hp => by
      rw [← parts_text l2, ht] at hp
      unfold figsS at hf
      rw [Bool.and_eq_true, List.all_eq_true] at hf
      obtain ⟨_, _, _, l, _⟩ := fig_num (hf.2 p hp)
      exact l
    have e := (told_text l2 hp).1
    rw [ht] at e
    rw [e] at hr
    exact hr (ratio_of_rt lr)
theorem law_none (s : Str) (h : figsS s = false ∨ (toldS s).2 = 0) : readQ s = none := by
  unfold readQ
  rw [if_neg]
  rintro ⟨a, b, _⟩
  rcases h with z | z
  · rw [z] at a; cases a
  · have b : (decide (1 ≤ (toldS s).2) && decide (Int.gcd (toldS s).1 (toldS s).2 = 1)) = true := b
    rw [z] at b
    simp at b
theorem read_text {q : Int × Int} {n : Nat} (h : Rt n q) (hp : ∀ p ∈ pieces q, p.length ≤ 300) : readQ (textQ q) = some q := by
  have h2 : 1 ≤ q.2 := h.2.2.1
  obtain ⟨e, f⟩ := told_text h2 hp
  unfold readQ
  rw [e, if_pos ⟨f, ratio_of_rt h, rfl⟩]
theorem pieces_small {q : Int × Int} (h : Rt 110 q) : ∀ p ∈ pieces q, p.length ≤ 300 := fun p hp => by
  have l1 : (numS q.1.natAbs).length ≤ 111 := num_len (by decide) (by have := h.1; unfold Wb at *; rwa [Int.natAbs_natCast])
  have l2 : (numS q.2.natAbs).length ≤ 111 := num_len (by decide) (by have := h.2.1; unfold Wb at *; rwa [Int.natAbs_natCast])
  unfold pieces at hp
  split at hp
  · rw [List.mem_singleton] at hp; rw [hp]; omega
  · rcases List.mem_cons.mp hp with e | hp
    · rw [e]; omega
    · rw [List.mem_singleton] at hp; rw [hp]; omega
end Pv

set_option Elab.async false
set_option linter.all false
set_option maxRecDepth 100000
set_option maxHeartbeats 4000000
set_option autoImplicit false
namespace K02
open PySem PySem.Spec PyProof.Rows L2 Pv
def top (i : Nat) : Stmt := PySem.Challenge.pw_leastlabour_k02_whole_ratios_written_and.main.body.getD i (.Pass ⟨0, 0, 0, 0⟩)
def CN : Nat → Str
  | 0 => "WorksError"
  | _ => "BadRatio"
def NM : List Str := [("what" : Str)]
theorem nmnd : NM.Nodup := by decide
abbrev TT (K : PySem.W.Frag) : Tb := ⟨K, NM, fun n => He.ga K (CN n), fun _ => none, []⟩
def mx_BadRatio : Nat → Option Bool
  | 0 => some false
  | 1 => some true
  | _ => none
def S_ratio_text : Pv.Spec := fun os KR _ => ∃ q : Int × Int, os = [.sh (dR q)] ∧ Rt 1900 q ∧ KR (.sh (.str (textQ q))) os
def S__law_text : Pv.Spec := S_ratio_text
def S_is_figures : Pv.Spec := fun os KR _ => ∃ s : Str, os = [.sh (.str s)] ∧ s.length ≤ 10000 ∧ KR (oB (isFig s)) os
def S__law_figures : Pv.Spec := S_is_figures
/-- what the law reads -/
def readD (o : Option (Int × Int)) : D := match o with
  | some q => dR q
  | none => .tup [.str "text"]
def dueD (o : Option (Int × Int)) : D := match o with
  | some q => dR q
  | none => .non
def strD : D → Option Str
  | .str s => some s
  | _ => none
def S_ratio_of : Pv.Spec := fun os KR KE => ∃ d : D, os = [.sh d] ∧ d.plain = true ∧ (∀ s, d = .str s → s.length ≤ 10000) ∧ (∀ q, (strD d).bind readQ = some q → KR (.sh (dR q)) os) ∧ ((strD d).bind readQ = none → KE ⟨1, [(0, .str "text")]⟩ os)
def S__law_read : Pv.Spec := fun os KR _ => ∃ d : D, os = [.sh d] ∧ d.plain = true ∧ (∀ s, d = .str s → s.length ≤ 10000) ∧ KR (.sh (readD ((strD d).bind readQ))) os
def S__law_due : Pv.Spec := fun os KR _ => ∃ s : Str, os = [.sh (.str s)] ∧ s.length ≤ 10000 ∧ KR (.sh (dueD (readQ s))) os
def S_law : Pv.Spec := fun os KR _ => ∃ ns : List Int, os = [.sh (.lst (ns.map D.int))] ∧ ns.length ≤ 63 ∧ KR (oB true) os
abbrev s_is_whole : Stmt := top 6
def N_is_whole : List Str := ["thing", "low", "high"]
theorem sc_is_whole : FnScope N_is_whole ["thing", "low", "high"] (defScope s_is_whole) := ⟨rfl, rfl, rfl, by decide +kernel, rfl, by decide +kernel, by decide +kernel⟩
def D_is_whole : DS := (sSeq (sIf (dOrT (dNotT (dTru (dIsi [] [.int] (dVar 0)))) (dTru (dIsi [] [.bool] (dVar 0)))) (sRet [0, 1, 2] (dC (.bl false))) sNext) (sSeq (sIf (dAndT (dTb (dB (gIs true) (dCons (dVar 1) (dCons (dC .non) dNil)))) (dTb (dB gLt (dCons (dVar 0) (dCons (dVar 1) dNil))))) (sRet [0, 1, 2] (dC (.bl false))) sNext) (sRet [0, 1, 2] (dOrV (dB (gIs false) (dCons (dVar 2) (dCons (dC .non) dNil))) (dB gLe (dCons (dVar 0) (dCons (dVar 2) dNil)))))))
section
variable {P : Program} {w : World} {K : PySem.W.Frag} {mg : Str → Option Value} {base : Heap}
theorem b_is_whole {dvs : List V} {fA : Addr} {fd : FuncData} (F : FunD K "is_whole" "is_whole" (defArgs s_is_whole) (defBody s_is_whole) (defScope s_is_whole) dvs [] fA fd) (fr_bool : mg "bool" = none) (fr_int : mg "int" = none) (fr_isinstance : mg "isinstance" = none) : FnG P w K mg base (L2.CX P w) 1 fA fd ["thing", "low", "high"] (spS (TT K) (bodyS 3 [] 3 D_is_whole)) :=
  fn_bodyG (R := []) (N := N_is_whole) F sc_is_whole rfl rfl (by decide) fun cdv A outer s H E hgd hr => by
    have tk := takes_of (X := cxOf (L2.CX P w) P w K mg base N_is_whole "is_whole" (defScope s_is_whole) fA cdv A outer s H E) rfl rfl rfl rfl
    have hp := passes_of (X := cxOf (L2.CX P w) P w K mg base N_is_whole "is_whole" (defScope s_is_whole) fA cdv A outer s H E) rfl
    have hu := hr.units
    have nd := sc_is_whole.nd
    exact (show SSs (TT K) _ _ ([0, 1, 2] : List Nat) D_is_whole (defBody s_is_whole) from (sss_cons (ss_if (tw (tor (tnot (tt rfl (eisi rfl no_kn kd_int fr_isinstance (ev 0) (pty (n := "int") rfl fr_int (by decide +kernel))))) (tor1 (tt rfl (eisi rfl no_kn kd_bool fr_isinstance (ev 0) (pty (n := "bool") rfl fr_bool (by decide +kernel))))))) (sss_one (ret se_bl)) sss_nil) (sss_cons (ss_if (tw (tand (tisn (ev 1) se_non) (tand1 (tlt (ev 0) (ev 1))))) (sss_one (ret se_bl)) sss_nil) (sss_one (ret (se_or rfl (eis (ev 2) se_non) (se_one (ele (ev 0) (ev 2)))))))))
end
abbrev s_is_ratio : Stmt := top 7
def N_is_ratio : List Str := ["thing", "top", "bottom"]
theorem sc_is_ratio : FnScope N_is_ratio ["thing"] (defScope s_is_ratio) := ⟨rfl, rfl, rfl, by decide +kernel, rfl, by decide +kernel, by decide +kernel⟩
def D_is_ratio : DS := (sSeq (sIf (dOrT (dNotT (dTru (dIsi [] [.tuple] (dVar 0)))) (dTb (dB (gEq true) (dCons (dB gLen (dCons (dVar 0) dNil)) (dCons (dC (.int 2)) dNil))))) (sRet [0] (dC (.bl false))) sNext) (sSeq (sAsgG (gUnp 2 (gOne (gNm 1) (gOne (gNm 2) gNo))) (dVar 0)) (sSeq (sIf (dOrT (dNotT (dTru (dCall S_is_whole [.non, .non] (dCons (dVar 1) dNil)))) (dNotT (dTru (dCall S_is_whole [.non] (dCons (dVar 2) (dCons (dC (.int 1)) dNil)))))) (sRet [0] (dC (.bl false))) sNext) (sRet [0] (dB (gEq false) (dCons (dB gGcd (dCons (dVar 1) (dCons (dVar 2) dNil))) (dCons (dC (.int 1)) dNil)))))))
section
variable {P : Program} {w : World} {K : PySem.W.Frag} {mg : Str → Option Value} {base : Heap}
theorem b_is_ratio {dvs : List V} {fA : Addr} {fd : FuncData} (F : FunD K "is_ratio" "is_ratio" (defArgs s_is_ratio) (defBody s_is_ratio) (defScope s_is_ratio) dvs [] fA fd) {fA_is_whole : Addr} {fd_is_whole : FuncData} (F_is_whole : FnQ P w K mg base (TT K) "is_whole" ["thing", "low", "high"] 1 S_is_whole fA_is_whole fd_is_whole) (bd_is_whole_1 : Bd K fd_is_whole ["thing", "low", "high"] [.non]) (bd_is_whole_2 : Bd K fd_is_whole ["thing", "low", "high"] [.non, .non]) (fr_isinstance : mg "isinstance" = none) (fr_len : mg "len" = none) (fr_tuple : mg "tuple" = none) (bl_gcd : mg "gcd" = some (.builtin "math.gcd")) : FnG P w K mg base (L2.CX P w) 2 fA fd ["thing"] (spS (TT K) (bodyS 3 [] 1 D_is_ratio)) :=
  fn_bodyG (R := []) (N := N_is_ratio) F sc_is_ratio rfl rfl (by decide) fun cdv A outer s H E hgd hr => by
    have tk := takes_of (X := cxOf (L2.CX P w) P w K mg base N_is_ratio "is_ratio" (defScope s_is_ratio) fA cdv A outer s H E) rfl rfl rfl rfl
    have hp := passes_of (X := cxOf (L2.CX P w) P w K mg base N_is_ratio "is_ratio" (defScope s_is_ratio) fA cdv A outer s H E) rfl
    have hu := hr.units
    have nd := sc_is_ratio.nd
    exact (show SSs (TT K) _ _ ([0] : List Nat) D_is_ratio (defBody s_is_ratio) from (sss_cons (ss_if (tw (tor (tnot (tt rfl (eisi rfl no_kn kd_tuple fr_isinstance (ev 0) (pty (n := "tuple") rfl fr_tuple (by decide +kernel))))) (tor1 (tne rfl hu (elen rfl fr_len (sc (ev 0) sa_nil)) se_int)))) (sss_one (ret se_bl)) sss_nil) (sss_cons (asgG (ev 0) (unp rfl (gcs (nmi 1 nd) (gcs (nmi 2 nd) sgs_nil)))) (sss_cons (ss_if (tw (tor (tnot (tt rfl (ecallG F_is_whole rfl rfl rfl rfl rfl rfl bd_is_whole_2 hgd (hr.mono (by decide)) tk (sc (ev 1) sa_nil)))) (tor1 (tnot (tt rfl (ecallG F_is_whole rfl rfl rfl rfl rfl rfl bd_is_whole_1 hgd (hr.mono (by decide)) tk (sc (ev 2) (sc se_int sa_nil)))))))) (sss_one (ret se_bl)) sss_nil) (sss_one (ret (eeq rfl hu (egcd bl_gcd (sc (ev 1) (sc (ev 2) sa_nil))) se_int)))))))
end
abbrev s_ratio_text : Stmt := top 8
def N_ratio_text : List Str := ["one"]
theorem sc_ratio_text : FnScope N_ratio_text ["one"] (defScope s_ratio_text) := ⟨rfl, rfl, rfl, by decide +kernel, rfl, by decide +kernel, by decide +kernel⟩
def D_ratio_text : DS := (sSeq (sIf (dTb (dB (gEq false) (dCons (dB gIx (dCons (dVar 0) (dCons (dC (.int 1)) dNil))) (dCons (dC (.int 1)) dNil)))) (sRet [0] (dB gStr (dCons (dB gIx (dCons (dVar 0) (dCons (dC (.int 0)) dNil))) dNil))) sNext) (sRet [0] (dJoin ((dB gFmt (dCons (dB gIx (dCons (dVar 0) (dCons (dC (.int 0)) dNil))) dNil)) :: ((dC (.str "/")) :: ((dB gFmt (dCons (dB gIx (dCons (dVar 0) (dCons (dC (.int 1)) dNil))) dNil)) :: []))))))
section
variable {P : Program} {w : World} {K : PySem.W.Frag} {mg : Str → Option Value} {base : Heap}
theorem b_ratio_text {dvs : List V} {fA : Addr} {fd : FuncData} (F : FunD K "ratio_text" "ratio_text" (defArgs s_ratio_text) (defBody s_ratio_text) (defScope s_ratio_text) dvs [] fA fd) (fr_str : mg "str" = none) : FnG P w K mg base (L2.CX P w) 1 fA fd ["one"] (spS (TT K) (bodyS 1 [] 1 D_ratio_text)) :=
  fn_bodyG (R := []) (N := N_ratio_text) F sc_ratio_text rfl rfl (by decide) fun cdv A outer s H E hgd hr => by
    have tk := takes_of (X := cxOf (L2.CX P w) P w K mg base N_ratio_text "ratio_text" (defScope s_ratio_text) fA cdv A outer s H E) rfl rfl rfl rfl
    have hp := passes_of (X := cxOf (L2.CX P w) P w K mg base N_ratio_text "ratio_text" (defScope s_ratio_text) fA cdv A outer s H E) rfl
    have hu := hr.units
    have nd := sc_ratio_text.nd
    exact (show SSs (TT K) _ _ ([0] : List Nat) D_ratio_text (defBody s_ratio_text) from (sss_cons (ss_if (teq rfl hu (eix rfl (ev 0) se_int) se_int) (sss_one (ret (estr fr_str (sc (eix rfl (ev 0) se_int) sa_nil)))) sss_nil) (sss_one (ret (ejoin (sj_cons (efmt (eix rfl (ev 0) se_int)) (sj_cons se_str (sj_cons (efmt (eix rfl (ev 0) se_int)) sj_nil))))))))
end
abbrev s_is_figures : Stmt := top 9
def N_is_figures : List Str := ["text", "sign"]
theorem sc_is_figures : FnScope N_is_figures ["text"] (defScope s_is_figures) := ⟨rfl, rfl, rfl, by decide +kernel, rfl, by decide +kernel, by decide +kernel⟩
def D_is_figures : DS := (sSeq (sIf (dNotT (dTb (dChain gLe gLe (dC (.int 1)) (dB gLen (dCons (dVar 0) dNil)) (dC (.int 300))))) (sRet [0] (dC (.bl false))) sNext) (sSeq (sFor [0] (iSeq (dVar 0)) (gNm 1) (sIf (dTb (dB (gIn true) (dCons (dVar 1) (dCons (dC (.str "0123456789")) dNil)))) (sRet [0, 0] (dC (.bl false))) sNext)) (sRet [0] (dOrV (dB (gEq false) (dCons (dVar 0) (dCons (dC (.str "0")) dNil))) (dB (gEq true) (dCons (dB gIx (dCons (dVar 0) (dCons (dC (.int 0)) dNil))) (dCons (dC (.str "0")) dNil)))))))
section
variable {P : Program} {w : World} {K : PySem.W.Frag} {mg : Str → Option Value} {base : Heap}
theorem b_is_figures {dvs : List V} {fA : Addr} {fd : FuncData} (F : FunD K "is_figures" "is_figures" (defArgs s_is_figures) (defBody s_is_figures) (defScope s_is_figures) dvs [] fA fd) (fr_len : mg "len" = none) (gl_FIGURES_MOST : GlD K mg "FIGURES_MOST" (.int 300)) : FnG P w K mg base (L2.CX P w) 1 fA fd ["text"] (spS (TT K) (bodyS 2 [] 1 D_is_figures)) :=
  fn_bodyG (R := []) (N := N_is_figures) F sc_is_figures rfl rfl (by decide) fun cdv A outer s H E hgd hr => by
    have tk := takes_of (X := cxOf (L2.CX P w) P w K mg base N_is_figures "is_figures" (defScope s_is_figures) fA cdv A outer s H E) rfl rfl rfl rfl
    have hp := passes_of (X := cxOf (L2.CX P w) P w K mg base N_is_figures "is_figures" (defScope s_is_figures) fA cdv A outer s H E) rfl
    have hu := hr.units
    have nd := sc_is_figures.nd
    exact (show SSs (TT K) _ _ ([0] : List Nat) D_is_figures (defBody s_is_figures) from (sss_cons (ss_if (tnot (st_chain op_le op_le bi_B2 bi_B2 se_int (elen rfl fr_len (sc (ev 0) sa_nil)) (egl gl_FIGURES_MOST rfl rfl) rfl)) (sss_one (ret se_bl)) sss_nil) (sss_cons (forr (is := [0]) hp (si_seq rfl (ev 0)) (nmi 1 nd) (sss_one (ss_if (tnin (ev 1) se_str) (sss_one (ret se_bl)) sss_nil))) (sss_one (ret (se_or rfl (eeq rfl hu (ev 0) se_str) (se_one (ene rfl hu (eix rfl (ev 0) se_int) se_str))))))))
end
abbrev s_ratio_of : Stmt := top 10
def N_ratio_of : List Str := ["text", "bare", "parts", "top", "bottom", "told", "part"]
theorem sc_ratio_of : FnScope N_ratio_of ["text"] (defScope s_ratio_of) := ⟨rfl, rfl, rfl, by decide +kernel, rfl, by decide +kernel, by decide +kernel⟩
def D_ratio_of : DS := (sSeq (sIf (dNotT (dTru (dIsi [] [.str] (dVar 0)))) (sRaise 1 [0] (dCons (dC (.str "text")) dNil)) sNext) (sSeq (sAsg 1 (dIf (dTru (dM1 gStart (dVar 0) (dC (.str "-")))) (dSl (dPart (dC (.int 1))) dPart0 (dVar 0)) (dVar 0))) (sSeq (sAsg 2 (dM1 gSplit (dVar 1) (dC (.str "/")))) (sSeq (sIf (dOrT (dTb (dB gGt (dCons (dB gLen (dCons (dVar 2) dNil)) (dCons (dC (.int 2)) dNil)))) (dNotT (dTru (dB gAll (dCons (dLc [6] (iSeq (dVar 2)) (gNm 6) dYes (dCall S_is_figures [] (dCons (dVar 6) dNil))) dNil))))) (sRaise 1 [0] (dCons (dC (.str "text")) dNil)) sNext) (sSeq (sAsg 3 (dB gInt (dCons (dB gIx (dCons (dVar 2) (dCons (dC (.int 0)) dNil))) dNil))) (sSeq (sAsg 4 (dIf (dTb (dB (gEq false) (dCons (dB gLen (dCons (dVar 2) dNil)) (dCons (dC (.int 2)) dNil)))) (dB gInt (dCons (dB gIx (dCons (dVar 2) (dCons (dC (.int 1)) dNil))) dNil)) (dC (.int 1)))) (sSeq (sAsg 5 (dIf (dTru (dM1 gStart (dVar 0) (dC (.str "-")))) (dTup (dCons (dB gNeg (dCons (dVar 3) dNil)) (dCons (dVar 4) dNil))) (dTup (dCons (dVar 3) (dCons (dVar 4) dNil))))) (sSeq (sIf (dOrT (dNotT (dTru (dCall S_is_ratio [] (dCons (dVar 5) dNil)))) (dTb (dB (gEq true) (dCons (dCall S_ratio_text [] (dCons (dVar 5) dNil)) (dCons (dVar 0) dNil))))) (sRaise 1 [0] (dCons (dC (.str "text")) dNil)) sNext) (sRet [0] (dVar 5))))))))))
section
variable {P : Program} {w : World} {K : PySem.W.Frag} {mg : Str → Option Value} {base : Heap}
theorem b_ratio_of {dvs : List V} {fA : Addr} {fd : FuncData} (F : FunD K "ratio_of" "ratio_of" (defArgs s_ratio_of) (defBody s_ratio_of) (defScope s_ratio_of) dvs [] fA fd) {fA_is_figures : Addr} {fd_is_figures : FuncData} (F_is_figures : FnQ P w K mg base (TT K) "is_figures" ["text"] 1 S_is_figures fA_is_figures fd_is_figures) {fA_is_ratio : Addr} {fd_is_ratio : FuncData} (F_is_ratio : FnQ P w K mg base (TT K) "is_ratio" ["thing"] 2 S_is_ratio fA_is_ratio fd_is_ratio) {fA_ratio_text : Addr} {fd_ratio_text : FuncData} (F_ratio_text : FnQ P w K mg base (TT K) "ratio_text" ["one"] 1 S_ratio_text fA_ratio_text fd_ratio_text) (bd_is_figures_0 : Bd K fd_is_figures ["text"] []) (bd_is_ratio_0 : Bd K fd_is_ratio ["thing"] []) (bd_ratio_text_0 : Bd K fd_ratio_text ["one"] []) (fr_all : mg "all" = none) (fr_int : mg "int" = none) (fr_isinstance : mg "isinstance" = none) (fr_len : mg "len" = none) (fr_str : mg "str" = none) (mg_BadRatio : mg "BadRatio" = some (.ref (He.ga K "BadRatio"))) {fI_BadRatio : Addr} {fdI_BadRatio : FuncData} (ec_BadRatio : Ec K (He.ga K "BadRatio") ["what"] fI_BadRatio fdI_BadRatio ["what"]) : FnG P w K mg base (L2.CX P w) 3 fA fd ["text"] (spS (TT K) (bodyS 7 [] 1 D_ratio_of)) :=
  fn_bodyG (R := []) (N := N_ratio_of) F sc_ratio_of rfl rfl (by decide) fun cdv A outer s H E hgd hr => by
    have tk := takes_of (X := cxOf (L2.CX P w) P w K mg base N_ratio_of "ratio_of" (defScope s_ratio_of) fA cdv A outer s H E) rfl rfl rfl rfl
    have hp := passes_of (X := cxOf (L2.CX P w) P w K mg base N_ratio_of "ratio_of" (defScope s_ratio_of) fA cdv A outer s H E) rfl
    have hu := hr.units
    have nd := sc_ratio_of.nd
    exact (show SSs (TT K) _ _ ([0] : List Nat) D_ratio_of (defBody s_ratio_of) from (sss_cons (ss_if (tnot (tt rfl (eisi rfl no_kn kd_str fr_isinstance (ev 0) (pty (n := "str") rfl fr_str (by decide +kernel))))) (sss_one (rse (k := 0) (c := 1) (fk := [0]) rfl ec_BadRatio tk rfl (hr.mono (by decide)) mg_BadRatio (sc se_str sa_nil))) sss_nil) (sss_cons (asg 1 nd (se_if (tt rfl (estart (ev 0) se_str)) (esl rfl (ev 0) (so_some se_int) so_none) (ev 0))) (sss_cons (asg 2 nd (esplit (ev 1) se_str)) (sss_cons (ss_if (tw (tor (tgt (elen rfl fr_len (sc (ev 2) sa_nil)) se_int) (tor1 (tnot (tt rfl (eall rfl fr_all (sc (se_lc (own := [("part", 6)]) rfl rfl nd (si_seq rfl (ev 2)) (blkOk_by (N := N_ratio_of) (sc := defScope s_ratio_of) (by kernel_rfl)) (fun s2 H2 C2 cl2 fp2 => (show SG (TT K) _ ([0, 1, 2, 3, 4, 5] : List Nat) (gNm 6) _ from (nmi 6 nd))) (fun s2 H2 C2 cl2 fp2 => pts_yes) (fun s2 H2 C2 cl2 fp2 => (ecallG F_is_figures rfl rfl rfl rfl rfl rfl bd_is_figures_0 hgd (hr.mono (by decide)) takes0 (sc (ev 6) sa_nil))) (fun _ => rfl)) sa_nil))))))) (sss_one (rse (k := 0) (c := 1) (fk := [0]) rfl ec_BadRatio tk rfl (hr.mono (by decide)) mg_BadRatio (sc se_str sa_nil))) sss_nil) (sss_cons (asg 3 nd (eint fr_int (sc (eix rfl (ev 2) se_int) sa_nil))) (sss_cons (asg 4 nd (se_if (teq rfl hu (elen rfl fr_len (sc (ev 2) sa_nil)) se_int) (eint fr_int (sc (eix rfl (ev 2) se_int) sa_nil)) se_int)) (sss_cons (asg 5 nd (se_if (tt rfl (estart (ev 0) se_str)) (se_tup (sc (eneg (ev 3)) (sc (ev 4) sa_nil))) (se_tup (sc (ev 3) (sc (ev 4) sa_nil))))) (sss_cons (ss_if (tw (tor (tnot (tt rfl (ecallG F_is_ratio rfl rfl rfl rfl rfl rfl bd_is_ratio_0 hgd (hr.mono (by decide)) tk (sc (ev 5) sa_nil)))) (tor1 (tne rfl hu (ecallG F_ratio_text rfl rfl rfl rfl rfl rfl bd_ratio_text_0 hgd (hr.mono (by decide)) tk (sc (ev 5) sa_nil)) (ev 0))))) (sss_one (rse (k := 0) (c := 1) (fk := [0]) rfl ec_BadRatio tk rfl (hr.mono (by decide)) mg_BadRatio (sc se_str sa_nil))) sss_nil) (sss_one (ret (ev 5))))))))))))
end
abbrev s__law_hand : Stmt := top 12
def N__law_hand : List Str := ["_law_script", "_law_total", "_law_cells", "_law_cell"]
theorem sc__law_hand : FnScope N__law_hand ["_law_script"] (defScope s__law_hand) := ⟨rfl, rfl, rfl, by decide +kernel, rfl, by decide +kernel, by decide +kernel⟩
def D__law_hand : DS := (sSeq (sAsg 1 (dB gAdd (dCons (dB gLen (dCons (dVar 0) dNil)) (dCons (dC (.int 29)) dNil)))) (sSeq (sAsg 2 (dLst dNil)) (sSeq (sFor [0] (iSeq (dVar 0)) (gNm 3) (sSeq (sAsg 1 (dB gMod (dCons (dB gInt (dCons (dB gAdd (dCons (dB gMul (dCons (dVar 1) (dCons (dC (.int 1013)) dNil))) (dCons (dB gInt (dCons (dVar 3) dNil)) dNil))) dNil)) (dCons (dC (.int 2147483629)) dNil)))) (sExpr (dAppend 2 (dIf (dTb (dB gGe (dCons (dVar 3) (dCons (dC (.int 0)) dNil)))) (dB gInt (dCons (dVar 3) dNil)) (dB gNeg (dCons (dB gInt (dCons (dVar 3) dNil)) dNil))))))) (sRet [0] (dLst (dCons (dVar 2) (dCons (dC (.int 0)) (dCons (dC (.int 0)) (dCons (dVar 1) dNil)))))))))
section
variable {P : Program} {w : World} {K : PySem.W.Frag} {mg : Str → Option Value} {base : Heap}
theorem b__law_hand {dvs : List V} {fA : Addr} {fd : FuncData} (F : FunD K "_law_hand" "_law_hand" (defArgs s__law_hand) (defBody s__law_hand) (defScope s__law_hand) dvs [] fA fd) (fr_int : mg "int" = none) (fr_len : mg "len" = none) : FnG P w K mg base (L2.CX P w) 1 fA fd ["_law_script"] (spS (TT K) (bodyS 4 [] 1 D__law_hand)) :=
  fn_bodyG (R := []) (N := N__law_hand) F sc__law_hand rfl rfl (by decide) fun cdv A outer s H E hgd hr => by
    have tk := takes_of (X := cxOf (L2.CX P w) P w K mg base N__law_hand "_law_hand" (defScope s__law_hand) fA cdv A outer s H E) rfl rfl rfl rfl
    have hp := passes_of (X := cxOf (L2.CX P w) P w K mg base N__law_hand "_law_hand" (defScope s__law_hand) fA cdv A outer s H E) rfl
    have hu := hr.units
    have nd := sc__law_hand.nd
    exact (show SSs (TT K) _ _ ([0] : List Nat) D__law_hand (defBody s__law_hand) from (sss_cons (asg 1 nd (eadd rfl (elen rfl fr_len (sc (ev 0) sa_nil)) se_int)) (sss_cons (asg 2 nd (se_lst sa_nil)) (sss_cons (forr (is := [0]) hp (si_seq rfl (ev 0)) (nmi 3 nd) (sss_cons (asg 1 nd (emod (eint fr_int (sc (eadd rfl (emul rfl (ev 1) se_int) (eint fr_int (sc (ev 3) sa_nil))) sa_nil)) se_int)) (sss_one (xpr (app 2 rfl (se_if (tge (ev 3) se_int) (eint fr_int (sc (ev 3) sa_nil)) (eneg (eint fr_int (sc (ev 3) sa_nil))))))))) (sss_one (ret (se_lst (sc (ev 2) (sc se_int (sc se_int (sc (ev 1) sa_nil)))))))))))
end
abbrev s__law_mixed : Stmt := top 13
def N__law_mixed : List Str := ["_law_number_here", "_law_turn", "_law_once", "_law_twice"]
theorem sc__law_mixed : FnScope N__law_mixed ["_law_number_here", "_law_turn"] (defScope s__law_mixed) := ⟨rfl, rfl, rfl, by decide +kernel, rfl, by decide +kernel, by decide +kernel⟩
def D__law_mixed : DS := (sSeq (sAsg 2 (dB gMod (dCons (dB gInt (dCons (dB gAdd (dCons (dB gAdd (dCons (dB gMul (dCons (dVar 0) (dCons (dC (.int 48271)) dNil))) (dCons (dB gMul (dCons (dVar 1) (dCons (dC (.int 7919)) dNil))) dNil))) (dCons (dC (.int 54321)) dNil))) dNil)) (dCons (dC (.int 2147483647)) dNil)))) (sSeq (sAsg 3 (dB gMod (dCons (dB gInt (dCons (dB gAdd (dCons (dB gAdd (dCons (dB gMul (dCons (dVar 2) (dCons (dVar 2) dNil))) (dCons (dB gMul (dCons (dVar 1) (dCons (dC (.int 104729)) dNil))) dNil))) (dCons (dB gFdiv (dCons (dVar 2) (dCons (dC (.int 131)) dNil))) dNil))) dNil)) (dCons (dC (.int 2147483629)) dNil)))) (sRet [0, 1] (dB gFdiv (dCons (dB gInt (dCons (dB gMod (dCons (dB gInt (dCons (dB gAdd (dCons (dB gMul (dCons (dVar 3) (dCons (dC (.int 69621)) dNil))) (dCons (dB gFdiv (dCons (dVar 2) (dCons (dC (.int 5)) dNil))) dNil))) dNil)) (dCons (dC (.int 2147483587)) dNil))) dNil)) (dCons (dC (.int 16)) dNil))))))
section
variable {P : Program} {w : World} {K : PySem.W.Frag} {mg : Str → Option Value} {base : Heap}
theorem b__law_mixed {dvs : List V} {fA : Addr} {fd : FuncData} (F : FunD K "_law_mixed" "_law_mixed" (defArgs s__law_mixed) (defBody s__law_mixed) (defScope s__law_mixed) dvs [] fA fd) (fr_int : mg "int" = none) : FnG P w K mg base (L2.CX P w) 1 fA fd ["_law_number_here", "_law_turn"] (spS (TT K) (bodyS 4 [] 2 D__law_mixed)) :=
  fn_bodyG (R := []) (N := N__law_mixed) F sc__law_mixed rfl rfl (by decide) fun cdv A outer s H E hgd hr => by
    have tk := takes_of (X := cxOf (L2.CX P w) P w K mg base N__law_mixed "_law_mixed" (defScope s__law_mixed) fA cdv A outer s H E) rfl rfl rfl rfl
    have hp := passes_of (X := cxOf (L2.CX P w) P w K mg base N__law_mixed "_law_mixed" (defScope s__law_mixed) fA cdv A outer s H E) rfl
    have hu := hr.units
    have nd := sc__law_mixed.nd
    exact (show SSs (TT K) _ _ ([0, 1] : List Nat) D__law_mixed (defBody s__law_mixed) from (sss_cons (asg 2 nd (emod (eint fr_int (sc (eadd rfl (eadd rfl (emul rfl (ev 0) se_int) (emul rfl (ev 1) se_int)) se_int) sa_nil)) se_int)) (sss_cons (asg 3 nd (emod (eint fr_int (sc (eadd rfl (eadd rfl (emul rfl (ev 2) (ev 2)) (emul rfl (ev 1) se_int)) (efdiv (ev 2) se_int)) sa_nil)) se_int)) (sss_one (ret (efdiv (eint fr_int (sc (emod (eint fr_int (sc (eadd rfl (emul rfl (ev 3) se_int) (efdiv (ev 2) se_int)) sa_nil)) se_int) sa_nil)) se_int))))))
end
abbrev s__law_take : Stmt := top 14
def N__law_take : List Str := ["_law_hand_here", "_law_many", "_law_cell", "_law_rest"]
theorem sc__law_take : FnScope N__law_take ["_law_hand_here", "_law_many"] (defScope s__law_take) := ⟨rfl, rfl, rfl, by decide +kernel, rfl, by decide +kernel, by decide +kernel⟩
def D__law_take : DS := (sSeq (sIf (dAndT (dTb (dB (gEq false) (dCons (dB gIx (dCons (dVar 0) (dCons (dC (.int 2)) dNil))) (dCons (dC (.int 0)) dNil)))) (dTb (dB gLt (dCons (dB gIx (dCons (dVar 0) (dCons (dC (.int 1)) dNil))) (dCons (dB gLen (dCons (dB gIx (dCons (dVar 0) (dCons (dC (.int 0)) dNil))) dNil)) dNil))))) (sSeq (sAsg 2 (dB gIx (dCons (dB gIx (dCons (dVar 0) (dCons (dC (.int 0)) dNil))) (dCons (dB gIx (dCons (dVar 0) (dCons (dC (.int 1)) dNil))) dNil)))) (sSeq (sSetIx 0 (dC (.int 1)) (dB gAdd (dCons (dB gIx (dCons (dVar 0) (dCons (dC (.int 1)) dNil))) (dCons (dC (.int 1)) dNil)))) (sSeq (sIf (dTb (dB gLt (dCons (dVar 2) (dCons (dB gPow (dCons (dC (.int 10)) (dCons (dC (.int 18)) dNil))) dNil)))) (sRet [0, 1] (dB gMod (dCons (dB gInt (dCons (dCall S__law_mixed [] (dCons (dB gMod (dCons (dB gInt (dCons (dVar 2) dNil)) (dCons (dC (.int 2147483647)) dNil))) (dCons (dB gIx (dCons (dVar 0) (dCons (dC (.int 1)) dNil))) dNil))) dNil)) (dCons (dVar 1) dNil)))) sNext) (sSetIx 0 (dC (.int 2)) (dVar 2))))) sNext) (sSeq (sIf (dTb (dB gGt (dCons (dB gIx (dCons (dVar 0) (dCons (dC (.int 2)) dNil))) (dCons (dC (.int 0)) dNil)))) (sSeq (sAsg 3 (dB gIx (dCons (dVar 0) (dCons (dC (.int 2)) dNil)))) (sSeq (sSetIx 0 (dC (.int 2)) (dB gFdiv (dCons (dB gInt (dCons (dVar 3) dNil)) (dCons (dVar 1) dNil)))) (sRet [0, 1] (dB gMod (dCons (dB gInt (dCons (dVar 3) dNil)) (dCons (dVar 1) dNil)))))) sNext) (sSeq (sSetIx 0 (dC (.int 3)) (dB gMod (dCons (dB gInt (dCons (dB gAdd (dCons (dB gIx (dCons (dVar 0) (dCons (dC (.int 3)) dNil))) (dCons (dC (.int 1)) dNil))) dNil)) (dCons (dC (.int 2147483629)) dNil)))) (sRet [0, 1] (dB gMod (dCons (dB gInt (dCons (dCall S__law_mixed [] (dCons (dB gIx (dCons (dVar 0) (dCons (dC (.int 3)) dNil))) (dCons (dB gIx (dCons (dVar 0) (dCons (dC (.int 1)) dNil))) dNil))) dNil)) (dCons (dVar 1) dNil)))))))
section
variable {P : Program} {w : World} {K : PySem.W.Frag} {mg : Str → Option Value} {base : Heap}
theorem b__law_take {dvs : List V} {fA : Addr} {fd : FuncData} (F : FunD K "_law_take" "_law_take" (defArgs s__law_take) (defBody s__law_take) (defScope s__law_take) dvs [] fA fd) {fA__law_mixed : Addr} {fd__law_mixed : FuncData} (F__law_mixed : FnQ P w K mg base (TT K) "_law_mixed" ["_law_number_here", "_law_turn"] 1 S__law_mixed fA__law_mixed fd__law_mixed) (bd__law_mixed_0 : Bd K fd__law_mixed ["_law_number_here", "_law_turn"] []) (fr_int : mg "int" = none) (fr_len : mg "len" = none) : FnG P w K mg base (L2.CX P w) 2 fA fd ["_law_hand_here", "_law_many"] (spS (TT K) (bodyS 4 [] 2 D__law_take)) :=
  fn_bodyG (R := []) (N := N__law_take) F sc__law_take rfl rfl (by decide) fun cdv A outer s H E hgd hr => by
    have tk := takes_of (X := cxOf (L2.CX P w) P w K mg base N__law_take "_law_take" (defScope s__law_take) fA cdv A outer s H E) rfl rfl rfl rfl
    have hp := passes_of (X := cxOf (L2.CX P w) P w K mg base N__law_take "_law_take" (defScope s__law_take) fA cdv A outer s H E) rfl
    have hu := hr.units
    have nd := sc__law_take.nd
    exact (show SSs (TT K) _ _ ([0, 1] : List Nat) D__law_take (defBody s__law_take) from (sss_cons (ss_if (tw (tand (teq rfl hu (eix rfl (ev 0) se_int) se_int) (tand1 (tlt (eix rfl (ev 0) se_int) (elen rfl fr_len (sc (eix rfl (ev 0) se_int) sa_nil)))))) (sss_cons (asg 2 nd (eix rfl (eix rfl (ev 0) se_int) (eix rfl (ev 0) se_int))) (sss_cons (setIx 0 (eadd rfl (eix rfl (ev 0) se_int) se_int) se_int) (sss_cons (ss_if (tlt (ev 2) (epow se_int se_int)) (sss_one (ret (emod (eint fr_int (sc (ecallG F__law_mixed rfl rfl rfl rfl rfl rfl bd__law_mixed_0 hgd (hr.mono (by decide)) tk (sc (emod (eint fr_int (sc (ev 2) sa_nil)) se_int) (sc (eix rfl (ev 0) se_int) sa_nil))) sa_nil)) (ev 1)))) sss_nil) (sss_one (setIx 0 (ev 2) se_int))))) sss_nil) (sss_cons (ss_if (tgt (eix rfl (ev 0) se_int) se_int) (sss_cons (asg 3 nd (eix rfl (ev 0) se_int)) (sss_cons (setIx 0 (efdiv (eint fr_int (sc (ev 3) sa_nil)) (ev 1)) se_int) (sss_one (ret (emod (eint fr_int (sc (ev 3) sa_nil)) (ev 1)))))) sss_nil) (sss_cons (setIx 0 (emod (eint fr_int (sc (eadd rfl (eix rfl (ev 0) se_int) se_int) sa_nil)) se_int) se_int) (sss_one (ret (emod (eint fr_int (sc (ecallG F__law_mixed rfl rfl rfl rfl rfl rfl bd__law_mixed_0 hgd (hr.mono (by decide)) tk (sc (eix rfl (ev 0) se_int) (sc (eix rfl (ev 0) se_int) sa_nil))) sa_nil)) (ev 1))))))))
end
abbrev s__law_gcd : Stmt := top 15
def N__law_gcd : List Str := ["_law_one", "_law_other"]
theorem sc__law_gcd : FnScope N__law_gcd ["_law_one", "_law_other"] (defScope s__law_gcd) := ⟨rfl, rfl, rfl, by decide +kernel, rfl, by decide +kernel, by decide +kernel⟩
def D__law_gcd : DS := (sSeq (sPar 0 1 (dCons (dB gAbs (dCons (dVar 0) dNil)) (dCons (dB gAbs (dCons (dVar 1) dNil)) dNil))) (sSeq (sWhile (dTru (dVar 1)) (sPar 0 1 (dCons (dVar 1) (dCons (dB gMod (dCons (dB gInt (dCons (dVar 0) dNil)) (dCons (dVar 1) dNil))) dNil)))) (sRet [] (dVar 0))))
section
variable {P : Program} {w : World} {K : PySem.W.Frag} {mg : Str → Option Value} {base : Heap}
theorem b__law_gcd {dvs : List V} {fA : Addr} {fd : FuncData} (F : FunD K "_law_gcd" "_law_gcd" (defArgs s__law_gcd) (defBody s__law_gcd) (defScope s__law_gcd) dvs [] fA fd) (fr_abs : mg "abs" = none) (fr_int : mg "int" = none) : FnG P w K mg base (L2.CX P w) 1 fA fd ["_law_one", "_law_other"] (spS (TT K) (bodyS 2 [0, 1] 2 D__law_gcd)) :=
  fn_bodyG (R := [0, 1]) (N := N__law_gcd) F sc__law_gcd rfl rfl (by decide) fun cdv A outer s H E hgd hr => by
    have tk := takes_of (X := cxOf (L2.CX P w) P w K mg base N__law_gcd "_law_gcd" (defScope s__law_gcd) fA cdv A outer s H E) rfl rfl rfl rfl
    have hp := passes_of (X := cxOf (L2.CX P w) P w K mg base N__law_gcd "_law_gcd" (defScope s__law_gcd) fA cdv A outer s H E) rfl
    have hu := hr.units
    have nd := sc__law_gcd.nd
    exact (show SSs (TT K) _ _ ([] : List Nat) D__law_gcd (defBody s__law_gcd) from (sss_cons (par 0 1 nd (sc (eabs fr_abs (sc (ev 0) sa_nil)) (sc (eabs fr_abs (sc (ev 1) sa_nil)) sa_nil))) (sss_cons (ss_while hp (tt rfl (ev 1)) (sss_one (par 0 1 nd (sc (ev 1) (sc (emod (eint fr_int (sc (ev 0) sa_nil)) (ev 1)) sa_nil))))) (sss_one (ret (ev 0))))))
end
abbrev s__law_ratio : Stmt := top 16
def N__law_ratio : List Str := ["_law_top", "_law_bottom", "_law_part"]
theorem sc__law_ratio : FnScope N__law_ratio ["_law_top", "_law_bottom"] (defScope s__law_ratio) := ⟨rfl, rfl, rfl, by decide +kernel, rfl, by decide +kernel, by decide +kernel⟩
def D__law_ratio : DS := (sSeq (sAsg 2 (dCall S__law_gcd [] (dCons (dVar 0) (dCons (dVar 1) dNil)))) (sSeq (sIf (dTb (dB gLt (dCons (dVar 1) (dCons (dC (.int 0)) dNil)))) (sAsg 2 (dB gNeg (dCons (dVar 2) dNil))) sNext) (sRet [0, 1] (dTup (dCons (dB gFdiv (dCons (dVar 0) (dCons (dVar 2) dNil))) (dCons (dB gFdiv (dCons (dVar 1) (dCons (dVar 2) dNil))) dNil))))))
section
variable {P : Program} {w : World} {K : PySem.W.Frag} {mg : Str → Option Value} {base : Heap}
theorem b__law_ratio {dvs : List V} {fA : Addr} {fd : FuncData} (F : FunD K "_law_ratio" "_law_ratio" (defArgs s__law_ratio) (defBody s__law_ratio) (defScope s__law_ratio) dvs [] fA fd) {fA__law_gcd : Addr} {fd__law_gcd : FuncData} (F__law_gcd : FnQ P w K mg base (TT K) "_law_gcd" ["_law_one", "_law_other"] 1 S__law_gcd fA__law_gcd fd__law_gcd) (bd__law_gcd_0 : Bd K fd__law_gcd ["_law_one", "_law_other"] []) : FnG P w K mg base (L2.CX P w) 2 fA fd ["_law_top", "_law_bottom"] (spS (TT K) (bodyS 3 [] 2 D__law_ratio)) :=
  fn_bodyG (R := []) (N := N__law_ratio) F sc__law_ratio rfl rfl (by decide) fun cdv A outer s H E hgd hr => by
    have tk := takes_of (X := cxOf (L2.CX P w) P w K mg base N__law_ratio "_law_ratio" (defScope s__law_ratio) fA cdv A outer s H E) rfl rfl rfl rfl
    have hp := passes_of (X := cxOf (L2.CX P w) P w K mg base N__law_ratio "_law_ratio" (defScope s__law_ratio) fA cdv A outer s H E) rfl
    have hu := hr.units
    have nd := sc__law_ratio.nd
    exact (show SSs (TT K) _ _ ([0, 1] : List Nat) D__law_ratio (defBody s__law_ratio) from (sss_cons (asg 2 nd (ecallG F__law_gcd rfl rfl rfl rfl rfl rfl bd__law_gcd_0 hgd (hr.mono (by decide)) tk (sc (ev 0) (sc (ev 1) sa_nil)))) (sss_cons (ss_if (tlt (ev 1) se_int) (sss_one (asg 2 nd (eneg (ev 2)))) sss_nil) (sss_one (ret (se_tup (sc (efdiv (ev 0) (ev 2)) (sc (efdiv (ev 1) (ev 2)) sa_nil))))))))
end
abbrev s__law_same : Stmt := top 17
def N__law_same : List Str := ["_law_found", "_law_due_here", "_law_part"]
theorem sc__law_same : FnScope N__law_same ["_law_found", "_law_due_here"] (defScope s__law_same) := ⟨rfl, rfl, rfl, by decide +kernel, rfl, by decide +kernel, by decide +kernel⟩
def D__law_same : DS := (sSeq (sIf (dOrT (dNotT (dTru (dIsi [] [.tuple] (dVar 0)))) (dTb (dB (gEq true) (dCons (dB gLen (dCons (dVar 0) dNil)) (dCons (dC (.int 2)) dNil))))) (sRet [0, 1] (dC (.bl false))) sNext) (sSeq (sFor [0] (iSeq (dVar 0)) (gNm 2) (sIf (dOrT (dNotT (dTru (dIsi [] [.int] (dVar 2)))) (dTru (dIsi [] [.bool] (dVar 2)))) (sRet [0, 0, 1] (dC (.bl false))) sNext)) (sRet [0, 1] (dAndV (dB (gEq false) (dCons (dB gIx (dCons (dVar 0) (dCons (dC (.int 0)) dNil))) (dCons (dB gIx (dCons (dVar 1) (dCons (dC (.int 0)) dNil))) dNil))) (dB (gEq false) (dCons (dB gIx (dCons (dVar 0) (dCons (dC (.int 1)) dNil))) (dCons (dB gIx (dCons (dVar 1) (dCons (dC (.int 1)) dNil))) dNil)))))))
section
variable {P : Program} {w : World} {K : PySem.W.Frag} {mg : Str → Option Value} {base : Heap}
theorem b__law_same {dvs : List V} {fA : Addr} {fd : FuncData} (F : FunD K "_law_same" "_law_same" (defArgs s__law_same) (defBody s__law_same) (defScope s__law_same) dvs [] fA fd) (fr_bool : mg "bool" = none) (fr_int : mg "int" = none) (fr_isinstance : mg "isinstance" = none) (fr_len : mg "len" = none) (fr_tuple : mg "tuple" = none) : FnG P w K mg base (L2.CX P w) 1 fA fd ["_law_found", "_law_due_here"] (spS (TT K) (bodyS 3 [] 2 D__law_same)) :=
  fn_bodyG (R := []) (N := N__law_same) F sc__law_same rfl rfl (by decide) fun cdv A outer s H E hgd hr => by
    have tk := takes_of (X := cxOf (L2.CX P w) P w K mg base N__law_same "_law_same" (defScope s__law_same) fA cdv A outer s H E) rfl rfl rfl rfl
    have hp := passes_of (X := cxOf (L2.CX P w) P w K mg base N__law_same "_law_same" (defScope s__law_same) fA cdv A outer s H E) rfl
    have hu := hr.units
    have nd := sc__law_same.nd
    exact (show SSs (TT K) _ _ ([0, 1] : List Nat) D__law_same (defBody s__law_same) from (sss_cons (ss_if (tw (tor (tnot (tt rfl (eisi rfl no_kn kd_tuple fr_isinstance (ev 0) (pty (n := "tuple") rfl fr_tuple (by decide +kernel))))) (tor1 (tne rfl hu (elen rfl fr_len (sc (ev 0) sa_nil)) se_int)))) (sss_one (ret se_bl)) sss_nil) (sss_cons (forr (is := [0]) hp (si_seq rfl (ev 0)) (nmi 2 nd) (sss_one (ss_if (tw (tor (tnot (tt rfl (eisi rfl no_kn kd_int fr_isinstance (ev 2) (pty (n := "int") rfl fr_int (by decide +kernel))))) (tor1 (tt rfl (eisi rfl no_kn kd_bool fr_isinstance (ev 2) (pty (n := "bool") rfl fr_bool (by decide +kernel))))))) (sss_one (ret se_bl)) sss_nil))) (sss_one (ret (se_and rfl (eeq rfl hu (eix rfl (ev 0) se_int) (eix rfl (ev 1) se_int)) (se_one (eeq rfl hu (eix rfl (ev 0) se_int) (eix rfl (ev 1) se_int)))))))))
end
abbrev s__law_number : Stmt := top 18
def N__law_number : List Str := ["_law_hand_here", "_law_size", "_law_turn"]
theorem sc__law_number : FnScope N__law_number ["_law_hand_here"] (defScope s__law_number) := ⟨rfl, rfl, rfl, by decide +kernel, rfl, by decide +kernel, by decide +kernel⟩
def D__law_number : DS := (sSeq (sIf (dTru (dCall S__law_take [] (dCons (dVar 0) (dCons (dC (.int 3)) dNil)))) (sRet [0] (dB gSub (dCons (dCall S__law_take [] (dCons (dVar 0) (dCons (dC (.int 40)) dNil))) (dCons (dC (.int 20)) dNil)))) sNext) (sSeq (sAsg 1 (dC (.int 0))) (sSeq (sFor [] (iRg1 (dB gAdd (dCons (dC (.int 1)) (dCons (dCall S__law_take [] (dCons (dVar 0) (dCons (dC (.int 4)) dNil))) dNil)))) (gNm 2) (sAsg 1 (dB gAdd (dCons (dB gMul (dCons (dVar 1) (dCons (dB gPow (dCons (dC (.int 10)) (dCons (dC (.int 8)) dNil))) dNil))) (dCons (dCall S__law_take [] (dCons (dVar 0) (dCons (dB gPow (dCons (dC (.int 10)) (dCons (dC (.int 8)) dNil))) dNil))) dNil))))) (sRet [0] (dIf (dTru (dCall S__law_take [] (dCons (dVar 0) (dCons (dC (.int 2)) dNil)))) (dVar 1) (dB gNeg (dCons (dVar 1) dNil)))))))
section
variable {P : Program} {w : World} {K : PySem.W.Frag} {mg : Str → Option Value} {base : Heap}
theorem b__law_number {dvs : List V} {fA : Addr} {fd : FuncData} (F : FunD K "_law_number" "_law_number" (defArgs s__law_number) (defBody s__law_number) (defScope s__law_number) dvs [] fA fd) {fA__law_take : Addr} {fd__law_take : FuncData} (F__law_take : FnQ P w K mg base (TT K) "_law_take" ["_law_hand_here", "_law_many"] 2 S__law_take fA__law_take fd__law_take) (bd__law_take_0 : Bd K fd__law_take ["_law_hand_here", "_law_many"] []) (fr_range : mg "range" = none) : FnG P w K mg base (L2.CX P w) 3 fA fd ["_law_hand_here"] (spS (TT K) (bodyS 3 [] 1 D__law_number)) :=
  fn_bodyG (R := []) (N := N__law_number) F sc__law_number rfl rfl (by decide) fun cdv A outer s H E hgd hr => by
    have tk := takes_of (X := cxOf (L2.CX P w) P w K mg base N__law_number "_law_number" (defScope s__law_number) fA cdv A outer s H E) rfl rfl rfl rfl
    have hp := passes_of (X := cxOf (L2.CX P w) P w K mg base N__law_number "_law_number" (defScope s__law_number) fA cdv A outer s H E) rfl
    have hu := hr.units
    have nd := sc__law_number.nd
    exact (show SSs (TT K) _ _ ([0] : List Nat) D__law_number (defBody s__law_number) from (sss_cons (ss_if (tt rfl (ecallG F__law_take rfl rfl rfl rfl rfl rfl bd__law_take_0 hgd (hr.mono (by decide)) tk (sc (ev 0) (sc se_int sa_nil)))) (sss_one (ret (esub (ecallG F__law_take rfl rfl rfl rfl rfl rfl bd__law_take_0 hgd (hr.mono (by decide)) tk (sc (ev 0) (sc se_int sa_nil))) se_int))) sss_nil) (sss_cons (asg 1 nd se_int) (sss_cons (forr (is := []) hp (rg1 fr_range (eadd rfl se_int (ecallG F__law_take rfl rfl rfl rfl rfl rfl bd__law_take_0 hgd (hr.mono (by decide)) tk (sc (ev 0) (sc se_int sa_nil))))) (nmi 2 nd) (sss_one (asg 1 nd (eadd rfl (emul rfl (ev 1) (epow se_int se_int)) (ecallG F__law_take rfl rfl rfl rfl rfl rfl bd__law_take_0 hgd (hr.mono (by decide)) tk (sc (ev 0) (sc (epow se_int se_int) sa_nil))))))) (sss_one (ret (se_if (tt rfl (ecallG F__law_take rfl rfl rfl rfl rfl rfl bd__law_take_0 hgd (hr.mono (by decide)) tk (sc (ev 0) (sc se_int sa_nil)))) (ev 1) (eneg (ev 1)))))))))
end
abbrev s__law_any_ratio : Stmt := top 19
def N__law_any_ratio : List Str := ["_law_hand_here", "_law_pick", "_law_bottom"]
theorem sc__law_any_ratio : FnScope N__law_any_ratio ["_law_hand_here"] (defScope s__law_any_ratio) := ⟨rfl, rfl, rfl, by decide +kernel, rfl, by decide +kernel, by decide +kernel⟩
def D__law_any_ratio : DS := (sSeq (sAsg 1 (dCall S__law_take [] (dCons (dVar 0) (dCons (dC (.int 5)) dNil)))) (sSeq (sIf (dTb (dB (gEq false) (dCons (dVar 1) (dCons (dC (.int 0)) dNil)))) (sRet [0] (dTup (dCons (dC (.int 0)) (dCons (dC (.int 1)) dNil)))) sNext) (sSeq (sIf (dTb (dB (gEq false) (dCons (dVar 1) (dCons (dC (.int 1)) dNil)))) (sRet [0] (dTup (dCons (dB gSub (dCons (dCall S__law_take [] (dCons (dVar 0) (dCons (dC (.int 7)) dNil))) (dCons (dC (.int 3)) dNil))) (dCons (dC (.int 1)) dNil)))) sNext) (sSeq (sAsg 2 (dB gAbs (dCons (dCall S__law_number [] (dCons (dVar 0) dNil)) dNil))) (sRet [0] (dCall S__law_ratio [] (dCons (dCall S__law_number [] (dCons (dVar 0) dNil)) (dCons (dIf (dTru (dVar 2)) (dVar 2) (dC (.int 1))) dNil))))))))
section
variable {P : Program} {w : World} {K : PySem.W.Frag} {mg : Str → Option Value} {base : Heap}
theorem b__law_any_ratio {dvs : List V} {fA : Addr} {fd : FuncData} (F : FunD K "_law_any_ratio" "_law_any_ratio" (defArgs s__law_any_ratio) (defBody s__law_any_ratio) (defScope s__law_any_ratio) dvs [] fA fd) {fA__law_number : Addr} {fd__law_number : FuncData} (F__law_number : FnQ P w K mg base (TT K) "_law_number" ["_law_hand_here"] 3 S__law_number fA__law_number fd__law_number) {fA__law_ratio : Addr} {fd__law_ratio : FuncData} (F__law_ratio : FnQ P w K mg base (TT K) "_law_ratio" ["_law_top", "_law_bottom"] 2 S__law_ratio fA__law_ratio fd__law_ratio) {fA__law_take : Addr} {fd__law_take : FuncData} (F__law_take : FnQ P w K mg base (TT K) "_law_take" ["_law_hand_here", "_law_many"] 2 S__law_take fA__law_take fd__law_take) (bd__law_number_0 : Bd K fd__law_number ["_law_hand_here"] []) (bd__law_ratio_0 : Bd K fd__law_ratio ["_law_top", "_law_bottom"] []) (bd__law_take_0 : Bd K fd__law_take ["_law_hand_here", "_law_many"] []) (fr_abs : mg "abs" = none) : FnG P w K mg base (L2.CX P w) 4 fA fd ["_law_hand_here"] (spS (TT K) (bodyS 3 [] 1 D__law_any_ratio)) :=
  fn_bodyG (R := []) (N := N__law_any_ratio) F sc__law_any_ratio rfl rfl (by decide) fun cdv A outer s H E hgd hr => by
    have tk := takes_of (X := cxOf (L2.CX P w) P w K mg base N__law_any_ratio "_law_any_ratio" (defScope s__law_any_ratio) fA cdv A outer s H E) rfl rfl rfl rfl
    have hp := passes_of (X := cxOf (L2.CX P w) P w K mg base N__law_any_ratio "_law_any_ratio" (defScope s__law_any_ratio) fA cdv A outer s H E) rfl
    have hu := hr.units
    have nd := sc__law_any_ratio.nd
    exact (show SSs (TT K) _ _ ([0] : List Nat) D__law_any_ratio (defBody s__law_any_ratio) from (sss_cons (asg 1 nd (ecallG F__law_take rfl rfl rfl rfl rfl rfl bd__law_take_0 hgd (hr.mono (by decide)) tk (sc (ev 0) (sc se_int sa_nil)))) (sss_cons (ss_if (teq rfl hu (ev 1) se_int) (sss_one (ret (se_tup (sc se_int (sc se_int sa_nil))))) sss_nil) (sss_cons (ss_if (teq rfl hu (ev 1) se_int) (sss_one (ret (se_tup (sc (esub (ecallG F__law_take rfl rfl rfl rfl rfl rfl bd__law_take_0 hgd (hr.mono (by decide)) tk (sc (ev 0) (sc se_int sa_nil))) se_int) (sc se_int sa_nil))))) sss_nil) (sss_cons (asg 2 nd (eabs fr_abs (sc (ecallG F__law_number rfl rfl rfl rfl rfl rfl bd__law_number_0 hgd (hr.mono (by decide)) tk (sc (ev 0) sa_nil)) sa_nil))) (sss_one (ret (ecallG F__law_ratio rfl rfl rfl rfl rfl rfl bd__law_ratio_0 hgd (hr.mono (by decide)) tk (sc (ecallG F__law_number rfl rfl rfl rfl rfl rfl bd__law_number_0 hgd (hr.mono (by decide)) tk (sc (ev 0) sa_nil)) (sc (se_if (tt rfl (ev 2)) (ev 2) se_int) sa_nil))))))))))
end
abbrev s__law_odd : Stmt := top 20
def N__law_odd : List Str := ["_law_hand_here"]
theorem sc__law_odd : FnScope N__law_odd ["_law_hand_here"] (defScope s__law_odd) := ⟨rfl, rfl, rfl, by decide +kernel, rfl, by decide +kernel, by decide +kernel⟩
def D__law_odd : DS := (sRet [0] (dB gIx (dCons (dLst (dCons (dC .non) (dCons (dC (.bl true)) (dCons (dC (.bl false)) (dCons (dC (.str "1")) (dCons (dTup dNil) (dCons (dLst (dCons (dC (.int 1)) (dCons (dC (.int 2)) dNil))) (dCons (dTup (dCons (dC (.int 2)) (dCons (dC (.int 4)) dNil))) (dCons (dTup (dCons (dC (.int 1)) (dCons (dC (.int 0)) dNil))) (dCons (dTup (dCons (dC (.int 1)) (dCons (dB gNeg (dCons (dC (.int 1)) dNil)) dNil))) (dCons (dTup (dCons (dC (.bl true)) (dCons (dC (.int 1)) dNil))) (dCons (dTup (dCons (dC (.int 1)) (dCons (dC (.bl true)) dNil))) (dCons (dTup (dCons (dC (.int 1)) (dCons (dC (.int 2)) (dCons (dC (.int 3)) dNil)))) (dCons (dLst (dCons (dC (.int 3)) (dCons (dC (.int 1)) dNil))) dNil)))))))))))))) (dCons (dCall S__law_take [] (dCons (dVar 0) (dCons (dC (.int 13)) dNil))) dNil))))
section
variable {P : Program} {w : World} {K : PySem.W.Frag} {mg : Str → Option Value} {base : Heap}
theorem b__law_odd {dvs : List V} {fA : Addr} {fd : FuncData} (F : FunD K "_law_odd" "_law_odd" (defArgs s__law_odd) (defBody s__law_odd) (defScope s__law_odd) dvs [] fA fd) {fA__law_take : Addr} {fd__law_take : FuncData} (F__law_take : FnQ P w K mg base (TT K) "_law_take" ["_law_hand_here", "_law_many"] 2 S__law_take fA__law_take fd__law_take) (bd__law_take_0 : Bd K fd__law_take ["_law_hand_here", "_law_many"] []) : FnG P w K mg base (L2.CX P w) 3 fA fd ["_law_hand_here"] (spS (TT K) (bodyS 1 [] 1 D__law_odd)) :=
  fn_bodyG (R := []) (N := N__law_odd) F sc__law_odd rfl rfl (by decide) fun cdv A outer s H E hgd hr => by
    have tk := takes_of (X := cxOf (L2.CX P w) P w K mg base N__law_odd "_law_odd" (defScope s__law_odd) fA cdv A outer s H E) rfl rfl rfl rfl
    have hp := passes_of (X := cxOf (L2.CX P w) P w K mg base N__law_odd "_law_odd" (defScope s__law_odd) fA cdv A outer s H E) rfl
    have hu := hr.units
    have nd := sc__law_odd.nd
    exact (show SSs (TT K) _ _ ([0] : List Nat) D__law_odd (defBody s__law_odd) from (sss_one (ret (eix rfl (se_lst (sc se_non (sc se_bl (sc se_bl (sc se_str (sc (se_tup sa_nil) (sc (se_lst (sc se_int (sc se_int sa_nil))) (sc (se_tup (sc se_int (sc se_int sa_nil))) (sc (se_tup (sc se_int (sc se_int sa_nil))) (sc (se_tup (sc se_int (sc (eneg se_int) sa_nil))) (sc (se_tup (sc se_bl (sc se_int sa_nil))) (sc (se_tup (sc se_int (sc se_bl sa_nil))) (sc (se_tup (sc se_int (sc se_int (sc se_int sa_nil)))) (sc (se_lst (sc se_int (sc se_int sa_nil))) sa_nil)))))))))))))) (ecallG F__law_take rfl rfl rfl rfl rfl rfl bd__law_take_0 hgd (hr.mono (by decide)) tk (sc (ev 0) (sc se_int sa_nil)))))))
end
abbrev s__law_text : Stmt := top 21
def N__law_text : List Str := ["_law_one"]
theorem sc__law_text : FnScope N__law_text ["_law_one"] (defScope s__law_text) := ⟨rfl, rfl, rfl, by decide +kernel, rfl, by decide +kernel, by decide +kernel⟩
def D__law_text : DS := (sRet [0] (dIf (dTb (dB (gEq false) (dCons (dB gIx (dCons (dVar 0) (dCons (dC (.int 1)) dNil))) (dCons (dC (.int 1)) dNil)))) (dB gStr (dCons (dB gIx (dCons (dVar 0) (dCons (dC (.int 0)) dNil))) dNil)) (dB gAdd (dCons (dB gAdd (dCons (dB gStr (dCons (dB gIx (dCons (dVar 0) (dCons (dC (.int 0)) dNil))) dNil)) (dCons (dC (.str "/")) dNil))) (dCons (dB gStr (dCons (dB gIx (dCons (dVar 0) (dCons (dC (.int 1)) dNil))) dNil)) dNil)))))
section
variable {P : Program} {w : World} {K : PySem.W.Frag} {mg : Str → Option Value} {base : Heap}
theorem b__law_text {dvs : List V} {fA : Addr} {fd : FuncData} (F : FunD K "_law_text" "_law_text" (defArgs s__law_text) (defBody s__law_text) (defScope s__law_text) dvs [] fA fd) (fr_str : mg "str" = none) : FnG P w K mg base (L2.CX P w) 1 fA fd ["_law_one"] (spS (TT K) (bodyS 1 [] 1 D__law_text)) :=
  fn_bodyG (R := []) (N := N__law_text) F sc__law_text rfl rfl (by decide) fun cdv A outer s H E hgd hr => by
    have tk := takes_of (X := cxOf (L2.CX P w) P w K mg base N__law_text "_law_text" (defScope s__law_text) fA cdv A outer s H E) rfl rfl rfl rfl
    have hp := passes_of (X := cxOf (L2.CX P w) P w K mg base N__law_text "_law_text" (defScope s__law_text) fA cdv A outer s H E) rfl
    have hu := hr.units
    have nd := sc__law_text.nd
    exact (show SSs (TT K) _ _ ([0] : List Nat) D__law_text (defBody s__law_text) from (sss_one (ret (se_if (teq rfl hu (eix rfl (ev 0) se_int) se_int) (estr fr_str (sc (eix rfl (ev 0) se_int) sa_nil)) (eadd rfl (eadd rfl (estr fr_str (sc (eix rfl (ev 0) se_int) sa_nil)) se_str) (estr fr_str (sc (eix rfl (ev 0) se_int) sa_nil)))))))
end
abbrev s__law_read : Stmt := top 22
def N__law_read : List Str := ["_law_text_here", "_law_found", "raised"]
theorem sc__law_read : FnScope N__law_read ["_law_text_here"] (defScope s__law_read) := ⟨rfl, rfl, rfl, by decide +kernel, rfl, by decide +kernel, by decide +kernel⟩
def D__law_read : DS := (sSeq (sTryAs 2 mx_BadRatio (sAsg 1 (dCall S_ratio_of [] (dCons (dVar 0) dNil))) (fun e => (sRet [2, 0] (dTup (dCons (dXf [1] 0 e) dNil))))) (sRet [0] (dVar 1)))
section
variable {P : Program} {w : World} {K : PySem.W.Frag} {mg : Str → Option Value} {base : Heap}
theorem b__law_read {dvs : List V} {fA : Addr} {fd : FuncData} (F : FunD K "_law_read" "_law_read" (defArgs s__law_read) (defBody s__law_read) (defScope s__law_read) dvs [] fA fd) {fA_ratio_of : Addr} {fd_ratio_of : FuncData} (F_ratio_of : FnQ P w K mg base (TT K) "ratio_of" ["text"] 3 S_ratio_of fA_ratio_of fd_ratio_of) (bd_ratio_of_0 : Bd K fd_ratio_of ["text"] []) (mg_BadRatio : mg "BadRatio" = some (.ref (He.ga K "BadRatio"))) (ex_BadRatio : ∀ k b, mx_BadRatio k = some b → PySem.W.exmOne K (.ref ((TT K).ca k)) (.ref (He.ga K "BadRatio")) = some b) (xf_1_what : ∀ c ∈ [1], excB K ((TT K).ca c) = true ∧ PySem.W.findIn K (.ref ((TT K).ca c)) "what" = some none) : FnG P w K mg base (L2.CX P w) 4 fA fd ["_law_text_here"] (spS (TT K) (bodyS 3 [] 1 D__law_read)) :=
  fn_bodyG (R := []) (N := N__law_read) F sc__law_read rfl rfl (by decide) fun cdv A outer s H E hgd hr => by
    have tk := takes_of (X := cxOf (L2.CX P w) P w K mg base N__law_read "_law_read" (defScope s__law_read) fA cdv A outer s H E) rfl rfl rfl rfl
    have hp := passes_of (X := cxOf (L2.CX P w) P w K mg base N__law_read "_law_read" (defScope s__law_read) fA cdv A outer s H E) rfl
    have hu := hr.units
    have nd := sc__law_read.nd
    exact (show SSs (TT K) _ _ ([0] : List Nat) D__law_read (defBody s__law_read) from (sss_cons (ss_try_as (i := 2) (c := .ref (He.ga K "BadRatio")) rfl rfl nd rfl rfl ⟨rfl, by decide, .inl mg_BadRatio⟩ tk (by decide) ex_BadRatio (fun W1 pn1 xe1 tk1 hp1 => (sss_one (asg 1 nd (ecallG F_ratio_of rfl rfl rfl rfl rfl rfl bd_ratio_of_0 hgd (hr.mono (by decide)) tk1 (sc (ev 0) sa_nil))))) (fun a oe cls d pn1 e U hz hf S => (sss_one (ret (se_tup (sc (se_xf (T := TT K) (i := 2) (k := 0) rfl S hz hf xf_1_what nmnd rfl rfl (by first | exact Or.inl rfl | exact Or.inr (Or.inl rfl) | exact Or.inr (Or.inr rfl)) (by decide) (by decide) rfl) sa_nil)))))) (sss_one (ret (ev 1)))))
end
abbrev s__law_figures : Stmt := top 23
def N__law_figures : List Str := ["_law_text_here", "_law_sign"]
theorem sc__law_figures : FnScope N__law_figures ["_law_text_here"] (defScope s__law_figures) := ⟨rfl, rfl, rfl, by decide +kernel, rfl, by decide +kernel, by decide +kernel⟩
def D__law_figures : DS := (sSeq (sIf (dOrT (dTb (dB (gEq false) (dCons (dVar 0) (dCons (dC (.str "")) dNil)))) (dOrT (dTb (dB gGt (dCons (dB gLen (dCons (dVar 0) dNil)) (dCons (dC (.int 300)) dNil)))) (dTru (dLc [1] (iSeq (dVar 0)) (gNm 1) (dTb (dB (gIn true) (dCons (dVar 1) (dCons (dC (.str "0123456789")) dNil)))) (dC (.int 1)))))) (sRet [0] (dC (.bl false))) sNext) (sRet [0] (dOrV (dB (gEq false) (dCons (dVar 0) (dCons (dC (.str "0")) dNil))) (dB (gEq true) (dCons (dB gIx (dCons (dVar 0) (dCons (dC (.int 0)) dNil))) (dCons (dC (.str "0")) dNil))))))
section
variable {P : Program} {w : World} {K : PySem.W.Frag} {mg : Str → Option Value} {base : Heap}
theorem b__law_figures {dvs : List V} {fA : Addr} {fd : FuncData} (F : FunD K "_law_figures" "_law_figures" (defArgs s__law_figures) (defBody s__law_figures) (defScope s__law_figures) dvs [] fA fd) (fr_len : mg "len" = none) : FnG P w K mg base (L2.CX P w) 1 fA fd ["_law_text_here"] (spS (TT K) (bodyS 2 [] 1 D__law_figures)) :=
  fn_bodyG (R := []) (N := N__law_figures) F sc__law_figures rfl rfl (by decide) fun cdv A outer s H E hgd hr => by
    have tk := takes_of (X := cxOf (L2.CX P w) P w K mg base N__law_figures "_law_figures" (defScope s__law_figures) fA cdv A outer s H E) rfl rfl rfl rfl
    have hp := passes_of (X := cxOf (L2.CX P w) P w K mg base N__law_figures "_law_figures" (defScope s__law_figures) fA cdv A outer s H E) rfl
    have hu := hr.units
    have nd := sc__law_figures.nd
    exact (show SSs (TT K) _ _ ([0] : List Nat) D__law_figures (defBody s__law_figures) from (sss_cons (ss_if (tw (tor (teq rfl hu (ev 0) se_str) (tor (tgt (elen rfl fr_len (sc (ev 0) sa_nil)) se_int) (tor1 (tt rfl (se_lc (own := [("_law_sign", 1)]) rfl rfl nd (si_seq rfl (ev 0)) (blkOk_by (N := N__law_figures) (sc := defScope s__law_figures) (by kernel_rfl)) (fun s2 H2 C2 cl2 fp2 => (show SG (TT K) _ ([0] : List Nat) (gNm 1) _ from (nmi 1 nd))) (fun s2 H2 C2 cl2 fp2 => (pts_one (tnin (ev 1) se_str))) (fun s2 H2 C2 cl2 fp2 => se_int) (fun _ => rfl))))))) (sss_one (ret se_bl)) sss_nil) (sss_one (ret (se_or rfl (eeq rfl hu (ev 0) se_str) (se_one (ene rfl hu (eix rfl (ev 0) se_int) se_str)))))))
end
abbrev s__law_due : Stmt := top 24
def N__law_due : List Str := ["_law_text_here", "_law_bare", "_law_parts", "_law_top", "_law_bottom", "_law_one", "_law_part"]
theorem sc__law_due : FnScope N__law_due ["_law_text_here"] (defScope s__law_due) := ⟨rfl, rfl, rfl, by decide +kernel, rfl, by decide +kernel, by decide +kernel⟩
def D__law_due : DS := (sSeq (sAsg 1 (dIf (dTb (dB (gEq false) (dCons (dSl dPart0 (dPart (dC (.int 1))) (dVar 0)) (dCons (dC (.str "-")) dNil)))) (dSl (dPart (dC (.int 1))) dPart0 (dVar 0)) (dVar 0))) (sSeq (sAsg 2 (dM1 gSplit (dVar 1) (dC (.str "/")))) (sSeq (sIf (dOrT (dTb (dB gGt (dCons (dB gLen (dCons (dVar 2) dNil)) (dCons (dC (.int 2)) dNil)))) (dTru (dLc [6] (iSeq (dVar 2)) (gNm 6) (dNotT (dTru (dCall S__law_figures [] (dCons (dVar 6) dNil)))) (dC (.int 1))))) (sRet [0] (dC .non)) sNext) (sSeq (sPar 3 4 (dCons (dB gInt (dCons (dB gIx (dCons (dVar 2) (dCons (dC (.int 0)) dNil))) dNil)) (dCons (dIf (dTb (dB (gEq false) (dCons (dB gLen (dCons (dVar 2) dNil)) (dCons (dC (.int 2)) dNil)))) (dB gInt (dCons (dB gIx (dCons (dVar 2) (dCons (dB gNeg (dCons (dC (.int 1)) dNil)) dNil))) dNil)) (dC (.int 1))) dNil))) (sSeq (sIf (dTb (dB (gEq false) (dCons (dSl dPart0 (dPart (dC (.int 1))) (dVar 0)) (dCons (dC (.str "-")) dNil)))) (sAsg 3 (dB gNeg (dCons (dVar 3) dNil))) sNext) (sSeq (sIf (dTb (dB (gEq false) (dCons (dVar 4) (dCons (dC (.int 0)) dNil)))) (sRet [0] (dC .non)) sNext) (sSeq (sAsg 5 (dCall S__law_ratio [] (dCons (dVar 3) (dCons (dVar 4) dNil)))) (sRet [0] (dIf (dTb (dB (gEq false) (dCons (dCall S__law_text [] (dCons (dVar 5) dNil)) (dCons (dVar 0) dNil)))) (dVar 5) (dC .non))))))))))
section
variable {P : Program} {w : World} {K : PySem.W.Frag} {mg : Str → Option Value} {base : Heap}
theorem b__law_due {dvs : List V} {fA : Addr} {fd : FuncData} (F : FunD K "_law_due" "_law_due" (defArgs s__law_due) (defBody s__law_due) (defScope s__law_due) dvs [] fA fd) {fA__law_figures : Addr} {fd__law_figures : FuncData} (F__law_figures : FnQ P w K mg base (TT K) "_law_figures" ["_law_text_here"] 1 S__law_figures fA__law_figures fd__law_figures) {fA__law_ratio : Addr} {fd__law_ratio : FuncData} (F__law_ratio : FnQ P w K mg base (TT K) "_law_ratio" ["_law_top", "_law_bottom"] 2 S__law_ratio fA__law_ratio fd__law_ratio) {fA__law_text : Addr} {fd__law_text : FuncData} (F__law_text : FnQ P w K mg base (TT K) "_law_text" ["_law_one"] 1 S__law_text fA__law_text fd__law_text) (bd__law_figures_0 : Bd K fd__law_figures ["_law_text_here"] []) (bd__law_ratio_0 : Bd K fd__law_ratio ["_law_top", "_law_bottom"] []) (bd__law_text_0 : Bd K fd__law_text ["_law_one"] []) (fr_int : mg "int" = none) (fr_len : mg "len" = none) : FnG P w K mg base (L2.CX P w) 3 fA fd ["_law_text_here"] (spS (TT K) (bodyS 7 [] 1 D__law_due)) :=
  fn_bodyG (R := []) (N := N__law_due) F sc__law_due rfl rfl (by decide) fun cdv A outer s H E hgd hr => by
    have tk := takes_of (X := cxOf (L2.CX P w) P w K mg base N__law_due "_law_due" (defScope s__law_due) fA cdv A outer s H E) rfl rfl rfl rfl
    have hp := passes_of (X := cxOf (L2.CX P w) P w K mg base N__law_due "_law_due" (defScope s__law_due) fA cdv A outer s H E) rfl
    have hu := hr.units
    have nd := sc__law_due.nd
    exact (show SSs (TT K) _ _ ([0] : List Nat) D__law_due (defBody s__law_due) from (sss_cons (asg 1 nd (se_if (teq rfl hu (esl rfl (ev 0) so_none (so_some se_int)) se_str) (esl rfl (ev 0) (so_some se_int) so_none) (ev 0))) (sss_cons (asg 2 nd (esplit (ev 1) se_str)) (sss_cons (ss_if (tw (tor (tgt (elen rfl fr_len (sc (ev 2) sa_nil)) se_int) (tor1 (tt rfl (se_lc (own := [("_law_part", 6)]) rfl rfl nd (si_seq rfl (ev 2)) (blkOk_by (N := N__law_due) (sc := defScope s__law_due) (by kernel_rfl)) (fun s2 H2 C2 cl2 fp2 => (show SG (TT K) _ ([0, 1, 2, 3, 4, 5] : List Nat) (gNm 6) _ from (nmi 6 nd))) (fun s2 H2 C2 cl2 fp2 => (pts_one (tnot (tt rfl (ecallG F__law_figures rfl rfl rfl rfl rfl rfl bd__law_figures_0 hgd (hr.mono (by decide)) takes0 (sc (ev 6) sa_nil)))))) (fun s2 H2 C2 cl2 fp2 => se_int) (fun _ => rfl)))))) (sss_one (ret se_non)) sss_nil) (sss_cons (par 3 4 nd (sc (eint fr_int (sc (eix rfl (ev 2) se_int) sa_nil)) (sc (se_if (teq rfl hu (elen rfl fr_len (sc (ev 2) sa_nil)) se_int) (eint fr_int (sc (eix rfl (ev 2) (eneg se_int)) sa_nil)) se_int) sa_nil))) (sss_cons (ss_if (teq rfl hu (esl rfl (ev 0) so_none (so_some se_int)) se_str) (sss_one (asg 3 nd (eneg (ev 3)))) sss_nil) (sss_cons (ss_if (teq rfl hu (ev 4) se_int) (sss_one (ret se_non)) sss_nil) (sss_cons (asg 5 nd (ecallG F__law_ratio rfl rfl rfl rfl rfl rfl bd__law_ratio_0 hgd (hr.mono (by decide)) tk (sc (ev 3) (sc (ev 4) sa_nil)))) (sss_one (ret (se_if (teq rfl hu (ecallG F__law_text rfl rfl rfl rfl rfl rfl bd__law_text_0 hgd (hr.mono (by decide)) tk (sc (ev 5) sa_nil)) (ev 0)) (ev 5) se_non)))))))))))
end
abbrev s_law : Stmt := top 25
def N_law : List Str := ["_law_script", "_law_hand_here", "_law_turn", "_law_one", "_law_text_here", "_law_place", "_law_sign", "_law_spoilt", "_law_due_here", "_law_found", "_law_odd_here", "_law_many", "_law_figure", "_law_lying"]
theorem sc_law : FnScope N_law ["_law_script"] (defScope s_law) := ⟨rfl, rfl, rfl, by decide +kernel, rfl, by decide +kernel, by decide +kernel⟩
def D_law : DS := (sSeq (sAsg 1 (dCall S__law_hand [] (dCons (dVar 0) dNil))) (sSeq (sFor [] (iRg1 (dC (.int 5))) (gNm 2) (sSeq (sAsg 3 (dCall S__law_any_ratio [] (dCons (dVar 1) dNil))) (sSeq (sAsg 4 (dCall S__law_text [] (dCons (dVar 3) dNil))) (sSeq (sIf (dOrT (dTb (dB (gEq true) (dCons (dCall S_ratio_text [] (dCons (dVar 3) dNil)) (dCons (dVar 4) dNil)))) (dNotT (dTru (dCall S__law_same [] (dCons (dCall S__law_read [] (dCons (dVar 4) dNil)) (dCons (dVar 3) dNil)))))) (sRet [0] (dC (.bl false))) sNext) (sSeq (sAsg 5 (dCall S__law_take [] (dCons (dVar 1) (dCons (dB gAdd (dCons (dB gLen (dCons (dVar 4) dNil)) (dCons (dC (.int 1)) dNil))) dNil)))) (sSeq (sAsg 6 (dB gIx (dCons (dLst (dCons (dC (.str "-")) (dCons (dC (.str "/")) (dCons (dC (.str "0")) (dCons (dC (.str "1")) (dCons (dC (.str "2")) (dCons (dC (.str " ")) (dCons (dC (.str "+")) (dCons (dC (.str ".")) (dCons (dC (.str "x")) (dCons (dC (.str "")) (dCons (dC (.str "/1")) (dCons (dC (.str "--")) (dCons (dC (.str "_")) (dCons (dC (.str "\n")) (dCons (dC (.str "3/")) dNil)))))))))))))))) (dCons (dCall S__law_take [] (dCons (dVar 1) (dCons (dC (.int 15)) dNil))) dNil)))) (sSeq (sAsg 7 (dB gAdd (dCons (dB gAdd (dCons (dSl dPart0 (dPart (dVar 5)) (dVar 4)) (dCons (dVar 6) dNil))) (dCons (dSl (dPart (dB gAdd (dCons (dVar 5) (dCons (dCall S__law_take [] (dCons (dVar 1) (dCons (dC (.int 2)) dNil))) dNil)))) dPart0 (dVar 4)) dNil)))) (sSeq (sPar 8 9 (dCons (dCall S__law_due [] (dCons (dVar 7) dNil)) (dCons (dCall S__law_read [] (dCons (dVar 7) dNil)) dNil))) (sSeq (sIf (dTb (dB (gIs false) (dCons (dVar 8) (dCons (dC .non) dNil)))) (sIf (dTb (dB (gEq true) (dCons (dVar 9) (dCons (dTup (dCons (dC (.str "text")) dNil)) dNil)))) (sRet [0] (dC (.bl false))) sNext) (sIf (dNotT (dTru (dCall S__law_same [] (dCons (dVar 9) (dCons (dVar 8) dNil))))) (sRet [0] (dC (.bl false))) sNext)) (sSeq (sAsg 10 (dCall S__law_odd [] (dCons (dVar 1) dNil))) (sIf (dAndT (dNotT (dTru (dIsi [] [.str] (dVar 10)))) (dTb (dB (gEq true) (dCons (dCall S__law_read [] (dCons (dVar 10) dNil)) (dCons (dTup (dCons (dC (.str "text")) dNil)) dNil))))) (sRet [0] (dC (.bl false))) sNext))))))))))) (sSeq (sAsg 11 (dB gAdd (dCons (dC (.int 299)) (dCons (dCall S__law_take [] (dCons (dVar 1) (dCons (dC (.int 4)) dNil))) dNil)))) (sSeq (sAsg 12 (dB gStr (dCons (dB gAdd (dCons (dC (.int 1)) (dCons (dCall S__law_take [] (dCons (dVar 1) (dCons (dC (.int 9)) dNil))) dNil))) dNil))) (sSeq (sAsg 4 (dB gMul (dCons (dVar 12) (dCons (dVar 11) dNil)))) (sSeq (sAsg 13 (dCall S__law_read [] (dCons (dB gAdd (dCons (dC (.str "1/")) (dCons (dVar 4) dNil))) dNil))) (sSeq (sAsg 8 (dCall S__law_due [] (dCons (dB gAdd (dCons (dC (.str "1/")) (dCons (dVar 4) dNil))) dNil))) (sSeq (sIf (dTb (dB (gIs false) (dCons (dVar 8) (dCons (dC .non) dNil)))) (sIf (dTb (dB (gEq true) (dCons (dVar 13) (dCons (dTup (dCons (dC (.str "text")) dNil)) dNil)))) (sRet [0] (dC (.bl false))) sNext) (sIf (dNotT (dTru (dCall S__law_same [] (dCons (dVar 13) (dCons (dVar 8) dNil))))) (sRet [0] (dC (.bl false))) sNext)) (sSeq (sAsg 9 (dCall S__law_read [] (dCons (dB gAdd (dCons (dC (.str "-")) (dCons (dVar 4) dNil))) dNil))) (sSeq (sIf (dTb (dB gGt (dCons (dVar 11) (dCons (dC (.int 300)) dNil)))) (sRet [0] (dB (gEq false) (dCons (dVar 9) (dCons (dTup (dCons (dC (.str "text")) dNil)) dNil)))) sNext) (sRet [0] (dAndV (dCall S__law_same [] (dCons (dVar 9) (dCons (dTup (dCons (dB gNeg (dCons (dB gInt (dCons (dVar 4) dNil)) dNil)) (dCons (dC (.int 1)) dNil))) dNil))) (dB (gEq false) (dCons (dCall S_ratio_text [] (dCons (dVar 9) dNil)) (dCons (dB gAdd (dCons (dC (.str "-")) (dCons (dVar 4) dNil))) dNil)))))))))))))))
section
variable {P : Program} {w : World} {K : PySem.W.Frag} {mg : Str → Option Value} {base : Heap}
theorem b_law {dvs : List V} {fA : Addr} {fd : FuncData} (F : FunD K "law" "law" (defArgs s_law) (defBody s_law) (defScope s_law) dvs [] fA fd) {fA__law_any_ratio : Addr} {fd__law_any_ratio : FuncData} (F__law_any_ratio : FnQ P w K mg base (TT K) "_law_any_ratio" ["_law_hand_here"] 4 S__law_any_ratio fA__law_any_ratio fd__law_any_ratio) {fA__law_due : Addr} {fd__law_due : FuncData} (F__law_due : FnQ P w K mg base (TT K) "_law_due" ["_law_text_here"] 3 S__law_due fA__law_due fd__law_due) {fA__law_hand : Addr} {fd__law_hand : FuncData} (F__law_hand : FnQ P w K mg base (TT K) "_law_hand" ["_law_script"] 1 S__law_hand fA__law_hand fd__law_hand) {fA__law_odd : Addr} {fd__law_odd : FuncData} (F__law_odd : FnQ P w K mg base (TT K) "_law_odd" ["_law_hand_here"] 3 S__law_odd fA__law_odd fd__law_odd) {fA__law_read : Addr} {fd__law_read : FuncData} (F__law_read : FnQ P w K mg base (TT K) "_law_read" ["_law_text_here"] 4 S__law_read fA__law_read fd__law_read) {fA__law_same : Addr} {fd__law_same : FuncData} (F__law_same : FnQ P w K mg base (TT K) "_law_same" ["_law_found", "_law_due_here"] 1 S__law_same fA__law_same fd__law_same) {fA__law_take : Addr} {fd__law_take : FuncData} (F__law_take : FnQ P w K mg base (TT K) "_law_take" ["_law_hand_here", "_law_many"] 2 S__law_take fA__law_take fd__law_take) {fA__law_text : Addr} {fd__law_text : FuncData} (F__law_text : FnQ P w K mg base (TT K) "_law_text" ["_law_one"] 1 S__law_text fA__law_text fd__law_text) {fA_ratio_text : Addr} {fd_ratio_text : FuncData} (F_ratio_text : FnQ P w K mg base (TT K) "ratio_text" ["one"] 1 S_ratio_text fA_ratio_text fd_ratio_text) (bd__law_any_ratio_0 : Bd K fd__law_any_ratio ["_law_hand_here"] []) (bd__law_due_0 : Bd K fd__law_due ["_law_text_here"] []) (bd__law_hand_0 : Bd K fd__law_hand ["_law_script"] []) (bd__law_odd_0 : Bd K fd__law_odd ["_law_hand_here"] []) (bd__law_read_0 : Bd K fd__law_read ["_law_text_here"] []) (bd__law_same_0 : Bd K fd__law_same ["_law_found", "_law_due_here"] []) (bd__law_take_0 : Bd K fd__law_take ["_law_hand_here", "_law_many"] []) (bd__law_text_0 : Bd K fd__law_text ["_law_one"] []) (bd_ratio_text_0 : Bd K fd_ratio_text ["one"] []) (fr_int : mg "int" = none) (fr_isinstance : mg "isinstance" = none) (fr_len : mg "len" = none) (fr_range : mg "range" = none) (fr_str : mg "str" = none) : FnG P w K mg base (L2.CX P w) 5 fA fd ["_law_script"] (spS (TT K) (bodyS 14 [] 1 D_law)) :=
  fn_bodyG (R := []) (N := N_law) F sc_law rfl rfl (by decide) fun cdv A outer s H E hgd hr => by
    have tk := takes_of (X := cxOf (L2.CX P w) P w K mg base N_law "law" (defScope s_law) fA cdv A outer s H E) rfl rfl rfl rfl
    have hp := passes_of (X := cxOf (L2.CX P w) P w K mg base N_law "law" (defScope s_law) fA cdv A outer s H E) rfl
    have hu := hr.units
    have nd := sc_law.nd
    exact (show SSs (TT K) _ _ ([0] : List Nat) D_law (defBody s_law) from (sss_cons (asg 1 nd (ecallG F__law_hand rfl rfl rfl rfl rfl rfl bd__law_hand_0 hgd (hr.mono (by decide)) tk (sc (ev 0) sa_nil))) (sss_cons (forr (is := []) hp (rg1 fr_range se_int) (nmi 2 nd) (sss_cons (asg 3 nd (ecallG F__law_any_ratio rfl rfl rfl rfl rfl rfl bd__law_any_ratio_0 hgd (hr.mono (by decide)) tk (sc (ev 1) sa_nil))) (sss_cons (asg 4 nd (ecallG F__law_text rfl rfl rfl rfl rfl rfl bd__law_text_0 hgd (hr.mono (by decide)) tk (sc (ev 3) sa_nil))) (sss_cons (ss_if (tw (tor (tne rfl hu (ecallG F_ratio_text rfl rfl rfl rfl rfl rfl bd_ratio_text_0 hgd (hr.mono (by decide)) tk (sc (ev 3) sa_nil)) (ev 4)) (tor1 (tnot (tt rfl (ecallG F__law_same rfl rfl rfl rfl rfl rfl bd__law_same_0 hgd (hr.mono (by decide)) tk (sc (ecallG F__law_read rfl rfl rfl rfl rfl rfl bd__law_read_0 hgd (hr.mono (by decide)) tk (sc (ev 4) sa_nil)) (sc (ev 3) sa_nil)))))))) (sss_one (ret se_bl)) sss_nil) (sss_cons (asg 5 nd (ecallG F__law_take rfl rfl rfl rfl rfl rfl bd__law_take_0 hgd (hr.mono (by decide)) tk (sc (ev 1) (sc (eadd rfl (elen rfl fr_len (sc (ev 4) sa_nil)) se_int) sa_nil)))) (sss_cons (asg 6 nd (eix rfl (se_lst (sc se_str (sc se_str (sc se_str (sc se_str (sc se_str (sc se_str (sc se_str (sc se_str (sc se_str (sc se_str (sc se_str (sc se_str (sc se_str (sc se_str (sc se_str sa_nil)))))))))))))))) (ecallG F__law_take rfl rfl rfl rfl rfl rfl bd__law_take_0 hgd (hr.mono (by decide)) tk (sc (ev 1) (sc se_int sa_nil))))) (sss_cons (asg 7 nd (eadd rfl (eadd rfl (esl rfl (ev 4) so_none (so_some (ev 5))) (ev 6)) (esl rfl (ev 4) (so_some (eadd rfl (ev 5) (ecallG F__law_take rfl rfl rfl rfl rfl rfl bd__law_take_0 hgd (hr.mono (by decide)) tk (sc (ev 1) (sc se_int sa_nil))))) so_none))) (sss_cons (par 8 9 nd (sc (ecallG F__law_due rfl rfl rfl rfl rfl rfl bd__law_due_0 hgd (hr.mono (by decide)) tk (sc (ev 7) sa_nil)) (sc (ecallG F__law_read rfl rfl rfl rfl rfl rfl bd__law_read_0 hgd (hr.mono (by decide)) tk (sc (ev 7) sa_nil)) sa_nil))) (sss_cons (ss_if (tis (ev 8) se_non) (sss_one (ss_if (tne rfl hu (ev 9) (se_tup (sc se_str sa_nil))) (sss_one (ret se_bl)) sss_nil)) (sss_one (ss_if (tnot (tt rfl (ecallG F__law_same rfl rfl rfl rfl rfl rfl bd__law_same_0 hgd (hr.mono (by decide)) tk (sc (ev 9) (sc (ev 8) sa_nil))))) (sss_one (ret se_bl)) sss_nil))) (sss_cons (asg 10 nd (ecallG F__law_odd rfl rfl rfl rfl rfl rfl bd__law_odd_0 hgd (hr.mono (by decide)) tk (sc (ev 1) sa_nil))) (sss_one (ss_if (tw (tand (tnot (tt rfl (eisi rfl no_kn kd_str fr_isinstance (ev 10) (pty (n := "str") rfl fr_str (by decide +kernel))))) (tand1 (tne rfl hu (ecallG F__law_read rfl rfl rfl rfl rfl rfl bd__law_read_0 hgd (hr.mono (by decide)) tk (sc (ev 10) sa_nil)) (se_tup (sc se_str sa_nil)))))) (sss_one (ret se_bl)) sss_nil)))))))))))) (sss_cons (asg 11 nd (eadd rfl se_int (ecallG F__law_take rfl rfl rfl rfl rfl rfl bd__law_take_0 hgd (hr.mono (by decide)) tk (sc (ev 1) (sc se_int sa_nil))))) (sss_cons (asg 12 nd (estr fr_str (sc (eadd rfl se_int (ecallG F__law_take rfl rfl rfl rfl rfl rfl bd__law_take_0 hgd (hr.mono (by decide)) tk (sc (ev 1) (sc se_int sa_nil)))) sa_nil))) (sss_cons (asg 4 nd (emul rfl (ev 12) (ev 11))) (sss_cons (asg 13 nd (ecallG F__law_read rfl rfl rfl rfl rfl rfl bd__law_read_0 hgd (hr.mono (by decide)) tk (sc (eadd rfl se_str (ev 4)) sa_nil))) (sss_cons (asg 8 nd (ecallG F__law_due rfl rfl rfl rfl rfl rfl bd__law_due_0 hgd (hr.mono (by decide)) tk (sc (eadd rfl se_str (ev 4)) sa_nil))) (sss_cons (ss_if (tis (ev 8) se_non) (sss_one (ss_if (tne rfl hu (ev 13) (se_tup (sc se_str sa_nil))) (sss_one (ret se_bl)) sss_nil)) (sss_one (ss_if (tnot (tt rfl (ecallG F__law_same rfl rfl rfl rfl rfl rfl bd__law_same_0 hgd (hr.mono (by decide)) tk (sc (ev 13) (sc (ev 8) sa_nil))))) (sss_one (ret se_bl)) sss_nil))) (sss_cons (asg 9 nd (ecallG F__law_read rfl rfl rfl rfl rfl rfl bd__law_read_0 hgd (hr.mono (by decide)) tk (sc (eadd rfl se_str (ev 4)) sa_nil))) (sss_cons (ss_if (tgt (ev 11) se_int) (sss_one (ret (eeq rfl hu (ev 9) (se_tup (sc se_str sa_nil))))) sss_nil) (sss_one (ret (se_and rfl (ecallG F__law_same rfl rfl rfl rfl rfl rfl bd__law_same_0 hgd (hr.mono (by decide)) tk (sc (ev 9) (sc (se_tup (sc (eneg (eint fr_int (sc (ev 4) sa_nil))) (sc se_int sa_nil))) sa_nil))) (se_one (eeq rfl hu (ecallG F_ratio_text rfl rfl rfl rfl rfl rfl bd_ratio_text_0 hgd (hr.mono (by decide)) tk (sc (ev 9) sa_nil)) (eadd rfl se_str (ev 4))))))))))))))))))
end
end K02

set_option Elab.async false
set_option linter.all false
set_option maxRecDepth 100000
set_option maxHeartbeats 2000000
set_option autoImplicit false
namespace K02
open PySem Pv
theorem c_is_whole : ∀ os KR KE, Pv.S_is_whole os KR KE → bodyS 3 [] 3 D_is_whole os KR KE := by
  rintro os KR KE ⟨d, lo, hi, rfl, h0, h1, h2, k⟩
  refine x_body rfl (by simp) ?_
  cases d <;> simp only [↓z_c, ↓z_var, ↓z_nil, ↓z_cons, ↓z_b, ↓z_vslot, ↓z_kslot, ↓z_kval, ↓z_lst, ↓z_tup, ↓z_call, ↓z_callKw, ↓z_tslot, ↓z_pslot, ↓z_tru, ↓z_tb, ↓z_nott, ↓z_andt, ↓z_ort, ↓z_ifx, ↓z_andv, ↓z_orv, ↓z_notv, ↓z_isi, ↓z_xf, ↓z_xis, ↓z_app, ↓z_chain, ↓z_fld, ↓z_ins, ↓z_dic, ↓z_next, ↓z_seq, ↓z_break, ↓z_cont, ↓z_expr, ↓z_ret, ↓z_rval, ↓z_rslot, ↓z_retn, ↓z_if, ↓z_asg, ↓z_setix, ↓z_par, ↓z_asgg, ↓z_gnm, ↓z_gunp, ↓z_gone, ↓z_gno, ↓z_raise, ↓z_try, ↓z_for, ↓z_iseq, ↓z_irg1, ↓z_izip, ↓z_sslot, ↓z_ocons, ↓z_lc, ↓z_yes, ↓z_w0, ↓z_ws, ↓x_vnil, ↓x_vval, ↓x_knil, ↓x_kcons, ↓x_tnil, ↓x_tval, ↓x_pval, ↓x_pnil, ↓x_snil, ↓x_sval, ↓x_onil, z_trN, z_trB, z_trI, z_trS, z_trT, z_trL, slotV_s, slotN_n, slotN_s, slotL_l, slotC_sh, slotC_lst, slotC_ins, one1_d, oneI_i, two2_o, two2D_d, someV_s, isBl_b, boolO_b, setV_s, insV_s, tryV_t, tryV_f, insD_i, unpD_t, unpD_l, gAdd_ii, gAdd_ss, gAdd_ll, gAdd_tt, gMul_ii, gMul_li, gSub_ii, gLt_ii, gLe_ii, gGt_ii, gGe_ii, gFdiv_ii, gMod_ii, gPow_ii, gNeg_i, gAbs_i, gInt_i, gInt_b, gGcd_ii, gLen_l, gLen_t, gLen_s, gIx_l, gIx_t, gIx_s, gIs_bb, gIs_dn, gEq_de, gTuple_l, gTuple_t, gList_l, gList_t, items_l, items_t, items_s, seq_l, seq_t, isNon_n, isNon_i, isNon_b, isNon_s, isNon_t, isNon_l, g2_ii, isK, knownD, flatD, view_sh', view_lst, flat_sh, flat_lst, List.map_cons, List.map_nil, List.replicate, List.cons_append, List.nil_append, List.append_nil, List.getElem?_cons_zero, List.getElem?_cons_succ, List.set_cons_zero, List.set_cons_succ, List.length_cons, List.length_nil, List.contains, List.elem_nil, List.elem_cons, List.any_cons, List.any_nil, List.all_nil, List.all_cons, Bool.or_false, Bool.false_eq_true, if_true, if_false, ite_true, ite_false, Nat.reduceSub, Nat.reduceAdd, Nat.reduceBEq, Nat.reduceEqDiff, Nat.reduceLeDiff, Nat.reduceLT, beq_self_eq_true, Bool.not_true, Bool.not_false, Bool.and_true, Bool.true_and, Bool.and_false, Bool.false_and, Bool.or_true, Bool.true_or, Bool.false_or, decide_eq_true_eq, Bool.not_eq_true', decide_eq_false_iff_not, true_and, and_true, reduceCtorEq, at_0, at_1, at_2, at_3, List.getD_cons_zero, List.getD_cons_succ, ok_int, ok_bl, ok_non, ok_tup0, ok_tI, ok_str, ok_t1, eq_int, eq_str, eq_t1, eq_tI1, ix40, ix41, ix42, ix43, List.length_map, eqk_int, eqk_str, eqk_bl, eqv_int, eqv_str, List.take_succ_cons, List.take_zero, List.drop_succ_cons, List.drop_zero, List.take_nil, List.drop_nil, ↓z_m1, ↓z_strV, ↓z_strS, strO_s, ↓z_intV, ↓z_intS, intO_i, ↓z_sl, ↓z_part0, ↓z_part, ↓z_join, ↓z_js0, ↓z_js1, gStr_i, gAll_l, gIn_ss, gStart_ss, gSplit_ss, gCut_s, gCut_l, gCut_t, gFmt_s, gFmt_i, gMul_si, gInt_s, D_is_whole]
  case ins => cases h0
  case int i =>
    cases lo <;> cases h1 <;> cases hi <;> cases h2 <;> simp only [↓z_c, ↓z_var, ↓z_nil, ↓z_cons, ↓z_b, ↓z_vslot, ↓z_kslot, ↓z_kval, ↓z_lst, ↓z_tup, ↓z_call, ↓z_callKw, ↓z_tslot, ↓z_pslot, ↓z_tru, ↓z_tb, ↓z_nott, ↓z_andt, ↓z_ort, ↓z_ifx, ↓z_andv, ↓z_orv, ↓z_notv, ↓z_isi, ↓z_xf, ↓z_xis, ↓z_app, ↓z_chain, ↓z_fld, ↓z_ins, ↓z_dic, ↓z_next, ↓z_seq, ↓z_break, ↓z_cont, ↓z_expr, ↓z_ret, ↓z_rval, ↓z_rslot, ↓z_retn, ↓z_if, ↓z_asg, ↓z_setix, ↓z_par, ↓z_asgg, ↓z_gnm, ↓z_gunp, ↓z_gone, ↓z_gno, ↓z_raise, ↓z_try, ↓z_for, ↓z_iseq, ↓z_irg1, ↓z_izip, ↓z_sslot, ↓z_ocons, ↓z_lc, ↓z_yes, ↓z_w0, ↓z_ws, ↓x_vnil, ↓x_vval, ↓x_knil, ↓x_kcons, ↓x_tnil, ↓x_tval, ↓x_pval, ↓x_pnil, ↓x_snil, ↓x_sval, ↓x_onil, z_trN, z_trB, z_trI, z_trS, z_trT, z_trL, slotV_s, slotN_n, slotN_s, slotL_l, slotC_sh, slotC_lst, slotC_ins, one1_d, oneI_i, two2_o, two2D_d, someV_s, isBl_b, boolO_b, setV_s, insV_s, tryV_t, tryV_f, insD_i, unpD_t, unpD_l, gAdd_ii, gAdd_ss, gAdd_ll, gAdd_tt, gMul_ii, gMul_li, gSub_ii, gLt_ii, gLe_ii, gGt_ii, gGe_ii, gFdiv_ii, gMod_ii, gPow_ii, gNeg_i, gAbs_i, gInt_i, gInt_b, gGcd_ii, gLen_l, gLen_t, gLen_s, gIx_l, gIx_t, gIx_s, gIs_bb, gIs_dn, gEq_de, gTuple_l, gTuple_t, gList_l, gList_t, items_l, items_t, items_s, seq_l, seq_t, isNon_n, isNon_i, isNon_b, isNon_s, isNon_t, isNon_l, g2_ii, isK, knownD, flatD, view_sh', view_lst, flat_sh, flat_lst, List.map_cons, List.map_nil, List.replicate, List.cons_append, List.nil_append, List.append_nil, List.getElem?_cons_zero, List.getElem?_cons_succ, List.set_cons_zero, List.set_cons_succ, List.length_cons, List.length_nil, List.contains, List.elem_nil, List.elem_cons, List.any_cons, List.any_nil, List.all_nil, List.all_cons, Bool.or_false, Bool.false_eq_true, if_true, if_false, ite_true, ite_false, Nat.reduceSub, Nat.reduceAdd, Nat.reduceBEq, Nat.reduceEqDiff, Nat.reduceLeDiff, Nat.reduceLT, beq_self_eq_true, Bool.not_true, Bool.not_false, Bool.and_true, Bool.true_and, Bool.and_false, Bool.false_and, Bool.or_true, Bool.true_or, Bool.false_or, decide_eq_true_eq, Bool.not_eq_true', decide_eq_false_iff_not, true_and, and_true, reduceCtorEq, at_0, at_1, at_2, at_3, List.getD_cons_zero, List.getD_cons_succ, ok_int, ok_bl, ok_non, ok_tup0, ok_tI, ok_str, ok_t1, eq_int, eq_str, eq_t1, eq_tI1, ix40, ix41, ix42, ix43, List.length_map, eqk_int, eqk_str, eqk_bl, eqv_int, eqv_str, List.take_succ_cons, List.take_zero, List.drop_succ_cons, List.drop_zero, List.take_nil, List.drop_nil, ↓z_m1, ↓z_strV, ↓z_strS, strO_s, ↓z_intV, ↓z_intS, intO_i, ↓z_sl, ↓z_part0, ↓z_part, ↓z_join, ↓z_js0, ↓z_js1, gStr_i, gAll_l, gIn_ss, gStart_ss, gSplit_ss, gCut_s, gCut_l, gCut_t, gFmt_s, gFmt_i, gMul_si, gInt_s, Pv.isNon, D_is_whole] <;> simp only [wholeD, Bool.true_and, Bool.and_true, Bool.and_self] at k
    · exact k
    · exact k
    · rename_i a
      by_cases h : i < a
      · rw [if_pos h]
        rw [decide_eq_false (by omega)] at k; exact k
      · rw [if_neg h]
        rw [decide_eq_true (by omega)] at k; exact k
    · rename_i a b
      by_cases h : i < a
      · rw [if_pos h]
        rw [decide_eq_false (by omega), Bool.false_and] at k; exact k
      · rw [if_neg h]
        rw [decide_eq_true (show a ≤ i by omega), Bool.true_and] at k; exact k
  all_goals exact k
theorem c_is_ratio : ∀ os KR KE, Pv.S_is_ratio os KR KE → bodyS 3 [] 1 D_is_ratio os KR KE := by
  rintro os KR KE ⟨o, rfl, h, k⟩
  refine x_body rfl (by simp) ?_
  cases o with
  | ins c fs => rw [O.view, D.plain] at h; cases h
  | lst os =>
    simp only [↓z_c, ↓z_var, ↓z_nil, ↓z_cons, ↓z_b, ↓z_vslot, ↓z_kslot, ↓z_kval, ↓z_lst, ↓z_tup, ↓z_call, ↓z_callKw, ↓z_tslot, ↓z_pslot, ↓z_tru, ↓z_tb, ↓z_nott, ↓z_andt, ↓z_ort, ↓z_ifx, ↓z_andv, ↓z_orv, ↓z_notv, ↓z_isi, ↓z_xf, ↓z_xis, ↓z_app, ↓z_chain, ↓z_fld, ↓z_ins, ↓z_dic, ↓z_next, ↓z_seq, ↓z_break, ↓z_cont, ↓z_expr, ↓z_ret, ↓z_rval, ↓z_rslot, ↓z_retn, ↓z_if, ↓z_asg, ↓z_setix, ↓z_par, ↓z_asgg, ↓z_gnm, ↓z_gunp, ↓z_gone, ↓z_gno, ↓z_raise, ↓z_try, ↓z_for, ↓z_iseq, ↓z_irg1, ↓z_izip, ↓z_sslot, ↓z_ocons, ↓z_lc, ↓z_yes, ↓z_w0, ↓z_ws, ↓x_vnil, ↓x_vval, ↓x_knil, ↓x_kcons, ↓x_tnil, ↓x_tval, ↓x_pval, ↓x_pnil, ↓x_snil, ↓x_sval, ↓x_onil, z_trN, z_trB, z_trI, z_trS, z_trT, z_trL, slotV_s, slotN_n, slotN_s, slotL_l, slotC_sh, slotC_lst, slotC_ins, one1_d, oneI_i, two2_o, two2D_d, someV_s, isBl_b, boolO_b, setV_s, insV_s, tryV_t, tryV_f, insD_i, unpD_t, unpD_l, gAdd_ii, gAdd_ss, gAdd_ll, gAdd_tt, gMul_ii, gMul_li, gSub_ii, gLt_ii, gLe_ii, gGt_ii, gGe_ii, gFdiv_ii, gMod_ii, gPow_ii, gNeg_i, gAbs_i, gInt_i, gInt_b, gGcd_ii, gLen_l, gLen_t, gLen_s, gIx_l, gIx_t, gIx_s, gIs_bb, gIs_dn, gEq_de, gTuple_l, gTuple_t, gList_l, gList_t, items_l, items_t, items_s, seq_l, seq_t, isNon_n, isNon_i, isNon_b, isNon_s, isNon_t, isNon_l, g2_ii, isK, knownD, flatD, view_sh', view_lst, flat_sh, flat_lst, List.map_cons, List.map_nil, List.replicate, List.cons_append, List.nil_append, List.append_nil, List.getElem?_cons_zero, List.getElem?_cons_succ, List.set_cons_zero, List.set_cons_succ, List.length_cons, List.length_nil, List.contains, List.elem_nil, List.elem_cons, List.any_cons, List.any_nil, List.all_nil, List.all_cons, Bool.or_false, Bool.false_eq_true, if_true, if_false, ite_true, ite_false, Nat.reduceSub, Nat.reduceAdd, Nat.reduceBEq, Nat.reduceEqDiff, Nat.reduceLeDiff, Nat.reduceLT, beq_self_eq_true, Bool.not_true, Bool.not_false, Bool.and_true, Bool.true_and, Bool.and_false, Bool.false_and, Bool.or_true, Bool.true_or, Bool.false_or, decide_eq_true_eq, Bool.not_eq_true', decide_eq_false_iff_not, true_and, and_true, reduceCtorEq, at_0, at_1, at_2, at_3, List.getD_cons_zero, List.getD_cons_succ, ok_int, ok_bl, ok_non, ok_tup0, ok_tI, ok_str, ok_t1, eq_int, eq_str, eq_t1, eq_tI1, ix40, ix41, ix42, ix43, List.length_map, eqk_int, eqk_str, eqk_bl, eqv_int, eqv_str, List.take_succ_cons, List.take_zero, List.drop_succ_cons, List.drop_zero, List.take_nil, List.drop_nil, ↓z_m1, ↓z_strV, ↓z_strS, strO_s, ↓z_intV, ↓z_intS, intO_i, ↓z_sl, ↓z_part0, ↓z_part, ↓z_join, ↓z_js0, ↓z_js1, gStr_i, gAll_l, gIn_ss, gStart_ss, gSplit_ss, gCut_s, gCut_l, gCut_t, gFmt_s, gFmt_i, gMul_si, gInt_s, D_is_ratio]
    rw [view_lst] at k
    exact k
  | sh d =>
    rw [view_sh'] at h k
    cases d with
    | ins c fs => rw [D.plain] at h; cases h
    | tup ds =>
      simp only [↓z_c, ↓z_var, ↓z_nil, ↓z_cons, ↓z_b, ↓z_vslot, ↓z_kslot, ↓z_kval, ↓z_lst, ↓z_tup, ↓z_call, ↓z_callKw, ↓z_tslot, ↓z_pslot, ↓z_tru, ↓z_tb, ↓z_nott, ↓z_andt, ↓z_ort, ↓z_ifx, ↓z_andv, ↓z_orv, ↓z_notv, ↓z_isi, ↓z_xf, ↓z_xis, ↓z_app, ↓z_chain, ↓z_fld, ↓z_ins, ↓z_dic, ↓z_next, ↓z_seq, ↓z_break, ↓z_cont, ↓z_expr, ↓z_ret, ↓z_rval, ↓z_rslot, ↓z_retn, ↓z_if, ↓z_asg, ↓z_setix, ↓z_par, ↓z_asgg, ↓z_gnm, ↓z_gunp, ↓z_gone, ↓z_gno, ↓z_raise, ↓z_try, ↓z_for, ↓z_iseq, ↓z_irg1, ↓z_izip, ↓z_sslot, ↓z_ocons, ↓z_lc, ↓z_yes, ↓z_w0, ↓z_ws, ↓x_vnil, ↓x_vval, ↓x_knil, ↓x_kcons, ↓x_tnil, ↓x_tval, ↓x_pval, ↓x_pnil, ↓x_snil, ↓x_sval, ↓x_onil, z_trN, z_trB, z_trI, z_trS, z_trT, z_trL, slotV_s, slotN_n, slotN_s, slotL_l, slotC_sh, slotC_lst, slotC_ins, one1_d, oneI_i, two2_o, two2D_d, someV_s, isBl_b, boolO_b, setV_s, insV_s, tryV_t, tryV_f, insD_i, unpD_t, unpD_l, gAdd_ii, gAdd_ss, gAdd_ll, gAdd_tt, gMul_ii, gMul_li, gSub_ii, gLt_ii, gLe_ii, gGt_ii, gGe_ii, gFdiv_ii, gMod_ii, gPow_ii, gNeg_i, gAbs_i, gInt_i, gInt_b, gGcd_ii, gLen_l, gLen_t, gLen_s, gIx_l, gIx_t, gIx_s, gIs_bb, gIs_dn, gEq_de, gTuple_l, gTuple_t, gList_l, gList_t, items_l, items_t, items_s, seq_l, seq_t, isNon_n, isNon_i, isNon_b, isNon_s, isNon_t, isNon_l, g2_ii, isK, knownD, flatD, view_sh', view_lst, flat_sh, flat_lst, List.map_cons, List.map_nil, List.replicate, List.cons_append, List.nil_append, List.append_nil, List.getElem?_cons_zero, List.getElem?_cons_succ, List.set_cons_zero, List.set_cons_succ, List.length_cons, List.length_nil, List.contains, List.elem_nil, List.elem_cons, List.any_cons, List.any_nil, List.all_nil, List.all_cons, Bool.or_false, Bool.false_eq_true, if_true, if_false, ite_true, ite_false, Nat.reduceSub, Nat.reduceAdd, Nat.reduceBEq, Nat.reduceEqDiff, Nat.reduceLeDiff, Nat.reduceLT, beq_self_eq_true, Bool.not_true, Bool.not_false, Bool.and_true, Bool.true_and, Bool.and_false, Bool.false_and, Bool.or_true, Bool.true_or, Bool.false_or, decide_eq_true_eq, Bool.not_eq_true', decide_eq_false_iff_not, true_and, and_true, reduceCtorEq, at_0, at_1, at_2, at_3, List.getD_cons_zero, List.getD_cons_succ, ok_int, ok_bl, ok_non, ok_tup0, ok_tI, ok_str, ok_t1, eq_int, eq_str, eq_t1, eq_tI1, ix40, ix41, ix42, ix43, List.length_map, eqk_int, eqk_str, eqk_bl, eqv_int, eqv_str, List.take_succ_cons, List.take_zero, List.drop_succ_cons, List.drop_zero, List.take_nil, List.drop_nil, ↓z_m1, ↓z_strV, ↓z_strS, strO_s, ↓z_intV, ↓z_intS, intO_i, ↓z_sl, ↓z_part0, ↓z_part, ↓z_join, ↓z_js0, ↓z_js1, gStr_i, gAll_l, gIn_ss, gStart_ss, gSplit_ss, gCut_s, gCut_l, gCut_t, gFmt_s, gFmt_i, gMul_si, gInt_s, D_is_ratio]
      match ds, h, k with
      | [], _, k =>
        rw [if_pos (by simp)]
        exact k
      | [_], _, k =>
        rw [if_pos (by simp)]
        simp only [ratioD] at k
        exact k
      | [u, v], h, k =>
        rw [if_neg (by simp)]
        refine ⟨rfl, ?_⟩
        simp only [↓z_c, ↓z_var, ↓z_nil, ↓z_cons, ↓z_b, ↓z_vslot, ↓z_kslot, ↓z_kval, ↓z_lst, ↓z_tup, ↓z_call, ↓z_callKw, ↓z_tslot, ↓z_pslot, ↓z_tru, ↓z_tb, ↓z_nott, ↓z_andt, ↓z_ort, ↓z_ifx, ↓z_andv, ↓z_orv, ↓z_notv, ↓z_isi, ↓z_xf, ↓z_xis, ↓z_app, ↓z_chain, ↓z_fld, ↓z_ins, ↓z_dic, ↓z_next, ↓z_seq, ↓z_break, ↓z_cont, ↓z_expr, ↓z_ret, ↓z_rval, ↓z_rslot, ↓z_retn, ↓z_if, ↓z_asg, ↓z_setix, ↓z_par, ↓z_asgg, ↓z_gnm, ↓z_gunp, ↓z_gone, ↓z_gno, ↓z_raise, ↓z_try, ↓z_for, ↓z_iseq, ↓z_irg1, ↓z_izip, ↓z_sslot, ↓z_ocons, ↓z_lc, ↓z_yes, ↓z_w0, ↓z_ws, ↓x_vnil, ↓x_vval, ↓x_knil, ↓x_kcons, ↓x_tnil, ↓x_tval, ↓x_pval, ↓x_pnil, ↓x_snil, ↓x_sval, ↓x_onil, z_trN, z_trB, z_trI, z_trS, z_trT, z_trL, slotV_s, slotN_n, slotN_s, slotL_l, slotC_sh, slotC_lst, slotC_ins, one1_d, oneI_i, two2_o, two2D_d, someV_s, isBl_b, boolO_b, setV_s, insV_s, tryV_t, tryV_f, insD_i, unpD_t, unpD_l, gAdd_ii, gAdd_ss, gAdd_ll, gAdd_tt, gMul_ii, gMul_li, gSub_ii, gLt_ii, gLe_ii, gGt_ii, gGe_ii, gFdiv_ii, gMod_ii, gPow_ii, gNeg_i, gAbs_i, gInt_i, gInt_b, gGcd_ii, gLen_l, gLen_t, gLen_s, gIx_l, gIx_t, gIx_s, gIs_bb, gIs_dn, gEq_de, gTuple_l, gTuple_t, gList_l, gList_t, items_l, items_t, items_s, seq_l, seq_t, isNon_n, isNon_i, isNon_b, isNon_s, isNon_t, isNon_l, g2_ii, isK, knownD, flatD, view_sh', view_lst, flat_sh, flat_lst, List.map_cons, List.map_nil, List.replicate, List.cons_append, List.nil_append, List.append_nil, List.getElem?_cons_zero, List.getElem?_cons_succ, List.set_cons_zero, List.set_cons_succ, List.length_cons, List.length_nil, List.contains, List.elem_nil, List.elem_cons, List.any_cons, List.any_nil, List.all_nil, List.all_cons, Bool.or_false, Bool.false_eq_true, if_true, if_false, ite_true, ite_false, Nat.reduceSub, Nat.reduceAdd, Nat.reduceBEq, Nat.reduceEqDiff, Nat.reduceLeDiff, Nat.reduceLT, beq_self_eq_true, Bool.not_true, Bool.not_false, Bool.and_true, Bool.true_and, Bool.and_false, Bool.false_and, Bool.or_true, Bool.true_or, Bool.false_or, decide_eq_true_eq, Bool.not_eq_true', decide_eq_false_iff_not, true_and, and_true, reduceCtorEq, at_0, at_1, at_2, at_3, List.getD_cons_zero, List.getD_cons_succ, ok_int, ok_bl, ok_non, ok_tup0, ok_tI, ok_str, ok_t1, eq_int, eq_str, eq_t1, eq_tI1, ix40, ix41, ix42, ix43, List.length_map, eqk_int, eqk_str, eqk_bl, eqv_int, eqv_str, List.take_succ_cons, List.take_zero, List.drop_succ_cons, List.drop_zero, List.take_nil, List.drop_nil, ↓z_m1, ↓z_strV, ↓z_strS, strO_s, ↓z_intV, ↓z_intS, intO_i, ↓z_sl, ↓z_part0, ↓z_part, ↓z_join, ↓z_js0, ↓z_js1, gStr_i, gAll_l, gIn_ss, gStart_ss, gSplit_ss, gCut_s, gCut_l, gCut_t, gFmt_s, gFmt_i, gMul_si, gInt_s]
        have hu : noIns u = true := by
          cases u <;> first | rfl | (simp [D.plain, D.plainL] at h)
        have hv : noIns v = true := by
          cases v <;> first | rfl | (simp [D.plain, D.plainL] at h)
        refine ⟨_, _, _, rfl, hu, rfl, rfl, ?_⟩
        simp only [↓z_c, ↓z_var, ↓z_nil, ↓z_cons, ↓z_b, ↓z_vslot, ↓z_kslot, ↓z_kval, ↓z_lst, ↓z_tup, ↓z_call, ↓z_callKw, ↓z_tslot, ↓z_pslot, ↓z_tru, ↓z_tb, ↓z_nott, ↓z_andt, ↓z_ort, ↓z_ifx, ↓z_andv, ↓z_orv, ↓z_notv, ↓z_isi, ↓z_xf, ↓z_xis, ↓z_app, ↓z_chain, ↓z_fld, ↓z_ins, ↓z_dic, ↓z_next, ↓z_seq, ↓z_break, ↓z_cont, ↓z_expr, ↓z_ret, ↓z_rval, ↓z_rslot, ↓z_retn, ↓z_if, ↓z_asg, ↓z_setix, ↓z_par, ↓z_asgg, ↓z_gnm, ↓z_gunp, ↓z_gone, ↓z_gno, ↓z_raise, ↓z_try, ↓z_for, ↓z_iseq, ↓z_irg1, ↓z_izip, ↓z_sslot, ↓z_ocons, ↓z_lc, ↓z_yes, ↓z_w0, ↓z_ws, ↓x_vnil, ↓x_vval, ↓x_knil, ↓x_kcons, ↓x_tnil, ↓x_tval, ↓x_pval, ↓x_pnil, ↓x_snil, ↓x_sval, ↓x_onil, z_trN, z_trB, z_trI, z_trS, z_trT, z_trL, slotV_s, slotN_n, slotN_s, slotL_l, slotC_sh, slotC_lst, slotC_ins, one1_d, oneI_i, two2_o, two2D_d, someV_s, isBl_b, boolO_b, setV_s, insV_s, tryV_t, tryV_f, insD_i, unpD_t, unpD_l, gAdd_ii, gAdd_ss, gAdd_ll, gAdd_tt, gMul_ii, gMul_li, gSub_ii, gLt_ii, gLe_ii, gGt_ii, gGe_ii, gFdiv_ii, gMod_ii, gPow_ii, gNeg_i, gAbs_i, gInt_i, gInt_b, gGcd_ii, gLen_l, gLen_t, gLen_s, gIx_l, gIx_t, gIx_s, gIs_bb, gIs_dn, gEq_de, gTuple_l, gTuple_t, gList_l, gList_t, items_l, items_t, items_s, seq_l, seq_t, isNon_n, isNon_i, isNon_b, isNon_s, isNon_t, isNon_l, g2_ii, isK, knownD, flatD, view_sh', view_lst, flat_sh, flat_lst, List.map_cons, List.map_nil, List.replicate, List.cons_append, List.nil_append, List.append_nil, List.getElem?_cons_zero, List.getElem?_cons_succ, List.set_cons_zero, List.set_cons_succ, List.length_cons, List.length_nil, List.contains, List.elem_nil, List.elem_cons, List.any_cons, List.any_nil, List.all_nil, List.all_cons, Bool.or_false, Bool.false_eq_true, if_true, if_false, ite_true, ite_false, Nat.reduceSub, Nat.reduceAdd, Nat.reduceBEq, Nat.reduceEqDiff, Nat.reduceLeDiff, Nat.reduceLT, beq_self_eq_true, Bool.not_true, Bool.not_false, Bool.and_true, Bool.true_and, Bool.and_false, Bool.false_and, Bool.or_true, Bool.true_or, Bool.false_or, decide_eq_true_eq, Bool.not_eq_true', decide_eq_false_iff_not, true_and, and_true, reduceCtorEq, at_0, at_1, at_2, at_3, List.getD_cons_zero, List.getD_cons_succ, ok_int, ok_bl, ok_non, ok_tup0, ok_tI, ok_str, ok_t1, eq_int, eq_str, eq_t1, eq_tI1, ix40, ix41, ix42, ix43, List.length_map, eqk_int, eqk_str, eqk_bl, eqv_int, eqv_str, List.take_succ_cons, List.take_zero, List.drop_succ_cons, List.drop_zero, List.take_nil, List.drop_nil, ↓z_m1, ↓z_strV, ↓z_strS, strO_s, ↓z_intV, ↓z_intS, intO_i, ↓z_sl, ↓z_part0, ↓z_part, ↓z_join, ↓z_js0, ↓z_js1, gStr_i, gAll_l, gIn_ss, gStart_ss, gSplit_ss, gCut_s, gCut_l, gCut_t, gFmt_s, gFmt_i, gMul_si, gInt_s]
        cases u
        case int i =>
          simp only [↓z_c, ↓z_var, ↓z_nil, ↓z_cons, ↓z_b, ↓z_vslot, ↓z_kslot, ↓z_kval, ↓z_lst, ↓z_tup, ↓z_call, ↓z_callKw, ↓z_tslot, ↓z_pslot, ↓z_tru, ↓z_tb, ↓z_nott, ↓z_andt, ↓z_ort, ↓z_ifx, ↓z_andv, ↓z_orv, ↓z_notv, ↓z_isi, ↓z_xf, ↓z_xis, ↓z_app, ↓z_chain, ↓z_fld, ↓z_ins, ↓z_dic, ↓z_next, ↓z_seq, ↓z_break, ↓z_cont, ↓z_expr, ↓z_ret, ↓z_rval, ↓z_rslot, ↓z_retn, ↓z_if, ↓z_asg, ↓z_setix, ↓z_par, ↓z_asgg, ↓z_gnm, ↓z_gunp, ↓z_gone, ↓z_gno, ↓z_raise, ↓z_try, ↓z_for, ↓z_iseq, ↓z_irg1, ↓z_izip, ↓z_sslot, ↓z_ocons, ↓z_lc, ↓z_yes, ↓z_w0, ↓z_ws, ↓x_vnil, ↓x_vval, ↓x_knil, ↓x_kcons, ↓x_tnil, ↓x_tval, ↓x_pval, ↓x_pnil, ↓x_snil, ↓x_sval, ↓x_onil, z_trN, z_trB, z_trI, z_trS, z_trT, z_trL, slotV_s, slotN_n, slotN_s, slotL_l, slotC_sh, slotC_lst, slotC_ins, one1_d, oneI_i, two2_o, two2D_d, someV_s, isBl_b, boolO_b, setV_s, insV_s, tryV_t, tryV_f, insD_i, unpD_t, unpD_l, gAdd_ii, gAdd_ss, gAdd_ll, gAdd_tt, gMul_ii, gMul_li, gSub_ii, gLt_ii, gLe_ii, gGt_ii, gGe_ii, gFdiv_ii, gMod_ii, gPow_ii, gNeg_i, gAbs_i, gInt_i, gInt_b, gGcd_ii, gLen_l, gLen_t, gLen_s, gIx_l, gIx_t, gIx_s, gIs_bb, gIs_dn, gEq_de, gTuple_l, gTuple_t, gList_l, gList_t, items_l, items_t, items_s, seq_l, seq_t, isNon_n, isNon_i, isNon_b, isNon_s, isNon_t, isNon_l, g2_ii, isK, knownD, flatD, view_sh', view_lst, flat_sh, flat_lst, List.map_cons, List.map_nil, List.replicate, List.cons_append, List.nil_append, List.append_nil, List.getElem?_cons_zero, List.getElem?_cons_succ, List.set_cons_zero, List.set_cons_succ, List.length_cons, List.length_nil, List.contains, List.elem_nil, List.elem_cons, List.any_cons, List.any_nil, List.all_nil, List.all_cons, Bool.or_false, Bool.false_eq_true, if_true, if_false, ite_true, ite_false, Nat.reduceSub, Nat.reduceAdd, Nat.reduceBEq, Nat.reduceEqDiff, Nat.reduceLeDiff, Nat.reduceLT, beq_self_eq_true, Bool.not_true, Bool.not_false, Bool.and_true, Bool.true_and, Bool.and_false, Bool.false_and, Bool.or_true, Bool.true_or, Bool.false_or, decide_eq_true_eq, Bool.not_eq_true', decide_eq_false_iff_not, true_and, and_true, reduceCtorEq, at_0, at_1, at_2, at_3, List.getD_cons_zero, List.getD_cons_succ, ok_int, ok_bl, ok_non, ok_tup0, ok_tI, ok_str, ok_t1, eq_int, eq_str, eq_t1, eq_tI1, ix40, ix41, ix42, ix43, List.length_map, eqk_int, eqk_str, eqk_bl, eqv_int, eqv_str, List.take_succ_cons, List.take_zero, List.drop_succ_cons, List.drop_zero, List.take_nil, List.drop_nil, ↓z_m1, ↓z_strV, ↓z_strS, strO_s, ↓z_intV, ↓z_intS, intO_i, ↓z_sl, ↓z_part0, ↓z_part, ↓z_join, ↓z_js0, ↓z_js1, gStr_i, gAll_l, gIn_ss, gStart_ss, gSplit_ss, gCut_s, gCut_l, gCut_t, gFmt_s, gFmt_i, gMul_si, gInt_s, wholeD]
          refine ⟨_, _, _, rfl, hv, rfl, rfl, ?_⟩
          simp only [↓z_c, ↓z_var, ↓z_nil, ↓z_cons, ↓z_b, ↓z_vslot, ↓z_kslot, ↓z_kval, ↓z_lst, ↓z_tup, ↓z_call, ↓z_callKw, ↓z_tslot, ↓z_pslot, ↓z_tru, ↓z_tb, ↓z_nott, ↓z_andt, ↓z_ort, ↓z_ifx, ↓z_andv, ↓z_orv, ↓z_notv, ↓z_isi, ↓z_xf, ↓z_xis, ↓z_app, ↓z_chain, ↓z_fld, ↓z_ins, ↓z_dic, ↓z_next, ↓z_seq, ↓z_break, ↓z_cont, ↓z_expr, ↓z_ret, ↓z_rval, ↓z_rslot, ↓z_retn, ↓z_if, ↓z_asg, ↓z_setix, ↓z_par, ↓z_asgg, ↓z_gnm, ↓z_gunp, ↓z_gone, ↓z_gno, ↓z_raise, ↓z_try, ↓z_for, ↓z_iseq, ↓z_irg1, ↓z_izip, ↓z_sslot, ↓z_ocons, ↓z_lc, ↓z_yes, ↓z_w0, ↓z_ws, ↓x_vnil, ↓x_vval, ↓x_knil, ↓x_kcons, ↓x_tnil, ↓x_tval, ↓x_pval, ↓x_pnil, ↓x_snil, ↓x_sval, ↓x_onil, z_trN, z_trB, z_trI, z_trS, z_trT, z_trL, slotV_s, slotN_n, slotN_s, slotL_l, slotC_sh, slotC_lst, slotC_ins, one1_d, oneI_i, two2_o, two2D_d, someV_s, isBl_b, boolO_b, setV_s, insV_s, tryV_t, tryV_f, insD_i, unpD_t, unpD_l, gAdd_ii, gAdd_ss, gAdd_ll, gAdd_tt, gMul_ii, gMul_li, gSub_ii, gLt_ii, gLe_ii, gGt_ii, gGe_ii, gFdiv_ii, gMod_ii, gPow_ii, gNeg_i, gAbs_i, gInt_i, gInt_b, gGcd_ii, gLen_l, gLen_t, gLen_s, gIx_l, gIx_t, gIx_s, gIs_bb, gIs_dn, gEq_de, gTuple_l, gTuple_t, gList_l, gList_t, items_l, items_t, items_s, seq_l, seq_t, isNon_n, isNon_i, isNon_b, isNon_s, isNon_t, isNon_l, g2_ii, isK, knownD, flatD, view_sh', view_lst, flat_sh, flat_lst, List.map_cons, List.map_nil, List.replicate, List.cons_append, List.nil_append, List.append_nil, List.getElem?_cons_zero, List.getElem?_cons_succ, List.set_cons_zero, List.set_cons_succ, List.length_cons, List.length_nil, List.contains, List.elem_nil, List.elem_cons, List.any_cons, List.any_nil, List.all_nil, List.all_cons, Bool.or_false, Bool.false_eq_true, if_true, if_false, ite_true, ite_false, Nat.reduceSub, Nat.reduceAdd, Nat.reduceBEq, Nat.reduceEqDiff, Nat.reduceLeDiff, Nat.reduceLT, beq_self_eq_true, Bool.not_true, Bool.not_false, Bool.and_true, Bool.true_and, Bool.and_false, Bool.false_and, Bool.or_true, Bool.true_or, Bool.false_or, decide_eq_true_eq, Bool.not_eq_true', decide_eq_false_iff_not, true_and, and_true, reduceCtorEq, at_0, at_1, at_2, at_3, List.getD_cons_zero, List.getD_cons_succ, ok_int, ok_bl, ok_non, ok_tup0, ok_tI, ok_str, ok_t1, eq_int, eq_str, eq_t1, eq_tI1, ix40, ix41, ix42, ix43, List.length_map, eqk_int, eqk_str, eqk_bl, eqv_int, eqv_str, List.take_succ_cons, List.take_zero, List.drop_succ_cons, List.drop_zero, List.take_nil, List.drop_nil, ↓z_m1, ↓z_strV, ↓z_strS, strO_s, ↓z_intV, ↓z_intS, intO_i, ↓z_sl, ↓z_part0, ↓z_part, ↓z_join, ↓z_js0, ↓z_js1, gStr_i, gAll_l, gIn_ss, gStart_ss, gSplit_ss, gCut_s, gCut_l, gCut_t, gFmt_s, gFmt_i, gMul_si, gInt_s]
          cases v
          case int j =>
            simp only [↓z_c, ↓z_var, ↓z_nil, ↓z_cons, ↓z_b, ↓z_vslot, ↓z_kslot, ↓z_kval, ↓z_lst, ↓z_tup, ↓z_call, ↓z_callKw, ↓z_tslot, ↓z_pslot, ↓z_tru, ↓z_tb, ↓z_nott, ↓z_andt, ↓z_ort, ↓z_ifx, ↓z_andv, ↓z_orv, ↓z_notv, ↓z_isi, ↓z_xf, ↓z_xis, ↓z_app, ↓z_chain, ↓z_fld, ↓z_ins, ↓z_dic, ↓z_next, ↓z_seq, ↓z_break, ↓z_cont, ↓z_expr, ↓z_ret, ↓z_rval, ↓z_rslot, ↓z_retn, ↓z_if, ↓z_asg, ↓z_setix, ↓z_par, ↓z_asgg, ↓z_gnm, ↓z_gunp, ↓z_gone, ↓z_gno, ↓z_raise, ↓z_try, ↓z_for, ↓z_iseq, ↓z_irg1, ↓z_izip, ↓z_sslot, ↓z_ocons, ↓z_lc, ↓z_yes, ↓z_w0, ↓z_ws, ↓x_vnil, ↓x_vval, ↓x_knil, ↓x_kcons, ↓x_tnil, ↓x_tval, ↓x_pval, ↓x_pnil, ↓x_snil, ↓x_sval, ↓x_onil, z_trN, z_trB, z_trI, z_trS, z_trT, z_trL, slotV_s, slotN_n, slotN_s, slotL_l, slotC_sh, slotC_lst, slotC_ins, one1_d, oneI_i, two2_o, two2D_d, someV_s, isBl_b, boolO_b, setV_s, insV_s, tryV_t, tryV_f, insD_i, unpD_t, unpD_l, gAdd_ii, gAdd_ss, gAdd_ll, gAdd_tt, gMul_ii, gMul_li, gSub_ii, gLt_ii, gLe_ii, gGt_ii, gGe_ii, gFdiv_ii, gMod_ii, gPow_ii, gNeg_i, gAbs_i, gInt_i, gInt_b, gGcd_ii, gLen_l, gLen_t, gLen_s, gIx_l, gIx_t, gIx_s, gIs_bb, gIs_dn, gEq_de, gTuple_l, gTuple_t, gList_l, gList_t, items_l, items_t, items_s, seq_l, seq_t, isNon_n, isNon_i, isNon_b, isNon_s, isNon_t, isNon_l, g2_ii, isK, knownD, flatD, view_sh', view_lst, flat_sh, flat_lst, List.map_cons, List.map_nil, List.replicate, List.cons_append, List.nil_append, List.append_nil, List.getElem?_cons_zero, List.getElem?_cons_succ, List.set_cons_zero, List.set_cons_succ, List.length_cons, List.length_nil, List.contains, List.elem_nil, List.elem_cons, List.any_cons, List.any_nil, List.all_nil, List.all_cons, Bool.or_false, Bool.false_eq_true, if_true, if_false, ite_true, ite_false, Nat.reduceSub, Nat.reduceAdd, Nat.reduceBEq, Nat.reduceEqDiff, Nat.reduceLeDiff, Nat.reduceLT, beq_self_eq_true, Bool.not_true, Bool.not_false, Bool.and_true, Bool.true_and, Bool.and_false, Bool.false_and, Bool.or_true, Bool.true_or, Bool.false_or, decide_eq_true_eq, Bool.not_eq_true', decide_eq_false_iff_not, true_and, and_true, reduceCtorEq, at_0, at_1, at_2, at_3, List.getD_cons_zero, List.getD_cons_succ, ok_int, ok_bl, ok_non, ok_tup0, ok_tI, ok_str, ok_t1, eq_int, eq_str, eq_t1, eq_tI1, ix40, ix41, ix42, ix43, List.length_map, eqk_int, eqk_str, eqk_bl, eqv_int, eqv_str, List.take_succ_cons, List.take_zero, List.drop_succ_cons, List.drop_zero, List.take_nil, List.drop_nil, ↓z_m1, ↓z_strV, ↓z_strS, strO_s, ↓z_intV, ↓z_intS, intO_i, ↓z_sl, ↓z_part0, ↓z_part, ↓z_join, ↓z_js0, ↓z_js1, gStr_i, gAll_l, gIn_ss, gStart_ss, gSplit_ss, gCut_s, gCut_l, gCut_t, gFmt_s, gFmt_i, gMul_si, gInt_s, wholeD]
            simp only [ratioD] at k
            by_cases hj : 1 ≤ j
            · rw [if_neg (by simpa using hj)]
              rw [decide_eq_true hj, Bool.true_and] at k
              have e : (((Nat.gcd i.natAbs j.natAbs : Nat) : Int) = 1) ↔ (Int.gcd i j = 1) := by
                show ((Int.gcd i j : Nat) : Int) = 1 ↔ Int.gcd i j = 1
                omega
              rw [decide_eq_decide.mpr e]
              exact k
            · rw [if_pos (by simpa using hj)]
              rw [decide_eq_false hj, Bool.false_and] at k
              exact k
          all_goals
            simp only [↓z_c, ↓z_var, ↓z_nil, ↓z_cons, ↓z_b, ↓z_vslot, ↓z_kslot, ↓z_kval, ↓z_lst, ↓z_tup, ↓z_call, ↓z_callKw, ↓z_tslot, ↓z_pslot, ↓z_tru, ↓z_tb, ↓z_nott, ↓z_andt, ↓z_ort, ↓z_ifx, ↓z_andv, ↓z_orv, ↓z_notv, ↓z_isi, ↓z_xf, ↓z_xis, ↓z_app, ↓z_chain, ↓z_fld, ↓z_ins, ↓z_dic, ↓z_next, ↓z_seq, ↓z_break, ↓z_cont, ↓z_expr, ↓z_ret, ↓z_rval, ↓z_rslot, ↓z_retn, ↓z_if, ↓z_asg, ↓z_setix, ↓z_par, ↓z_asgg, ↓z_gnm, ↓z_gunp, ↓z_gone, ↓z_gno, ↓z_raise, ↓z_try, ↓z_for, ↓z_iseq, ↓z_irg1, ↓z_izip, ↓z_sslot, ↓z_ocons, ↓z_lc, ↓z_yes, ↓z_w0, ↓z_ws, ↓x_vnil, ↓x_vval, ↓x_knil, ↓x_kcons, ↓x_tnil, ↓x_tval, ↓x_pval, ↓x_pnil, ↓x_snil, ↓x_sval, ↓x_onil, z_trN, z_trB, z_trI, z_trS, z_trT, z_trL, slotV_s, slotN_n, slotN_s, slotL_l, slotC_sh, slotC_lst, slotC_ins, one1_d, oneI_i, two2_o, two2D_d, someV_s, isBl_b, boolO_b, setV_s, insV_s, tryV_t, tryV_f, insD_i, unpD_t, unpD_l, gAdd_ii, gAdd_ss, gAdd_ll, gAdd_tt, gMul_ii, gMul_li, gSub_ii, gLt_ii, gLe_ii, gGt_ii, gGe_ii, gFdiv_ii, gMod_ii, gPow_ii, gNeg_i, gAbs_i, gInt_i, gInt_b, gGcd_ii, gLen_l, gLen_t, gLen_s, gIx_l, gIx_t, gIx_s, gIs_bb, gIs_dn, gEq_de, gTuple_l, gTuple_t, gList_l, gList_t, items_l, items_t, items_s, seq_l, seq_t, isNon_n, isNon_i, isNon_b, isNon_s, isNon_t, isNon_l, g2_ii, isK, knownD, flatD, view_sh', view_lst, flat_sh, flat_lst, List.map_cons, List.map_nil, List.replicate, List.cons_append, List.nil_append, List.append_nil, List.getElem?_cons_zero, List.getElem?_cons_succ, List.set_cons_zero, List.set_cons_succ, List.length_cons, List.length_nil, List.contains, List.elem_nil, List.elem_cons, List.any_cons, List.any_nil, List.all_nil, List.all_cons, Bool.or_false, Bool.false_eq_true, if_true, if_false, ite_true, ite_false, Nat.reduceSub, Nat.reduceAdd, Nat.reduceBEq, Nat.reduceEqDiff, Nat.reduceLeDiff, Nat.reduceLT, beq_self_eq_true, Bool.not_true, Bool.not_false, Bool.and_true, Bool.true_and, Bool.and_false, Bool.false_and, Bool.or_true, Bool.true_or, Bool.false_or, decide_eq_true_eq, Bool.not_eq_true', decide_eq_false_iff_not, true_and, and_true, reduceCtorEq, at_0, at_1, at_2, at_3, List.getD_cons_zero, List.getD_cons_succ, ok_int, ok_bl, ok_non, ok_tup0, ok_tI, ok_str, ok_t1, eq_int, eq_str, eq_t1, eq_tI1, ix40, ix41, ix42, ix43, List.length_map, eqk_int, eqk_str, eqk_bl, eqv_int, eqv_str, List.take_succ_cons, List.take_zero, List.drop_succ_cons, List.drop_zero, List.take_nil, List.drop_nil, ↓z_m1, ↓z_strV, ↓z_strS, strO_s, ↓z_intV, ↓z_intS, intO_i, ↓z_sl, ↓z_part0, ↓z_part, ↓z_join, ↓z_js0, ↓z_js1, gStr_i, gAll_l, gIn_ss, gStart_ss, gSplit_ss, gCut_s, gCut_l, gCut_t, gFmt_s, gFmt_i, gMul_si, gInt_s, wholeD]
            exact k
        all_goals
          simp only [↓z_c, ↓z_var, ↓z_nil, ↓z_cons, ↓z_b, ↓z_vslot, ↓z_kslot, ↓z_kval, ↓z_lst, ↓z_tup, ↓z_call, ↓z_callKw, ↓z_tslot, ↓z_pslot, ↓z_tru, ↓z_tb, ↓z_nott, ↓z_andt, ↓z_ort, ↓z_ifx, ↓z_andv, ↓z_orv, ↓z_notv, ↓z_isi, ↓z_xf, ↓z_xis, ↓z_app, ↓z_chain, ↓z_fld, ↓z_ins, ↓z_dic, ↓z_next, ↓z_seq, ↓z_break, ↓z_cont, ↓z_expr, ↓z_ret, ↓z_rval, ↓z_rslot, ↓z_retn, ↓z_if, ↓z_asg, ↓z_setix, ↓z_par, ↓z_asgg, ↓z_gnm, ↓z_gunp, ↓z_gone, ↓z_gno, ↓z_raise, ↓z_try, ↓z_for, ↓z_iseq, ↓z_irg1, ↓z_izip, ↓z_sslot, ↓z_ocons, ↓z_lc, ↓z_yes, ↓z_w0, ↓z_ws, ↓x_vnil, ↓x_vval, ↓x_knil, ↓x_kcons, ↓x_tnil, ↓x_tval, ↓x_pval, ↓x_pnil, ↓x_snil, ↓x_sval, ↓x_onil, z_trN, z_trB, z_trI, z_trS, z_trT, z_trL, slotV_s, slotN_n, slotN_s, slotL_l, slotC_sh, slotC_lst, slotC_ins, one1_d, oneI_i, two2_o, two2D_d, someV_s, isBl_b, boolO_b, setV_s, insV_s, tryV_t, tryV_f, insD_i, unpD_t, unpD_l, gAdd_ii, gAdd_ss, gAdd_ll, gAdd_tt, gMul_ii, gMul_li, gSub_ii, gLt_ii, gLe_ii, gGt_ii, gGe_ii, gFdiv_ii, gMod_ii, gPow_ii, gNeg_i, gAbs_i, gInt_i, gInt_b, gGcd_ii, gLen_l, gLen_t, gLen_s, gIx_l, gIx_t, gIx_s, gIs_bb, gIs_dn, gEq_de, gTuple_l, gTuple_t, gList_l, gList_t, items_l, items_t, items_s, seq_l, seq_t, isNon_n, isNon_i, isNon_b, isNon_s, isNon_t, isNon_l, g2_ii, isK, knownD, flatD, view_sh', view_lst, flat_sh, flat_lst, List.map_cons, List.map_nil, List.replicate, List.cons_append, List.nil_append, List.append_nil, List.getElem?_cons_zero, List.getElem?_cons_succ, List.set_cons_zero, List.set_cons_succ, List.length_cons, List.length_nil, List.contains, List.elem_nil, List.elem_cons, List.any_cons, List.any_nil, List.all_nil, List.all_cons, Bool.or_false, Bool.false_eq_true, if_true, if_false, ite_true, ite_false, Nat.reduceSub, Nat.reduceAdd, Nat.reduceBEq, Nat.reduceEqDiff, Nat.reduceLeDiff, Nat.reduceLT, beq_self_eq_true, Bool.not_true, Bool.not_false, Bool.and_true, Bool.true_and, Bool.and_false, Bool.false_and, Bool.or_true, Bool.true_or, Bool.false_or, decide_eq_true_eq, Bool.not_eq_true', decide_eq_false_iff_not, true_and, and_true, reduceCtorEq, at_0, at_1, at_2, at_3, List.getD_cons_zero, List.getD_cons_succ, ok_int, ok_bl, ok_non, ok_tup0, ok_tI, ok_str, ok_t1, eq_int, eq_str, eq_t1, eq_tI1, ix40, ix41, ix42, ix43, List.length_map, eqk_int, eqk_str, eqk_bl, eqv_int, eqv_str, List.take_succ_cons, List.take_zero, List.drop_succ_cons, List.drop_zero, List.take_nil, List.drop_nil, ↓z_m1, ↓z_strV, ↓z_strS, strO_s, ↓z_intV, ↓z_intS, intO_i, ↓z_sl, ↓z_part0, ↓z_part, ↓z_join, ↓z_js0, ↓z_js1, gStr_i, gAll_l, gIn_ss, gStart_ss, gSplit_ss, gCut_s, gCut_l, gCut_t, gFmt_s, gFmt_i, gMul_si, gInt_s, wholeD]
          exact k
      | _ :: _ :: _ :: _, _, k =>
        rw [if_pos (by simp; omega)]
        simp only [ratioD] at k
        exact k
    | _ =>
      simp only [↓z_c, ↓z_var, ↓z_nil, ↓z_cons, ↓z_b, ↓z_vslot, ↓z_kslot, ↓z_kval, ↓z_lst, ↓z_tup, ↓z_call, ↓z_callKw, ↓z_tslot, ↓z_pslot, ↓z_tru, ↓z_tb, ↓z_nott, ↓z_andt, ↓z_ort, ↓z_ifx, ↓z_andv, ↓z_orv, ↓z_notv, ↓z_isi, ↓z_xf, ↓z_xis, ↓z_app, ↓z_chain, ↓z_fld, ↓z_ins, ↓z_dic, ↓z_next, ↓z_seq, ↓z_break, ↓z_cont, ↓z_expr, ↓z_ret, ↓z_rval, ↓z_rslot, ↓z_retn, ↓z_if, ↓z_asg, ↓z_setix, ↓z_par, ↓z_asgg, ↓z_gnm, ↓z_gunp, ↓z_gone, ↓z_gno, ↓z_raise, ↓z_try, ↓z_for, ↓z_iseq, ↓z_irg1, ↓z_izip, ↓z_sslot, ↓z_ocons, ↓z_lc, ↓z_yes, ↓z_w0, ↓z_ws, ↓x_vnil, ↓x_vval, ↓x_knil, ↓x_kcons, ↓x_tnil, ↓x_tval, ↓x_pval, ↓x_pnil, ↓x_snil, ↓x_sval, ↓x_onil, z_trN, z_trB, z_trI, z_trS, z_trT, z_trL, slotV_s, slotN_n, slotN_s, slotL_l, slotC_sh, slotC_lst, slotC_ins, one1_d, oneI_i, two2_o, two2D_d, someV_s, isBl_b, boolO_b, setV_s, insV_s, tryV_t, tryV_f, insD_i, unpD_t, unpD_l, gAdd_ii, gAdd_ss, gAdd_ll, gAdd_tt, gMul_ii, gMul_li, gSub_ii, gLt_ii, gLe_ii, gGt_ii, gGe_ii, gFdiv_ii, gMod_ii, gPow_ii, gNeg_i, gAbs_i, gInt_i, gInt_b, gGcd_ii, gLen_l, gLen_t, gLen_s, gIx_l, gIx_t, gIx_s, gIs_bb, gIs_dn, gEq_de, gTuple_l, gTuple_t, gList_l, gList_t, items_l, items_t, items_s, seq_l, seq_t, isNon_n, isNon_i, isNon_b, isNon_s, isNon_t, isNon_l, g2_ii, isK, knownD, flatD, view_sh', view_lst, flat_sh, flat_lst, List.map_cons, List.map_nil, List.replicate, List.cons_append, List.nil_append, List.append_nil, List.getElem?_cons_zero, List.getElem?_cons_succ, List.set_cons_zero, List.set_cons_succ, List.length_cons, List.length_nil, List.contains, List.elem_nil, List.elem_cons, List.any_cons, List.any_nil, List.all_nil, List.all_cons, Bool.or_false, Bool.false_eq_true, if_true, if_false, ite_true, ite_false, Nat.reduceSub, Nat.reduceAdd, Nat.reduceBEq, Nat.reduceEqDiff, Nat.reduceLeDiff, Nat.reduceLT, beq_self_eq_true, Bool.not_true, Bool.not_false, Bool.and_true, Bool.true_and, Bool.and_false, Bool.false_and, Bool.or_true, Bool.true_or, Bool.false_or, decide_eq_true_eq, Bool.not_eq_true', decide_eq_false_iff_not, true_and, and_true, reduceCtorEq, at_0, at_1, at_2, at_3, List.getD_cons_zero, List.getD_cons_succ, ok_int, ok_bl, ok_non, ok_tup0, ok_tI, ok_str, ok_t1, eq_int, eq_str, eq_t1, eq_tI1, ix40, ix41, ix42, ix43, List.length_map, eqk_int, eqk_str, eqk_bl, eqv_int, eqv_str, List.take_succ_cons, List.take_zero, List.drop_succ_cons, List.drop_zero, List.take_nil, List.drop_nil, ↓z_m1, ↓z_strV, ↓z_strS, strO_s, ↓z_intV, ↓z_intS, intO_i, ↓z_sl, ↓z_part0, ↓z_part, ↓z_join, ↓z_js0, ↓z_js1, gStr_i, gAll_l, gIn_ss, gStart_ss, gSplit_ss, gCut_s, gCut_l, gCut_t, gFmt_s, gFmt_i, gMul_si, gInt_s, D_is_ratio]
      exact k
theorem c__law_mixed : ∀ os KR KE, Pv.S__law_mixed os KR KE → bodyS 4 [] 2 D__law_mixed os KR KE := by
  rintro os KR KE ⟨a, b, rfl, k⟩
  refine x_body rfl (by simp) ?_
  simp only [↓z_c, ↓z_var, ↓z_nil, ↓z_cons, ↓z_b, ↓z_vslot, ↓z_kslot, ↓z_kval, ↓z_lst, ↓z_tup, ↓z_call, ↓z_callKw, ↓z_tslot, ↓z_pslot, ↓z_tru, ↓z_tb, ↓z_nott, ↓z_andt, ↓z_ort, ↓z_ifx, ↓z_andv, ↓z_orv, ↓z_notv, ↓z_isi, ↓z_xf, ↓z_xis, ↓z_app, ↓z_chain, ↓z_fld, ↓z_ins, ↓z_dic, ↓z_next, ↓z_seq, ↓z_break, ↓z_cont, ↓z_expr, ↓z_ret, ↓z_rval, ↓z_rslot, ↓z_retn, ↓z_if, ↓z_asg, ↓z_setix, ↓z_par, ↓z_asgg, ↓z_gnm, ↓z_gunp, ↓z_gone, ↓z_gno, ↓z_raise, ↓z_try, ↓z_for, ↓z_iseq, ↓z_irg1, ↓z_izip, ↓z_sslot, ↓z_ocons, ↓z_lc, ↓z_yes, ↓z_w0, ↓z_ws, ↓x_vnil, ↓x_vval, ↓x_knil, ↓x_kcons, ↓x_tnil, ↓x_tval, ↓x_pval, ↓x_pnil, ↓x_snil, ↓x_sval, ↓x_onil, z_trN, z_trB, z_trI, z_trS, z_trT, z_trL, slotV_s, slotN_n, slotN_s, slotL_l, slotC_sh, slotC_lst, slotC_ins, one1_d, oneI_i, two2_o, two2D_d, someV_s, isBl_b, boolO_b, setV_s, insV_s, tryV_t, tryV_f, insD_i, unpD_t, unpD_l, gAdd_ii, gAdd_ss, gAdd_ll, gAdd_tt, gMul_ii, gMul_li, gSub_ii, gLt_ii, gLe_ii, gGt_ii, gGe_ii, gFdiv_ii, gMod_ii, gPow_ii, gNeg_i, gAbs_i, gInt_i, gInt_b, gGcd_ii, gLen_l, gLen_t, gLen_s, gIx_l, gIx_t, gIx_s, gIs_bb, gIs_dn, gEq_de, gTuple_l, gTuple_t, gList_l, gList_t, items_l, items_t, items_s, seq_l, seq_t, isNon_n, isNon_i, isNon_b, isNon_s, isNon_t, isNon_l, g2_ii, isK, knownD, flatD, view_sh', view_lst, flat_sh, flat_lst, List.map_cons, List.map_nil, List.replicate, List.cons_append, List.nil_append, List.append_nil, List.getElem?_cons_zero, List.getElem?_cons_succ, List.set_cons_zero, List.set_cons_succ, List.length_cons, List.length_nil, List.contains, List.elem_nil, List.elem_cons, List.any_cons, List.any_nil, List.all_nil, List.all_cons, Bool.or_false, Bool.false_eq_true, if_true, if_false, ite_true, ite_false, Nat.reduceSub, Nat.reduceAdd, Nat.reduceBEq, Nat.reduceEqDiff, Nat.reduceLeDiff, Nat.reduceLT, beq_self_eq_true, Bool.not_true, Bool.not_false, Bool.and_true, Bool.true_and, Bool.and_false, Bool.false_and, Bool.or_true, Bool.true_or, Bool.false_or, decide_eq_true_eq, Bool.not_eq_true', decide_eq_false_iff_not, true_and, and_true, reduceCtorEq, at_0, at_1, at_2, at_3, List.getD_cons_zero, List.getD_cons_succ, ok_int, ok_bl, ok_non, ok_tup0, ok_tI, ok_str, ok_t1, eq_int, eq_str, eq_t1, eq_tI1, ix40, ix41, ix42, ix43, List.length_map, eqk_int, eqk_str, eqk_bl, eqv_int, eqv_str, List.take_succ_cons, List.take_zero, List.drop_succ_cons, List.drop_zero, List.take_nil, List.drop_nil, ↓z_m1, ↓z_strV, ↓z_strS, strO_s, ↓z_intV, ↓z_intS, intO_i, ↓z_sl, ↓z_part0, ↓z_part, ↓z_join, ↓z_js0, ↓z_js1, gStr_i, gAll_l, gIn_ss, gStart_ss, gSplit_ss, gCut_s, gCut_l, gCut_t, gFmt_s, gFmt_i, gMul_si, gInt_s, D__law_mixed]
  have h := fmod_lt (i := a * 48271 + b * 7919 + 54321) (j := 2147483647) (by decide)
  generalize (a * 48271 + b * 7919 + 54321).fmod 2147483647 = c at h ⊢
  exact ⟨mulOk_r (by decide) (by decide), mulOk_r (by decide) (by decide), by decide, mulOk_r (by omega) (by omega), mulOk_r (by decide) (by decide), ⟨by decide, by decide⟩, by decide, mulOk_r (by decide) (by decide), ⟨by decide, by decide⟩, by decide, ⟨by decide, by decide⟩, k _⟩
theorem c__law_gcd : ∀ os KR KE, Pv.S__law_gcd os KR KE → bodyS 2 [0, 1] 2 D__law_gcd os KR KE := by
  rintro os KR KE ⟨a, b, rfl, k⟩
  refine x_body rfl (by simp [shO]) ?_
  simp only [↓z_c, ↓z_var, ↓z_nil, ↓z_cons, ↓z_b, ↓z_vslot, ↓z_kslot, ↓z_kval, ↓z_lst, ↓z_tup, ↓z_call, ↓z_callKw, ↓z_tslot, ↓z_pslot, ↓z_tru, ↓z_tb, ↓z_nott, ↓z_andt, ↓z_ort, ↓z_ifx, ↓z_andv, ↓z_orv, ↓z_notv, ↓z_isi, ↓z_xf, ↓z_xis, ↓z_app, ↓z_chain, ↓z_fld, ↓z_ins, ↓z_dic, ↓z_next, ↓z_seq, ↓z_break, ↓z_cont, ↓z_expr, ↓z_ret, ↓z_rval, ↓z_rslot, ↓z_retn, ↓z_if, ↓z_asg, ↓z_setix, ↓z_par, ↓z_asgg, ↓z_gnm, ↓z_gunp, ↓z_gone, ↓z_gno, ↓z_raise, ↓z_try, ↓z_for, ↓z_iseq, ↓z_irg1, ↓z_izip, ↓z_sslot, ↓z_ocons, ↓z_lc, ↓z_yes, ↓z_w0, ↓z_ws, ↓x_vnil, ↓x_vval, ↓x_knil, ↓x_kcons, ↓x_tnil, ↓x_tval, ↓x_pval, ↓x_pnil, ↓x_snil, ↓x_sval, ↓x_onil, z_trN, z_trB, z_trI, z_trS, z_trT, z_trL, slotV_s, slotN_n, slotN_s, slotL_l, slotC_sh, slotC_lst, slotC_ins, one1_d, oneI_i, two2_o, two2D_d, someV_s, isBl_b, boolO_b, setV_s, insV_s, tryV_t, tryV_f, insD_i, unpD_t, unpD_l, gAdd_ii, gAdd_ss, gAdd_ll, gAdd_tt, gMul_ii, gMul_li, gSub_ii, gLt_ii, gLe_ii, gGt_ii, gGe_ii, gFdiv_ii, gMod_ii, gPow_ii, gNeg_i, gAbs_i, gInt_i, gInt_b, gGcd_ii, gLen_l, gLen_t, gLen_s, gIx_l, gIx_t, gIx_s, gIs_bb, gIs_dn, gEq_de, gTuple_l, gTuple_t, gList_l, gList_t, items_l, items_t, items_s, seq_l, seq_t, isNon_n, isNon_i, isNon_b, isNon_s, isNon_t, isNon_l, g2_ii, isK, knownD, flatD, view_sh', view_lst, flat_sh, flat_lst, List.map_cons, List.map_nil, List.replicate, List.cons_append, List.nil_append, List.append_nil, List.getElem?_cons_zero, List.getElem?_cons_succ, List.set_cons_zero, List.set_cons_succ, List.length_cons, List.length_nil, List.contains, List.elem_nil, List.elem_cons, List.any_cons, List.any_nil, List.all_nil, List.all_cons, Bool.or_false, Bool.false_eq_true, if_true, if_false, ite_true, ite_false, Nat.reduceSub, Nat.reduceAdd, Nat.reduceBEq, Nat.reduceEqDiff, Nat.reduceLeDiff, Nat.reduceLT, beq_self_eq_true, Bool.not_true, Bool.not_false, Bool.and_true, Bool.true_and, Bool.and_false, Bool.false_and, Bool.or_true, Bool.true_or, Bool.false_or, decide_eq_true_eq, Bool.not_eq_true', decide_eq_false_iff_not, true_and, and_true, reduceCtorEq, at_0, at_1, at_2, at_3, List.getD_cons_zero, List.getD_cons_succ, ok_int, ok_bl, ok_non, ok_tup0, ok_tI, ok_str, ok_t1, eq_int, eq_str, eq_t1, eq_tI1, ix40, ix41, ix42, ix43, List.length_map, eqk_int, eqk_str, eqk_bl, eqv_int, eqv_str, List.take_succ_cons, List.take_zero, List.drop_succ_cons, List.drop_zero, List.take_nil, List.drop_nil, ↓z_m1, ↓z_strV, ↓z_strS, strO_s, ↓z_intV, ↓z_intS, intO_i, ↓z_sl, ↓z_part0, ↓z_part, ↓z_join, ↓z_js0, ↓z_js1, gStr_i, gAll_l, gIn_ss, gStart_ss, gSplit_ss, gCut_s, gCut_l, gCut_t, gFmt_s, gFmt_i, gMul_si, gInt_s, D__law_gcd]
  refine ⟨fun n E => ∃ x y : Int, E = [some (oI x), some (oI y)] ∧ 0 ≤ x ∧ 0 ≤ y ∧ y.toNat = n ∧ Int.gcd x y = Int.gcd a b, ⟨_, _, _, rfl, by split <;> omega, by split <;> omega, rfl, ?_⟩, ?_⟩
  · split <;> split <;> simp [Int.gcd_neg, Int.neg_gcd]
  · rintro n E ⟨x, y, rfl, hx, hy, rfl, hg⟩
    simp only [↓z_c, ↓z_var, ↓z_nil, ↓z_cons, ↓z_b, ↓z_vslot, ↓z_kslot, ↓z_kval, ↓z_lst, ↓z_tup, ↓z_call, ↓z_callKw, ↓z_tslot, ↓z_pslot, ↓z_tru, ↓z_tb, ↓z_nott, ↓z_andt, ↓z_ort, ↓z_ifx, ↓z_andv, ↓z_orv, ↓z_notv, ↓z_isi, ↓z_xf, ↓z_xis, ↓z_app, ↓z_chain, ↓z_fld, ↓z_ins, ↓z_dic, ↓z_next, ↓z_seq, ↓z_break, ↓z_cont, ↓z_expr, ↓z_ret, ↓z_rval, ↓z_rslot, ↓z_retn, ↓z_if, ↓z_asg, ↓z_setix, ↓z_par, ↓z_asgg, ↓z_gnm, ↓z_gunp, ↓z_gone, ↓z_gno, ↓z_raise, ↓z_try, ↓z_for, ↓z_iseq, ↓z_irg1, ↓z_izip, ↓z_sslot, ↓z_ocons, ↓z_lc, ↓z_yes, ↓z_w0, ↓z_ws, ↓x_vnil, ↓x_vval, ↓x_knil, ↓x_kcons, ↓x_tnil, ↓x_tval, ↓x_pval, ↓x_pnil, ↓x_snil, ↓x_sval, ↓x_onil, z_trN, z_trB, z_trI, z_trS, z_trT, z_trL, slotV_s, slotN_n, slotN_s, slotL_l, slotC_sh, slotC_lst, slotC_ins, one1_d, oneI_i, two2_o, two2D_d, someV_s, isBl_b, boolO_b, setV_s, insV_s, tryV_t, tryV_f, insD_i, unpD_t, unpD_l, gAdd_ii, gAdd_ss, gAdd_ll, gAdd_tt, gMul_ii, gMul_li, gSub_ii, gLt_ii, gLe_ii, gGt_ii, gGe_ii, gFdiv_ii, gMod_ii, gPow_ii, gNeg_i, gAbs_i, gInt_i, gInt_b, gGcd_ii, gLen_l, gLen_t, gLen_s, gIx_l, gIx_t, gIx_s, gIs_bb, gIs_dn, gEq_de, gTuple_l, gTuple_t, gList_l, gList_t, items_l, items_t, items_s, seq_l, seq_t, isNon_n, isNon_i, isNon_b, isNon_s, isNon_t, isNon_l, g2_ii, isK, knownD, flatD, view_sh', view_lst, flat_sh, flat_lst, List.map_cons, List.map_nil, List.replicate, List.cons_append, List.nil_append, List.append_nil, List.getElem?_cons_zero, List.getElem?_cons_succ, List.set_cons_zero, List.set_cons_succ, List.length_cons, List.length_nil, List.contains, List.elem_nil, List.elem_cons, List.any_cons, List.any_nil, List.all_nil, List.all_cons, Bool.or_false, Bool.false_eq_true, if_true, if_false, ite_true, ite_false, Nat.reduceSub, Nat.reduceAdd, Nat.reduceBEq, Nat.reduceEqDiff, Nat.reduceLeDiff, Nat.reduceLT, beq_self_eq_true, Bool.not_true, Bool.not_false, Bool.and_true, Bool.true_and, Bool.and_false, Bool.false_and, Bool.or_true, Bool.true_or, Bool.false_or, decide_eq_true_eq, Bool.not_eq_true', decide_eq_false_iff_not, true_and, and_true, reduceCtorEq, at_0, at_1, at_2, at_3, List.getD_cons_zero, List.getD_cons_succ, ok_int, ok_bl, ok_non, ok_tup0, ok_tI, ok_str, ok_t1, eq_int, eq_str, eq_t1, eq_tI1, ix40, ix41, ix42, ix43, List.length_map, eqk_int, eqk_str, eqk_bl, eqv_int, eqv_str, List.take_succ_cons, List.take_zero, List.drop_succ_cons, List.drop_zero, List.take_nil, List.drop_nil, ↓z_m1, ↓z_strV, ↓z_strS, strO_s, ↓z_intV, ↓z_intS, intO_i, ↓z_sl, ↓z_part0, ↓z_part, ↓z_join, ↓z_js0, ↓z_js1, gStr_i, gAll_l, gIn_ss, gStart_ss, gSplit_ss, gCut_s, gCut_l, gCut_t, gFmt_s, gFmt_i, gMul_si, gInt_s]
    by_cases h : y = 0
    · subst h
      simp
      rw [Int.gcd_zero_right] at hg
      have e : x = (Int.gcd a b : Int) := by omega
      rw [← e] at k
      exact k
    · rw [if_pos (by simpa using h)]
      have m := fmod_lt (i := x) (j := y) (by omega)
      refine ⟨h, (x.fmod y).toNat, by omega, y, x.fmod y, rfl, hy, m.1, rfl, ?_⟩
      rw [← hg]; exact gcd_step hx (by omega)
theorem c__law_ratio : ∀ os KR KE, Pv.S__law_ratio os KR KE → bodyS 3 [] 2 D__law_ratio os KR KE := by
  rintro os KR KE ⟨a, b, rfl, h0, h1, h2, k⟩
  refine x_body rfl (by simp) ?_
  simp only [↓z_c, ↓z_var, ↓z_nil, ↓z_cons, ↓z_b, ↓z_vslot, ↓z_kslot, ↓z_kval, ↓z_lst, ↓z_tup, ↓z_call, ↓z_callKw, ↓z_tslot, ↓z_pslot, ↓z_tru, ↓z_tb, ↓z_nott, ↓z_andt, ↓z_ort, ↓z_ifx, ↓z_andv, ↓z_orv, ↓z_notv, ↓z_isi, ↓z_xf, ↓z_xis, ↓z_app, ↓z_chain, ↓z_fld, ↓z_ins, ↓z_dic, ↓z_next, ↓z_seq, ↓z_break, ↓z_cont, ↓z_expr, ↓z_ret, ↓z_rval, ↓z_rslot, ↓z_retn, ↓z_if, ↓z_asg, ↓z_setix, ↓z_par, ↓z_asgg, ↓z_gnm, ↓z_gunp, ↓z_gone, ↓z_gno, ↓z_raise, ↓z_try, ↓z_for, ↓z_iseq, ↓z_irg1, ↓z_izip, ↓z_sslot, ↓z_ocons, ↓z_lc, ↓z_yes, ↓z_w0, ↓z_ws, ↓x_vnil, ↓x_vval, ↓x_knil, ↓x_kcons, ↓x_tnil, ↓x_tval, ↓x_pval, ↓x_pnil, ↓x_snil, ↓x_sval, ↓x_onil, z_trN, z_trB, z_trI, z_trS, z_trT, z_trL, slotV_s, slotN_n, slotN_s, slotL_l, slotC_sh, slotC_lst, slotC_ins, one1_d, oneI_i, two2_o, two2D_d, someV_s, isBl_b, boolO_b, setV_s, insV_s, tryV_t, tryV_f, insD_i, unpD_t, unpD_l, gAdd_ii, gAdd_ss, gAdd_ll, gAdd_tt, gMul_ii, gMul_li, gSub_ii, gLt_ii, gLe_ii, gGt_ii, gGe_ii, gFdiv_ii, gMod_ii, gPow_ii, gNeg_i, gAbs_i, gInt_i, gInt_b, gGcd_ii, gLen_l, gLen_t, gLen_s, gIx_l, gIx_t, gIx_s, gIs_bb, gIs_dn, gEq_de, gTuple_l, gTuple_t, gList_l, gList_t, items_l, items_t, items_s, seq_l, seq_t, isNon_n, isNon_i, isNon_b, isNon_s, isNon_t, isNon_l, g2_ii, isK, knownD, flatD, view_sh', view_lst, flat_sh, flat_lst, List.map_cons, List.map_nil, List.replicate, List.cons_append, List.nil_append, List.append_nil, List.getElem?_cons_zero, List.getElem?_cons_succ, List.set_cons_zero, List.set_cons_succ, List.length_cons, List.length_nil, List.contains, List.elem_nil, List.elem_cons, List.any_cons, List.any_nil, List.all_nil, List.all_cons, Bool.or_false, Bool.false_eq_true, if_true, if_false, ite_true, ite_false, Nat.reduceSub, Nat.reduceAdd, Nat.reduceBEq, Nat.reduceEqDiff, Nat.reduceLeDiff, Nat.reduceLT, beq_self_eq_true, Bool.not_true, Bool.not_false, Bool.and_true, Bool.true_and, Bool.and_false, Bool.false_and, Bool.or_true, Bool.true_or, Bool.false_or, decide_eq_true_eq, Bool.not_eq_true', decide_eq_false_iff_not, true_and, and_true, reduceCtorEq, at_0, at_1, at_2, at_3, List.getD_cons_zero, List.getD_cons_succ, ok_int, ok_bl, ok_non, ok_tup0, ok_tI, ok_str, ok_t1, eq_int, eq_str, eq_t1, eq_tI1, ix40, ix41, ix42, ix43, List.length_map, eqk_int, eqk_str, eqk_bl, eqv_int, eqv_str, List.take_succ_cons, List.take_zero, List.drop_succ_cons, List.drop_zero, List.take_nil, List.drop_nil, ↓z_m1, ↓z_strV, ↓z_strS, strO_s, ↓z_intV, ↓z_intS, intO_i, ↓z_sl, ↓z_part0, ↓z_part, ↓z_join, ↓z_js0, ↓z_js1, gStr_i, gAll_l, gIn_ss, gStart_ss, gSplit_ss, gCut_s, gCut_l, gCut_t, gFmt_s, gFmt_i, gMul_si, gInt_s, D__law_ratio]
  refine ⟨_, _, rfl, ?_⟩
  simp only [↓z_c, ↓z_var, ↓z_nil, ↓z_cons, ↓z_b, ↓z_vslot, ↓z_kslot, ↓z_kval, ↓z_lst, ↓z_tup, ↓z_call, ↓z_callKw, ↓z_tslot, ↓z_pslot, ↓z_tru, ↓z_tb, ↓z_nott, ↓z_andt, ↓z_ort, ↓z_ifx, ↓z_andv, ↓z_orv, ↓z_notv, ↓z_isi, ↓z_xf, ↓z_xis, ↓z_app, ↓z_chain, ↓z_fld, ↓z_ins, ↓z_dic, ↓z_next, ↓z_seq, ↓z_break, ↓z_cont, ↓z_expr, ↓z_ret, ↓z_rval, ↓z_rslot, ↓z_retn, ↓z_if, ↓z_asg, ↓z_setix, ↓z_par, ↓z_asgg, ↓z_gnm, ↓z_gunp, ↓z_gone, ↓z_gno, ↓z_raise, ↓z_try, ↓z_for, ↓z_iseq, ↓z_irg1, ↓z_izip, ↓z_sslot, ↓z_ocons, ↓z_lc, ↓z_yes, ↓z_w0, ↓z_ws, ↓x_vnil, ↓x_vval, ↓x_knil, ↓x_kcons, ↓x_tnil, ↓x_tval, ↓x_pval, ↓x_pnil, ↓x_snil, ↓x_sval, ↓x_onil, z_trN, z_trB, z_trI, z_trS, z_trT, z_trL, slotV_s, slotN_n, slotN_s, slotL_l, slotC_sh, slotC_lst, slotC_ins, one1_d, oneI_i, two2_o, two2D_d, someV_s, isBl_b, boolO_b, setV_s, insV_s, tryV_t, tryV_f, insD_i, unpD_t, unpD_l, gAdd_ii, gAdd_ss, gAdd_ll, gAdd_tt, gMul_ii, gMul_li, gSub_ii, gLt_ii, gLe_ii, gGt_ii, gGe_ii, gFdiv_ii, gMod_ii, gPow_ii, gNeg_i, gAbs_i, gInt_i, gInt_b, gGcd_ii, gLen_l, gLen_t, gLen_s, gIx_l, gIx_t, gIx_s, gIs_bb, gIs_dn, gEq_de, gTuple_l, gTuple_t, gList_l, gList_t, items_l, items_t, items_s, seq_l, seq_t, isNon_n, isNon_i, isNon_b, isNon_s, isNon_t, isNon_l, g2_ii, isK, knownD, flatD, view_sh', view_lst, flat_sh, flat_lst, List.map_cons, List.map_nil, List.replicate, List.cons_append, List.nil_append, List.append_nil, List.getElem?_cons_zero, List.getElem?_cons_succ, List.set_cons_zero, List.set_cons_succ, List.length_cons, List.length_nil, List.contains, List.elem_nil, List.elem_cons, List.any_cons, List.any_nil, List.all_nil, List.all_cons, Bool.or_false, Bool.false_eq_true, if_true, if_false, ite_true, ite_false, Nat.reduceSub, Nat.reduceAdd, Nat.reduceBEq, Nat.reduceEqDiff, Nat.reduceLeDiff, Nat.reduceLT, beq_self_eq_true, Bool.not_true, Bool.not_false, Bool.and_true, Bool.true_and, Bool.and_false, Bool.false_and, Bool.or_true, Bool.true_or, Bool.false_or, decide_eq_true_eq, Bool.not_eq_true', decide_eq_false_iff_not, true_and, and_true, reduceCtorEq, at_0, at_1, at_2, at_3, List.getD_cons_zero, List.getD_cons_succ, ok_int, ok_bl, ok_non, ok_tup0, ok_tI, ok_str, ok_t1, eq_int, eq_str, eq_t1, eq_tI1, ix40, ix41, ix42, ix43, List.length_map, eqk_int, eqk_str, eqk_bl, eqv_int, eqv_str, List.take_succ_cons, List.take_zero, List.drop_succ_cons, List.drop_zero, List.take_nil, List.drop_nil, ↓z_m1, ↓z_strV, ↓z_strS, strO_s, ↓z_intV, ↓z_intS, intO_i, ↓z_sl, ↓z_part0, ↓z_part, ↓z_join, ↓z_js0, ↓z_js1, gStr_i, gAll_l, gIn_ss, gStart_ss, gSplit_ss, gCut_s, gCut_l, gCut_t, gFmt_s, gFmt_i, gMul_si, gInt_s]
  have hg := gcd_pos (a := a) h0
  have gw : Wb 8100 (Int.gcd a b : Int) := gcd_wb h0 h2
  unfold low at k
  by_cases h : b < 0
  · rw [if_pos h]
    rw [if_pos h] at k
    have d := divOk (j := -(Int.gcd a b : Int)) (by omega) gw.neg
    exact ⟨d, d, by decide, k⟩
  · rw [if_neg h]
    rw [if_neg h] at k
    have d := divOk (j := (Int.gcd a b : Int)) (by omega) gw
    exact ⟨d, d, by decide, k⟩
theorem hand_ok {cells : List Int} {p r t : Int} {o : O} (e : o.flat = .lst [.sh (.lst (cells.map D.int)), oI p, oI r, oI t]) (h : ∀ c ∈ cells, 0 ≤ c) (hp : 0 ≤ p) (hr : 0 ≤ r) : Hand o := ⟨cells, p, r, t, e, h, hp, hr⟩
theorem c__law_hand : ∀ os KR KE, Pv.S__law_hand os KR KE → bodyS 4 [] 1 D__law_hand os KR KE := by
  rintro os KR KE ⟨ns, rfl, hl, k⟩
  refine x_body rfl (by simp) ?_
  simp only [↓z_c, ↓z_var, ↓z_nil, ↓z_cons, ↓z_b, ↓z_vslot, ↓z_kslot, ↓z_kval, ↓z_lst, ↓z_tup, ↓z_call, ↓z_callKw, ↓z_tslot, ↓z_pslot, ↓z_tru, ↓z_tb, ↓z_nott, ↓z_andt, ↓z_ort, ↓z_ifx, ↓z_andv, ↓z_orv, ↓z_notv, ↓z_isi, ↓z_xf, ↓z_xis, ↓z_app, ↓z_chain, ↓z_fld, ↓z_ins, ↓z_dic, ↓z_next, ↓z_seq, ↓z_break, ↓z_cont, ↓z_expr, ↓z_ret, ↓z_rval, ↓z_rslot, ↓z_retn, ↓z_if, ↓z_asg, ↓z_setix, ↓z_par, ↓z_asgg, ↓z_gnm, ↓z_gunp, ↓z_gone, ↓z_gno, ↓z_raise, ↓z_try, ↓z_for, ↓z_iseq, ↓z_irg1, ↓z_izip, ↓z_sslot, ↓z_ocons, ↓z_lc, ↓z_yes, ↓z_w0, ↓z_ws, ↓x_vnil, ↓x_vval, ↓x_knil, ↓x_kcons, ↓x_tnil, ↓x_tval, ↓x_pval, ↓x_pnil, ↓x_snil, ↓x_sval, ↓x_onil, z_trN, z_trB, z_trI, z_trS, z_trT, z_trL, slotV_s, slotN_n, slotN_s, slotL_l, slotC_sh, slotC_lst, slotC_ins, one1_d, oneI_i, two2_o, two2D_d, someV_s, isBl_b, boolO_b, setV_s, insV_s, tryV_t, tryV_f, insD_i, unpD_t, unpD_l, gAdd_ii, gAdd_ss, gAdd_ll, gAdd_tt, gMul_ii, gMul_li, gSub_ii, gLt_ii, gLe_ii, gGt_ii, gGe_ii, gFdiv_ii, gMod_ii, gPow_ii, gNeg_i, gAbs_i, gInt_i, gInt_b, gGcd_ii, gLen_l, gLen_t, gLen_s, gIx_l, gIx_t, gIx_s, gIs_bb, gIs_dn, gEq_de, gTuple_l, gTuple_t, gList_l, gList_t, items_l, items_t, items_s, seq_l, seq_t, isNon_n, isNon_i, isNon_b, isNon_s, isNon_t, isNon_l, g2_ii, isK, knownD, flatD, view_sh', view_lst, flat_sh, flat_lst, List.map_cons, List.map_nil, List.replicate, List.cons_append, List.nil_append, List.append_nil, List.getElem?_cons_zero, List.getElem?_cons_succ, List.set_cons_zero, List.set_cons_succ, List.length_cons, List.length_nil, List.contains, List.elem_nil, List.elem_cons, List.any_cons, List.any_nil, List.all_nil, List.all_cons, Bool.or_false, Bool.false_eq_true, if_true, if_false, ite_true, ite_false, Nat.reduceSub, Nat.reduceAdd, Nat.reduceBEq, Nat.reduceEqDiff, Nat.reduceLeDiff, Nat.reduceLT, beq_self_eq_true, Bool.not_true, Bool.not_false, Bool.and_true, Bool.true_and, Bool.and_false, Bool.false_and, Bool.or_true, Bool.true_or, Bool.false_or, decide_eq_true_eq, Bool.not_eq_true', decide_eq_false_iff_not, true_and, and_true, reduceCtorEq, at_0, at_1, at_2, at_3, List.getD_cons_zero, List.getD_cons_succ, ok_int, ok_bl, ok_non, ok_tup0, ok_tI, ok_str, ok_t1, eq_int, eq_str, eq_t1, eq_tI1, ix40, ix41, ix42, ix43, List.length_map, eqk_int, eqk_str, eqk_bl, eqv_int, eqv_str, List.take_succ_cons, List.take_zero, List.drop_succ_cons, List.drop_zero, List.take_nil, List.drop_nil, ↓z_m1, ↓z_strV, ↓z_strS, strO_s, ↓z_intV, ↓z_intS, intO_i, ↓z_sl, ↓z_part0, ↓z_part, ↓z_join, ↓z_js0, ↓z_js1, gStr_i, gAll_l, gIn_ss, gStart_ss, gSplit_ss, gCut_s, gCut_l, gCut_t, gFmt_s, gFmt_i, gMul_si, gInt_s, D__law_hand]
  refine ⟨by decide, ?_⟩
  generalize hS : [O.sh (D.lst (List.map D.int ns))] = ss at k ⊢
  generalize hx : some (O.sh (D.lst (List.map D.int ns))) = x0
  have hx' : x0 = some (O.sh (D.lst (List.map D.int ns))) := hx.symm
  clear hx
  suffices key : ∀ (l : List Int) (t : Int) (cells : List Int) (y : Option O), l.length + cells.length ≤ 63 → (∀ c ∈ cells, 0 ≤ c) → ∀ (K : DEnds), (∀ (t : Int) (cells : List Int) (y : Option O), (∀ c ∈ cells, 0 ≤ c) → cells.length ≤ 63 → K.nx [x0, some (oI t), some (.lst (cells.map oI)), y]) → forD [] (gNm 3) _ (l.map D.int) [x0, some (oI t), some (.lst (cells.map oI)), y] K by
    refine key ns _ [] none (by simpa using hl) (by simp) _ fun t cells y hc hlen => ?_
    subst hx'
    subst hS
    simp only [↓z_c, ↓z_var, ↓z_nil, ↓z_cons, ↓z_b, ↓z_vslot, ↓z_kslot, ↓z_kval, ↓z_lst, ↓z_tup, ↓z_call, ↓z_callKw, ↓z_tslot, ↓z_pslot, ↓z_tru, ↓z_tb, ↓z_nott, ↓z_andt, ↓z_ort, ↓z_ifx, ↓z_andv, ↓z_orv, ↓z_notv, ↓z_isi, ↓z_xf, ↓z_xis, ↓z_app, ↓z_chain, ↓z_fld, ↓z_ins, ↓z_dic, ↓z_next, ↓z_seq, ↓z_break, ↓z_cont, ↓z_expr, ↓z_ret, ↓z_rval, ↓z_rslot, ↓z_retn, ↓z_if, ↓z_asg, ↓z_setix, ↓z_par, ↓z_asgg, ↓z_gnm, ↓z_gunp, ↓z_gone, ↓z_gno, ↓z_raise, ↓z_try, ↓z_for, ↓z_iseq, ↓z_irg1, ↓z_izip, ↓z_sslot, ↓z_ocons, ↓z_lc, ↓z_yes, ↓z_w0, ↓z_ws, ↓x_vnil, ↓x_vval, ↓x_knil, ↓x_kcons, ↓x_tnil, ↓x_tval, ↓x_pval, ↓x_pnil, ↓x_snil, ↓x_sval, ↓x_onil, z_trN, z_trB, z_trI, z_trS, z_trT, z_trL, slotV_s, slotN_n, slotN_s, slotL_l, slotC_sh, slotC_lst, slotC_ins, one1_d, oneI_i, two2_o, two2D_d, someV_s, isBl_b, boolO_b, setV_s, insV_s, tryV_t, tryV_f, insD_i, unpD_t, unpD_l, gAdd_ii, gAdd_ss, gAdd_ll, gAdd_tt, gMul_ii, gMul_li, gSub_ii, gLt_ii, gLe_ii, gGt_ii, gGe_ii, gFdiv_ii, gMod_ii, gPow_ii, gNeg_i, gAbs_i, gInt_i, gInt_b, gGcd_ii, gLen_l, gLen_t, gLen_s, gIx_l, gIx_t, gIx_s, gIs_bb, gIs_dn, gEq_de, gTuple_l, gTuple_t, gList_l, gList_t, items_l, items_t, items_s, seq_l, seq_t, isNon_n, isNon_i, isNon_b, isNon_s, isNon_t, isNon_l, g2_ii, isK, knownD, flatD, view_sh', view_lst, flat_sh, flat_lst, List.map_cons, List.map_nil, List.replicate, List.cons_append, List.nil_append, List.append_nil, List.getElem?_cons_zero, List.getElem?_cons_succ, List.set_cons_zero, List.set_cons_succ, List.length_cons, List.length_nil, List.contains, List.elem_nil, List.elem_cons, List.any_cons, List.any_nil, List.all_nil, List.all_cons, Bool.or_false, Bool.false_eq_true, if_true, if_false, ite_true, ite_false, Nat.reduceSub, Nat.reduceAdd, Nat.reduceBEq, Nat.reduceEqDiff, Nat.reduceLeDiff, Nat.reduceLT, beq_self_eq_true, Bool.not_true, Bool.not_false, Bool.and_true, Bool.true_and, Bool.and_false, Bool.false_and, Bool.or_true, Bool.true_or, Bool.false_or, decide_eq_true_eq, Bool.not_eq_true', decide_eq_false_iff_not, true_and, and_true, reduceCtorEq, at_0, at_1, at_2, at_3, List.getD_cons_zero, List.getD_cons_succ, ok_int, ok_bl, ok_non, ok_tup0, ok_tI, ok_str, ok_t1, eq_int, eq_str, eq_t1, eq_tI1, ix40, ix41, ix42, ix43, List.length_map, eqk_int, eqk_str, eqk_bl, eqv_int, eqv_str, List.take_succ_cons, List.take_zero, List.drop_succ_cons, List.drop_zero, List.take_nil, List.drop_nil, ↓z_m1, ↓z_strV, ↓z_strS, strO_s, ↓z_intV, ↓z_intS, intO_i, ↓z_sl, ↓z_part0, ↓z_part, ↓z_join, ↓z_js0, ↓z_js1, gStr_i, gAll_l, gIn_ss, gStart_ss, gSplit_ss, gCut_s, gCut_l, gCut_t, gFmt_s, gFmt_i, gMul_si, gInt_s]
    refine ⟨by decide, k _ (hand_ok (cells := cells) (p := 0) (r := 0) (t := t) ?_ hc (by decide) (by decide))⟩
    simp [O.flat, O.view, viewL_map, Function.comp_def]
  intro l
  induction l with
  | nil => intro t cells y _ hc K k; exact ⟨fun q hq => by simp at hq, k t cells y hc (by omega)⟩
  | cons n l ih =>
    intro t cells y hlen hc K k
    refine ⟨fun q hq => by simp at hq, ?_⟩
    simp only [↓z_c, ↓z_var, ↓z_nil, ↓z_cons, ↓z_b, ↓z_vslot, ↓z_kslot, ↓z_kval, ↓z_lst, ↓z_tup, ↓z_call, ↓z_callKw, ↓z_tslot, ↓z_pslot, ↓z_tru, ↓z_tb, ↓z_nott, ↓z_andt, ↓z_ort, ↓z_ifx, ↓z_andv, ↓z_orv, ↓z_notv, ↓z_isi, ↓z_xf, ↓z_xis, ↓z_app, ↓z_chain, ↓z_fld, ↓z_ins, ↓z_dic, ↓z_next, ↓z_seq, ↓z_break, ↓z_cont, ↓z_expr, ↓z_ret, ↓z_rval, ↓z_rslot, ↓z_retn, ↓z_if, ↓z_asg, ↓z_setix, ↓z_par, ↓z_asgg, ↓z_gnm, ↓z_gunp, ↓z_gone, ↓z_gno, ↓z_raise, ↓z_try, ↓z_for, ↓z_iseq, ↓z_irg1, ↓z_izip, ↓z_sslot, ↓z_ocons, ↓z_lc, ↓z_yes, ↓z_w0, ↓z_ws, ↓x_vnil, ↓x_vval, ↓x_knil, ↓x_kcons, ↓x_tnil, ↓x_tval, ↓x_pval, ↓x_pnil, ↓x_snil, ↓x_sval, ↓x_onil, z_trN, z_trB, z_trI, z_trS, z_trT, z_trL, slotV_s, slotN_n, slotN_s, slotL_l, slotC_sh, slotC_lst, slotC_ins, one1_d, oneI_i, two2_o, two2D_d, someV_s, isBl_b, boolO_b, setV_s, insV_s, tryV_t, tryV_f, insD_i, unpD_t, unpD_l, gAdd_ii, gAdd_ss, gAdd_ll, gAdd_tt, gMul_ii, gMul_li, gSub_ii, gLt_ii, gLe_ii, gGt_ii, gGe_ii, gFdiv_ii, gMod_ii, gPow_ii, gNeg_i, gAbs_i, gInt_i, gInt_b, gGcd_ii, gLen_l, gLen_t, gLen_s, gIx_l, gIx_t, gIx_s, gIs_bb, gIs_dn, gEq_de, gTuple_l, gTuple_t, gList_l, gList_t, items_l, items_t, items_s, seq_l, seq_t, isNon_n, isNon_i, isNon_b, isNon_s, isNon_t, isNon_l, g2_ii, isK, knownD, flatD, view_sh', view_lst, flat_sh, flat_lst, List.map_cons, List.map_nil, List.replicate, List.cons_append, List.nil_append, List.append_nil, List.getElem?_cons_zero, List.getElem?_cons_succ, List.set_cons_zero, List.set_cons_succ, List.length_cons, List.length_nil, List.contains, List.elem_nil, List.elem_cons, List.any_cons, List.any_nil, List.all_nil, List.all_cons, Bool.or_false, Bool.false_eq_true, if_true, if_false, ite_true, ite_false, Nat.reduceSub, Nat.reduceAdd, Nat.reduceBEq, Nat.reduceEqDiff, Nat.reduceLeDiff, Nat.reduceLT, beq_self_eq_true, Bool.not_true, Bool.not_false, Bool.and_true, Bool.true_and, Bool.and_false, Bool.false_and, Bool.or_true, Bool.true_or, Bool.false_or, decide_eq_true_eq, Bool.not_eq_true', decide_eq_false_iff_not, true_and, and_true, reduceCtorEq, at_0, at_1, at_2, at_3, List.getD_cons_zero, List.getD_cons_succ, ok_int, ok_bl, ok_non, ok_tup0, ok_tI, ok_str, ok_t1, eq_int, eq_str, eq_t1, eq_tI1, ix40, ix41, ix42, ix43, List.length_map, eqk_int, eqk_str, eqk_bl, eqv_int, eqv_str, List.take_succ_cons, List.take_zero, List.drop_succ_cons, List.drop_zero, List.take_nil, List.drop_nil, ↓z_m1, ↓z_strV, ↓z_strS, strO_s, ↓z_intV, ↓z_intS, intO_i, ↓z_sl, ↓z_part0, ↓z_part, ↓z_join, ↓z_js0, ↓z_js1, gStr_i, gAll_l, gIn_ss, gStart_ss, gSplit_ss, gCut_s, gCut_l, gCut_t, gFmt_s, gFmt_i, gMul_si, gInt_s]
    refine ⟨mulOk_r (by decide) (by decide), by decide, ?_⟩
    simp only [List.length_cons] at hlen
    have step : ∀ c : Int, 0 ≤ c → cells.length < sizeLine ∧ forD [] (gNm 3) _ (l.map D.int) [x0, some (oI ((t * 1013 + n).fmod 2147483629)), some (.lst (cells.map oI ++ [oI c])), some (oI n)] K := fun c hc0 => by
      have e : cells.map oI ++ [oI c] = (cells ++ [c]).map oI := by simp
      refine ⟨by have : (63 : Nat) < sizeLine := by decide
                 omega, ?_⟩
      rw [e]
      refine ih _ (cells ++ [c]) _ (by simp; omega) (fun z hz => ?_) K k
      rcases List.mem_append.mp hz with z1 | z1
      · exact hc z z1
      · rw [List.mem_singleton] at z1; omega
    by_cases h : 0 ≤ n
    · rw [if_pos h]
      exact step n h
    · rw [if_neg h]
      exact step (-n) (by omega)
theorem c__law_take : ∀ os KR KE, Pv.S__law_take os KR KE → bodyS 4 [] 2 D__law_take os KR KE := by
  rintro os KR KE ⟨l0, m, rfl, ⟨cells, p, r, t, ho, hc, hp, hr⟩, hm, hw, k⟩
  generalize hO : O.lst l0 = o at ho ⊢
  have hv : o.view = .lst [.lst (cells.map D.int), .int p, .int r, .int t] := by
    rw [← flat_view, ho]; simp [O.view, O.viewL]
  have md := divOk (j := m) (by omega) hw
  refine x_body rfl (by simp) ?_
  simp only [↓z_c, ↓z_var, ↓z_nil, ↓z_cons, ↓z_b, ↓z_vslot, ↓z_kslot, ↓z_kval, ↓z_lst, ↓z_tup, ↓z_call, ↓z_callKw, ↓z_tslot, ↓z_pslot, ↓z_tru, ↓z_tb, ↓z_nott, ↓z_andt, ↓z_ort, ↓z_ifx, ↓z_andv, ↓z_orv, ↓z_notv, ↓z_isi, ↓z_xf, ↓z_xis, ↓z_app, ↓z_chain, ↓z_fld, ↓z_ins, ↓z_dic, ↓z_next, ↓z_seq, ↓z_break, ↓z_cont, ↓z_expr, ↓z_ret, ↓z_rval, ↓z_rslot, ↓z_retn, ↓z_if, ↓z_asg, ↓z_setix, ↓z_par, ↓z_asgg, ↓z_gnm, ↓z_gunp, ↓z_gone, ↓z_gno, ↓z_raise, ↓z_try, ↓z_for, ↓z_iseq, ↓z_irg1, ↓z_izip, ↓z_sslot, ↓z_ocons, ↓z_lc, ↓z_yes, ↓z_w0, ↓z_ws, ↓x_vnil, ↓x_vval, ↓x_knil, ↓x_kcons, ↓x_tnil, ↓x_tval, ↓x_pval, ↓x_pnil, ↓x_snil, ↓x_sval, ↓x_onil, z_trN, z_trB, z_trI, z_trS, z_trT, z_trL, slotV_s, slotN_n, slotN_s, slotL_l, slotC_sh, slotC_lst, slotC_ins, one1_d, oneI_i, two2_o, two2D_d, someV_s, isBl_b, boolO_b, setV_s, insV_s, tryV_t, tryV_f, insD_i, unpD_t, unpD_l, gAdd_ii, gAdd_ss, gAdd_ll, gAdd_tt, gMul_ii, gMul_li, gSub_ii, gLt_ii, gLe_ii, gGt_ii, gGe_ii, gFdiv_ii, gMod_ii, gPow_ii, gNeg_i, gAbs_i, gInt_i, gInt_b, gGcd_ii, gLen_l, gLen_t, gLen_s, gIx_l, gIx_t, gIx_s, gIs_bb, gIs_dn, gEq_de, gTuple_l, gTuple_t, gList_l, gList_t, items_l, items_t, items_s, seq_l, seq_t, isNon_n, isNon_i, isNon_b, isNon_s, isNon_t, isNon_l, g2_ii, isK, knownD, flatD, view_sh', view_lst, flat_sh, flat_lst, List.map_cons, List.map_nil, List.replicate, List.cons_append, List.nil_append, List.append_nil, List.getElem?_cons_zero, List.getElem?_cons_succ, List.set_cons_zero, List.set_cons_succ, List.length_cons, List.length_nil, List.contains, List.elem_nil, List.elem_cons, List.any_cons, List.any_nil, List.all_nil, List.all_cons, Bool.or_false, Bool.false_eq_true, if_true, if_false, ite_true, ite_false, Nat.reduceSub, Nat.reduceAdd, Nat.reduceBEq, Nat.reduceEqDiff, Nat.reduceLeDiff, Nat.reduceLT, beq_self_eq_true, Bool.not_true, Bool.not_false, Bool.and_true, Bool.true_and, Bool.and_false, Bool.false_and, Bool.or_true, Bool.true_or, Bool.false_or, decide_eq_true_eq, Bool.not_eq_true', decide_eq_false_iff_not, true_and, and_true, reduceCtorEq, at_0, at_1, at_2, at_3, List.getD_cons_zero, List.getD_cons_succ, ok_int, ok_bl, ok_non, ok_tup0, ok_tI, ok_str, ok_t1, eq_int, eq_str, eq_t1, eq_tI1, ix40, ix41, ix42, ix43, List.length_map, eqk_int, eqk_str, eqk_bl, eqv_int, eqv_str, List.take_succ_cons, List.take_zero, List.drop_succ_cons, List.drop_zero, List.take_nil, List.drop_nil, ↓z_m1, ↓z_strV, ↓z_strS, strO_s, ↓z_intV, ↓z_intS, intO_i, ↓z_sl, ↓z_part0, ↓z_part, ↓z_join, ↓z_js0, ↓z_js1, gStr_i, gAll_l, gIn_ss, gStart_ss, gSplit_ss, gCut_s, gCut_l, gCut_t, gFmt_s, gFmt_i, gMul_si, gInt_s, hv, ho, D__law_take]
  have rest : True := trivial
  by_cases h1 : r = 0
  · rw [if_pos h1]
    subst h1
    by_cases h2 : p < (cells.length : Int)
    · rw [if_pos h2]
      obtain ⟨c, hcm, e⟩ := at_ints hp h2
      have c0 := hc c hcm
      simp only [↓z_c, ↓z_var, ↓z_nil, ↓z_cons, ↓z_b, ↓z_vslot, ↓z_kslot, ↓z_kval, ↓z_lst, ↓z_tup, ↓z_call, ↓z_callKw, ↓z_tslot, ↓z_pslot, ↓z_tru, ↓z_tb, ↓z_nott, ↓z_andt, ↓z_ort, ↓z_ifx, ↓z_andv, ↓z_orv, ↓z_notv, ↓z_isi, ↓z_xf, ↓z_xis, ↓z_app, ↓z_chain, ↓z_fld, ↓z_ins, ↓z_dic, ↓z_next, ↓z_seq, ↓z_break, ↓z_cont, ↓z_expr, ↓z_ret, ↓z_rval, ↓z_rslot, ↓z_retn, ↓z_if, ↓z_asg, ↓z_setix, ↓z_par, ↓z_asgg, ↓z_gnm, ↓z_gunp, ↓z_gone, ↓z_gno, ↓z_raise, ↓z_try, ↓z_for, ↓z_iseq, ↓z_irg1, ↓z_izip, ↓z_sslot, ↓z_ocons, ↓z_lc, ↓z_yes, ↓z_w0, ↓z_ws, ↓x_vnil, ↓x_vval, ↓x_knil, ↓x_kcons, ↓x_tnil, ↓x_tval, ↓x_pval, ↓x_pnil, ↓x_snil, ↓x_sval, ↓x_onil, z_trN, z_trB, z_trI, z_trS, z_trT, z_trL, slotV_s, slotN_n, slotN_s, slotL_l, slotC_sh, slotC_lst, slotC_ins, one1_d, oneI_i, two2_o, two2D_d, someV_s, isBl_b, boolO_b, setV_s, insV_s, tryV_t, tryV_f, insD_i, unpD_t, unpD_l, gAdd_ii, gAdd_ss, gAdd_ll, gAdd_tt, gMul_ii, gMul_li, gSub_ii, gLt_ii, gLe_ii, gGt_ii, gGe_ii, gFdiv_ii, gMod_ii, gPow_ii, gNeg_i, gAbs_i, gInt_i, gInt_b, gGcd_ii, gLen_l, gLen_t, gLen_s, gIx_l, gIx_t, gIx_s, gIs_bb, gIs_dn, gEq_de, gTuple_l, gTuple_t, gList_l, gList_t, items_l, items_t, items_s, seq_l, seq_t, isNon_n, isNon_i, isNon_b, isNon_s, isNon_t, isNon_l, g2_ii, isK, knownD, flatD, view_sh', view_lst, flat_sh, flat_lst, List.map_cons, List.map_nil, List.replicate, List.cons_append, List.nil_append, List.append_nil, List.getElem?_cons_zero, List.getElem?_cons_succ, List.set_cons_zero, List.set_cons_succ, List.length_cons, List.length_nil, List.contains, List.elem_nil, List.elem_cons, List.any_cons, List.any_nil, List.all_nil, List.all_cons, Bool.or_false, Bool.false_eq_true, if_true, if_false, ite_true, ite_false, Nat.reduceSub, Nat.reduceAdd, Nat.reduceBEq, Nat.reduceEqDiff, Nat.reduceLeDiff, Nat.reduceLT, beq_self_eq_true, Bool.not_true, Bool.not_false, Bool.and_true, Bool.true_and, Bool.and_false, Bool.false_and, Bool.or_true, Bool.true_or, Bool.false_or, decide_eq_true_eq, Bool.not_eq_true', decide_eq_false_iff_not, true_and, and_true, reduceCtorEq, at_0, at_1, at_2, at_3, List.getD_cons_zero, List.getD_cons_succ, ok_int, ok_bl, ok_non, ok_tup0, ok_tI, ok_str, ok_t1, eq_int, eq_str, eq_t1, eq_tI1, ix40, ix41, ix42, ix43, List.length_map, eqk_int, eqk_str, eqk_bl, eqv_int, eqv_str, List.take_succ_cons, List.take_zero, List.drop_succ_cons, List.drop_zero, List.take_nil, List.drop_nil, ↓z_m1, ↓z_strV, ↓z_strS, strO_s, ↓z_intV, ↓z_intS, intO_i, ↓z_sl, ↓z_part0, ↓z_part, ↓z_join, ↓z_js0, ↓z_js1, gStr_i, gAll_l, gIn_ss, gStart_ss, gSplit_ss, gCut_s, gCut_l, gCut_t, gFmt_s, gFmt_i, gMul_si, gInt_s, e]
      refine ⟨⟨by decide, by decide, by decide⟩, ?_⟩
      by_cases h3 : c < 10 ^ Int.toNat 18
      · rw [if_pos h3]
        refine ⟨by decide, _, _, rfl, fun n => ?_⟩
        simp only [↓z_c, ↓z_var, ↓z_nil, ↓z_cons, ↓z_b, ↓z_vslot, ↓z_kslot, ↓z_kval, ↓z_lst, ↓z_tup, ↓z_call, ↓z_callKw, ↓z_tslot, ↓z_pslot, ↓z_tru, ↓z_tb, ↓z_nott, ↓z_andt, ↓z_ort, ↓z_ifx, ↓z_andv, ↓z_orv, ↓z_notv, ↓z_isi, ↓z_xf, ↓z_xis, ↓z_app, ↓z_chain, ↓z_fld, ↓z_ins, ↓z_dic, ↓z_next, ↓z_seq, ↓z_break, ↓z_cont, ↓z_expr, ↓z_ret, ↓z_rval, ↓z_rslot, ↓z_retn, ↓z_if, ↓z_asg, ↓z_setix, ↓z_par, ↓z_asgg, ↓z_gnm, ↓z_gunp, ↓z_gone, ↓z_gno, ↓z_raise, ↓z_try, ↓z_for, ↓z_iseq, ↓z_irg1, ↓z_izip, ↓z_sslot, ↓z_ocons, ↓z_lc, ↓z_yes, ↓z_w0, ↓z_ws, ↓x_vnil, ↓x_vval, ↓x_knil, ↓x_kcons, ↓x_tnil, ↓x_tval, ↓x_pval, ↓x_pnil, ↓x_snil, ↓x_sval, ↓x_onil, z_trN, z_trB, z_trI, z_trS, z_trT, z_trL, slotV_s, slotN_n, slotN_s, slotL_l, slotC_sh, slotC_lst, slotC_ins, one1_d, oneI_i, two2_o, two2D_d, someV_s, isBl_b, boolO_b, setV_s, insV_s, tryV_t, tryV_f, insD_i, unpD_t, unpD_l, gAdd_ii, gAdd_ss, gAdd_ll, gAdd_tt, gMul_ii, gMul_li, gSub_ii, gLt_ii, gLe_ii, gGt_ii, gGe_ii, gFdiv_ii, gMod_ii, gPow_ii, gNeg_i, gAbs_i, gInt_i, gInt_b, gGcd_ii, gLen_l, gLen_t, gLen_s, gIx_l, gIx_t, gIx_s, gIs_bb, gIs_dn, gEq_de, gTuple_l, gTuple_t, gList_l, gList_t, items_l, items_t, items_s, seq_l, seq_t, isNon_n, isNon_i, isNon_b, isNon_s, isNon_t, isNon_l, g2_ii, isK, knownD, flatD, view_sh', view_lst, flat_sh, flat_lst, List.map_cons, List.map_nil, List.replicate, List.cons_append, List.nil_append, List.append_nil, List.getElem?_cons_zero, List.getElem?_cons_succ, List.set_cons_zero, List.set_cons_succ, List.length_cons, List.length_nil, List.contains, List.elem_nil, List.elem_cons, List.any_cons, List.any_nil, List.all_nil, List.all_cons, Bool.or_false, Bool.false_eq_true, if_true, if_false, ite_true, ite_false, Nat.reduceSub, Nat.reduceAdd, Nat.reduceBEq, Nat.reduceEqDiff, Nat.reduceLeDiff, Nat.reduceLT, beq_self_eq_true, Bool.not_true, Bool.not_false, Bool.and_true, Bool.true_and, Bool.and_false, Bool.false_and, Bool.or_true, Bool.true_or, Bool.false_or, decide_eq_true_eq, Bool.not_eq_true', decide_eq_false_iff_not, true_and, and_true, reduceCtorEq, at_0, at_1, at_2, at_3, List.getD_cons_zero, List.getD_cons_succ, ok_int, ok_bl, ok_non, ok_tup0, ok_tI, ok_str, ok_t1, eq_int, eq_str, eq_t1, eq_tI1, ix40, ix41, ix42, ix43, List.length_map, eqk_int, eqk_str, eqk_bl, eqv_int, eqv_str, List.take_succ_cons, List.take_zero, List.drop_succ_cons, List.drop_zero, List.take_nil, List.drop_nil, ↓z_m1, ↓z_strV, ↓z_strS, strO_s, ↓z_intV, ↓z_intS, intO_i, ↓z_sl, ↓z_part0, ↓z_part, ↓z_join, ↓z_js0, ↓z_js1, gStr_i, gAll_l, gIn_ss, gStart_ss, gSplit_ss, gCut_s, gCut_l, gCut_t, gFmt_s, gFmt_i, gMul_si, gInt_s]
        refine ⟨by omega, ?_⟩
        have f := fmod_lt (i := n) hm
        exact k _ _ f.1 f.2 (hand_ok (cells := cells) (p := p + 1) (r := 0) (t := t) (by simp [O.flat, O.view]) hc (by omega) (by omega))
      · rw [if_neg h3]
        have c1 : (0 : Int) < c := by
          have : (0 : Int) < 10 ^ Int.toNat 18 := by decide
          omega
        rw [if_pos c1]
        refine ⟨md, by omega, ?_⟩
        have f := fmod_lt (i := c) hm
        exact k _ _ f.1 f.2 (hand_ok (cells := cells) (p := p + 1) (r := c.fdiv m) (t := t) (by simp [O.flat, O.view]) hc (by omega) (Int.fdiv_nonneg c0 (by omega)))
    · rw [if_neg h2, if_neg (by decide)]
      refine ⟨by decide, _, _, rfl, fun n => ?_⟩
      simp only [↓z_c, ↓z_var, ↓z_nil, ↓z_cons, ↓z_b, ↓z_vslot, ↓z_kslot, ↓z_kval, ↓z_lst, ↓z_tup, ↓z_call, ↓z_callKw, ↓z_tslot, ↓z_pslot, ↓z_tru, ↓z_tb, ↓z_nott, ↓z_andt, ↓z_ort, ↓z_ifx, ↓z_andv, ↓z_orv, ↓z_notv, ↓z_isi, ↓z_xf, ↓z_xis, ↓z_app, ↓z_chain, ↓z_fld, ↓z_ins, ↓z_dic, ↓z_next, ↓z_seq, ↓z_break, ↓z_cont, ↓z_expr, ↓z_ret, ↓z_rval, ↓z_rslot, ↓z_retn, ↓z_if, ↓z_asg, ↓z_setix, ↓z_par, ↓z_asgg, ↓z_gnm, ↓z_gunp, ↓z_gone, ↓z_gno, ↓z_raise, ↓z_try, ↓z_for, ↓z_iseq, ↓z_irg1, ↓z_izip, ↓z_sslot, ↓z_ocons, ↓z_lc, ↓z_yes, ↓z_w0, ↓z_ws, ↓x_vnil, ↓x_vval, ↓x_knil, ↓x_kcons, ↓x_tnil, ↓x_tval, ↓x_pval, ↓x_pnil, ↓x_snil, ↓x_sval, ↓x_onil, z_trN, z_trB, z_trI, z_trS, z_trT, z_trL, slotV_s, slotN_n, slotN_s, slotL_l, slotC_sh, slotC_lst, slotC_ins, one1_d, oneI_i, two2_o, two2D_d, someV_s, isBl_b, boolO_b, setV_s, insV_s, tryV_t, tryV_f, insD_i, unpD_t, unpD_l, gAdd_ii, gAdd_ss, gAdd_ll, gAdd_tt, gMul_ii, gMul_li, gSub_ii, gLt_ii, gLe_ii, gGt_ii, gGe_ii, gFdiv_ii, gMod_ii, gPow_ii, gNeg_i, gAbs_i, gInt_i, gInt_b, gGcd_ii, gLen_l, gLen_t, gLen_s, gIx_l, gIx_t, gIx_s, gIs_bb, gIs_dn, gEq_de, gTuple_l, gTuple_t, gList_l, gList_t, items_l, items_t, items_s, seq_l, seq_t, isNon_n, isNon_i, isNon_b, isNon_s, isNon_t, isNon_l, g2_ii, isK, knownD, flatD, view_sh', view_lst, flat_sh, flat_lst, List.map_cons, List.map_nil, List.replicate, List.cons_append, List.nil_append, List.append_nil, List.getElem?_cons_zero, List.getElem?_cons_succ, List.set_cons_zero, List.set_cons_succ, List.length_cons, List.length_nil, List.contains, List.elem_nil, List.elem_cons, List.any_cons, List.any_nil, List.all_nil, List.all_cons, Bool.or_false, Bool.false_eq_true, if_true, if_false, ite_true, ite_false, Nat.reduceSub, Nat.reduceAdd, Nat.reduceBEq, Nat.reduceEqDiff, Nat.reduceLeDiff, Nat.reduceLT, beq_self_eq_true, Bool.not_true, Bool.not_false, Bool.and_true, Bool.true_and, Bool.and_false, Bool.false_and, Bool.or_true, Bool.true_or, Bool.false_or, decide_eq_true_eq, Bool.not_eq_true', decide_eq_false_iff_not, true_and, and_true, reduceCtorEq, at_0, at_1, at_2, at_3, List.getD_cons_zero, List.getD_cons_succ, ok_int, ok_bl, ok_non, ok_tup0, ok_tI, ok_str, ok_t1, eq_int, eq_str, eq_t1, eq_tI1, ix40, ix41, ix42, ix43, List.length_map, eqk_int, eqk_str, eqk_bl, eqv_int, eqv_str, List.take_succ_cons, List.take_zero, List.drop_succ_cons, List.drop_zero, List.take_nil, List.drop_nil, ↓z_m1, ↓z_strV, ↓z_strS, strO_s, ↓z_intV, ↓z_intS, intO_i, ↓z_sl, ↓z_part0, ↓z_part, ↓z_join, ↓z_js0, ↓z_js1, gStr_i, gAll_l, gIn_ss, gStart_ss, gSplit_ss, gCut_s, gCut_l, gCut_t, gFmt_s, gFmt_i, gMul_si, gInt_s]
      refine ⟨by omega, ?_⟩
      have f := fmod_lt (i := n) hm
      exact k _ _ f.1 f.2 (hand_ok (cells := cells) (p := p) (r := 0) (t := (t + 1).fmod 2147483629) (by simp [O.flat, O.view]) hc hp (by omega))
  · rw [if_neg h1, if_pos (by omega)]
    have f := fmod_lt (i := r) hm
    exact ⟨md, by omega, k _ _ f.1 f.2 (hand_ok (cells := cells) (p := p) (r := r.fdiv m) (t := t) (by simp [O.flat, O.view]) hc hp (Int.fdiv_nonneg hr (by omega)))⟩
theorem c__law_same : ∀ os KR KE, Pv.S__law_same os KR KE → bodyS 3 [] 2 D__law_same os KR KE := by
  rintro os KR KE ⟨d, q, rfl, h, k⟩
  refine x_body rfl (by simp) ?_
  cases d with
  | ins c fs => rw [D.plain] at h; cases h
  | tup ds =>
    simp only [↓z_c, ↓z_var, ↓z_nil, ↓z_cons, ↓z_b, ↓z_vslot, ↓z_kslot, ↓z_kval, ↓z_lst, ↓z_tup, ↓z_call, ↓z_callKw, ↓z_tslot, ↓z_pslot, ↓z_tru, ↓z_tb, ↓z_nott, ↓z_andt, ↓z_ort, ↓z_ifx, ↓z_andv, ↓z_orv, ↓z_notv, ↓z_isi, ↓z_xf, ↓z_xis, ↓z_app, ↓z_chain, ↓z_fld, ↓z_ins, ↓z_dic, ↓z_next, ↓z_seq, ↓z_break, ↓z_cont, ↓z_expr, ↓z_ret, ↓z_rval, ↓z_rslot, ↓z_retn, ↓z_if, ↓z_asg, ↓z_setix, ↓z_par, ↓z_asgg, ↓z_gnm, ↓z_gunp, ↓z_gone, ↓z_gno, ↓z_raise, ↓z_try, ↓z_for, ↓z_iseq, ↓z_irg1, ↓z_izip, ↓z_sslot, ↓z_ocons, ↓z_lc, ↓z_yes, ↓z_w0, ↓z_ws, ↓x_vnil, ↓x_vval, ↓x_knil, ↓x_kcons, ↓x_tnil, ↓x_tval, ↓x_pval, ↓x_pnil, ↓x_snil, ↓x_sval, ↓x_onil, z_trN, z_trB, z_trI, z_trS, z_trT, z_trL, slotV_s, slotN_n, slotN_s, slotL_l, slotC_sh, slotC_lst, slotC_ins, one1_d, oneI_i, two2_o, two2D_d, someV_s, isBl_b, boolO_b, setV_s, insV_s, tryV_t, tryV_f, insD_i, unpD_t, unpD_l, gAdd_ii, gAdd_ss, gAdd_ll, gAdd_tt, gMul_ii, gMul_li, gSub_ii, gLt_ii, gLe_ii, gGt_ii, gGe_ii, gFdiv_ii, gMod_ii, gPow_ii, gNeg_i, gAbs_i, gInt_i, gInt_b, gGcd_ii, gLen_l, gLen_t, gLen_s, gIx_l, gIx_t, gIx_s, gIs_bb, gIs_dn, gEq_de, gTuple_l, gTuple_t, gList_l, gList_t, items_l, items_t, items_s, seq_l, seq_t, isNon_n, isNon_i, isNon_b, isNon_s, isNon_t, isNon_l, g2_ii, isK, knownD, flatD, view_sh', view_lst, flat_sh, flat_lst, List.map_cons, List.map_nil, List.replicate, List.cons_append, List.nil_append, List.append_nil, List.getElem?_cons_zero, List.getElem?_cons_succ, List.set_cons_zero, List.set_cons_succ, List.length_cons, List.length_nil, List.contains, List.elem_nil, List.elem_cons, List.any_cons, List.any_nil, List.all_nil, List.all_cons, Bool.or_false, Bool.false_eq_true, if_true, if_false, ite_true, ite_false, Nat.reduceSub, Nat.reduceAdd, Nat.reduceBEq, Nat.reduceEqDiff, Nat.reduceLeDiff, Nat.reduceLT, beq_self_eq_true, Bool.not_true, Bool.not_false, Bool.and_true, Bool.true_and, Bool.and_false, Bool.false_and, Bool.or_true, Bool.true_or, Bool.false_or, decide_eq_true_eq, Bool.not_eq_true', decide_eq_false_iff_not, true_and, and_true, reduceCtorEq, at_0, at_1, at_2, at_3, List.getD_cons_zero, List.getD_cons_succ, ok_int, ok_bl, ok_non, ok_tup0, ok_tI, ok_str, ok_t1, eq_int, eq_str, eq_t1, eq_tI1, ix40, ix41, ix42, ix43, List.length_map, eqk_int, eqk_str, eqk_bl, eqv_int, eqv_str, List.take_succ_cons, List.take_zero, List.drop_succ_cons, List.drop_zero, List.take_nil, List.drop_nil, ↓z_m1, ↓z_strV, ↓z_strS, strO_s, ↓z_intV, ↓z_intS, intO_i, ↓z_sl, ↓z_part0, ↓z_part, ↓z_join, ↓z_js0, ↓z_js1, gStr_i, gAll_l, gIn_ss, gStart_ss, gSplit_ss, gCut_s, gCut_l, gCut_t, gFmt_s, gFmt_i, gMul_si, gInt_s, D__law_same]
    match ds, h, k with
    | [], _, k =>
      rw [if_pos (by simp)]
      exact k
    | [_], _, k =>
      rw [if_pos (by simp)]
      simp only [sameD] at k
      exact k
    | [u, v], h, k =>
      rw [if_neg (by simp)]
      refine ⟨fun z hz => by simp at hz, ?_⟩
      cases u
      case int i =>
        simp only [↓z_c, ↓z_var, ↓z_nil, ↓z_cons, ↓z_b, ↓z_vslot, ↓z_kslot, ↓z_kval, ↓z_lst, ↓z_tup, ↓z_call, ↓z_callKw, ↓z_tslot, ↓z_pslot, ↓z_tru, ↓z_tb, ↓z_nott, ↓z_andt, ↓z_ort, ↓z_ifx, ↓z_andv, ↓z_orv, ↓z_notv, ↓z_isi, ↓z_xf, ↓z_xis, ↓z_app, ↓z_chain, ↓z_fld, ↓z_ins, ↓z_dic, ↓z_next, ↓z_seq, ↓z_break, ↓z_cont, ↓z_expr, ↓z_ret, ↓z_rval, ↓z_rslot, ↓z_retn, ↓z_if, ↓z_asg, ↓z_setix, ↓z_par, ↓z_asgg, ↓z_gnm, ↓z_gunp, ↓z_gone, ↓z_gno, ↓z_raise, ↓z_try, ↓z_for, ↓z_iseq, ↓z_irg1, ↓z_izip, ↓z_sslot, ↓z_ocons, ↓z_lc, ↓z_yes, ↓z_w0, ↓z_ws, ↓x_vnil, ↓x_vval, ↓x_knil, ↓x_kcons, ↓x_tnil, ↓x_tval, ↓x_pval, ↓x_pnil, ↓x_snil, ↓x_sval, ↓x_onil, z_trN, z_trB, z_trI, z_trS, z_trT, z_trL, slotV_s, slotN_n, slotN_s, slotL_l, slotC_sh, slotC_lst, slotC_ins, one1_d, oneI_i, two2_o, two2D_d, someV_s, isBl_b, boolO_b, setV_s, insV_s, tryV_t, tryV_f, insD_i, unpD_t, unpD_l, gAdd_ii, gAdd_ss, gAdd_ll, gAdd_tt, gMul_ii, gMul_li, gSub_ii, gLt_ii, gLe_ii, gGt_ii, gGe_ii, gFdiv_ii, gMod_ii, gPow_ii, gNeg_i, gAbs_i, gInt_i, gInt_b, gGcd_ii, gLen_l, gLen_t, gLen_s, gIx_l, gIx_t, gIx_s, gIs_bb, gIs_dn, gEq_de, gTuple_l, gTuple_t, gList_l, gList_t, items_l, items_t, items_s, seq_l, seq_t, isNon_n, isNon_i, isNon_b, isNon_s, isNon_t, isNon_l, g2_ii, isK, knownD, flatD, view_sh', view_lst, flat_sh, flat_lst, List.map_cons, List.map_nil, List.replicate, List.cons_append, List.nil_append, List.append_nil, List.getElem?_cons_zero, List.getElem?_cons_succ, List.set_cons_zero, List.set_cons_succ, List.length_cons, List.length_nil, List.contains, List.elem_nil, List.elem_cons, List.any_cons, List.any_nil, List.all_nil, List.all_cons, Bool.or_false, Bool.false_eq_true, if_true, if_false, ite_true, ite_false, Nat.reduceSub, Nat.reduceAdd, Nat.reduceBEq, Nat.reduceEqDiff, Nat.reduceLeDiff, Nat.reduceLT, beq_self_eq_true, Bool.not_true, Bool.not_false, Bool.and_true, Bool.true_and, Bool.and_false, Bool.false_and, Bool.or_true, Bool.true_or, Bool.false_or, decide_eq_true_eq, Bool.not_eq_true', decide_eq_false_iff_not, true_and, and_true, reduceCtorEq, at_0, at_1, at_2, at_3, List.getD_cons_zero, List.getD_cons_succ, ok_int, ok_bl, ok_non, ok_tup0, ok_tI, ok_str, ok_t1, eq_int, eq_str, eq_t1, eq_tI1, ix40, ix41, ix42, ix43, List.length_map, eqk_int, eqk_str, eqk_bl, eqv_int, eqv_str, List.take_succ_cons, List.take_zero, List.drop_succ_cons, List.drop_zero, List.take_nil, List.drop_nil, ↓z_m1, ↓z_strV, ↓z_strS, strO_s, ↓z_intV, ↓z_intS, intO_i, ↓z_sl, ↓z_part0, ↓z_part, ↓z_join, ↓z_js0, ↓z_js1, gStr_i, gAll_l, gIn_ss, gStart_ss, gSplit_ss, gCut_s, gCut_l, gCut_t, gFmt_s, gFmt_i, gMul_si, gInt_s]
        refine ⟨fun z hz => by simp at hz, ?_⟩
        cases v
        case int j =>
          simp only [↓z_c, ↓z_var, ↓z_nil, ↓z_cons, ↓z_b, ↓z_vslot, ↓z_kslot, ↓z_kval, ↓z_lst, ↓z_tup, ↓z_call, ↓z_callKw, ↓z_tslot, ↓z_pslot, ↓z_tru, ↓z_tb, ↓z_nott, ↓z_andt, ↓z_ort, ↓z_ifx, ↓z_andv, ↓z_orv, ↓z_notv, ↓z_isi, ↓z_xf, ↓z_xis, ↓z_app, ↓z_chain, ↓z_fld, ↓z_ins, ↓z_dic, ↓z_next, ↓z_seq, ↓z_break, ↓z_cont, ↓z_expr, ↓z_ret, ↓z_rval, ↓z_rslot, ↓z_retn, ↓z_if, ↓z_asg, ↓z_setix, ↓z_par, ↓z_asgg, ↓z_gnm, ↓z_gunp, ↓z_gone, ↓z_gno, ↓z_raise, ↓z_try, ↓z_for, ↓z_iseq, ↓z_irg1, ↓z_izip, ↓z_sslot, ↓z_ocons, ↓z_lc, ↓z_yes, ↓z_w0, ↓z_ws, ↓x_vnil, ↓x_vval, ↓x_knil, ↓x_kcons, ↓x_tnil, ↓x_tval, ↓x_pval, ↓x_pnil, ↓x_snil, ↓x_sval, ↓x_onil, z_trN, z_trB, z_trI, z_trS, z_trT, z_trL, slotV_s, slotN_n, slotN_s, slotL_l, slotC_sh, slotC_lst, slotC_ins, one1_d, oneI_i, two2_o, two2D_d, someV_s, isBl_b, boolO_b, setV_s, insV_s, tryV_t, tryV_f, insD_i, unpD_t, unpD_l, gAdd_ii, gAdd_ss, gAdd_ll, gAdd_tt, gMul_ii, gMul_li, gSub_ii, gLt_ii, gLe_ii, gGt_ii, gGe_ii, gFdiv_ii, gMod_ii, gPow_ii, gNeg_i, gAbs_i, gInt_i, gInt_b, gGcd_ii, gLen_l, gLen_t, gLen_s, gIx_l, gIx_t, gIx_s, gIs_bb, gIs_dn, gEq_de, gTuple_l, gTuple_t, gList_l, gList_t, items_l, items_t, items_s, seq_l, seq_t, isNon_n, isNon_i, isNon_b, isNon_s, isNon_t, isNon_l, g2_ii, isK, knownD, flatD, view_sh', view_lst, flat_sh, flat_lst, List.map_cons, List.map_nil, List.replicate, List.cons_append, List.nil_append, List.append_nil, List.getElem?_cons_zero, List.getElem?_cons_succ, List.set_cons_zero, List.set_cons_succ, List.length_cons, List.length_nil, List.contains, List.elem_nil, List.elem_cons, List.any_cons, List.any_nil, List.all_nil, List.all_cons, Bool.or_false, Bool.false_eq_true, if_true, if_false, ite_true, ite_false, Nat.reduceSub, Nat.reduceAdd, Nat.reduceBEq, Nat.reduceEqDiff, Nat.reduceLeDiff, Nat.reduceLT, beq_self_eq_true, Bool.not_true, Bool.not_false, Bool.and_true, Bool.true_and, Bool.and_false, Bool.false_and, Bool.or_true, Bool.true_or, Bool.false_or, decide_eq_true_eq, Bool.not_eq_true', decide_eq_false_iff_not, true_and, and_true, reduceCtorEq, at_0, at_1, at_2, at_3, List.getD_cons_zero, List.getD_cons_succ, ok_int, ok_bl, ok_non, ok_tup0, ok_tI, ok_str, ok_t1, eq_int, eq_str, eq_t1, eq_tI1, ix40, ix41, ix42, ix43, List.length_map, eqk_int, eqk_str, eqk_bl, eqv_int, eqv_str, List.take_succ_cons, List.take_zero, List.drop_succ_cons, List.drop_zero, List.take_nil, List.drop_nil, ↓z_m1, ↓z_strV, ↓z_strS, strO_s, ↓z_intV, ↓z_intS, intO_i, ↓z_sl, ↓z_part0, ↓z_part, ↓z_join, ↓z_js0, ↓z_js1, gStr_i, gAll_l, gIn_ss, gStart_ss, gSplit_ss, gCut_s, gCut_l, gCut_t, gFmt_s, gFmt_i, gMul_si, gInt_s, forD]
          refine ⟨fun z hz => by simp at hz, ?_⟩
          simp only [sameD] at k
          by_cases e : i = q.1
          · rw [if_pos e]
            rw [decide_eq_true e, Bool.true_and] at k
            exact k
          · rw [if_neg e]
            rw [decide_eq_false e, Bool.false_and] at k
            rw [decide_eq_false e]
            exact k
        case ins => simp [D.plain, D.plainL] at h
        all_goals
          simp only [↓z_c, ↓z_var, ↓z_nil, ↓z_cons, ↓z_b, ↓z_vslot, ↓z_kslot, ↓z_kval, ↓z_lst, ↓z_tup, ↓z_call, ↓z_callKw, ↓z_tslot, ↓z_pslot, ↓z_tru, ↓z_tb, ↓z_nott, ↓z_andt, ↓z_ort, ↓z_ifx, ↓z_andv, ↓z_orv, ↓z_notv, ↓z_isi, ↓z_xf, ↓z_xis, ↓z_app, ↓z_chain, ↓z_fld, ↓z_ins, ↓z_dic, ↓z_next, ↓z_seq, ↓z_break, ↓z_cont, ↓z_expr, ↓z_ret, ↓z_rval, ↓z_rslot, ↓z_retn, ↓z_if, ↓z_asg, ↓z_setix, ↓z_par, ↓z_asgg, ↓z_gnm, ↓z_gunp, ↓z_gone, ↓z_gno, ↓z_raise, ↓z_try, ↓z_for, ↓z_iseq, ↓z_irg1, ↓z_izip, ↓z_sslot, ↓z_ocons, ↓z_lc, ↓z_yes, ↓z_w0, ↓z_ws, ↓x_vnil, ↓x_vval, ↓x_knil, ↓x_kcons, ↓x_tnil, ↓x_tval, ↓x_pval, ↓x_pnil, ↓x_snil, ↓x_sval, ↓x_onil, z_trN, z_trB, z_trI, z_trS, z_trT, z_trL, slotV_s, slotN_n, slotN_s, slotL_l, slotC_sh, slotC_lst, slotC_ins, one1_d, oneI_i, two2_o, two2D_d, someV_s, isBl_b, boolO_b, setV_s, insV_s, tryV_t, tryV_f, insD_i, unpD_t, unpD_l, gAdd_ii, gAdd_ss, gAdd_ll, gAdd_tt, gMul_ii, gMul_li, gSub_ii, gLt_ii, gLe_ii, gGt_ii, gGe_ii, gFdiv_ii, gMod_ii, gPow_ii, gNeg_i, gAbs_i, gInt_i, gInt_b, gGcd_ii, gLen_l, gLen_t, gLen_s, gIx_l, gIx_t, gIx_s, gIs_bb, gIs_dn, gEq_de, gTuple_l, gTuple_t, gList_l, gList_t, items_l, items_t, items_s, seq_l, seq_t, isNon_n, isNon_i, isNon_b, isNon_s, isNon_t, isNon_l, g2_ii, isK, knownD, flatD, view_sh', view_lst, flat_sh, flat_lst, List.map_cons, List.map_nil, List.replicate, List.cons_append, List.nil_append, List.append_nil, List.getElem?_cons_zero, List.getElem?_cons_succ, List.set_cons_zero, List.set_cons_succ, List.length_cons, List.length_nil, List.contains, List.elem_nil, List.elem_cons, List.any_cons, List.any_nil, List.all_nil, List.all_cons, Bool.or_false, Bool.false_eq_true, if_true, if_false, ite_true, ite_false, Nat.reduceSub, Nat.reduceAdd, Nat.reduceBEq, Nat.reduceEqDiff, Nat.reduceLeDiff, Nat.reduceLT, beq_self_eq_true, Bool.not_true, Bool.not_false, Bool.and_true, Bool.true_and, Bool.and_false, Bool.false_and, Bool.or_true, Bool.true_or, Bool.false_or, decide_eq_true_eq, Bool.not_eq_true', decide_eq_false_iff_not, true_and, and_true, reduceCtorEq, at_0, at_1, at_2, at_3, List.getD_cons_zero, List.getD_cons_succ, ok_int, ok_bl, ok_non, ok_tup0, ok_tI, ok_str, ok_t1, eq_int, eq_str, eq_t1, eq_tI1, ix40, ix41, ix42, ix43, List.length_map, eqk_int, eqk_str, eqk_bl, eqv_int, eqv_str, List.take_succ_cons, List.take_zero, List.drop_succ_cons, List.drop_zero, List.take_nil, List.drop_nil, ↓z_m1, ↓z_strV, ↓z_strS, strO_s, ↓z_intV, ↓z_intS, intO_i, ↓z_sl, ↓z_part0, ↓z_part, ↓z_join, ↓z_js0, ↓z_js1, gStr_i, gAll_l, gIn_ss, gStart_ss, gSplit_ss, gCut_s, gCut_l, gCut_t, gFmt_s, gFmt_i, gMul_si, gInt_s]
          simp only [sameD] at k
          exact k
      case ins => simp [D.plain, D.plainL] at h
      all_goals
        simp only [↓z_c, ↓z_var, ↓z_nil, ↓z_cons, ↓z_b, ↓z_vslot, ↓z_kslot, ↓z_kval, ↓z_lst, ↓z_tup, ↓z_call, ↓z_callKw, ↓z_tslot, ↓z_pslot, ↓z_tru, ↓z_tb, ↓z_nott, ↓z_andt, ↓z_ort, ↓z_ifx, ↓z_andv, ↓z_orv, ↓z_notv, ↓z_isi, ↓z_xf, ↓z_xis, ↓z_app, ↓z_chain, ↓z_fld, ↓z_ins, ↓z_dic, ↓z_next, ↓z_seq, ↓z_break, ↓z_cont, ↓z_expr, ↓z_ret, ↓z_rval, ↓z_rslot, ↓z_retn, ↓z_if, ↓z_asg, ↓z_setix, ↓z_par, ↓z_asgg, ↓z_gnm, ↓z_gunp, ↓z_gone, ↓z_gno, ↓z_raise, ↓z_try, ↓z_for, ↓z_iseq, ↓z_irg1, ↓z_izip, ↓z_sslot, ↓z_ocons, ↓z_lc, ↓z_yes, ↓z_w0, ↓z_ws, ↓x_vnil, ↓x_vval, ↓x_knil, ↓x_kcons, ↓x_tnil, ↓x_tval, ↓x_pval, ↓x_pnil, ↓x_snil, ↓x_sval, ↓x_onil, z_trN, z_trB, z_trI, z_trS, z_trT, z_trL, slotV_s, slotN_n, slotN_s, slotL_l, slotC_sh, slotC_lst, slotC_ins, one1_d, oneI_i, two2_o, two2D_d, someV_s, isBl_b, boolO_b, setV_s, insV_s, tryV_t, tryV_f, insD_i, unpD_t, unpD_l, gAdd_ii, gAdd_ss, gAdd_ll, gAdd_tt, gMul_ii, gMul_li, gSub_ii, gLt_ii, gLe_ii, gGt_ii, gGe_ii, gFdiv_ii, gMod_ii, gPow_ii, gNeg_i, gAbs_i, gInt_i, gInt_b, gGcd_ii, gLen_l, gLen_t, gLen_s, gIx_l, gIx_t, gIx_s, gIs_bb, gIs_dn, gEq_de, gTuple_l, gTuple_t, gList_l, gList_t, items_l, items_t, items_s, seq_l, seq_t, isNon_n, isNon_i, isNon_b, isNon_s, isNon_t, isNon_l, g2_ii, isK, knownD, flatD, view_sh', view_lst, flat_sh, flat_lst, List.map_cons, List.map_nil, List.replicate, List.cons_append, List.nil_append, List.append_nil, List.getElem?_cons_zero, List.getElem?_cons_succ, List.set_cons_zero, List.set_cons_succ, List.length_cons, List.length_nil, List.contains, List.elem_nil, List.elem_cons, List.any_cons, List.any_nil, List.all_nil, List.all_cons, Bool.or_false, Bool.false_eq_true, if_true, if_false, ite_true, ite_false, Nat.reduceSub, Nat.reduceAdd, Nat.reduceBEq, Nat.reduceEqDiff, Nat.reduceLeDiff, Nat.reduceLT, beq_self_eq_true, Bool.not_true, Bool.not_false, Bool.and_true, Bool.true_and, Bool.and_false, Bool.false_and, Bool.or_true, Bool.true_or, Bool.false_or, decide_eq_true_eq, Bool.not_eq_true', decide_eq_false_iff_not, true_and, and_true, reduceCtorEq, at_0, at_1, at_2, at_3, List.getD_cons_zero, List.getD_cons_succ, ok_int, ok_bl, ok_non, ok_tup0, ok_tI, ok_str, ok_t1, eq_int, eq_str, eq_t1, eq_tI1, ix40, ix41, ix42, ix43, List.length_map, eqk_int, eqk_str, eqk_bl, eqv_int, eqv_str, List.take_succ_cons, List.take_zero, List.drop_succ_cons, List.drop_zero, List.take_nil, List.drop_nil, ↓z_m1, ↓z_strV, ↓z_strS, strO_s, ↓z_intV, ↓z_intS, intO_i, ↓z_sl, ↓z_part0, ↓z_part, ↓z_join, ↓z_js0, ↓z_js1, gStr_i, gAll_l, gIn_ss, gStart_ss, gSplit_ss, gCut_s, gCut_l, gCut_t, gFmt_s, gFmt_i, gMul_si, gInt_s]
        simp only [sameD] at k
        exact k
    | _ :: _ :: _ :: _, _, k =>
      rw [if_pos (by simp; omega)]
      simp only [sameD] at k
      exact k
  | _ =>
    simp only [↓z_c, ↓z_var, ↓z_nil, ↓z_cons, ↓z_b, ↓z_vslot, ↓z_kslot, ↓z_kval, ↓z_lst, ↓z_tup, ↓z_call, ↓z_callKw, ↓z_tslot, ↓z_pslot, ↓z_tru, ↓z_tb, ↓z_nott, ↓z_andt, ↓z_ort, ↓z_ifx, ↓z_andv, ↓z_orv, ↓z_notv, ↓z_isi, ↓z_xf, ↓z_xis, ↓z_app, ↓z_chain, ↓z_fld, ↓z_ins, ↓z_dic, ↓z_next, ↓z_seq, ↓z_break, ↓z_cont, ↓z_expr, ↓z_ret, ↓z_rval, ↓z_rslot, ↓z_retn, ↓z_if, ↓z_asg, ↓z_setix, ↓z_par, ↓z_asgg, ↓z_gnm, ↓z_gunp, ↓z_gone, ↓z_gno, ↓z_raise, ↓z_try, ↓z_for, ↓z_iseq, ↓z_irg1, ↓z_izip, ↓z_sslot, ↓z_ocons, ↓z_lc, ↓z_yes, ↓z_w0, ↓z_ws, ↓x_vnil, ↓x_vval, ↓x_knil, ↓x_kcons, ↓x_tnil, ↓x_tval, ↓x_pval, ↓x_pnil, ↓x_snil, ↓x_sval, ↓x_onil, z_trN, z_trB, z_trI, z_trS, z_trT, z_trL, slotV_s, slotN_n, slotN_s, slotL_l, slotC_sh, slotC_lst, slotC_ins, one1_d, oneI_i, two2_o, two2D_d, someV_s, isBl_b, boolO_b, setV_s, insV_s, tryV_t, tryV_f, insD_i, unpD_t, unpD_l, gAdd_ii, gAdd_ss, gAdd_ll, gAdd_tt, gMul_ii, gMul_li, gSub_ii, gLt_ii, gLe_ii, gGt_ii, gGe_ii, gFdiv_ii, gMod_ii, gPow_ii, gNeg_i, gAbs_i, gInt_i, gInt_b, gGcd_ii, gLen_l, gLen_t, gLen_s, gIx_l, gIx_t, gIx_s, gIs_bb, gIs_dn, gEq_de, gTuple_l, gTuple_t, gList_l, gList_t, items_l, items_t, items_s, seq_l, seq_t, isNon_n, isNon_i, isNon_b, isNon_s, isNon_t, isNon_l, g2_ii, isK, knownD, flatD, view_sh', view_lst, flat_sh, flat_lst, List.map_cons, List.map_nil, List.replicate, List.cons_append, List.nil_append, List.append_nil, List.getElem?_cons_zero, List.getElem?_cons_succ, List.set_cons_zero, List.set_cons_succ, List.length_cons, List.length_nil, List.contains, List.elem_nil, List.elem_cons, List.any_cons, List.any_nil, List.all_nil, List.all_cons, Bool.or_false, Bool.false_eq_true, if_true, if_false, ite_true, ite_false, Nat.reduceSub, Nat.reduceAdd, Nat.reduceBEq, Nat.reduceEqDiff, Nat.reduceLeDiff, Nat.reduceLT, beq_self_eq_true, Bool.not_true, Bool.not_false, Bool.and_true, Bool.true_and, Bool.and_false, Bool.false_and, Bool.or_true, Bool.true_or, Bool.false_or, decide_eq_true_eq, Bool.not_eq_true', decide_eq_false_iff_not, true_and, and_true, reduceCtorEq, at_0, at_1, at_2, at_3, List.getD_cons_zero, List.getD_cons_succ, ok_int, ok_bl, ok_non, ok_tup0, ok_tI, ok_str, ok_t1, eq_int, eq_str, eq_t1, eq_tI1, ix40, ix41, ix42, ix43, List.length_map, eqk_int, eqk_str, eqk_bl, eqv_int, eqv_str, List.take_succ_cons, List.take_zero, List.drop_succ_cons, List.drop_zero, List.take_nil, List.drop_nil, ↓z_m1, ↓z_strV, ↓z_strS, strO_s, ↓z_intV, ↓z_intS, intO_i, ↓z_sl, ↓z_part0, ↓z_part, ↓z_join, ↓z_js0, ↓z_js1, gStr_i, gAll_l, gIn_ss, gStart_ss, gSplit_ss, gCut_s, gCut_l, gCut_t, gFmt_s, gFmt_i, gMul_si, gInt_s, D__law_same]
    exact k
theorem c__law_number : ∀ os KR KE, Pv.S__law_number os KR KE → bodyS 3 [] 1 D__law_number os KR KE := by
  rintro os KR KE ⟨l, rfl, h, k⟩
  refine x_body rfl (by simp) ?_
  simp only [↓z_c, ↓z_var, ↓z_nil, ↓z_cons, ↓z_b, ↓z_vslot, ↓z_kslot, ↓z_kval, ↓z_lst, ↓z_tup, ↓z_call, ↓z_callKw, ↓z_tslot, ↓z_pslot, ↓z_tru, ↓z_tb, ↓z_nott, ↓z_andt, ↓z_ort, ↓z_ifx, ↓z_andv, ↓z_orv, ↓z_notv, ↓z_isi, ↓z_xf, ↓z_xis, ↓z_app, ↓z_chain, ↓z_fld, ↓z_ins, ↓z_dic, ↓z_next, ↓z_seq, ↓z_break, ↓z_cont, ↓z_expr, ↓z_ret, ↓z_rval, ↓z_rslot, ↓z_retn, ↓z_if, ↓z_asg, ↓z_setix, ↓z_par, ↓z_asgg, ↓z_gnm, ↓z_gunp, ↓z_gone, ↓z_gno, ↓z_raise, ↓z_try, ↓z_for, ↓z_iseq, ↓z_irg1, ↓z_izip, ↓z_sslot, ↓z_ocons, ↓z_lc, ↓z_yes, ↓z_w0, ↓z_ws, ↓x_vnil, ↓x_vval, ↓x_knil, ↓x_kcons, ↓x_tnil, ↓x_tval, ↓x_pval, ↓x_pnil, ↓x_snil, ↓x_sval, ↓x_onil, z_trN, z_trB, z_trI, z_trS, z_trT, z_trL, slotV_s, slotN_n, slotN_s, slotL_l, slotC_sh, slotC_lst, slotC_ins, one1_d, oneI_i, two2_o, two2D_d, someV_s, isBl_b, boolO_b, setV_s, insV_s, tryV_t, tryV_f, insD_i, unpD_t, unpD_l, gAdd_ii, gAdd_ss, gAdd_ll, gAdd_tt, gMul_ii, gMul_li, gSub_ii, gLt_ii, gLe_ii, gGt_ii, gGe_ii, gFdiv_ii, gMod_ii, gPow_ii, gNeg_i, gAbs_i, gInt_i, gInt_b, gGcd_ii, gLen_l, gLen_t, gLen_s, gIx_l, gIx_t, gIx_s, gIs_bb, gIs_dn, gEq_de, gTuple_l, gTuple_t, gList_l, gList_t, items_l, items_t, items_s, seq_l, seq_t, isNon_n, isNon_i, isNon_b, isNon_s, isNon_t, isNon_l, g2_ii, isK, knownD, flatD, view_sh', view_lst, flat_sh, flat_lst, List.map_cons, List.map_nil, List.replicate, List.cons_append, List.nil_append, List.append_nil, List.getElem?_cons_zero, List.getElem?_cons_succ, List.set_cons_zero, List.set_cons_succ, List.length_cons, List.length_nil, List.contains, List.elem_nil, List.elem_cons, List.any_cons, List.any_nil, List.all_nil, List.all_cons, Bool.or_false, Bool.false_eq_true, if_true, if_false, ite_true, ite_false, Nat.reduceSub, Nat.reduceAdd, Nat.reduceBEq, Nat.reduceEqDiff, Nat.reduceLeDiff, Nat.reduceLT, beq_self_eq_true, Bool.not_true, Bool.not_false, Bool.and_true, Bool.true_and, Bool.and_false, Bool.false_and, Bool.or_true, Bool.true_or, Bool.false_or, decide_eq_true_eq, Bool.not_eq_true', decide_eq_false_iff_not, true_and, and_true, reduceCtorEq, at_0, at_1, at_2, at_3, List.getD_cons_zero, List.getD_cons_succ, ok_int, ok_bl, ok_non, ok_tup0, ok_tI, ok_str, ok_t1, eq_int, eq_str, eq_t1, eq_tI1, ix40, ix41, ix42, ix43, List.length_map, eqk_int, eqk_str, eqk_bl, eqv_int, eqv_str, List.take_succ_cons, List.take_zero, List.drop_succ_cons, List.drop_zero, List.take_nil, List.drop_nil, ↓z_m1, ↓z_strV, ↓z_strS, strO_s, ↓z_intV, ↓z_intS, intO_i, ↓z_sl, ↓z_part0, ↓z_part, ↓z_join, ↓z_js0, ↓z_js1, gStr_i, gAll_l, gIn_ss, gStart_ss, gSplit_ss, gCut_s, gCut_l, gCut_t, gFmt_s, gFmt_i, gMul_si, gInt_s, D__law_number]
  refine ⟨l, _, rfl, h, by decide, by unfold Wb; decide, fun n l h0 h1 h => ?_⟩
  simp only [↓z_c, ↓z_var, ↓z_nil, ↓z_cons, ↓z_b, ↓z_vslot, ↓z_kslot, ↓z_kval, ↓z_lst, ↓z_tup, ↓z_call, ↓z_callKw, ↓z_tslot, ↓z_pslot, ↓z_tru, ↓z_tb, ↓z_nott, ↓z_andt, ↓z_ort, ↓z_ifx, ↓z_andv, ↓z_orv, ↓z_notv, ↓z_isi, ↓z_xf, ↓z_xis, ↓z_app, ↓z_chain, ↓z_fld, ↓z_ins, ↓z_dic, ↓z_next, ↓z_seq, ↓z_break, ↓z_cont, ↓z_expr, ↓z_ret, ↓z_rval, ↓z_rslot, ↓z_retn, ↓z_if, ↓z_asg, ↓z_setix, ↓z_par, ↓z_asgg, ↓z_gnm, ↓z_gunp, ↓z_gone, ↓z_gno, ↓z_raise, ↓z_try, ↓z_for, ↓z_iseq, ↓z_irg1, ↓z_izip, ↓z_sslot, ↓z_ocons, ↓z_lc, ↓z_yes, ↓z_w0, ↓z_ws, ↓x_vnil, ↓x_vval, ↓x_knil, ↓x_kcons, ↓x_tnil, ↓x_tval, ↓x_pval, ↓x_pnil, ↓x_snil, ↓x_sval, ↓x_onil, z_trN, z_trB, z_trI, z_trS, z_trT, z_trL, slotV_s, slotN_n, slotN_s, slotL_l, slotC_sh, slotC_lst, slotC_ins, one1_d, oneI_i, two2_o, two2D_d, someV_s, isBl_b, boolO_b, setV_s, insV_s, tryV_t, tryV_f, insD_i, unpD_t, unpD_l, gAdd_ii, gAdd_ss, gAdd_ll, gAdd_tt, gMul_ii, gMul_li, gSub_ii, gLt_ii, gLe_ii, gGt_ii, gGe_ii, gFdiv_ii, gMod_ii, gPow_ii, gNeg_i, gAbs_i, gInt_i, gInt_b, gGcd_ii, gLen_l, gLen_t, gLen_s, gIx_l, gIx_t, gIx_s, gIs_bb, gIs_dn, gEq_de, gTuple_l, gTuple_t, gList_l, gList_t, items_l, items_t, items_s, seq_l, seq_t, isNon_n, isNon_i, isNon_b, isNon_s, isNon_t, isNon_l, g2_ii, isK, knownD, flatD, view_sh', view_lst, flat_sh, flat_lst, List.map_cons, List.map_nil, List.replicate, List.cons_append, List.nil_append, List.append_nil, List.getElem?_cons_zero, List.getElem?_cons_succ, List.set_cons_zero, List.set_cons_succ, List.length_cons, List.length_nil, List.contains, List.elem_nil, List.elem_cons, List.any_cons, List.any_nil, List.all_nil, List.all_cons, Bool.or_false, Bool.false_eq_true, if_true, if_false, ite_true, ite_false, Nat.reduceSub, Nat.reduceAdd, Nat.reduceBEq, Nat.reduceEqDiff, Nat.reduceLeDiff, Nat.reduceLT, beq_self_eq_true, Bool.not_true, Bool.not_false, Bool.and_true, Bool.true_and, Bool.and_false, Bool.false_and, Bool.or_true, Bool.true_or, Bool.false_or, decide_eq_true_eq, Bool.not_eq_true', decide_eq_false_iff_not, true_and, and_true, reduceCtorEq, at_0, at_1, at_2, at_3, List.getD_cons_zero, List.getD_cons_succ, ok_int, ok_bl, ok_non, ok_tup0, ok_tI, ok_str, ok_t1, eq_int, eq_str, eq_t1, eq_tI1, ix40, ix41, ix42, ix43, List.length_map, eqk_int, eqk_str, eqk_bl, eqv_int, eqv_str, List.take_succ_cons, List.take_zero, List.drop_succ_cons, List.drop_zero, List.take_nil, List.drop_nil, ↓z_m1, ↓z_strV, ↓z_strS, strO_s, ↓z_intV, ↓z_intS, intO_i, ↓z_sl, ↓z_part0, ↓z_part, ↓z_join, ↓z_js0, ↓z_js1, gStr_i, gAll_l, gIn_ss, gStart_ss, gSplit_ss, gCut_s, gCut_l, gCut_t, gFmt_s, gFmt_i, gMul_si, gInt_s]
  by_cases hn : (n != 0) = true
  · rw [if_pos hn]
    refine ⟨l, _, rfl, h, by decide, by unfold Wb; decide, fun n l h0 h1 h => ?_⟩
    simp only [↓z_c, ↓z_var, ↓z_nil, ↓z_cons, ↓z_b, ↓z_vslot, ↓z_kslot, ↓z_kval, ↓z_lst, ↓z_tup, ↓z_call, ↓z_callKw, ↓z_tslot, ↓z_pslot, ↓z_tru, ↓z_tb, ↓z_nott, ↓z_andt, ↓z_ort, ↓z_ifx, ↓z_andv, ↓z_orv, ↓z_notv, ↓z_isi, ↓z_xf, ↓z_xis, ↓z_app, ↓z_chain, ↓z_fld, ↓z_ins, ↓z_dic, ↓z_next, ↓z_seq, ↓z_break, ↓z_cont, ↓z_expr, ↓z_ret, ↓z_rval, ↓z_rslot, ↓z_retn, ↓z_if, ↓z_asg, ↓z_setix, ↓z_par, ↓z_asgg, ↓z_gnm, ↓z_gunp, ↓z_gone, ↓z_gno, ↓z_raise, ↓z_try, ↓z_for, ↓z_iseq, ↓z_irg1, ↓z_izip, ↓z_sslot, ↓z_ocons, ↓z_lc, ↓z_yes, ↓z_w0, ↓z_ws, ↓x_vnil, ↓x_vval, ↓x_knil, ↓x_kcons, ↓x_tnil, ↓x_tval, ↓x_pval, ↓x_pnil, ↓x_snil, ↓x_sval, ↓x_onil, z_trN, z_trB, z_trI, z_trS, z_trT, z_trL, slotV_s, slotN_n, slotN_s, slotL_l, slotC_sh, slotC_lst, slotC_ins, one1_d, oneI_i, two2_o, two2D_d, someV_s, isBl_b, boolO_b, setV_s, insV_s, tryV_t, tryV_f, insD_i, unpD_t, unpD_l, gAdd_ii, gAdd_ss, gAdd_ll, gAdd_tt, gMul_ii, gMul_li, gSub_ii, gLt_ii, gLe_ii, gGt_ii, gGe_ii, gFdiv_ii, gMod_ii, gPow_ii, gNeg_i, gAbs_i, gInt_i, gInt_b, gGcd_ii, gLen_l, gLen_t, gLen_s, gIx_l, gIx_t, gIx_s, gIs_bb, gIs_dn, gEq_de, gTuple_l, gTuple_t, gList_l, gList_t, items_l, items_t, items_s, seq_l, seq_t, isNon_n, isNon_i, isNon_b, isNon_s, isNon_t, isNon_l, g2_ii, isK, knownD, flatD, view_sh', view_lst, flat_sh, flat_lst, List.map_cons, List.map_nil, List.replicate, List.cons_append, List.nil_append, List.append_nil, List.getElem?_cons_zero, List.getElem?_cons_succ, List.set_cons_zero, List.set_cons_succ, List.length_cons, List.length_nil, List.contains, List.elem_nil, List.elem_cons, List.any_cons, List.any_nil, List.all_nil, List.all_cons, Bool.or_false, Bool.false_eq_true, if_true, if_false, ite_true, ite_false, Nat.reduceSub, Nat.reduceAdd, Nat.reduceBEq, Nat.reduceEqDiff, Nat.reduceLeDiff, Nat.reduceLT, beq_self_eq_true, Bool.not_true, Bool.not_false, Bool.and_true, Bool.true_and, Bool.and_false, Bool.false_and, Bool.or_true, Bool.true_or, Bool.false_or, decide_eq_true_eq, Bool.not_eq_true', decide_eq_false_iff_not, true_and, and_true, reduceCtorEq, at_0, at_1, at_2, at_3, List.getD_cons_zero, List.getD_cons_succ, ok_int, ok_bl, ok_non, ok_tup0, ok_tI, ok_str, ok_t1, eq_int, eq_str, eq_t1, eq_tI1, ix40, ix41, ix42, ix43, List.length_map, eqk_int, eqk_str, eqk_bl, eqv_int, eqv_str, List.take_succ_cons, List.take_zero, List.drop_succ_cons, List.drop_zero, List.take_nil, List.drop_nil, ↓z_m1, ↓z_strV, ↓z_strS, strO_s, ↓z_intV, ↓z_intS, intO_i, ↓z_sl, ↓z_part0, ↓z_part, ↓z_join, ↓z_js0, ↓z_js1, gStr_i, gAll_l, gIn_ss, gStart_ss, gSplit_ss, gCut_s, gCut_l, gCut_t, gFmt_s, gFmt_i, gMul_si, gInt_s]
    exact k _ _ (by unfold Wb; omega) h
  · rw [if_neg hn]
    refine ⟨l, _, rfl, h, by decide, by unfold Wb; decide, fun n l h0 h1 h => ?_⟩
    simp only [↓z_c, ↓z_var, ↓z_nil, ↓z_cons, ↓z_b, ↓z_vslot, ↓z_kslot, ↓z_kval, ↓z_lst, ↓z_tup, ↓z_call, ↓z_callKw, ↓z_tslot, ↓z_pslot, ↓z_tru, ↓z_tb, ↓z_nott, ↓z_andt, ↓z_ort, ↓z_ifx, ↓z_andv, ↓z_orv, ↓z_notv, ↓z_isi, ↓z_xf, ↓z_xis, ↓z_app, ↓z_chain, ↓z_fld, ↓z_ins, ↓z_dic, ↓z_next, ↓z_seq, ↓z_break, ↓z_cont, ↓z_expr, ↓z_ret, ↓z_rval, ↓z_rslot, ↓z_retn, ↓z_if, ↓z_asg, ↓z_setix, ↓z_par, ↓z_asgg, ↓z_gnm, ↓z_gunp, ↓z_gone, ↓z_gno, ↓z_raise, ↓z_try, ↓z_for, ↓z_iseq, ↓z_irg1, ↓z_izip, ↓z_sslot, ↓z_ocons, ↓z_lc, ↓z_yes, ↓z_w0, ↓z_ws, ↓x_vnil, ↓x_vval, ↓x_knil, ↓x_kcons, ↓x_tnil, ↓x_tval, ↓x_pval, ↓x_pnil, ↓x_snil, ↓x_sval, ↓x_onil, z_trN, z_trB, z_trI, z_trS, z_trT, z_trL, slotV_s, slotN_n, slotN_s, slotL_l, slotC_sh, slotC_lst, slotC_ins, one1_d, oneI_i, two2_o, two2D_d, someV_s, isBl_b, boolO_b, setV_s, insV_s, tryV_t, tryV_f, insD_i, unpD_t, unpD_l, gAdd_ii, gAdd_ss, gAdd_ll, gAdd_tt, gMul_ii, gMul_li, gSub_ii, gLt_ii, gLe_ii, gGt_ii, gGe_ii, gFdiv_ii, gMod_ii, gPow_ii, gNeg_i, gAbs_i, gInt_i, gInt_b, gGcd_ii, gLen_l, gLen_t, gLen_s, gIx_l, gIx_t, gIx_s, gIs_bb, gIs_dn, gEq_de, gTuple_l, gTuple_t, gList_l, gList_t, items_l, items_t, items_s, seq_l, seq_t, isNon_n, isNon_i, isNon_b, isNon_s, isNon_t, isNon_l, g2_ii, isK, knownD, flatD, view_sh', view_lst, flat_sh, flat_lst, List.map_cons, List.map_nil, List.replicate, List.cons_append, List.nil_append, List.append_nil, List.getElem?_cons_zero, List.getElem?_cons_succ, List.set_cons_zero, List.set_cons_succ, List.length_cons, List.length_nil, List.contains, List.elem_nil, List.elem_cons, List.any_cons, List.any_nil, List.all_nil, List.all_cons, Bool.or_false, Bool.false_eq_true, if_true, if_false, ite_true, ite_false, Nat.reduceSub, Nat.reduceAdd, Nat.reduceBEq, Nat.reduceEqDiff, Nat.reduceLeDiff, Nat.reduceLT, beq_self_eq_true, Bool.not_true, Bool.not_false, Bool.and_true, Bool.true_and, Bool.and_false, Bool.false_and, Bool.or_true, Bool.true_or, Bool.false_or, decide_eq_true_eq, Bool.not_eq_true', decide_eq_false_iff_not, true_and, and_true, reduceCtorEq, at_0, at_1, at_2, at_3, List.getD_cons_zero, List.getD_cons_succ, ok_int, ok_bl, ok_non, ok_tup0, ok_tI, ok_str, ok_t1, eq_int, eq_str, eq_t1, eq_tI1, ix40, ix41, ix42, ix43, List.length_map, eqk_int, eqk_str, eqk_bl, eqv_int, eqv_str, List.take_succ_cons, List.take_zero, List.drop_succ_cons, List.drop_zero, List.take_nil, List.drop_nil, ↓z_m1, ↓z_strV, ↓z_strS, strO_s, ↓z_intV, ↓z_intS, intO_i, ↓z_sl, ↓z_part0, ↓z_part, ↓z_join, ↓z_js0, ↓z_js1, gStr_i, gAll_l, gIn_ss, gStart_ss, gSplit_ss, gCut_s, gCut_l, gCut_t, gFmt_s, gFmt_i, gMul_si, gInt_s]
    refine ⟨by omega, ?_⟩
    suffices key : ∀ (m : Nat) (c : List D), c.length = m → m ≤ 4 → ∀ (s : Int) (y : Option O) (l : List O) (K : DEnds), Hand (.lst l) → 0 ≤ s → s < (100000000 : Int) ^ (4 - m) → (∀ (s : Int) (y : Option O) (l : List O), Hand (.lst l) → Wb 110 s → K.nx [some (.lst l), some (oI s), y]) → forD [] (gNm 2) _ c [some (.lst l), some (oI s), y] K by
      refine key _ (rgD 0 (1 + n).toNat) rfl (by simp [rgD]; omega) 0 none l _ h (by decide) (Int.pow_pos (by decide)) fun s y l h hs => ?_
      simp only [↓z_c, ↓z_var, ↓z_nil, ↓z_cons, ↓z_b, ↓z_vslot, ↓z_kslot, ↓z_kval, ↓z_lst, ↓z_tup, ↓z_call, ↓z_callKw, ↓z_tslot, ↓z_pslot, ↓z_tru, ↓z_tb, ↓z_nott, ↓z_andt, ↓z_ort, ↓z_ifx, ↓z_andv, ↓z_orv, ↓z_notv, ↓z_isi, ↓z_xf, ↓z_xis, ↓z_app, ↓z_chain, ↓z_fld, ↓z_ins, ↓z_dic, ↓z_next, ↓z_seq, ↓z_break, ↓z_cont, ↓z_expr, ↓z_ret, ↓z_rval, ↓z_rslot, ↓z_retn, ↓z_if, ↓z_asg, ↓z_setix, ↓z_par, ↓z_asgg, ↓z_gnm, ↓z_gunp, ↓z_gone, ↓z_gno, ↓z_raise, ↓z_try, ↓z_for, ↓z_iseq, ↓z_irg1, ↓z_izip, ↓z_sslot, ↓z_ocons, ↓z_lc, ↓z_yes, ↓z_w0, ↓z_ws, ↓x_vnil, ↓x_vval, ↓x_knil, ↓x_kcons, ↓x_tnil, ↓x_tval, ↓x_pval, ↓x_pnil, ↓x_snil, ↓x_sval, ↓x_onil, z_trN, z_trB, z_trI, z_trS, z_trT, z_trL, slotV_s, slotN_n, slotN_s, slotL_l, slotC_sh, slotC_lst, slotC_ins, one1_d, oneI_i, two2_o, two2D_d, someV_s, isBl_b, boolO_b, setV_s, insV_s, tryV_t, tryV_f, insD_i, unpD_t, unpD_l, gAdd_ii, gAdd_ss, gAdd_ll, gAdd_tt, gMul_ii, gMul_li, gSub_ii, gLt_ii, gLe_ii, gGt_ii, gGe_ii, gFdiv_ii, gMod_ii, gPow_ii, gNeg_i, gAbs_i, gInt_i, gInt_b, gGcd_ii, gLen_l, gLen_t, gLen_s, gIx_l, gIx_t, gIx_s, gIs_bb, gIs_dn, gEq_de, gTuple_l, gTuple_t, gList_l, gList_t, items_l, items_t, items_s, seq_l, seq_t, isNon_n, isNon_i, isNon_b, isNon_s, isNon_t, isNon_l, g2_ii, isK, knownD, flatD, view_sh', view_lst, flat_sh, flat_lst, List.map_cons, List.map_nil, List.replicate, List.cons_append, List.nil_append, List.append_nil, List.getElem?_cons_zero, List.getElem?_cons_succ, List.set_cons_zero, List.set_cons_succ, List.length_cons, List.length_nil, List.contains, List.elem_nil, List.elem_cons, List.any_cons, List.any_nil, List.all_nil, List.all_cons, Bool.or_false, Bool.false_eq_true, if_true, if_false, ite_true, ite_false, Nat.reduceSub, Nat.reduceAdd, Nat.reduceBEq, Nat.reduceEqDiff, Nat.reduceLeDiff, Nat.reduceLT, beq_self_eq_true, Bool.not_true, Bool.not_false, Bool.and_true, Bool.true_and, Bool.and_false, Bool.false_and, Bool.or_true, Bool.true_or, Bool.false_or, decide_eq_true_eq, Bool.not_eq_true', decide_eq_false_iff_not, true_and, and_true, reduceCtorEq, at_0, at_1, at_2, at_3, List.getD_cons_zero, List.getD_cons_succ, ok_int, ok_bl, ok_non, ok_tup0, ok_tI, ok_str, ok_t1, eq_int, eq_str, eq_t1, eq_tI1, ix40, ix41, ix42, ix43, List.length_map, eqk_int, eqk_str, eqk_bl, eqv_int, eqv_str, List.take_succ_cons, List.take_zero, List.drop_succ_cons, List.drop_zero, List.take_nil, List.drop_nil, ↓z_m1, ↓z_strV, ↓z_strS, strO_s, ↓z_intV, ↓z_intS, intO_i, ↓z_sl, ↓z_part0, ↓z_part, ↓z_join, ↓z_js0, ↓z_js1, gStr_i, gAll_l, gIn_ss, gStart_ss, gSplit_ss, gCut_s, gCut_l, gCut_t, gFmt_s, gFmt_i, gMul_si, gInt_s]
      refine ⟨l, _, rfl, h, by decide, by unfold Wb; decide, fun n l h0 h1 h => ?_⟩
      simp only [↓z_c, ↓z_var, ↓z_nil, ↓z_cons, ↓z_b, ↓z_vslot, ↓z_kslot, ↓z_kval, ↓z_lst, ↓z_tup, ↓z_call, ↓z_callKw, ↓z_tslot, ↓z_pslot, ↓z_tru, ↓z_tb, ↓z_nott, ↓z_andt, ↓z_ort, ↓z_ifx, ↓z_andv, ↓z_orv, ↓z_notv, ↓z_isi, ↓z_xf, ↓z_xis, ↓z_app, ↓z_chain, ↓z_fld, ↓z_ins, ↓z_dic, ↓z_next, ↓z_seq, ↓z_break, ↓z_cont, ↓z_expr, ↓z_ret, ↓z_rval, ↓z_rslot, ↓z_retn, ↓z_if, ↓z_asg, ↓z_setix, ↓z_par, ↓z_asgg, ↓z_gnm, ↓z_gunp, ↓z_gone, ↓z_gno, ↓z_raise, ↓z_try, ↓z_for, ↓z_iseq, ↓z_irg1, ↓z_izip, ↓z_sslot, ↓z_ocons, ↓z_lc, ↓z_yes, ↓z_w0, ↓z_ws, ↓x_vnil, ↓x_vval, ↓x_knil, ↓x_kcons, ↓x_tnil, ↓x_tval, ↓x_pval, ↓x_pnil, ↓x_snil, ↓x_sval, ↓x_onil, z_trN, z_trB, z_trI, z_trS, z_trT, z_trL, slotV_s, slotN_n, slotN_s, slotL_l, slotC_sh, slotC_lst, slotC_ins, one1_d, oneI_i, two2_o, two2D_d, someV_s, isBl_b, boolO_b, setV_s, insV_s, tryV_t, tryV_f, insD_i, unpD_t, unpD_l, gAdd_ii, gAdd_ss, gAdd_ll, gAdd_tt, gMul_ii, gMul_li, gSub_ii, gLt_ii, gLe_ii, gGt_ii, gGe_ii, gFdiv_ii, gMod_ii, gPow_ii, gNeg_i, gAbs_i, gInt_i, gInt_b, gGcd_ii, gLen_l, gLen_t, gLen_s, gIx_l, gIx_t, gIx_s, gIs_bb, gIs_dn, gEq_de, gTuple_l, gTuple_t, gList_l, gList_t, items_l, items_t, items_s, seq_l, seq_t, isNon_n, isNon_i, isNon_b, isNon_s, isNon_t, isNon_l, g2_ii, isK, knownD, flatD, view_sh', view_lst, flat_sh, flat_lst, List.map_cons, List.map_nil, List.replicate, List.cons_append, List.nil_append, List.append_nil, List.getElem?_cons_zero, List.getElem?_cons_succ, List.set_cons_zero, List.set_cons_succ, List.length_cons, List.length_nil, List.contains, List.elem_nil, List.elem_cons, List.any_cons, List.any_nil, List.all_nil, List.all_cons, Bool.or_false, Bool.false_eq_true, if_true, if_false, ite_true, ite_false, Nat.reduceSub, Nat.reduceAdd, Nat.reduceBEq, Nat.reduceEqDiff, Nat.reduceLeDiff, Nat.reduceLT, beq_self_eq_true, Bool.not_true, Bool.not_false, Bool.and_true, Bool.true_and, Bool.and_false, Bool.false_and, Bool.or_true, Bool.true_or, Bool.false_or, decide_eq_true_eq, Bool.not_eq_true', decide_eq_false_iff_not, true_and, and_true, reduceCtorEq, at_0, at_1, at_2, at_3, List.getD_cons_zero, List.getD_cons_succ, ok_int, ok_bl, ok_non, ok_tup0, ok_tI, ok_str, ok_t1, eq_int, eq_str, eq_t1, eq_tI1, ix40, ix41, ix42, ix43, List.length_map, eqk_int, eqk_str, eqk_bl, eqv_int, eqv_str, List.take_succ_cons, List.take_zero, List.drop_succ_cons, List.drop_zero, List.take_nil, List.drop_nil, ↓z_m1, ↓z_strV, ↓z_strS, strO_s, ↓z_intV, ↓z_intS, intO_i, ↓z_sl, ↓z_part0, ↓z_part, ↓z_join, ↓z_js0, ↓z_js1, gStr_i, gAll_l, gIn_ss, gStart_ss, gSplit_ss, gCut_s, gCut_l, gCut_t, gFmt_s, gFmt_i, gMul_si, gInt_s]
      by_cases hn : (n != 0) = true
      · rw [if_pos hn]
        exact k _ _ hs h
      · rw [if_neg hn]
        exact k _ _ hs.neg h
    intro m
    induction m with
    | zero =>
      intro c hc _ s y l K h s0 hs kk
      obtain rfl := List.length_eq_zero_iff.mp hc
      have hs : s < 100000000000000000000000000000000 := hs
      exact ⟨fun q hq => by simp at hq, kk s y l h (by unfold Wb; omega)⟩
    | succ m ih =>
      intro c hc hm s y l K h s0 hs kk
      cases c with
      | nil => simp at hc
      | cons d c =>
        refine ⟨fun q hq => by simp at hq, ?_⟩
        simp only [↓z_c, ↓z_var, ↓z_nil, ↓z_cons, ↓z_b, ↓z_vslot, ↓z_kslot, ↓z_kval, ↓z_lst, ↓z_tup, ↓z_call, ↓z_callKw, ↓z_tslot, ↓z_pslot, ↓z_tru, ↓z_tb, ↓z_nott, ↓z_andt, ↓z_ort, ↓z_ifx, ↓z_andv, ↓z_orv, ↓z_notv, ↓z_isi, ↓z_xf, ↓z_xis, ↓z_app, ↓z_chain, ↓z_fld, ↓z_ins, ↓z_dic, ↓z_next, ↓z_seq, ↓z_break, ↓z_cont, ↓z_expr, ↓z_ret, ↓z_rval, ↓z_rslot, ↓z_retn, ↓z_if, ↓z_asg, ↓z_setix, ↓z_par, ↓z_asgg, ↓z_gnm, ↓z_gunp, ↓z_gone, ↓z_gno, ↓z_raise, ↓z_try, ↓z_for, ↓z_iseq, ↓z_irg1, ↓z_izip, ↓z_sslot, ↓z_ocons, ↓z_lc, ↓z_yes, ↓z_w0, ↓z_ws, ↓x_vnil, ↓x_vval, ↓x_knil, ↓x_kcons, ↓x_tnil, ↓x_tval, ↓x_pval, ↓x_pnil, ↓x_snil, ↓x_sval, ↓x_onil, z_trN, z_trB, z_trI, z_trS, z_trT, z_trL, slotV_s, slotN_n, slotN_s, slotL_l, slotC_sh, slotC_lst, slotC_ins, one1_d, oneI_i, two2_o, two2D_d, someV_s, isBl_b, boolO_b, setV_s, insV_s, tryV_t, tryV_f, insD_i, unpD_t, unpD_l, gAdd_ii, gAdd_ss, gAdd_ll, gAdd_tt, gMul_ii, gMul_li, gSub_ii, gLt_ii, gLe_ii, gGt_ii, gGe_ii, gFdiv_ii, gMod_ii, gPow_ii, gNeg_i, gAbs_i, gInt_i, gInt_b, gGcd_ii, gLen_l, gLen_t, gLen_s, gIx_l, gIx_t, gIx_s, gIs_bb, gIs_dn, gEq_de, gTuple_l, gTuple_t, gList_l, gList_t, items_l, items_t, items_s, seq_l, seq_t, isNon_n, isNon_i, isNon_b, isNon_s, isNon_t, isNon_l, g2_ii, isK, knownD, flatD, view_sh', view_lst, flat_sh, flat_lst, List.map_cons, List.map_nil, List.replicate, List.cons_append, List.nil_append, List.append_nil, List.getElem?_cons_zero, List.getElem?_cons_succ, List.set_cons_zero, List.set_cons_succ, List.length_cons, List.length_nil, List.contains, List.elem_nil, List.elem_cons, List.any_cons, List.any_nil, List.all_nil, List.all_cons, Bool.or_false, Bool.false_eq_true, if_true, if_false, ite_true, ite_false, Nat.reduceSub, Nat.reduceAdd, Nat.reduceBEq, Nat.reduceEqDiff, Nat.reduceLeDiff, Nat.reduceLT, beq_self_eq_true, Bool.not_true, Bool.not_false, Bool.and_true, Bool.true_and, Bool.and_false, Bool.false_and, Bool.or_true, Bool.true_or, Bool.false_or, decide_eq_true_eq, Bool.not_eq_true', decide_eq_false_iff_not, true_and, and_true, reduceCtorEq, at_0, at_1, at_2, at_3, List.getD_cons_zero, List.getD_cons_succ, ok_int, ok_bl, ok_non, ok_tup0, ok_tI, ok_str, ok_t1, eq_int, eq_str, eq_t1, eq_tI1, ix40, ix41, ix42, ix43, List.length_map, eqk_int, eqk_str, eqk_bl, eqv_int, eqv_str, List.take_succ_cons, List.take_zero, List.drop_succ_cons, List.drop_zero, List.take_nil, List.drop_nil, ↓z_m1, ↓z_strV, ↓z_strS, strO_s, ↓z_intV, ↓z_intS, intO_i, ↓z_sl, ↓z_part0, ↓z_part, ↓z_join, ↓z_js0, ↓z_js1, gStr_i, gAll_l, gIn_ss, gStart_ss, gSplit_ss, gCut_s, gCut_l, gCut_t, gFmt_s, gFmt_i, gMul_si, gInt_s]
        refine ⟨⟨by decide, by decide, by decide⟩, mulOk_r (by decide) (by decide), ⟨by decide, by decide, by decide⟩, l, _, rfl, h, by decide, by unfold Wb; decide, fun n l h0 h1 h => ?_⟩
        simp only [↓z_c, ↓z_var, ↓z_nil, ↓z_cons, ↓z_b, ↓z_vslot, ↓z_kslot, ↓z_kval, ↓z_lst, ↓z_tup, ↓z_call, ↓z_callKw, ↓z_tslot, ↓z_pslot, ↓z_tru, ↓z_tb, ↓z_nott, ↓z_andt, ↓z_ort, ↓z_ifx, ↓z_andv, ↓z_orv, ↓z_notv, ↓z_isi, ↓z_xf, ↓z_xis, ↓z_app, ↓z_chain, ↓z_fld, ↓z_ins, ↓z_dic, ↓z_next, ↓z_seq, ↓z_break, ↓z_cont, ↓z_expr, ↓z_ret, ↓z_rval, ↓z_rslot, ↓z_retn, ↓z_if, ↓z_asg, ↓z_setix, ↓z_par, ↓z_asgg, ↓z_gnm, ↓z_gunp, ↓z_gone, ↓z_gno, ↓z_raise, ↓z_try, ↓z_for, ↓z_iseq, ↓z_irg1, ↓z_izip, ↓z_sslot, ↓z_ocons, ↓z_lc, ↓z_yes, ↓z_w0, ↓z_ws, ↓x_vnil, ↓x_vval, ↓x_knil, ↓x_kcons, ↓x_tnil, ↓x_tval, ↓x_pval, ↓x_pnil, ↓x_snil, ↓x_sval, ↓x_onil, z_trN, z_trB, z_trI, z_trS, z_trT, z_trL, slotV_s, slotN_n, slotN_s, slotL_l, slotC_sh, slotC_lst, slotC_ins, one1_d, oneI_i, two2_o, two2D_d, someV_s, isBl_b, boolO_b, setV_s, insV_s, tryV_t, tryV_f, insD_i, unpD_t, unpD_l, gAdd_ii, gAdd_ss, gAdd_ll, gAdd_tt, gMul_ii, gMul_li, gSub_ii, gLt_ii, gLe_ii, gGt_ii, gGe_ii, gFdiv_ii, gMod_ii, gPow_ii, gNeg_i, gAbs_i, gInt_i, gInt_b, gGcd_ii, gLen_l, gLen_t, gLen_s, gIx_l, gIx_t, gIx_s, gIs_bb, gIs_dn, gEq_de, gTuple_l, gTuple_t, gList_l, gList_t, items_l, items_t, items_s, seq_l, seq_t, isNon_n, isNon_i, isNon_b, isNon_s, isNon_t, isNon_l, g2_ii, isK, knownD, flatD, view_sh', view_lst, flat_sh, flat_lst, List.map_cons, List.map_nil, List.replicate, List.cons_append, List.nil_append, List.append_nil, List.getElem?_cons_zero, List.getElem?_cons_succ, List.set_cons_zero, List.set_cons_succ, List.length_cons, List.length_nil, List.contains, List.elem_nil, List.elem_cons, List.any_cons, List.any_nil, List.all_nil, List.all_cons, Bool.or_false, Bool.false_eq_true, if_true, if_false, ite_true, ite_false, Nat.reduceSub, Nat.reduceAdd, Nat.reduceBEq, Nat.reduceEqDiff, Nat.reduceLeDiff, Nat.reduceLT, beq_self_eq_true, Bool.not_true, Bool.not_false, Bool.and_true, Bool.true_and, Bool.and_false, Bool.false_and, Bool.or_true, Bool.true_or, Bool.false_or, decide_eq_true_eq, Bool.not_eq_true', decide_eq_false_iff_not, true_and, and_true, reduceCtorEq, at_0, at_1, at_2, at_3, List.getD_cons_zero, List.getD_cons_succ, ok_int, ok_bl, ok_non, ok_tup0, ok_tI, ok_str, ok_t1, eq_int, eq_str, eq_t1, eq_tI1, ix40, ix41, ix42, ix43, List.length_map, eqk_int, eqk_str, eqk_bl, eqv_int, eqv_str, List.take_succ_cons, List.take_zero, List.drop_succ_cons, List.drop_zero, List.take_nil, List.drop_nil, ↓z_m1, ↓z_strV, ↓z_strS, strO_s, ↓z_intV, ↓z_intS, intO_i, ↓z_sl, ↓z_part0, ↓z_part, ↓z_join, ↓z_js0, ↓z_js1, gStr_i, gAll_l, gIn_ss, gStart_ss, gSplit_ss, gCut_s, gCut_l, gCut_t, gFmt_s, gFmt_i, gMul_si, gInt_s]
        have e8 : (10 : Int) ^ Int.toNat 8 = 100000000 := by decide
        rw [e8] at h1 ⊢
        have e4 : 4 - m = (4 - (m + 1)) + 1 := by omega
        refine ih c (by simpa using hc) (by omega) _ _ l K h (by omega) ?_ kk
        rw [e4, Int.pow_succ]
        generalize (100000000 : Int) ^ (4 - (m + 1)) = P at hs ⊢
        omega
theorem c__law_any_ratio : ∀ os KR KE, Pv.S__law_any_ratio os KR KE → bodyS 3 [] 1 D__law_any_ratio os KR KE := by
  rintro os KR KE ⟨l, rfl, h, k⟩
  refine x_body rfl (by simp) ?_
  simp only [↓z_c, ↓z_var, ↓z_nil, ↓z_cons, ↓z_b, ↓z_vslot, ↓z_kslot, ↓z_kval, ↓z_lst, ↓z_tup, ↓z_call, ↓z_callKw, ↓z_tslot, ↓z_pslot, ↓z_tru, ↓z_tb, ↓z_nott, ↓z_andt, ↓z_ort, ↓z_ifx, ↓z_andv, ↓z_orv, ↓z_notv, ↓z_isi, ↓z_xf, ↓z_xis, ↓z_app, ↓z_chain, ↓z_fld, ↓z_ins, ↓z_dic, ↓z_next, ↓z_seq, ↓z_break, ↓z_cont, ↓z_expr, ↓z_ret, ↓z_rval, ↓z_rslot, ↓z_retn, ↓z_if, ↓z_asg, ↓z_setix, ↓z_par, ↓z_asgg, ↓z_gnm, ↓z_gunp, ↓z_gone, ↓z_gno, ↓z_raise, ↓z_try, ↓z_for, ↓z_iseq, ↓z_irg1, ↓z_izip, ↓z_sslot, ↓z_ocons, ↓z_lc, ↓z_yes, ↓z_w0, ↓z_ws, ↓x_vnil, ↓x_vval, ↓x_knil, ↓x_kcons, ↓x_tnil, ↓x_tval, ↓x_pval, ↓x_pnil, ↓x_snil, ↓x_sval, ↓x_onil, z_trN, z_trB, z_trI, z_trS, z_trT, z_trL, slotV_s, slotN_n, slotN_s, slotL_l, slotC_sh, slotC_lst, slotC_ins, one1_d, oneI_i, two2_o, two2D_d, someV_s, isBl_b, boolO_b, setV_s, insV_s, tryV_t, tryV_f, insD_i, unpD_t, unpD_l, gAdd_ii, gAdd_ss, gAdd_ll, gAdd_tt, gMul_ii, gMul_li, gSub_ii, gLt_ii, gLe_ii, gGt_ii, gGe_ii, gFdiv_ii, gMod_ii, gPow_ii, gNeg_i, gAbs_i, gInt_i, gInt_b, gGcd_ii, gLen_l, gLen_t, gLen_s, gIx_l, gIx_t, gIx_s, gIs_bb, gIs_dn, gEq_de, gTuple_l, gTuple_t, gList_l, gList_t, items_l, items_t, items_s, seq_l, seq_t, isNon_n, isNon_i, isNon_b, isNon_s, isNon_t, isNon_l, g2_ii, isK, knownD, flatD, view_sh', view_lst, flat_sh, flat_lst, List.map_cons, List.map_nil, List.replicate, List.cons_append, List.nil_append, List.append_nil, List.getElem?_cons_zero, List.getElem?_cons_succ, List.set_cons_zero, List.set_cons_succ, List.length_cons, List.length_nil, List.contains, List.elem_nil, List.elem_cons, List.any_cons, List.any_nil, List.all_nil, List.all_cons, Bool.or_false, Bool.false_eq_true, if_true, if_false, ite_true, ite_false, Nat.reduceSub, Nat.reduceAdd, Nat.reduceBEq, Nat.reduceEqDiff, Nat.reduceLeDiff, Nat.reduceLT, beq_self_eq_true, Bool.not_true, Bool.not_false, Bool.and_true, Bool.true_and, Bool.and_false, Bool.false_and, Bool.or_true, Bool.true_or, Bool.false_or, decide_eq_true_eq, Bool.not_eq_true', decide_eq_false_iff_not, true_and, and_true, reduceCtorEq, at_0, at_1, at_2, at_3, List.getD_cons_zero, List.getD_cons_succ, ok_int, ok_bl, ok_non, ok_tup0, ok_tI, ok_str, ok_t1, eq_int, eq_str, eq_t1, eq_tI1, ix40, ix41, ix42, ix43, List.length_map, eqk_int, eqk_str, eqk_bl, eqv_int, eqv_str, List.take_succ_cons, List.take_zero, List.drop_succ_cons, List.drop_zero, List.take_nil, List.drop_nil, ↓z_m1, ↓z_strV, ↓z_strS, strO_s, ↓z_intV, ↓z_intS, intO_i, ↓z_sl, ↓z_part0, ↓z_part, ↓z_join, ↓z_js0, ↓z_js1, gStr_i, gAll_l, gIn_ss, gStart_ss, gSplit_ss, gCut_s, gCut_l, gCut_t, gFmt_s, gFmt_i, gMul_si, gInt_s, D__law_any_ratio]
  refine ⟨l, _, rfl, h, by decide, by unfold Wb; decide, fun n l h0 h1 h => ?_⟩
  simp only [↓z_c, ↓z_var, ↓z_nil, ↓z_cons, ↓z_b, ↓z_vslot, ↓z_kslot, ↓z_kval, ↓z_lst, ↓z_tup, ↓z_call, ↓z_callKw, ↓z_tslot, ↓z_pslot, ↓z_tru, ↓z_tb, ↓z_nott, ↓z_andt, ↓z_ort, ↓z_ifx, ↓z_andv, ↓z_orv, ↓z_notv, ↓z_isi, ↓z_xf, ↓z_xis, ↓z_app, ↓z_chain, ↓z_fld, ↓z_ins, ↓z_dic, ↓z_next, ↓z_seq, ↓z_break, ↓z_cont, ↓z_expr, ↓z_ret, ↓z_rval, ↓z_rslot, ↓z_retn, ↓z_if, ↓z_asg, ↓z_setix, ↓z_par, ↓z_asgg, ↓z_gnm, ↓z_gunp, ↓z_gone, ↓z_gno, ↓z_raise, ↓z_try, ↓z_for, ↓z_iseq, ↓z_irg1, ↓z_izip, ↓z_sslot, ↓z_ocons, ↓z_lc, ↓z_yes, ↓z_w0, ↓z_ws, ↓x_vnil, ↓x_vval, ↓x_knil, ↓x_kcons, ↓x_tnil, ↓x_tval, ↓x_pval, ↓x_pnil, ↓x_snil, ↓x_sval, ↓x_onil, z_trN, z_trB, z_trI, z_trS, z_trT, z_trL, slotV_s, slotN_n, slotN_s, slotL_l, slotC_sh, slotC_lst, slotC_ins, one1_d, oneI_i, two2_o, two2D_d, someV_s, isBl_b, boolO_b, setV_s, insV_s, tryV_t, tryV_f, insD_i, unpD_t, unpD_l, gAdd_ii, gAdd_ss, gAdd_ll, gAdd_tt, gMul_ii, gMul_li, gSub_ii, gLt_ii, gLe_ii, gGt_ii, gGe_ii, gFdiv_ii, gMod_ii, gPow_ii, gNeg_i, gAbs_i, gInt_i, gInt_b, gGcd_ii, gLen_l, gLen_t, gLen_s, gIx_l, gIx_t, gIx_s, gIs_bb, gIs_dn, gEq_de, gTuple_l, gTuple_t, gList_l, gList_t, items_l, items_t, items_s, seq_l, seq_t, isNon_n, isNon_i, isNon_b, isNon_s, isNon_t, isNon_l, g2_ii, isK, knownD, flatD, view_sh', view_lst, flat_sh, flat_lst, List.map_cons, List.map_nil, List.replicate, List.cons_append, List.nil_append, List.append_nil, List.getElem?_cons_zero, List.getElem?_cons_succ, List.set_cons_zero, List.set_cons_succ, List.length_cons, List.length_nil, List.contains, List.elem_nil, List.elem_cons, List.any_cons, List.any_nil, List.all_nil, List.all_cons, Bool.or_false, Bool.false_eq_true, if_true, if_false, ite_true, ite_false, Nat.reduceSub, Nat.reduceAdd, Nat.reduceBEq, Nat.reduceEqDiff, Nat.reduceLeDiff, Nat.reduceLT, beq_self_eq_true, Bool.not_true, Bool.not_false, Bool.and_true, Bool.true_and, Bool.and_false, Bool.false_and, Bool.or_true, Bool.true_or, Bool.false_or, decide_eq_true_eq, Bool.not_eq_true', decide_eq_false_iff_not, true_and, and_true, reduceCtorEq, at_0, at_1, at_2, at_3, List.getD_cons_zero, List.getD_cons_succ, ok_int, ok_bl, ok_non, ok_tup0, ok_tI, ok_str, ok_t1, eq_int, eq_str, eq_t1, eq_tI1, ix40, ix41, ix42, ix43, List.length_map, eqk_int, eqk_str, eqk_bl, eqv_int, eqv_str, List.take_succ_cons, List.take_zero, List.drop_succ_cons, List.drop_zero, List.take_nil, List.drop_nil, ↓z_m1, ↓z_strV, ↓z_strS, strO_s, ↓z_intV, ↓z_intS, intO_i, ↓z_sl, ↓z_part0, ↓z_part, ↓z_join, ↓z_js0, ↓z_js1, gStr_i, gAll_l, gIn_ss, gStart_ss, gSplit_ss, gCut_s, gCut_l, gCut_t, gFmt_s, gFmt_i, gMul_si, gInt_s]
  by_cases n0 : n = 0
  · rw [if_pos n0]
    exact ⟨by decide, k (0, 1) _ ⟨by unfold Wb; decide, by unfold Wb; decide, by decide, by decide⟩ h⟩
  · rw [if_neg n0]
    by_cases n1 : n = 1
    · rw [if_pos n1]
      refine ⟨l, _, rfl, h, by decide, by unfold Wb; decide, fun n l h0 h1 h => ?_⟩
      simp only [↓z_c, ↓z_var, ↓z_nil, ↓z_cons, ↓z_b, ↓z_vslot, ↓z_kslot, ↓z_kval, ↓z_lst, ↓z_tup, ↓z_call, ↓z_callKw, ↓z_tslot, ↓z_pslot, ↓z_tru, ↓z_tb, ↓z_nott, ↓z_andt, ↓z_ort, ↓z_ifx, ↓z_andv, ↓z_orv, ↓z_notv, ↓z_isi, ↓z_xf, ↓z_xis, ↓z_app, ↓z_chain, ↓z_fld, ↓z_ins, ↓z_dic, ↓z_next, ↓z_seq, ↓z_break, ↓z_cont, ↓z_expr, ↓z_ret, ↓z_rval, ↓z_rslot, ↓z_retn, ↓z_if, ↓z_asg, ↓z_setix, ↓z_par, ↓z_asgg, ↓z_gnm, ↓z_gunp, ↓z_gone, ↓z_gno, ↓z_raise, ↓z_try, ↓z_for, ↓z_iseq, ↓z_irg1, ↓z_izip, ↓z_sslot, ↓z_ocons, ↓z_lc, ↓z_yes, ↓z_w0, ↓z_ws, ↓x_vnil, ↓x_vval, ↓x_knil, ↓x_kcons, ↓x_tnil, ↓x_tval, ↓x_pval, ↓x_pnil, ↓x_snil, ↓x_sval, ↓x_onil, z_trN, z_trB, z_trI, z_trS, z_trT, z_trL, slotV_s, slotN_n, slotN_s, slotL_l, slotC_sh, slotC_lst, slotC_ins, one1_d, oneI_i, two2_o, two2D_d, someV_s, isBl_b, boolO_b, setV_s, insV_s, tryV_t, tryV_f, insD_i, unpD_t, unpD_l, gAdd_ii, gAdd_ss, gAdd_ll, gAdd_tt, gMul_ii, gMul_li, gSub_ii, gLt_ii, gLe_ii, gGt_ii, gGe_ii, gFdiv_ii, gMod_ii, gPow_ii, gNeg_i, gAbs_i, gInt_i, gInt_b, gGcd_ii, gLen_l, gLen_t, gLen_s, gIx_l, gIx_t, gIx_s, gIs_bb, gIs_dn, gEq_de, gTuple_l, gTuple_t, gList_l, gList_t, items_l, items_t, items_s, seq_l, seq_t, isNon_n, isNon_i, isNon_b, isNon_s, isNon_t, isNon_l, g2_ii, isK, knownD, flatD, view_sh', view_lst, flat_sh, flat_lst, List.map_cons, List.map_nil, List.replicate, List.cons_append, List.nil_append, List.append_nil, List.getElem?_cons_zero, List.getElem?_cons_succ, List.set_cons_zero, List.set_cons_succ, List.length_cons, List.length_nil, List.contains, List.elem_nil, List.elem_cons, List.any_cons, List.any_nil, List.all_nil, List.all_cons, Bool.or_false, Bool.false_eq_true, if_true, if_false, ite_true, ite_false, Nat.reduceSub, Nat.reduceAdd, Nat.reduceBEq, Nat.reduceEqDiff, Nat.reduceLeDiff, Nat.reduceLT, beq_self_eq_true, Bool.not_true, Bool.not_false, Bool.and_true, Bool.true_and, Bool.and_false, Bool.false_and, Bool.or_true, Bool.true_or, Bool.false_or, decide_eq_true_eq, Bool.not_eq_true', decide_eq_false_iff_not, true_and, and_true, reduceCtorEq, at_0, at_1, at_2, at_3, List.getD_cons_zero, List.getD_cons_succ, ok_int, ok_bl, ok_non, ok_tup0, ok_tI, ok_str, ok_t1, eq_int, eq_str, eq_t1, eq_tI1, ix40, ix41, ix42, ix43, List.length_map, eqk_int, eqk_str, eqk_bl, eqv_int, eqv_str, List.take_succ_cons, List.take_zero, List.drop_succ_cons, List.drop_zero, List.take_nil, List.drop_nil, ↓z_m1, ↓z_strV, ↓z_strS, strO_s, ↓z_intV, ↓z_intS, intO_i, ↓z_sl, ↓z_part0, ↓z_part, ↓z_join, ↓z_js0, ↓z_js1, gStr_i, gAll_l, gIn_ss, gStart_ss, gSplit_ss, gCut_s, gCut_l, gCut_t, gFmt_s, gFmt_i, gMul_si, gInt_s]
      exact ⟨by decide, k (n - 3, 1) _ ⟨by unfold Wb; show (n - 3).natAbs < 2 ^ 110; omega, by show (1 : Int).natAbs < 2 ^ 110; decide, by show (0 : Int) < 1; decide, Int.gcd_one_right _⟩ h⟩
    · rw [if_neg n1]
      refine ⟨l, rfl, h, fun n l w h => ?_⟩
      simp only [↓z_c, ↓z_var, ↓z_nil, ↓z_cons, ↓z_b, ↓z_vslot, ↓z_kslot, ↓z_kval, ↓z_lst, ↓z_tup, ↓z_call, ↓z_callKw, ↓z_tslot, ↓z_pslot, ↓z_tru, ↓z_tb, ↓z_nott, ↓z_andt, ↓z_ort, ↓z_ifx, ↓z_andv, ↓z_orv, ↓z_notv, ↓z_isi, ↓z_xf, ↓z_xis, ↓z_app, ↓z_chain, ↓z_fld, ↓z_ins, ↓z_dic, ↓z_next, ↓z_seq, ↓z_break, ↓z_cont, ↓z_expr, ↓z_ret, ↓z_rval, ↓z_rslot, ↓z_retn, ↓z_if, ↓z_asg, ↓z_setix, ↓z_par, ↓z_asgg, ↓z_gnm, ↓z_gunp, ↓z_gone, ↓z_gno, ↓z_raise, ↓z_try, ↓z_for, ↓z_iseq, ↓z_irg1, ↓z_izip, ↓z_sslot, ↓z_ocons, ↓z_lc, ↓z_yes, ↓z_w0, ↓z_ws, ↓x_vnil, ↓x_vval, ↓x_knil, ↓x_kcons, ↓x_tnil, ↓x_tval, ↓x_pval, ↓x_pnil, ↓x_snil, ↓x_sval, ↓x_onil, z_trN, z_trB, z_trI, z_trS, z_trT, z_trL, slotV_s, slotN_n, slotN_s, slotL_l, slotC_sh, slotC_lst, slotC_ins, one1_d, oneI_i, two2_o, two2D_d, someV_s, isBl_b, boolO_b, setV_s, insV_s, tryV_t, tryV_f, insD_i, unpD_t, unpD_l, gAdd_ii, gAdd_ss, gAdd_ll, gAdd_tt, gMul_ii, gMul_li, gSub_ii, gLt_ii, gLe_ii, gGt_ii, gGe_ii, gFdiv_ii, gMod_ii, gPow_ii, gNeg_i, gAbs_i, gInt_i, gInt_b, gGcd_ii, gLen_l, gLen_t, gLen_s, gIx_l, gIx_t, gIx_s, gIs_bb, gIs_dn, gEq_de, gTuple_l, gTuple_t, gList_l, gList_t, items_l, items_t, items_s, seq_l, seq_t, isNon_n, isNon_i, isNon_b, isNon_s, isNon_t, isNon_l, g2_ii, isK, knownD, flatD, view_sh', view_lst, flat_sh, flat_lst, List.map_cons, List.map_nil, List.replicate, List.cons_append, List.nil_append, List.append_nil, List.getElem?_cons_zero, List.getElem?_cons_succ, List.set_cons_zero, List.set_cons_succ, List.length_cons, List.length_nil, List.contains, List.elem_nil, List.elem_cons, List.any_cons, List.any_nil, List.all_nil, List.all_cons, Bool.or_false, Bool.false_eq_true, if_true, if_false, ite_true, ite_false, Nat.reduceSub, Nat.reduceAdd, Nat.reduceBEq, Nat.reduceEqDiff, Nat.reduceLeDiff, Nat.reduceLT, beq_self_eq_true, Bool.not_true, Bool.not_false, Bool.and_true, Bool.true_and, Bool.and_false, Bool.false_and, Bool.or_true, Bool.true_or, Bool.false_or, decide_eq_true_eq, Bool.not_eq_true', decide_eq_false_iff_not, true_and, and_true, reduceCtorEq, at_0, at_1, at_2, at_3, List.getD_cons_zero, List.getD_cons_succ, ok_int, ok_bl, ok_non, ok_tup0, ok_tI, ok_str, ok_t1, eq_int, eq_str, eq_t1, eq_tI1, ix40, ix41, ix42, ix43, List.length_map, eqk_int, eqk_str, eqk_bl, eqv_int, eqv_str, List.take_succ_cons, List.take_zero, List.drop_succ_cons, List.drop_zero, List.take_nil, List.drop_nil, ↓z_m1, ↓z_strV, ↓z_strS, strO_s, ↓z_intV, ↓z_intS, intO_i, ↓z_sl, ↓z_part0, ↓z_part, ↓z_join, ↓z_js0, ↓z_js1, gStr_i, gAll_l, gIn_ss, gStart_ss, gSplit_ss, gCut_s, gCut_l, gCut_t, gFmt_s, gFmt_i, gMul_si, gInt_s]
      refine ⟨l, rfl, h, fun n2 l w2 h => ?_⟩
      simp only [↓z_c, ↓z_var, ↓z_nil, ↓z_cons, ↓z_b, ↓z_vslot, ↓z_kslot, ↓z_kval, ↓z_lst, ↓z_tup, ↓z_call, ↓z_callKw, ↓z_tslot, ↓z_pslot, ↓z_tru, ↓z_tb, ↓z_nott, ↓z_andt, ↓z_ort, ↓z_ifx, ↓z_andv, ↓z_orv, ↓z_notv, ↓z_isi, ↓z_xf, ↓z_xis, ↓z_app, ↓z_chain, ↓z_fld, ↓z_ins, ↓z_dic, ↓z_next, ↓z_seq, ↓z_break, ↓z_cont, ↓z_expr, ↓z_ret, ↓z_rval, ↓z_rslot, ↓z_retn, ↓z_if, ↓z_asg, ↓z_setix, ↓z_par, ↓z_asgg, ↓z_gnm, ↓z_gunp, ↓z_gone, ↓z_gno, ↓z_raise, ↓z_try, ↓z_for, ↓z_iseq, ↓z_irg1, ↓z_izip, ↓z_sslot, ↓z_ocons, ↓z_lc, ↓z_yes, ↓z_w0, ↓z_ws, ↓x_vnil, ↓x_vval, ↓x_knil, ↓x_kcons, ↓x_tnil, ↓x_tval, ↓x_pval, ↓x_pnil, ↓x_snil, ↓x_sval, ↓x_onil, z_trN, z_trB, z_trI, z_trS, z_trT, z_trL, slotV_s, slotN_n, slotN_s, slotL_l, slotC_sh, slotC_lst, slotC_ins, one1_d, oneI_i, two2_o, two2D_d, someV_s, isBl_b, boolO_b, setV_s, insV_s, tryV_t, tryV_f, insD_i, unpD_t, unpD_l, gAdd_ii, gAdd_ss, gAdd_ll, gAdd_tt, gMul_ii, gMul_li, gSub_ii, gLt_ii, gLe_ii, gGt_ii, gGe_ii, gFdiv_ii, gMod_ii, gPow_ii, gNeg_i, gAbs_i, gInt_i, gInt_b, gGcd_ii, gLen_l, gLen_t, gLen_s, gIx_l, gIx_t, gIx_s, gIs_bb, gIs_dn, gEq_de, gTuple_l, gTuple_t, gList_l, gList_t, items_l, items_t, items_s, seq_l, seq_t, isNon_n, isNon_i, isNon_b, isNon_s, isNon_t, isNon_l, g2_ii, isK, knownD, flatD, view_sh', view_lst, flat_sh, flat_lst, List.map_cons, List.map_nil, List.replicate, List.cons_append, List.nil_append, List.append_nil, List.getElem?_cons_zero, List.getElem?_cons_succ, List.set_cons_zero, List.set_cons_succ, List.length_cons, List.length_nil, List.contains, List.elem_nil, List.elem_cons, List.any_cons, List.any_nil, List.all_nil, List.all_cons, Bool.or_false, Bool.false_eq_true, if_true, if_false, ite_true, ite_false, Nat.reduceSub, Nat.reduceAdd, Nat.reduceBEq, Nat.reduceEqDiff, Nat.reduceLeDiff, Nat.reduceLT, beq_self_eq_true, Bool.not_true, Bool.not_false, Bool.and_true, Bool.true_and, Bool.and_false, Bool.false_and, Bool.or_true, Bool.true_or, Bool.false_or, decide_eq_true_eq, Bool.not_eq_true', decide_eq_false_iff_not, true_and, and_true, reduceCtorEq, at_0, at_1, at_2, at_3, List.getD_cons_zero, List.getD_cons_succ, ok_int, ok_bl, ok_non, ok_tup0, ok_tI, ok_str, ok_t1, eq_int, eq_str, eq_t1, eq_tI1, ix40, ix41, ix42, ix43, List.length_map, eqk_int, eqk_str, eqk_bl, eqv_int, eqv_str, List.take_succ_cons, List.take_zero, List.drop_succ_cons, List.drop_zero, List.take_nil, List.drop_nil, ↓z_m1, ↓z_strV, ↓z_strS, strO_s, ↓z_intV, ↓z_intS, intO_i, ↓z_sl, ↓z_part0, ↓z_part, ↓z_join, ↓z_js0, ↓z_js1, gStr_i, gAll_l, gIn_ss, gStart_ss, gSplit_ss, gCut_s, gCut_l, gCut_t, gFmt_s, gFmt_i, gMul_si, gInt_s]
      have w3 : Wb 110 (if n < 0 then -n else n) := by
        split
        · exact w.neg
        · exact w
      generalize (if n < 0 then -n else n) = c at w3
      by_cases hc : (c != 0) = true
      · rw [if_pos hc]
        have hc : c ≠ 0 := by simpa using hc
        refine ⟨_, _, rfl, hc, w2.mono (by decide), w3.mono (by decide), ?_⟩
        simp only [↓z_c, ↓z_var, ↓z_nil, ↓z_cons, ↓z_b, ↓z_vslot, ↓z_kslot, ↓z_kval, ↓z_lst, ↓z_tup, ↓z_call, ↓z_callKw, ↓z_tslot, ↓z_pslot, ↓z_tru, ↓z_tb, ↓z_nott, ↓z_andt, ↓z_ort, ↓z_ifx, ↓z_andv, ↓z_orv, ↓z_notv, ↓z_isi, ↓z_xf, ↓z_xis, ↓z_app, ↓z_chain, ↓z_fld, ↓z_ins, ↓z_dic, ↓z_next, ↓z_seq, ↓z_break, ↓z_cont, ↓z_expr, ↓z_ret, ↓z_rval, ↓z_rslot, ↓z_retn, ↓z_if, ↓z_asg, ↓z_setix, ↓z_par, ↓z_asgg, ↓z_gnm, ↓z_gunp, ↓z_gone, ↓z_gno, ↓z_raise, ↓z_try, ↓z_for, ↓z_iseq, ↓z_irg1, ↓z_izip, ↓z_sslot, ↓z_ocons, ↓z_lc, ↓z_yes, ↓z_w0, ↓z_ws, ↓x_vnil, ↓x_vval, ↓x_knil, ↓x_kcons, ↓x_tnil, ↓x_tval, ↓x_pval, ↓x_pnil, ↓x_snil, ↓x_sval, ↓x_onil, z_trN, z_trB, z_trI, z_trS, z_trT, z_trL, slotV_s, slotN_n, slotN_s, slotL_l, slotC_sh, slotC_lst, slotC_ins, one1_d, oneI_i, two2_o, two2D_d, someV_s, isBl_b, boolO_b, setV_s, insV_s, tryV_t, tryV_f, insD_i, unpD_t, unpD_l, gAdd_ii, gAdd_ss, gAdd_ll, gAdd_tt, gMul_ii, gMul_li, gSub_ii, gLt_ii, gLe_ii, gGt_ii, gGe_ii, gFdiv_ii, gMod_ii, gPow_ii, gNeg_i, gAbs_i, gInt_i, gInt_b, gGcd_ii, gLen_l, gLen_t, gLen_s, gIx_l, gIx_t, gIx_s, gIs_bb, gIs_dn, gEq_de, gTuple_l, gTuple_t, gList_l, gList_t, items_l, items_t, items_s, seq_l, seq_t, isNon_n, isNon_i, isNon_b, isNon_s, isNon_t, isNon_l, g2_ii, isK, knownD, flatD, view_sh', view_lst, flat_sh, flat_lst, List.map_cons, List.map_nil, List.replicate, List.cons_append, List.nil_append, List.append_nil, List.getElem?_cons_zero, List.getElem?_cons_succ, List.set_cons_zero, List.set_cons_succ, List.length_cons, List.length_nil, List.contains, List.elem_nil, List.elem_cons, List.any_cons, List.any_nil, List.all_nil, List.all_cons, Bool.or_false, Bool.false_eq_true, if_true, if_false, ite_true, ite_false, Nat.reduceSub, Nat.reduceAdd, Nat.reduceBEq, Nat.reduceEqDiff, Nat.reduceLeDiff, Nat.reduceLT, beq_self_eq_true, Bool.not_true, Bool.not_false, Bool.and_true, Bool.true_and, Bool.and_false, Bool.false_and, Bool.or_true, Bool.true_or, Bool.false_or, decide_eq_true_eq, Bool.not_eq_true', decide_eq_false_iff_not, true_and, and_true, reduceCtorEq, at_0, at_1, at_2, at_3, List.getD_cons_zero, List.getD_cons_succ, ok_int, ok_bl, ok_non, ok_tup0, ok_tI, ok_str, ok_t1, eq_int, eq_str, eq_t1, eq_tI1, ix40, ix41, ix42, ix43, List.length_map, eqk_int, eqk_str, eqk_bl, eqv_int, eqv_str, List.take_succ_cons, List.take_zero, List.drop_succ_cons, List.drop_zero, List.take_nil, List.drop_nil, ↓z_m1, ↓z_strV, ↓z_strS, strO_s, ↓z_intV, ↓z_intS, intO_i, ↓z_sl, ↓z_part0, ↓z_part, ↓z_join, ↓z_js0, ↓z_js1, gStr_i, gAll_l, gIn_ss, gStart_ss, gSplit_ss, gCut_s, gCut_l, gCut_t, gFmt_s, gFmt_i, gMul_si, gInt_s]
        exact k _ _ (low_rt hc w2 w3) h
      · rw [if_neg hc]
        have w1 : Wb 110 1 := by unfold Wb; decide
        refine ⟨_, _, rfl, by decide, w2.mono (by decide), w1.mono (by decide), ?_⟩
        simp only [↓z_c, ↓z_var, ↓z_nil, ↓z_cons, ↓z_b, ↓z_vslot, ↓z_kslot, ↓z_kval, ↓z_lst, ↓z_tup, ↓z_call, ↓z_callKw, ↓z_tslot, ↓z_pslot, ↓z_tru, ↓z_tb, ↓z_nott, ↓z_andt, ↓z_ort, ↓z_ifx, ↓z_andv, ↓z_orv, ↓z_notv, ↓z_isi, ↓z_xf, ↓z_xis, ↓z_app, ↓z_chain, ↓z_fld, ↓z_ins, ↓z_dic, ↓z_next, ↓z_seq, ↓z_break, ↓z_cont, ↓z_expr, ↓z_ret, ↓z_rval, ↓z_rslot, ↓z_retn, ↓z_if, ↓z_asg, ↓z_setix, ↓z_par, ↓z_asgg, ↓z_gnm, ↓z_gunp, ↓z_gone, ↓z_gno, ↓z_raise, ↓z_try, ↓z_for, ↓z_iseq, ↓z_irg1, ↓z_izip, ↓z_sslot, ↓z_ocons, ↓z_lc, ↓z_yes, ↓z_w0, ↓z_ws, ↓x_vnil, ↓x_vval, ↓x_knil, ↓x_kcons, ↓x_tnil, ↓x_tval, ↓x_pval, ↓x_pnil, ↓x_snil, ↓x_sval, ↓x_onil, z_trN, z_trB, z_trI, z_trS, z_trT, z_trL, slotV_s, slotN_n, slotN_s, slotL_l, slotC_sh, slotC_lst, slotC_ins, one1_d, oneI_i, two2_o, two2D_d, someV_s, isBl_b, boolO_b, setV_s, insV_s, tryV_t, tryV_f, insD_i, unpD_t, unpD_l, gAdd_ii, gAdd_ss, gAdd_ll, gAdd_tt, gMul_ii, gMul_li, gSub_ii, gLt_ii, gLe_ii, gGt_ii, gGe_ii, gFdiv_ii, gMod_ii, gPow_ii, gNeg_i, gAbs_i, gInt_i, gInt_b, gGcd_ii, gLen_l, gLen_t, gLen_s, gIx_l, gIx_t, gIx_s, gIs_bb, gIs_dn, gEq_de, gTuple_l, gTuple_t, gList_l, gList_t, items_l, items_t, items_s, seq_l, seq_t, isNon_n, isNon_i, isNon_b, isNon_s, isNon_t, isNon_l, g2_ii, isK, knownD, flatD, view_sh', view_lst, flat_sh, flat_lst, List.map_cons, List.map_nil, List.replicate, List.cons_append, List.nil_append, List.append_nil, List.getElem?_cons_zero, List.getElem?_cons_succ, List.set_cons_zero, List.set_cons_succ, List.length_cons, List.length_nil, List.contains, List.elem_nil, List.elem_cons, List.any_cons, List.any_nil, List.all_nil, List.all_cons, Bool.or_false, Bool.false_eq_true, if_true, if_false, ite_true, ite_false, Nat.reduceSub, Nat.reduceAdd, Nat.reduceBEq, Nat.reduceEqDiff, Nat.reduceLeDiff, Nat.reduceLT, beq_self_eq_true, Bool.not_true, Bool.not_false, Bool.and_true, Bool.true_and, Bool.and_false, Bool.false_and, Bool.or_true, Bool.true_or, Bool.false_or, decide_eq_true_eq, Bool.not_eq_true', decide_eq_false_iff_not, true_and, and_true, reduceCtorEq, at_0, at_1, at_2, at_3, List.getD_cons_zero, List.getD_cons_succ, ok_int, ok_bl, ok_non, ok_tup0, ok_tI, ok_str, ok_t1, eq_int, eq_str, eq_t1, eq_tI1, ix40, ix41, ix42, ix43, List.length_map, eqk_int, eqk_str, eqk_bl, eqv_int, eqv_str, List.take_succ_cons, List.take_zero, List.drop_succ_cons, List.drop_zero, List.take_nil, List.drop_nil, ↓z_m1, ↓z_strV, ↓z_strS, strO_s, ↓z_intV, ↓z_intS, intO_i, ↓z_sl, ↓z_part0, ↓z_part, ↓z_join, ↓z_js0, ↓z_js1, gStr_i, gAll_l, gIn_ss, gStart_ss, gSplit_ss, gCut_s, gCut_l, gCut_t, gFmt_s, gFmt_i, gMul_si, gInt_s]
        exact k _ _ (low_rt (by decide) w2 w1) h
theorem c__law_odd : ∀ os KR KE, Pv.S__law_odd os KR KE → bodyS 1 [] 1 D__law_odd os KR KE := by
  rintro os KR KE ⟨l, rfl, h, k⟩
  refine x_body rfl (by simp) ?_
  unfold D__law_odd
  simp only [↓x_ret, ↓x_b, ↓x_cons, List.map_cons, List.map_nil, Nat.reduceSub, List.replicate, List.append_nil]
  refine ev_lst (evl_cons ev_c (evl_cons ev_c (evl_cons ev_c (evl_cons ev_c (evl_cons (ev_tup evl_nil ?_) (evl_cons (ev_lst (evl_cons ev_c (evl_cons ev_c evl_nil)) ?_) (evl_cons (ev_tup (evl_cons ev_c (evl_cons ev_c evl_nil)) ?_)
    (evl_cons (ev_tup (evl_cons ev_c (evl_cons ev_c evl_nil)) ?_) (evl_cons (ev_tup (evl_cons ev_c (evl_cons (ev_neg ev_c) evl_nil)) ?_) (evl_cons (ev_tup (evl_cons ev_c (evl_cons ev_c evl_nil)) ?_) (evl_cons (ev_tup (evl_cons ev_c (evl_cons ev_c evl_nil)) ?_)
      (evl_cons (ev_tup (evl_cons ev_c (evl_cons ev_c (evl_cons ev_c evl_nil))) ?_) (evl_cons (ev_lst (evl_cons ev_c (evl_cons ev_c evl_nil)) ?_) evl_nil))))))))))))) ?_ _ _ _ ?_
  all_goals try decide
  simp only [↓z_c, ↓z_var, ↓z_nil, ↓z_cons, ↓z_b, ↓z_vslot, ↓z_kslot, ↓z_kval, ↓z_lst, ↓z_tup, ↓z_call, ↓z_callKw, ↓z_tslot, ↓z_pslot, ↓z_tru, ↓z_tb, ↓z_nott, ↓z_andt, ↓z_ort, ↓z_ifx, ↓z_andv, ↓z_orv, ↓z_notv, ↓z_isi, ↓z_xf, ↓z_xis, ↓z_app, ↓z_chain, ↓z_fld, ↓z_ins, ↓z_dic, ↓z_next, ↓z_seq, ↓z_break, ↓z_cont, ↓z_expr, ↓z_ret, ↓z_rval, ↓z_rslot, ↓z_retn, ↓z_if, ↓z_asg, ↓z_setix, ↓z_par, ↓z_asgg, ↓z_gnm, ↓z_gunp, ↓z_gone, ↓z_gno, ↓z_raise, ↓z_try, ↓z_for, ↓z_iseq, ↓z_irg1, ↓z_izip, ↓z_sslot, ↓z_ocons, ↓z_lc, ↓z_yes, ↓z_w0, ↓z_ws, ↓x_vnil, ↓x_vval, ↓x_knil, ↓x_kcons, ↓x_tnil, ↓x_tval, ↓x_pval, ↓x_pnil, ↓x_snil, ↓x_sval, ↓x_onil, z_trN, z_trB, z_trI, z_trS, z_trT, z_trL, slotV_s, slotN_n, slotN_s, slotL_l, slotC_sh, slotC_lst, slotC_ins, one1_d, oneI_i, two2_o, two2D_d, someV_s, isBl_b, boolO_b, setV_s, insV_s, tryV_t, tryV_f, insD_i, unpD_t, unpD_l, gAdd_ii, gAdd_ss, gAdd_ll, gAdd_tt, gMul_ii, gMul_li, gSub_ii, gLt_ii, gLe_ii, gGt_ii, gGe_ii, gFdiv_ii, gMod_ii, gPow_ii, gNeg_i, gAbs_i, gInt_i, gInt_b, gGcd_ii, gLen_l, gLen_t, gLen_s, gIx_l, gIx_t, gIx_s, gIs_bb, gIs_dn, gEq_de, gTuple_l, gTuple_t, gList_l, gList_t, items_l, items_t, items_s, seq_l, seq_t, isNon_n, isNon_i, isNon_b, isNon_s, isNon_t, isNon_l, g2_ii, isK, knownD, flatD, view_sh', view_lst, flat_sh, flat_lst, List.map_cons, List.map_nil, List.replicate, List.cons_append, List.nil_append, List.append_nil, List.getElem?_cons_zero, List.getElem?_cons_succ, List.set_cons_zero, List.set_cons_succ, List.length_cons, List.length_nil, List.contains, List.elem_nil, List.elem_cons, List.any_cons, List.any_nil, List.all_nil, List.all_cons, Bool.or_false, Bool.false_eq_true, if_true, if_false, ite_true, ite_false, Nat.reduceSub, Nat.reduceAdd, Nat.reduceBEq, Nat.reduceEqDiff, Nat.reduceLeDiff, Nat.reduceLT, beq_self_eq_true, Bool.not_true, Bool.not_false, Bool.and_true, Bool.true_and, Bool.and_false, Bool.false_and, Bool.or_true, Bool.true_or, Bool.false_or, decide_eq_true_eq, Bool.not_eq_true', decide_eq_false_iff_not, true_and, and_true, reduceCtorEq, at_0, at_1, at_2, at_3, List.getD_cons_zero, List.getD_cons_succ, ok_int, ok_bl, ok_non, ok_tup0, ok_tI, ok_str, ok_t1, eq_int, eq_str, eq_t1, eq_tI1, ix40, ix41, ix42, ix43, List.length_map, eqk_int, eqk_str, eqk_bl, eqv_int, eqv_str, List.take_succ_cons, List.take_zero, List.drop_succ_cons, List.drop_zero, List.take_nil, List.drop_nil, ↓z_m1, ↓z_strV, ↓z_strS, strO_s, ↓z_intV, ↓z_intS, intO_i, ↓z_sl, ↓z_part0, ↓z_part, ↓z_join, ↓z_js0, ↓z_js1, gStr_i, gAll_l, gIn_ss, gStart_ss, gSplit_ss, gCut_s, gCut_l, gCut_t, gFmt_s, gFmt_i, gMul_si, gInt_s]
  refine ⟨l, _, rfl, h, by decide, by unfold Wb; decide, fun n l h0 h1 h => ?_⟩
  simp only [↓z_c, ↓z_var, ↓z_nil, ↓z_cons, ↓z_b, ↓z_vslot, ↓z_kslot, ↓z_kval, ↓z_lst, ↓z_tup, ↓z_call, ↓z_callKw, ↓z_tslot, ↓z_pslot, ↓z_tru, ↓z_tb, ↓z_nott, ↓z_andt, ↓z_ort, ↓z_ifx, ↓z_andv, ↓z_orv, ↓z_notv, ↓z_isi, ↓z_xf, ↓z_xis, ↓z_app, ↓z_chain, ↓z_fld, ↓z_ins, ↓z_dic, ↓z_next, ↓z_seq, ↓z_break, ↓z_cont, ↓z_expr, ↓z_ret, ↓z_rval, ↓z_rslot, ↓z_retn, ↓z_if, ↓z_asg, ↓z_setix, ↓z_par, ↓z_asgg, ↓z_gnm, ↓z_gunp, ↓z_gone, ↓z_gno, ↓z_raise, ↓z_try, ↓z_for, ↓z_iseq, ↓z_irg1, ↓z_izip, ↓z_sslot, ↓z_ocons, ↓z_lc, ↓z_yes, ↓z_w0, ↓z_ws, ↓x_vnil, ↓x_vval, ↓x_knil, ↓x_kcons, ↓x_tnil, ↓x_tval, ↓x_pval, ↓x_pnil, ↓x_snil, ↓x_sval, ↓x_onil, z_trN, z_trB, z_trI, z_trS, z_trT, z_trL, slotV_s, slotN_n, slotN_s, slotL_l, slotC_sh, slotC_lst, slotC_ins, one1_d, oneI_i, two2_o, two2D_d, someV_s, isBl_b, boolO_b, setV_s, insV_s, tryV_t, tryV_f, insD_i, unpD_t, unpD_l, gAdd_ii, gAdd_ss, gAdd_ll, gAdd_tt, gMul_ii, gMul_li, gSub_ii, gLt_ii, gLe_ii, gGt_ii, gGe_ii, gFdiv_ii, gMod_ii, gPow_ii, gNeg_i, gAbs_i, gInt_i, gInt_b, gGcd_ii, gLen_l, gLen_t, gLen_s, gIx_l, gIx_t, gIx_s, gIs_bb, gIs_dn, gEq_de, gTuple_l, gTuple_t, gList_l, gList_t, items_l, items_t, items_s, seq_l, seq_t, isNon_n, isNon_i, isNon_b, isNon_s, isNon_t, isNon_l, g2_ii, isK, knownD, flatD, view_sh', view_lst, flat_sh, flat_lst, List.map_cons, List.map_nil, List.replicate, List.cons_append, List.nil_append, List.append_nil, List.getElem?_cons_zero, List.getElem?_cons_succ, List.set_cons_zero, List.set_cons_succ, List.length_cons, List.length_nil, List.contains, List.elem_nil, List.elem_cons, List.any_cons, List.any_nil, List.all_nil, List.all_cons, Bool.or_false, Bool.false_eq_true, if_true, if_false, ite_true, ite_false, Nat.reduceSub, Nat.reduceAdd, Nat.reduceBEq, Nat.reduceEqDiff, Nat.reduceLeDiff, Nat.reduceLT, beq_self_eq_true, Bool.not_true, Bool.not_false, Bool.and_true, Bool.true_and, Bool.and_false, Bool.false_and, Bool.or_true, Bool.true_or, Bool.false_or, decide_eq_true_eq, Bool.not_eq_true', decide_eq_false_iff_not, true_and, and_true, reduceCtorEq, at_0, at_1, at_2, at_3, List.getD_cons_zero, List.getD_cons_succ, ok_int, ok_bl, ok_non, ok_tup0, ok_tI, ok_str, ok_t1, eq_int, eq_str, eq_t1, eq_tI1, ix40, ix41, ix42, ix43, List.length_map, eqk_int, eqk_str, eqk_bl, eqv_int, eqv_str, List.take_succ_cons, List.take_zero, List.drop_succ_cons, List.drop_zero, List.take_nil, List.drop_nil, ↓z_m1, ↓z_strV, ↓z_strS, strO_s, ↓z_intV, ↓z_intS, intO_i, ↓z_sl, ↓z_part0, ↓z_part, ↓z_join, ↓z_js0, ↓z_js1, gStr_i, gAll_l, gIn_ss, gStart_ss, gSplit_ss, gCut_s, gCut_l, gCut_t, gFmt_s, gFmt_i, gMul_si, gInt_s]
  have e : L2.atI odds n = odds[n.toNat]? := at_int h0 (by show n < 13; exact h1)
  have e2 : odds[n.toNat]? = some (odds[n.toNat]'(by show n.toNat < 13; omega)) := List.getElem?_eq_getElem _
  show someV (L2.atI odds n) fun d => KR (O.sh d) [O.lst l]
  rw [e, e2]
  exact k _ _ (List.getElem_mem _) h

end K02

set_option Elab.async false
set_option linter.all false
set_option maxRecDepth 100000
set_option maxHeartbeats 2000000
set_option autoImplicit false
namespace K02
open PySem Pv
theorem bit_log {n : Nat} {i : Int} (h : Wb n i) (h0 : 0 < n) (hn : n ≤ 1900) : i.natAbs.log2 < 1920 := Nat.lt_of_lt_of_le (PySem.Flt.log2_lt_of h0 h) (by omega)
theorem text_len {q : Int × Int} (h : Rt 1900 q) : (intS q.1).length ≤ 1901 ∧ (intS q.2).length ≤ 1901 := by
  refine ⟨?_, ?_⟩ <;> unfold intS <;> rw [PySem.ofString_length]
  · exact int_text_length_le (by decide) (PySem.Flt.log2_lt_of (by decide) h.1)
  · exact int_text_length_le (by decide) (PySem.Flt.log2_lt_of (by decide) h.2.1)
theorem app_len (a b : Str) : (a ++ b).length = a.length + b.length := strLen_append a b
theorem slash_len : (("/" : String) : Str).length = 1 := by decide +kernel
theorem c_ratio_text : ∀ os KR KE, S_ratio_text os KR KE → bodyS 1 [] 1 D_ratio_text os KR KE := by
  rintro os KR KE ⟨q, rfl, h, k⟩
  refine x_body rfl (by simp) ?_
  simp only [↓z_c, ↓z_var, ↓z_nil, ↓z_cons, ↓z_b, ↓z_vslot, ↓z_kslot, ↓z_kval, ↓z_lst, ↓z_tup, ↓z_call, ↓z_callKw, ↓z_tslot, ↓z_pslot, ↓z_tru, ↓z_tb, ↓z_nott, ↓z_andt, ↓z_ort, ↓z_ifx, ↓z_andv, ↓z_orv, ↓z_notv, ↓z_isi, ↓z_xf, ↓z_xis, ↓z_app, ↓z_chain, ↓z_fld, ↓z_ins, ↓z_dic, ↓z_next, ↓z_seq, ↓z_break, ↓z_cont, ↓z_expr, ↓z_ret, ↓z_rval, ↓z_rslot, ↓z_retn, ↓z_if, ↓z_asg, ↓z_setix, ↓z_par, ↓z_asgg, ↓z_gnm, ↓z_gunp, ↓z_gone, ↓z_gno, ↓z_raise, ↓z_try, ↓z_for, ↓z_iseq, ↓z_irg1, ↓z_izip, ↓z_sslot, ↓z_ocons, ↓z_lc, ↓z_yes, ↓z_w0, ↓z_ws, ↓x_vnil, ↓x_vval, ↓x_knil, ↓x_kcons, ↓x_tnil, ↓x_tval, ↓x_pval, ↓x_pnil, ↓x_snil, ↓x_sval, ↓x_onil, z_trN, z_trB, z_trI, z_trS, z_trT, z_trL, slotV_s, slotN_n, slotN_s, slotL_l, slotC_sh, slotC_lst, slotC_ins, one1_d, oneI_i, two2_o, two2D_d, someV_s, isBl_b, boolO_b, setV_s, insV_s, tryV_t, tryV_f, insD_i, unpD_t, unpD_l, gAdd_ii, gAdd_ss, gAdd_ll, gAdd_tt, gMul_ii, gMul_li, gSub_ii, gLt_ii, gLe_ii, gGt_ii, gGe_ii, gFdiv_ii, gMod_ii, gPow_ii, gNeg_i, gAbs_i, gInt_i, gInt_b, gGcd_ii, gLen_l, gLen_t, gLen_s, gIx_l, gIx_t, gIx_s, gIs_bb, gIs_dn, gEq_de, gTuple_l, gTuple_t, gList_l, gList_t, items_l, items_t, items_s, seq_l, seq_t, isNon_n, isNon_i, isNon_b, isNon_s, isNon_t, isNon_l, g2_ii, isK, knownD, flatD, view_sh', view_lst, flat_sh, flat_lst, List.map_cons, List.map_nil, List.replicate, List.cons_append, List.nil_append, List.append_nil, List.getElem?_cons_zero, List.getElem?_cons_succ, List.set_cons_zero, List.set_cons_succ, List.length_cons, List.length_nil, List.contains, List.elem_nil, List.elem_cons, List.any_cons, List.any_nil, List.all_nil, List.all_cons, Bool.or_false, Bool.false_eq_true, if_true, if_false, ite_true, ite_false, Nat.reduceSub, Nat.reduceAdd, Nat.reduceBEq, Nat.reduceEqDiff, Nat.reduceLeDiff, Nat.reduceLT, beq_self_eq_true, Bool.not_true, Bool.not_false, Bool.and_true, Bool.true_and, Bool.and_false, Bool.false_and, Bool.or_true, Bool.true_or, Bool.false_or, decide_eq_true_eq, Bool.not_eq_true', decide_eq_false_iff_not, true_and, and_true, reduceCtorEq, at_0, at_1, at_2, at_3, List.getD_cons_zero, List.getD_cons_succ, ok_int, ok_bl, ok_non, ok_tup0, ok_tI, ok_str, ok_t1, eq_int, eq_str, eq_t1, eq_tI1, ix40, ix41, ix42, ix43, List.length_map, eqk_int, eqk_str, eqk_bl, eqv_int, eqv_str, List.take_succ_cons, List.take_zero, List.drop_succ_cons, List.drop_zero, List.take_nil, List.drop_nil, ↓z_m1, ↓z_strV, ↓z_strS, strO_s, ↓z_intV, ↓z_intS, intO_i, ↓z_sl, ↓z_part0, ↓z_part, ↓z_join, ↓z_js0, ↓z_js1, gStr_i, gAll_l, gIn_ss, gStart_ss, gSplit_ss, gCut_s, gCut_l, gCut_t, gFmt_s, gFmt_i, gMul_si, gInt_s, D_ratio_text]
  have l1 := bit_log h.1 (by decide) (by decide)
  have l2 := bit_log h.2.1 (by decide) (by decide)
  obtain ⟨t1, t2⟩ := text_len h
  unfold textQ at k
  by_cases e : q.2 = 1
  · rw [if_pos e]
    rw [if_pos e] at k
    exact ⟨l1, k⟩
  · rw [if_neg e]
    rw [if_neg e] at k
    have em : ∀ x : Str, Str.empty ++ x = x := fun x => str_ext (by rw [tl_app]; rfl)
    have big : (4000 : Nat) ≤ sizeLine := by decide
    have s1 := slash_len
    refine ⟨l1, ?_⟩
    rw [em]
    refine ⟨?_, ?_, l2, ?_, k⟩
    · exact Nat.le_trans t1 (by omega)
    · rw [app_len]
      have : (Str.ofString (toString q.1)).length ≤ 1901 := t1
      omega
    · rw [app_len, app_len]
      have h1 : (Str.ofString (toString q.1)).length ≤ 1901 := t1
      have h2 : (Str.ofString (toString q.2)).length ≤ 1901 := t2
      omega
theorem c__law_text : ∀ os KR KE, S__law_text os KR KE → bodyS 1 [] 1 D__law_text os KR KE := by
  rintro os KR KE ⟨q, rfl, h, k⟩
  refine x_body rfl (by simp) ?_
  simp only [↓z_c, ↓z_var, ↓z_nil, ↓z_cons, ↓z_b, ↓z_vslot, ↓z_kslot, ↓z_kval, ↓z_lst, ↓z_tup, ↓z_call, ↓z_callKw, ↓z_tslot, ↓z_pslot, ↓z_tru, ↓z_tb, ↓z_nott, ↓z_andt, ↓z_ort, ↓z_ifx, ↓z_andv, ↓z_orv, ↓z_notv, ↓z_isi, ↓z_xf, ↓z_xis, ↓z_app, ↓z_chain, ↓z_fld, ↓z_ins, ↓z_dic, ↓z_next, ↓z_seq, ↓z_break, ↓z_cont, ↓z_expr, ↓z_ret, ↓z_rval, ↓z_rslot, ↓z_retn, ↓z_if, ↓z_asg, ↓z_setix, ↓z_par, ↓z_asgg, ↓z_gnm, ↓z_gunp, ↓z_gone, ↓z_gno, ↓z_raise, ↓z_try, ↓z_for, ↓z_iseq, ↓z_irg1, ↓z_izip, ↓z_sslot, ↓z_ocons, ↓z_lc, ↓z_yes, ↓z_w0, ↓z_ws, ↓x_vnil, ↓x_vval, ↓x_knil, ↓x_kcons, ↓x_tnil, ↓x_tval, ↓x_pval, ↓x_pnil, ↓x_snil, ↓x_sval, ↓x_onil, z_trN, z_trB, z_trI, z_trS, z_trT, z_trL, slotV_s, slotN_n, slotN_s, slotL_l, slotC_sh, slotC_lst, slotC_ins, one1_d, oneI_i, two2_o, two2D_d, someV_s, isBl_b, boolO_b, setV_s, insV_s, tryV_t, tryV_f, insD_i, unpD_t, unpD_l, gAdd_ii, gAdd_ss, gAdd_ll, gAdd_tt, gMul_ii, gMul_li, gSub_ii, gLt_ii, gLe_ii, gGt_ii, gGe_ii, gFdiv_ii, gMod_ii, gPow_ii, gNeg_i, gAbs_i, gInt_i, gInt_b, gGcd_ii, gLen_l, gLen_t, gLen_s, gIx_l, gIx_t, gIx_s, gIs_bb, gIs_dn, gEq_de, gTuple_l, gTuple_t, gList_l, gList_t, items_l, items_t, items_s, seq_l, seq_t, isNon_n, isNon_i, isNon_b, isNon_s, isNon_t, isNon_l, g2_ii, isK, knownD, flatD, view_sh', view_lst, flat_sh, flat_lst, List.map_cons, List.map_nil, List.replicate, List.cons_append, List.nil_append, List.append_nil, List.getElem?_cons_zero, List.getElem?_cons_succ, List.set_cons_zero, List.set_cons_succ, List.length_cons, List.length_nil, List.contains, List.elem_nil, List.elem_cons, List.any_cons, List.any_nil, List.all_nil, List.all_cons, Bool.or_false, Bool.false_eq_true, if_true, if_false, ite_true, ite_false, Nat.reduceSub, Nat.reduceAdd, Nat.reduceBEq, Nat.reduceEqDiff, Nat.reduceLeDiff, Nat.reduceLT, beq_self_eq_true, Bool.not_true, Bool.not_false, Bool.and_true, Bool.true_and, Bool.and_false, Bool.false_and, Bool.or_true, Bool.true_or, Bool.false_or, decide_eq_true_eq, Bool.not_eq_true', decide_eq_false_iff_not, true_and, and_true, reduceCtorEq, at_0, at_1, at_2, at_3, List.getD_cons_zero, List.getD_cons_succ, ok_int, ok_bl, ok_non, ok_tup0, ok_tI, ok_str, ok_t1, eq_int, eq_str, eq_t1, eq_tI1, ix40, ix41, ix42, ix43, List.length_map, eqk_int, eqk_str, eqk_bl, eqv_int, eqv_str, List.take_succ_cons, List.take_zero, List.drop_succ_cons, List.drop_zero, List.take_nil, List.drop_nil, ↓z_m1, ↓z_strV, ↓z_strS, strO_s, ↓z_intV, ↓z_intS, intO_i, ↓z_sl, ↓z_part0, ↓z_part, ↓z_join, ↓z_js0, ↓z_js1, gStr_i, gAll_l, gIn_ss, gStart_ss, gSplit_ss, gCut_s, gCut_l, gCut_t, gFmt_s, gFmt_i, gMul_si, gInt_s, D__law_text]
  have l1 := bit_log h.1 (by decide) (by decide)
  have l2 := bit_log h.2.1 (by decide) (by decide)
  obtain ⟨t1, t2⟩ := text_len h
  unfold textQ at k
  have big : (4000 : Nat) ≤ sizeLine := by decide
  have s1 := slash_len
  have h1 : (Str.ofString (toString q.1)).length ≤ 1901 := t1
  have h2 : (Str.ofString (toString q.2)).length ≤ 1901 := t2
  by_cases e : q.2 = 1
  · rw [if_pos e]
    rw [if_pos e] at k
    exact ⟨l1, k⟩
  · rw [if_neg e]
    rw [if_neg e] at k
    refine ⟨l1, by omega, l2, ?_, k⟩
    rw [app_len]
    omega
/-- what both judges of figures tell -/
theorem fig_parts (s : Str) : isFig s = (decide (1 ≤ s.length) && decide (s.length ≤ 300) && s.cps.toList.all (fun c => decide (48 ≤ c ∧ c ≤ 57)) && (decide (s.cps.toList = [48]) || decide (s.cps.toList.head? ≠ some 48))) := by
  unfold isFig figL
  rw [len_tl]
theorem zero_tl : (("0" : String) : Str).cps.toList = [48] := by decide +kernel
theorem ix_head {s : Str} (h : 1 ≤ s.length) : ∃ c r, s.cps.toList = c :: r ∧ L2.atI s.cps.toList 0 = some c := by
  rw [len_tl] at h
  cases e : s.cps.toList with
  | nil => rw [e] at h; simp at h
  | cons c r => exact ⟨c, r, rfl, at_0⟩
theorem one_zero (c : Nat) : decide ((⟨#[c]⟩ : Str) = "0") = decide (c = 48) := by
  refine decide_eq_decide.mpr ?_
  rw [str_eq, zero_tl]
  simp
theorem c_is_figures : ∀ os KR KE, S_is_figures os KR KE → bodyS 2 [] 1 D_is_figures os KR KE := by
  rintro os KR KE ⟨s, rfl, hl, k⟩
  have big : (10000 : Nat) ≤ sizeLine := by decide
  have hs : s.length ≤ sizeLine := by omega
  rw [fig_parts] at k
  refine x_body rfl (by simp) ?_
  unfold D_is_figures
  refine seq_split (fun E => E = [some (.sh (.str s)), none] ∧ 1 ≤ s.length ∧ s.length ≤ 300) (fun b' hb => ?_) ?_
  · have bad : ¬ (1 ≤ s.length ∧ s.length ≤ 300) → KR (oB false) [.sh (.str s)] := fun h => by
      have : (decide (1 ≤ s.length) && decide (s.length ≤ 300)) = false := by
        rw [Bool.and_eq_false_iff]
        by_cases h1 : 1 ≤ s.length
        · exact .inr (decide_eq_false fun z => h ⟨h1, z⟩)
        · exact .inl (decide_eq_false h1)
      rw [this, Bool.false_and, Bool.false_and] at k
      exact k
    simp only [↓z_c, ↓z_var, ↓z_nil, ↓z_cons, ↓z_b, ↓z_vslot, ↓z_kslot, ↓z_kval, ↓z_lst, ↓z_tup, ↓z_call, ↓z_callKw, ↓z_tslot, ↓z_pslot, ↓z_tru, ↓z_tb, ↓z_nott, ↓z_andt, ↓z_ort, ↓z_ifx, ↓z_andv, ↓z_orv, ↓z_notv, ↓z_isi, ↓z_xf, ↓z_xis, ↓z_app, ↓z_chain, ↓z_fld, ↓z_ins, ↓z_dic, ↓z_next, ↓z_seq, ↓z_break, ↓z_cont, ↓z_expr, ↓z_ret, ↓z_rval, ↓z_rslot, ↓z_retn, ↓z_if, ↓z_asg, ↓z_setix, ↓z_par, ↓z_asgg, ↓z_gnm, ↓z_gunp, ↓z_gone, ↓z_gno, ↓z_raise, ↓z_try, ↓z_for, ↓z_iseq, ↓z_irg1, ↓z_izip, ↓z_sslot, ↓z_ocons, ↓z_lc, ↓z_yes, ↓z_w0, ↓z_ws, ↓x_vnil, ↓x_vval, ↓x_knil, ↓x_kcons, ↓x_tnil, ↓x_tval, ↓x_pval, ↓x_pnil, ↓x_snil, ↓x_sval, ↓x_onil, z_trN, z_trB, z_trI, z_trS, z_trT, z_trL, slotV_s, slotN_n, slotN_s, slotL_l, slotC_sh, slotC_lst, slotC_ins, one1_d, oneI_i, two2_o, two2D_d, someV_s, isBl_b, boolO_b, setV_s, insV_s, tryV_t, tryV_f, insD_i, unpD_t, unpD_l, gAdd_ii, gAdd_ss, gAdd_ll, gAdd_tt, gMul_ii, gMul_li, gSub_ii, gLt_ii, gLe_ii, gGt_ii, gGe_ii, gFdiv_ii, gMod_ii, gPow_ii, gNeg_i, gAbs_i, gInt_i, gInt_b, gGcd_ii, gLen_l, gLen_t, gLen_s, gIx_l, gIx_t, gIx_s, gIs_bb, gIs_dn, gEq_de, gTuple_l, gTuple_t, gList_l, gList_t, items_l, items_t, items_s, seq_l, seq_t, isNon_n, isNon_i, isNon_b, isNon_s, isNon_t, isNon_l, g2_ii, isK, knownD, flatD, view_sh', view_lst, flat_sh, flat_lst, List.map_cons, List.map_nil, List.replicate, List.cons_append, List.nil_append, List.append_nil, List.getElem?_cons_zero, List.getElem?_cons_succ, List.set_cons_zero, List.set_cons_succ, List.length_cons, List.length_nil, List.contains, List.elem_nil, List.elem_cons, List.any_cons, List.any_nil, List.all_nil, List.all_cons, Bool.or_false, Bool.false_eq_true, if_true, if_false, ite_true, ite_false, Nat.reduceSub, Nat.reduceAdd, Nat.reduceBEq, Nat.reduceEqDiff, Nat.reduceLeDiff, Nat.reduceLT, beq_self_eq_true, Bool.not_true, Bool.not_false, Bool.and_true, Bool.true_and, Bool.and_false, Bool.false_and, Bool.or_true, Bool.true_or, Bool.false_or, decide_eq_true_eq, Bool.not_eq_true', decide_eq_false_iff_not, true_and, and_true, reduceCtorEq, at_0, at_1, at_2, at_3, List.getD_cons_zero, List.getD_cons_succ, ok_int, ok_bl, ok_non, ok_tup0, ok_tI, ok_str, ok_t1, eq_int, eq_str, eq_t1, eq_tI1, ix40, ix41, ix42, ix43, List.length_map, eqk_int, eqk_str, eqk_bl, eqv_int, eqv_str, List.take_succ_cons, List.take_zero, List.drop_succ_cons, List.drop_zero, List.take_nil, List.drop_nil, ↓z_m1, ↓z_strV, ↓z_strS, strO_s, ↓z_intV, ↓z_intS, intO_i, ↓z_sl, ↓z_part0, ↓z_part, ↓z_join, ↓z_js0, ↓z_js1, gStr_i, gAll_l, gIn_ss, gStart_ss, gSplit_ss, gCut_s, gCut_l, gCut_t, gFmt_s, gFmt_i, gMul_si, gInt_s]
    refine ⟨hs, ?_⟩
    by_cases h1 : (1 : Int) ≤ s.length
    · rw [if_pos h1]
      by_cases h2 : (s.length : Int) ≤ 300
      · rw [if_neg (by simpa using h2)]
        exact hb _ ⟨rfl, by omega, by omega⟩
      · rw [if_pos h2]
        exact bad (by omega)
    · rw [if_neg h1]
      exact bad (by omega)
  rintro E ⟨rfl, h1, h3⟩
  rw [decide_eq_true h1, decide_eq_true h3, Bool.true_and, Bool.true_and] at k
  refine seq_split (fun E => ∃ y, E = [some (.sh (.str s)), y] ∧ s.cps.toList.all (fun c => decide (48 ≤ c ∧ c ≤ 57)) = true) (fun b' hb => ?_) ?_
  · simp only [↓z_c, ↓z_var, ↓z_nil, ↓z_cons, ↓z_b, ↓z_vslot, ↓z_kslot, ↓z_kval, ↓z_lst, ↓z_tup, ↓z_call, ↓z_callKw, ↓z_tslot, ↓z_pslot, ↓z_tru, ↓z_tb, ↓z_nott, ↓z_andt, ↓z_ort, ↓z_ifx, ↓z_andv, ↓z_orv, ↓z_notv, ↓z_isi, ↓z_xf, ↓z_xis, ↓z_app, ↓z_chain, ↓z_fld, ↓z_ins, ↓z_dic, ↓z_next, ↓z_seq, ↓z_break, ↓z_cont, ↓z_expr, ↓z_ret, ↓z_rval, ↓z_rslot, ↓z_retn, ↓z_if, ↓z_asg, ↓z_setix, ↓z_par, ↓z_asgg, ↓z_gnm, ↓z_gunp, ↓z_gone, ↓z_gno, ↓z_raise, ↓z_try, ↓z_for, ↓z_iseq, ↓z_irg1, ↓z_izip, ↓z_sslot, ↓z_ocons, ↓z_lc, ↓z_yes, ↓z_w0, ↓z_ws, ↓x_vnil, ↓x_vval, ↓x_knil, ↓x_kcons, ↓x_tnil, ↓x_tval, ↓x_pval, ↓x_pnil, ↓x_snil, ↓x_sval, ↓x_onil, z_trN, z_trB, z_trI, z_trS, z_trT, z_trL, slotV_s, slotN_n, slotN_s, slotL_l, slotC_sh, slotC_lst, slotC_ins, one1_d, oneI_i, two2_o, two2D_d, someV_s, isBl_b, boolO_b, setV_s, insV_s, tryV_t, tryV_f, insD_i, unpD_t, unpD_l, gAdd_ii, gAdd_ss, gAdd_ll, gAdd_tt, gMul_ii, gMul_li, gSub_ii, gLt_ii, gLe_ii, gGt_ii, gGe_ii, gFdiv_ii, gMod_ii, gPow_ii, gNeg_i, gAbs_i, gInt_i, gInt_b, gGcd_ii, gLen_l, gLen_t, gLen_s, gIx_l, gIx_t, gIx_s, gIs_bb, gIs_dn, gEq_de, gTuple_l, gTuple_t, gList_l, gList_t, items_l, items_t, items_s, seq_l, seq_t, isNon_n, isNon_i, isNon_b, isNon_s, isNon_t, isNon_l, g2_ii, isK, knownD, flatD, view_sh', view_lst, flat_sh, flat_lst, List.map_cons, List.map_nil, List.replicate, List.cons_append, List.nil_append, List.append_nil, List.getElem?_cons_zero, List.getElem?_cons_succ, List.set_cons_zero, List.set_cons_succ, List.length_cons, List.length_nil, List.contains, List.elem_nil, List.elem_cons, List.any_cons, List.any_nil, List.all_nil, List.all_cons, Bool.or_false, Bool.false_eq_true, if_true, if_false, ite_true, ite_false, Nat.reduceSub, Nat.reduceAdd, Nat.reduceBEq, Nat.reduceEqDiff, Nat.reduceLeDiff, Nat.reduceLT, beq_self_eq_true, Bool.not_true, Bool.not_false, Bool.and_true, Bool.true_and, Bool.and_false, Bool.false_and, Bool.or_true, Bool.true_or, Bool.false_or, decide_eq_true_eq, Bool.not_eq_true', decide_eq_false_iff_not, true_and, and_true, reduceCtorEq, at_0, at_1, at_2, at_3, List.getD_cons_zero, List.getD_cons_succ, ok_int, ok_bl, ok_non, ok_tup0, ok_tI, ok_str, ok_t1, eq_int, eq_str, eq_t1, eq_tI1, ix40, ix41, ix42, ix43, List.length_map, eqk_int, eqk_str, eqk_bl, eqv_int, eqv_str, List.take_succ_cons, List.take_zero, List.drop_succ_cons, List.drop_zero, List.take_nil, List.drop_nil, ↓z_m1, ↓z_strV, ↓z_strS, strO_s, ↓z_intV, ↓z_intS, intO_i, ↓z_sl, ↓z_part0, ↓z_part, ↓z_join, ↓z_js0, ↓z_js1, gStr_i, gAll_l, gIn_ss, gStart_ss, gSplit_ss, gCut_s, gCut_l, gCut_t, gFmt_s, gFmt_i, gMul_si, gInt_s]
    refine forD_inv (fun n E => (∃ y, E = [some (.sh (.str s)), y]) ∧ ∀ j, j < n → ∀ c, s.cps.toList[j]? = some c → (48 ≤ c ∧ c ≤ 57)) (fun _ _ _ => holds0) 0 ?_ ⟨⟨_, rfl⟩, fun j hj => by omega⟩ ?_
    · rintro i d E tail hd ⟨⟨y, rfl⟩, hall⟩ kt
      rw [List.getElem?_map] at hd
      cases hi : s.cps.toList[i]? with
      | none => rw [hi] at hd; cases hd
      | some c =>
        rw [hi] at hd
        obtain rfl : D.str ⟨#[c]⟩ = d := by simpa using hd
        simp only [↓z_c, ↓z_var, ↓z_nil, ↓z_cons, ↓z_b, ↓z_vslot, ↓z_kslot, ↓z_kval, ↓z_lst, ↓z_tup, ↓z_call, ↓z_callKw, ↓z_tslot, ↓z_pslot, ↓z_tru, ↓z_tb, ↓z_nott, ↓z_andt, ↓z_ort, ↓z_ifx, ↓z_andv, ↓z_orv, ↓z_notv, ↓z_isi, ↓z_xf, ↓z_xis, ↓z_app, ↓z_chain, ↓z_fld, ↓z_ins, ↓z_dic, ↓z_next, ↓z_seq, ↓z_break, ↓z_cont, ↓z_expr, ↓z_ret, ↓z_rval, ↓z_rslot, ↓z_retn, ↓z_if, ↓z_asg, ↓z_setix, ↓z_par, ↓z_asgg, ↓z_gnm, ↓z_gunp, ↓z_gone, ↓z_gno, ↓z_raise, ↓z_try, ↓z_for, ↓z_iseq, ↓z_irg1, ↓z_izip, ↓z_sslot, ↓z_ocons, ↓z_lc, ↓z_yes, ↓z_w0, ↓z_ws, ↓x_vnil, ↓x_vval, ↓x_knil, ↓x_kcons, ↓x_tnil, ↓x_tval, ↓x_pval, ↓x_pnil, ↓x_snil, ↓x_sval, ↓x_onil, z_trN, z_trB, z_trI, z_trS, z_trT, z_trL, slotV_s, slotN_n, slotN_s, slotL_l, slotC_sh, slotC_lst, slotC_ins, one1_d, oneI_i, two2_o, two2D_d, someV_s, isBl_b, boolO_b, setV_s, insV_s, tryV_t, tryV_f, insD_i, unpD_t, unpD_l, gAdd_ii, gAdd_ss, gAdd_ll, gAdd_tt, gMul_ii, gMul_li, gSub_ii, gLt_ii, gLe_ii, gGt_ii, gGe_ii, gFdiv_ii, gMod_ii, gPow_ii, gNeg_i, gAbs_i, gInt_i, gInt_b, gGcd_ii, gLen_l, gLen_t, gLen_s, gIx_l, gIx_t, gIx_s, gIs_bb, gIs_dn, gEq_de, gTuple_l, gTuple_t, gList_l, gList_t, items_l, items_t, items_s, seq_l, seq_t, isNon_n, isNon_i, isNon_b, isNon_s, isNon_t, isNon_l, g2_ii, isK, knownD, flatD, view_sh', view_lst, flat_sh, flat_lst, List.map_cons, List.map_nil, List.replicate, List.cons_append, List.nil_append, List.append_nil, List.getElem?_cons_zero, List.getElem?_cons_succ, List.set_cons_zero, List.set_cons_succ, List.length_cons, List.length_nil, List.contains, List.elem_nil, List.elem_cons, List.any_cons, List.any_nil, List.all_nil, List.all_cons, Bool.or_false, Bool.false_eq_true, if_true, if_false, ite_true, ite_false, Nat.reduceSub, Nat.reduceAdd, Nat.reduceBEq, Nat.reduceEqDiff, Nat.reduceLeDiff, Nat.reduceLT, beq_self_eq_true, Bool.not_true, Bool.not_false, Bool.and_true, Bool.true_and, Bool.and_false, Bool.false_and, Bool.or_true, Bool.true_or, Bool.false_or, decide_eq_true_eq, Bool.not_eq_true', decide_eq_false_iff_not, true_and, and_true, reduceCtorEq, at_0, at_1, at_2, at_3, List.getD_cons_zero, List.getD_cons_succ, ok_int, ok_bl, ok_non, ok_tup0, ok_tI, ok_str, ok_t1, eq_int, eq_str, eq_t1, eq_tI1, ix40, ix41, ix42, ix43, List.length_map, eqk_int, eqk_str, eqk_bl, eqv_int, eqv_str, List.take_succ_cons, List.take_zero, List.drop_succ_cons, List.drop_zero, List.take_nil, List.drop_nil, ↓z_m1, ↓z_strV, ↓z_strS, strO_s, ↓z_intV, ↓z_intS, intO_i, ↓z_sl, ↓z_part0, ↓z_part, ↓z_join, ↓z_js0, ↓z_js1, gStr_i, gAll_l, gIn_ss, gStart_ss, gSplit_ss, gCut_s, gCut_l, gCut_t, gFmt_s, gFmt_i, gMul_si, gInt_s, in_digits]
        by_cases hc : 48 ≤ c ∧ c ≤ 57
        · rw [if_neg (by simpa using hc)]
          refine kt _ ⟨⟨_, rfl⟩, fun j hj c' hc' => ?_⟩
          by_cases z : j = i
          · subst z
            rw [hi] at hc'
            cases hc'
            exact hc
          · exact hall j (by omega) c' hc'
        · rw [if_pos (by simpa using hc)]
          have : s.cps.toList.all (fun c => decide (48 ≤ c ∧ c ≤ 57)) = false := by
            rw [Bool.eq_false_iff]
            intro z
            exact hc (of_decide_eq_true (List.all_eq_true.mp z c (List.mem_of_getElem? hi)))
          rw [this, Bool.false_and] at k
          exact k
    · rintro E ⟨⟨y, rfl⟩, hall⟩
      refine hb _ ⟨y, rfl, List.all_eq_true.mpr fun c hc => decide_eq_true ?_⟩
      obtain ⟨j, hj, e⟩ := List.mem_iff_getElem.mp hc
      exact hall j (by rw [List.length_map]; omega) c (by rw [List.getElem?_eq_getElem hj, e])
  rintro E ⟨y, rfl, hall⟩
  rw [hall, Bool.true_and] at k
  obtain ⟨c, r, e, ea⟩ := ix_head h1
  simp only [↓z_c, ↓z_var, ↓z_nil, ↓z_cons, ↓z_b, ↓z_vslot, ↓z_kslot, ↓z_kval, ↓z_lst, ↓z_tup, ↓z_call, ↓z_callKw, ↓z_tslot, ↓z_pslot, ↓z_tru, ↓z_tb, ↓z_nott, ↓z_andt, ↓z_ort, ↓z_ifx, ↓z_andv, ↓z_orv, ↓z_notv, ↓z_isi, ↓z_xf, ↓z_xis, ↓z_app, ↓z_chain, ↓z_fld, ↓z_ins, ↓z_dic, ↓z_next, ↓z_seq, ↓z_break, ↓z_cont, ↓z_expr, ↓z_ret, ↓z_rval, ↓z_rslot, ↓z_retn, ↓z_if, ↓z_asg, ↓z_setix, ↓z_par, ↓z_asgg, ↓z_gnm, ↓z_gunp, ↓z_gone, ↓z_gno, ↓z_raise, ↓z_try, ↓z_for, ↓z_iseq, ↓z_irg1, ↓z_izip, ↓z_sslot, ↓z_ocons, ↓z_lc, ↓z_yes, ↓z_w0, ↓z_ws, ↓x_vnil, ↓x_vval, ↓x_knil, ↓x_kcons, ↓x_tnil, ↓x_tval, ↓x_pval, ↓x_pnil, ↓x_snil, ↓x_sval, ↓x_onil, z_trN, z_trB, z_trI, z_trS, z_trT, z_trL, slotV_s, slotN_n, slotN_s, slotL_l, slotC_sh, slotC_lst, slotC_ins, one1_d, oneI_i, two2_o, two2D_d, someV_s, isBl_b, boolO_b, setV_s, insV_s, tryV_t, tryV_f, insD_i, unpD_t, unpD_l, gAdd_ii, gAdd_ss, gAdd_ll, gAdd_tt, gMul_ii, gMul_li, gSub_ii, gLt_ii, gLe_ii, gGt_ii, gGe_ii, gFdiv_ii, gMod_ii, gPow_ii, gNeg_i, gAbs_i, gInt_i, gInt_b, gGcd_ii, gLen_l, gLen_t, gLen_s, gIx_l, gIx_t, gIx_s, gIs_bb, gIs_dn, gEq_de, gTuple_l, gTuple_t, gList_l, gList_t, items_l, items_t, items_s, seq_l, seq_t, isNon_n, isNon_i, isNon_b, isNon_s, isNon_t, isNon_l, g2_ii, isK, knownD, flatD, view_sh', view_lst, flat_sh, flat_lst, List.map_cons, List.map_nil, List.replicate, List.cons_append, List.nil_append, List.append_nil, List.getElem?_cons_zero, List.getElem?_cons_succ, List.set_cons_zero, List.set_cons_succ, List.length_cons, List.length_nil, List.contains, List.elem_nil, List.elem_cons, List.any_cons, List.any_nil, List.all_nil, List.all_cons, Bool.or_false, Bool.false_eq_true, if_true, if_false, ite_true, ite_false, Nat.reduceSub, Nat.reduceAdd, Nat.reduceBEq, Nat.reduceEqDiff, Nat.reduceLeDiff, Nat.reduceLT, beq_self_eq_true, Bool.not_true, Bool.not_false, Bool.and_true, Bool.true_and, Bool.and_false, Bool.false_and, Bool.or_true, Bool.true_or, Bool.false_or, decide_eq_true_eq, Bool.not_eq_true', decide_eq_false_iff_not, true_and, and_true, reduceCtorEq, at_0, at_1, at_2, at_3, List.getD_cons_zero, List.getD_cons_succ, ok_int, ok_bl, ok_non, ok_tup0, ok_tI, ok_str, ok_t1, eq_int, eq_str, eq_t1, eq_tI1, ix40, ix41, ix42, ix43, List.length_map, eqk_int, eqk_str, eqk_bl, eqv_int, eqv_str, List.take_succ_cons, List.take_zero, List.drop_succ_cons, List.drop_zero, List.take_nil, List.drop_nil, ↓z_m1, ↓z_strV, ↓z_strS, strO_s, ↓z_intV, ↓z_intS, intO_i, ↓z_sl, ↓z_part0, ↓z_part, ↓z_join, ↓z_js0, ↓z_js1, gStr_i, gAll_l, gIn_ss, gStart_ss, gSplit_ss, gCut_s, gCut_l, gCut_t, gFmt_s, gFmt_i, gMul_si, gInt_s, ea, one_zero]
  have z0 : (s = "0") = (s.cps.toList = [48]) := by rw [str_eq, zero_tl]
  by_cases hz : s = "0"
  · rw [if_pos hz, decide_eq_true hz]
    rw [decide_eq_true (z0 ▸ hz), Bool.true_or] at k
    exact k
  · rw [if_neg hz]
    rw [decide_eq_false (z0 ▸ hz), Bool.false_or, e] at k
    refine ⟨hs, ?_⟩
    have : decide ((c :: r).head? ≠ some 48) = !decide (c = 48) := by simp
    rw [this] at k
    exact k

end K02

set_option Elab.async false
set_option linter.all false
set_option maxRecDepth 100000
set_option maxHeartbeats 2000000
set_option autoImplicit false
namespace K02
open PySem Pv
theorem c__law_figures : ∀ os KR KE, S__law_figures os KR KE → bodyS 2 [] 1 D__law_figures os KR KE := by
  rintro os KR KE ⟨s, rfl, hl, k⟩
  have big : (10000 : Nat) ≤ sizeLine := by decide
  have hs : s.length ≤ sizeLine := by omega
  rw [fig_parts] at k
  refine x_body rfl (by simp) ?_
  unfold D__law_figures
  have em : (("" : String) : Str).cps.toList = [] := by decide +kernel
  have e0 : (s = "") = (s.length = 0) := by
    rw [str_eq, em, len_tl]
    exact propext ⟨fun h => by rw [h]; rfl, fun h => List.length_eq_zero_iff.mp h⟩
  refine seq_split (fun E => ∃ y, E = [some (.sh (.str s)), y] ∧ 1 ≤ s.length ∧ s.length ≤ 300 ∧ s.cps.toList.all (fun c => decide (48 ≤ c ∧ c ≤ 57)) = true) (fun b' hb => ?_) ?_
  · simp only [↓z_c, ↓z_var, ↓z_nil, ↓z_cons, ↓z_b, ↓z_vslot, ↓z_kslot, ↓z_kval, ↓z_lst, ↓z_tup, ↓z_call, ↓z_callKw, ↓z_tslot, ↓z_pslot, ↓z_tru, ↓z_tb, ↓z_nott, ↓z_andt, ↓z_ort, ↓z_ifx, ↓z_andv, ↓z_orv, ↓z_notv, ↓z_isi, ↓z_xf, ↓z_xis, ↓z_app, ↓z_chain, ↓z_fld, ↓z_ins, ↓z_dic, ↓z_next, ↓z_seq, ↓z_break, ↓z_cont, ↓z_expr, ↓z_ret, ↓z_rval, ↓z_rslot, ↓z_retn, ↓z_if, ↓z_asg, ↓z_setix, ↓z_par, ↓z_asgg, ↓z_gnm, ↓z_gunp, ↓z_gone, ↓z_gno, ↓z_raise, ↓z_try, ↓z_for, ↓z_iseq, ↓z_irg1, ↓z_izip, ↓z_sslot, ↓z_ocons, ↓z_lc, ↓z_yes, ↓z_w0, ↓z_ws, ↓x_vnil, ↓x_vval, ↓x_knil, ↓x_kcons, ↓x_tnil, ↓x_tval, ↓x_pval, ↓x_pnil, ↓x_snil, ↓x_sval, ↓x_onil, z_trN, z_trB, z_trI, z_trS, z_trT, z_trL, slotV_s, slotN_n, slotN_s, slotL_l, slotC_sh, slotC_lst, slotC_ins, one1_d, oneI_i, two2_o, two2D_d, someV_s, isBl_b, boolO_b, setV_s, insV_s, tryV_t, tryV_f, insD_i, unpD_t, unpD_l, gAdd_ii, gAdd_ss, gAdd_ll, gAdd_tt, gMul_ii, gMul_li, gSub_ii, gLt_ii, gLe_ii, gGt_ii, gGe_ii, gFdiv_ii, gMod_ii, gPow_ii, gNeg_i, gAbs_i, gInt_i, gInt_b, gGcd_ii, gLen_l, gLen_t, gLen_s, gIx_l, gIx_t, gIx_s, gIs_bb, gIs_dn, gEq_de, gTuple_l, gTuple_t, gList_l, gList_t, items_l, items_t, items_s, seq_l, seq_t, isNon_n, isNon_i, isNon_b, isNon_s, isNon_t, isNon_l, g2_ii, isK, knownD, flatD, view_sh', view_lst, flat_sh, flat_lst, List.map_cons, List.map_nil, List.replicate, List.cons_append, List.nil_append, List.append_nil, List.getElem?_cons_zero, List.getElem?_cons_succ, List.set_cons_zero, List.set_cons_succ, List.length_cons, List.length_nil, List.contains, List.elem_nil, List.elem_cons, List.any_cons, List.any_nil, List.all_nil, List.all_cons, Bool.or_false, Bool.false_eq_true, if_true, if_false, ite_true, ite_false, Nat.reduceSub, Nat.reduceAdd, Nat.reduceBEq, Nat.reduceEqDiff, Nat.reduceLeDiff, Nat.reduceLT, beq_self_eq_true, Bool.not_true, Bool.not_false, Bool.and_true, Bool.true_and, Bool.and_false, Bool.false_and, Bool.or_true, Bool.true_or, Bool.false_or, decide_eq_true_eq, Bool.not_eq_true', decide_eq_false_iff_not, true_and, and_true, reduceCtorEq, at_0, at_1, at_2, at_3, List.getD_cons_zero, List.getD_cons_succ, ok_int, ok_bl, ok_non, ok_tup0, ok_tI, ok_str, ok_t1, eq_int, eq_str, eq_t1, eq_tI1, ix40, ix41, ix42, ix43, List.length_map, eqk_int, eqk_str, eqk_bl, eqv_int, eqv_str, List.take_succ_cons, List.take_zero, List.drop_succ_cons, List.drop_zero, List.take_nil, List.drop_nil, ↓z_m1, ↓z_strV, ↓z_strS, strO_s, ↓z_intV, ↓z_intS, intO_i, ↓z_sl, ↓z_part0, ↓z_part, ↓z_join, ↓z_js0, ↓z_js1, gStr_i, gAll_l, gIn_ss, gStart_ss, gSplit_ss, gCut_s, gCut_l, gCut_t, gFmt_s, gFmt_i, gMul_si, gInt_s]
    by_cases h1 : s = ""
    · rw [if_pos h1]
      have : ¬ 1 ≤ s.length := by rw [e0] at h1; omega
      rw [decide_eq_false this, Bool.false_and, Bool.false_and, Bool.false_and] at k
      exact k
    · rw [if_neg h1]
      have h1 : 1 ≤ s.length := by rw [e0] at h1; omega
      refine ⟨hs, ?_⟩
      by_cases h2 : (300 : Int) < s.length
      · rw [if_pos h2]
        have : ¬ s.length ≤ 300 := by omega
        rw [decide_eq_false this, Bool.and_false, Bool.false_and, Bool.false_and] at k
        exact k
      · rw [if_neg h2]
        have h3 : s.length ≤ 300 := by omega
        rw [decide_eq_true h1, decide_eq_true h3, Bool.true_and, Bool.true_and] at k
        refine lcD_inv (fun n acc E => (∃ y, E = [some (.sh (.str s)), y]) ∧ acc.length ≤ n ∧ acc.isEmpty = (s.cps.toList.take n).all (fun c => decide (48 ≤ c ∧ c ≤ 57))) (fun _ _ _ _ => holds0) 0 ?_ ⟨⟨_, rfl⟩, Nat.le_refl _, rfl⟩ ?_
        · rintro i d acc E tail hd ⟨⟨y, rfl⟩, hlen, hemp⟩ kt
          rw [List.getElem?_map] at hd
          cases hi : s.cps.toList[i]? with
          | none => rw [hi] at hd; cases hd
          | some c =>
            rw [hi] at hd
            obtain rfl : D.str ⟨#[c]⟩ = d := by simpa using hd
            have lt := (List.getElem?_eq_some_iff.mp hi).1
            rw [← len_tl] at lt
            have tk : s.cps.toList.take (0 + i + 1) = s.cps.toList.take (0 + i) ++ [c] := by
              rw [Nat.zero_add, List.take_add_one, hi]; rfl
            simp only [↓z_c, ↓z_var, ↓z_nil, ↓z_cons, ↓z_b, ↓z_vslot, ↓z_kslot, ↓z_kval, ↓z_lst, ↓z_tup, ↓z_call, ↓z_callKw, ↓z_tslot, ↓z_pslot, ↓z_tru, ↓z_tb, ↓z_nott, ↓z_andt, ↓z_ort, ↓z_ifx, ↓z_andv, ↓z_orv, ↓z_notv, ↓z_isi, ↓z_xf, ↓z_xis, ↓z_app, ↓z_chain, ↓z_fld, ↓z_ins, ↓z_dic, ↓z_next, ↓z_seq, ↓z_break, ↓z_cont, ↓z_expr, ↓z_ret, ↓z_rval, ↓z_rslot, ↓z_retn, ↓z_if, ↓z_asg, ↓z_setix, ↓z_par, ↓z_asgg, ↓z_gnm, ↓z_gunp, ↓z_gone, ↓z_gno, ↓z_raise, ↓z_try, ↓z_for, ↓z_iseq, ↓z_irg1, ↓z_izip, ↓z_sslot, ↓z_ocons, ↓z_lc, ↓z_yes, ↓z_w0, ↓z_ws, ↓x_vnil, ↓x_vval, ↓x_knil, ↓x_kcons, ↓x_tnil, ↓x_tval, ↓x_pval, ↓x_pnil, ↓x_snil, ↓x_sval, ↓x_onil, z_trN, z_trB, z_trI, z_trS, z_trT, z_trL, slotV_s, slotN_n, slotN_s, slotL_l, slotC_sh, slotC_lst, slotC_ins, one1_d, oneI_i, two2_o, two2D_d, someV_s, isBl_b, boolO_b, setV_s, insV_s, tryV_t, tryV_f, insD_i, unpD_t, unpD_l, gAdd_ii, gAdd_ss, gAdd_ll, gAdd_tt, gMul_ii, gMul_li, gSub_ii, gLt_ii, gLe_ii, gGt_ii, gGe_ii, gFdiv_ii, gMod_ii, gPow_ii, gNeg_i, gAbs_i, gInt_i, gInt_b, gGcd_ii, gLen_l, gLen_t, gLen_s, gIx_l, gIx_t, gIx_s, gIs_bb, gIs_dn, gEq_de, gTuple_l, gTuple_t, gList_l, gList_t, items_l, items_t, items_s, seq_l, seq_t, isNon_n, isNon_i, isNon_b, isNon_s, isNon_t, isNon_l, g2_ii, isK, knownD, flatD, view_sh', view_lst, flat_sh, flat_lst, List.map_cons, List.map_nil, List.replicate, List.cons_append, List.nil_append, List.append_nil, List.getElem?_cons_zero, List.getElem?_cons_succ, List.set_cons_zero, List.set_cons_succ, List.length_cons, List.length_nil, List.contains, List.elem_nil, List.elem_cons, List.any_cons, List.any_nil, List.all_nil, List.all_cons, Bool.or_false, Bool.false_eq_true, if_true, if_false, ite_true, ite_false, Nat.reduceSub, Nat.reduceAdd, Nat.reduceBEq, Nat.reduceEqDiff, Nat.reduceLeDiff, Nat.reduceLT, beq_self_eq_true, Bool.not_true, Bool.not_false, Bool.and_true, Bool.true_and, Bool.and_false, Bool.false_and, Bool.or_true, Bool.true_or, Bool.false_or, decide_eq_true_eq, Bool.not_eq_true', decide_eq_false_iff_not, true_and, and_true, reduceCtorEq, at_0, at_1, at_2, at_3, List.getD_cons_zero, List.getD_cons_succ, ok_int, ok_bl, ok_non, ok_tup0, ok_tI, ok_str, ok_t1, eq_int, eq_str, eq_t1, eq_tI1, ix40, ix41, ix42, ix43, List.length_map, eqk_int, eqk_str, eqk_bl, eqv_int, eqv_str, List.take_succ_cons, List.take_zero, List.drop_succ_cons, List.drop_zero, List.take_nil, List.drop_nil, ↓z_m1, ↓z_strV, ↓z_strS, strO_s, ↓z_intV, ↓z_intS, intO_i, ↓z_sl, ↓z_part0, ↓z_part, ↓z_join, ↓z_js0, ↓z_js1, gStr_i, gAll_l, gIn_ss, gStart_ss, gSplit_ss, gCut_s, gCut_l, gCut_t, gFmt_s, gFmt_i, gMul_si, gInt_s, in_digits]
            by_cases hc : 48 ≤ c ∧ c ≤ 57
            · rw [if_neg (by simpa using hc)]
              refine kt _ _ ⟨⟨_, rfl⟩, by omega, ?_⟩
              rw [tk, hemp, List.all_append, List.all_cons, decide_eq_true hc]
              simp
            · rw [if_pos (by simpa using hc)]
              refine ⟨by omega, kt _ _ ⟨⟨_, rfl⟩, by simp; omega, ?_⟩⟩
              rw [tk, List.all_append, List.all_cons, decide_eq_false hc]
              simp
        · rintro acc E ⟨⟨y, rfl⟩, hlen, hemp⟩
          have e2 : (acc.map O.view).isEmpty = s.cps.toList.all (fun c => decide (48 ≤ c ∧ c ≤ 57)) := by
            rw [List.length_map, Nat.zero_add, List.take_length] at hemp
            rw [← hemp]; cases acc <;> rfl
          simp only [↓z_c, ↓z_var, ↓z_nil, ↓z_cons, ↓z_b, ↓z_vslot, ↓z_kslot, ↓z_kval, ↓z_lst, ↓z_tup, ↓z_call, ↓z_callKw, ↓z_tslot, ↓z_pslot, ↓z_tru, ↓z_tb, ↓z_nott, ↓z_andt, ↓z_ort, ↓z_ifx, ↓z_andv, ↓z_orv, ↓z_notv, ↓z_isi, ↓z_xf, ↓z_xis, ↓z_app, ↓z_chain, ↓z_fld, ↓z_ins, ↓z_dic, ↓z_next, ↓z_seq, ↓z_break, ↓z_cont, ↓z_expr, ↓z_ret, ↓z_rval, ↓z_rslot, ↓z_retn, ↓z_if, ↓z_asg, ↓z_setix, ↓z_par, ↓z_asgg, ↓z_gnm, ↓z_gunp, ↓z_gone, ↓z_gno, ↓z_raise, ↓z_try, ↓z_for, ↓z_iseq, ↓z_irg1, ↓z_izip, ↓z_sslot, ↓z_ocons, ↓z_lc, ↓z_yes, ↓z_w0, ↓z_ws, ↓x_vnil, ↓x_vval, ↓x_knil, ↓x_kcons, ↓x_tnil, ↓x_tval, ↓x_pval, ↓x_pnil, ↓x_snil, ↓x_sval, ↓x_onil, z_trN, z_trB, z_trI, z_trS, z_trT, z_trL, slotV_s, slotN_n, slotN_s, slotL_l, slotC_sh, slotC_lst, slotC_ins, one1_d, oneI_i, two2_o, two2D_d, someV_s, isBl_b, boolO_b, setV_s, insV_s, tryV_t, tryV_f, insD_i, unpD_t, unpD_l, gAdd_ii, gAdd_ss, gAdd_ll, gAdd_tt, gMul_ii, gMul_li, gSub_ii, gLt_ii, gLe_ii, gGt_ii, gGe_ii, gFdiv_ii, gMod_ii, gPow_ii, gNeg_i, gAbs_i, gInt_i, gInt_b, gGcd_ii, gLen_l, gLen_t, gLen_s, gIx_l, gIx_t, gIx_s, gIs_bb, gIs_dn, gEq_de, gTuple_l, gTuple_t, gList_l, gList_t, items_l, items_t, items_s, seq_l, seq_t, isNon_n, isNon_i, isNon_b, isNon_s, isNon_t, isNon_l, g2_ii, isK, knownD, flatD, view_sh', view_lst, flat_sh, flat_lst, List.map_cons, List.map_nil, List.replicate, List.cons_append, List.nil_append, List.append_nil, List.getElem?_cons_zero, List.getElem?_cons_succ, List.set_cons_zero, List.set_cons_succ, List.length_cons, List.length_nil, List.contains, List.elem_nil, List.elem_cons, List.any_cons, List.any_nil, List.all_nil, List.all_cons, Bool.or_false, Bool.false_eq_true, if_true, if_false, ite_true, ite_false, Nat.reduceSub, Nat.reduceAdd, Nat.reduceBEq, Nat.reduceEqDiff, Nat.reduceLeDiff, Nat.reduceLT, beq_self_eq_true, Bool.not_true, Bool.not_false, Bool.and_true, Bool.true_and, Bool.and_false, Bool.false_and, Bool.or_true, Bool.true_or, Bool.false_or, decide_eq_true_eq, Bool.not_eq_true', decide_eq_false_iff_not, true_and, and_true, reduceCtorEq, at_0, at_1, at_2, at_3, List.getD_cons_zero, List.getD_cons_succ, ok_int, ok_bl, ok_non, ok_tup0, ok_tI, ok_str, ok_t1, eq_int, eq_str, eq_t1, eq_tI1, ix40, ix41, ix42, ix43, List.length_map, eqk_int, eqk_str, eqk_bl, eqv_int, eqv_str, List.take_succ_cons, List.take_zero, List.drop_succ_cons, List.drop_zero, List.take_nil, List.drop_nil, ↓z_m1, ↓z_strV, ↓z_strS, strO_s, ↓z_intV, ↓z_intS, intO_i, ↓z_sl, ↓z_part0, ↓z_part, ↓z_join, ↓z_js0, ↓z_js1, gStr_i, gAll_l, gIn_ss, gStart_ss, gSplit_ss, gCut_s, gCut_l, gCut_t, gFmt_s, gFmt_i, gMul_si, gInt_s, e2]
          by_cases ha : s.cps.toList.all (fun c => decide (48 ≤ c ∧ c ≤ 57)) = true
          · rw [if_neg (by rw [ha]; decide)]
            exact hb _ ⟨_, rfl, h1, h3, ha⟩
          · have ha : s.cps.toList.all (fun c => decide (48 ≤ c ∧ c ≤ 57)) = false := by simpa using ha
            rw [if_pos ha]
            rw [ha, Bool.false_and] at k
            exact k
  rintro E ⟨y, rfl, h1, h3, hall⟩
  rw [decide_eq_true h1, decide_eq_true h3, hall, Bool.true_and, Bool.true_and, Bool.true_and] at k
  obtain ⟨c, r, e, ea⟩ := ix_head h1
  simp only [↓z_c, ↓z_var, ↓z_nil, ↓z_cons, ↓z_b, ↓z_vslot, ↓z_kslot, ↓z_kval, ↓z_lst, ↓z_tup, ↓z_call, ↓z_callKw, ↓z_tslot, ↓z_pslot, ↓z_tru, ↓z_tb, ↓z_nott, ↓z_andt, ↓z_ort, ↓z_ifx, ↓z_andv, ↓z_orv, ↓z_notv, ↓z_isi, ↓z_xf, ↓z_xis, ↓z_app, ↓z_chain, ↓z_fld, ↓z_ins, ↓z_dic, ↓z_next, ↓z_seq, ↓z_break, ↓z_cont, ↓z_expr, ↓z_ret, ↓z_rval, ↓z_rslot, ↓z_retn, ↓z_if, ↓z_asg, ↓z_setix, ↓z_par, ↓z_asgg, ↓z_gnm, ↓z_gunp, ↓z_gone, ↓z_gno, ↓z_raise, ↓z_try, ↓z_for, ↓z_iseq, ↓z_irg1, ↓z_izip, ↓z_sslot, ↓z_ocons, ↓z_lc, ↓z_yes, ↓z_w0, ↓z_ws, ↓x_vnil, ↓x_vval, ↓x_knil, ↓x_kcons, ↓x_tnil, ↓x_tval, ↓x_pval, ↓x_pnil, ↓x_snil, ↓x_sval, ↓x_onil, z_trN, z_trB, z_trI, z_trS, z_trT, z_trL, slotV_s, slotN_n, slotN_s, slotL_l, slotC_sh, slotC_lst, slotC_ins, one1_d, oneI_i, two2_o, two2D_d, someV_s, isBl_b, boolO_b, setV_s, insV_s, tryV_t, tryV_f, insD_i, unpD_t, unpD_l, gAdd_ii, gAdd_ss, gAdd_ll, gAdd_tt, gMul_ii, gMul_li, gSub_ii, gLt_ii, gLe_ii, gGt_ii, gGe_ii, gFdiv_ii, gMod_ii, gPow_ii, gNeg_i, gAbs_i, gInt_i, gInt_b, gGcd_ii, gLen_l, gLen_t, gLen_s, gIx_l, gIx_t, gIx_s, gIs_bb, gIs_dn, gEq_de, gTuple_l, gTuple_t, gList_l, gList_t, items_l, items_t, items_s, seq_l, seq_t, isNon_n, isNon_i, isNon_b, isNon_s, isNon_t, isNon_l, g2_ii, isK, knownD, flatD, view_sh', view_lst, flat_sh, flat_lst, List.map_cons, List.map_nil, List.replicate, List.cons_append, List.nil_append, List.append_nil, List.getElem?_cons_zero, List.getElem?_cons_succ, List.set_cons_zero, List.set_cons_succ, List.length_cons, List.length_nil, List.contains, List.elem_nil, List.elem_cons, List.any_cons, List.any_nil, List.all_nil, List.all_cons, Bool.or_false, Bool.false_eq_true, if_true, if_false, ite_true, ite_false, Nat.reduceSub, Nat.reduceAdd, Nat.reduceBEq, Nat.reduceEqDiff, Nat.reduceLeDiff, Nat.reduceLT, beq_self_eq_true, Bool.not_true, Bool.not_false, Bool.and_true, Bool.true_and, Bool.and_false, Bool.false_and, Bool.or_true, Bool.true_or, Bool.false_or, decide_eq_true_eq, Bool.not_eq_true', decide_eq_false_iff_not, true_and, and_true, reduceCtorEq, at_0, at_1, at_2, at_3, List.getD_cons_zero, List.getD_cons_succ, ok_int, ok_bl, ok_non, ok_tup0, ok_tI, ok_str, ok_t1, eq_int, eq_str, eq_t1, eq_tI1, ix40, ix41, ix42, ix43, List.length_map, eqk_int, eqk_str, eqk_bl, eqv_int, eqv_str, List.take_succ_cons, List.take_zero, List.drop_succ_cons, List.drop_zero, List.take_nil, List.drop_nil, ↓z_m1, ↓z_strV, ↓z_strS, strO_s, ↓z_intV, ↓z_intS, intO_i, ↓z_sl, ↓z_part0, ↓z_part, ↓z_join, ↓z_js0, ↓z_js1, gStr_i, gAll_l, gIn_ss, gStart_ss, gSplit_ss, gCut_s, gCut_l, gCut_t, gFmt_s, gFmt_i, gMul_si, gInt_s, ea, one_zero]
  have z0 : (s = "0") = (s.cps.toList = [48]) := by rw [str_eq, zero_tl]
  by_cases hz : s = "0"
  · rw [if_pos hz, decide_eq_true hz]
    rw [decide_eq_true (z0 ▸ hz), Bool.true_or] at k
    exact k
  · rw [if_neg hz]
    rw [decide_eq_false (z0 ▸ hz), Bool.false_or, e] at k
    refine ⟨hs, ?_⟩
    have : decide ((c :: r).head? ≠ some 48) = !decide (c = 48) := by simp
    rw [this] at k
    exact k
theorem join_part (y : Str) : ∀ (ps : List Str) (p : Str), p ∈ ps → p.length ≤ (Str.join y ps).length
  | [], p, h => by simp at h
  | [q], p, h => by rw [List.mem_singleton] at h; rw [h]; exact Nat.le_refl _
  | q :: q2 :: r, p, h => by
    show p.length ≤ (q ++ y ++ Str.join y (q2 :: r)).length
    rw [app_len, app_len]
    rcases List.mem_cons.mp h with e | h
    · rw [e]; omega
    · have := join_part y (q2 :: r) p h
      omega
theorem part_len {s p : Str} (h : p ∈ partsS s) : p.length ≤ s.length := by
  have := join_part "/" (partsS s) p h
  unfold partsS at this
  rw [StrLaws.join_split] at this
  exact Nat.le_trans this (bare_len s)
/-- the parts, as a list of the program's -/
def PZ (zs : List O) (ps : List Str) : Prop := zs = ps.map fun y => O.sh (.str y)
theorem PZ.v {zs : List O} {ps : List Str} (h : PZ zs ps) : zs.map O.view = ps.map D.str := by
  rw [h, List.map_map]; simp [Function.comp_def, view_sh']
theorem PZ.f {zs : List O} {ps : List Str} (h : PZ zs ps) : zs.map (fun o => O.sh o.view) = zs := by
  rw [h, List.map_map]; simp [Function.comp_def, view_sh']
theorem figs_cases {s : Str} (h : figsS s = true) : (∃ p0, partsS s = [p0] ∧ PySem.intText? p0 = some (numT p0) ∧ p0.length ≤ 300) ∨
    ∃ p0 p1, partsS s = [p0, p1] ∧ PySem.intText? p0 = some (numT p0) ∧ p0.length ≤ 300 ∧ PySem.intText? p1 = some (numT p1) ∧ p1.length ≤ 300 := by
  have hp := parts_pos s
  unfold figsS at h
  rw [Bool.and_eq_true, decide_eq_true_eq, List.all_eq_true] at h
  obtain ⟨h1, h2⟩ := h
  generalize partsS s = ps at *
  have one : ∀ p ∈ ps, PySem.intText? p = some (numT p) ∧ p.length ≤ 300 := fun p hp => by
    obtain ⟨n, e, e2, l, _⟩ := fig_num (h2 p hp)
    refine ⟨?_, l⟩
    unfold numT
    rw [e2]; rfl
  match ps, hp, h1 with
  | [p0], _, _ => exact .inl ⟨p0, rfl, one p0 List.mem_cons_self⟩
  | [p0, p1], _, _ => exact .inr ⟨p0, p1, rfl, (one p0 List.mem_cons_self).1, (one p0 List.mem_cons_self).2, one p1 (List.mem_cons_of_mem _ List.mem_cons_self)⟩
  | _ :: _ :: _ :: _, _, h => simp at h
theorem dash_len : (("-" : String) : Str).length = 1 := by decide +kernel
theorem c_ratio_of : ∀ os KR KE, S_ratio_of os KR KE → bodyS 7 [] 1 D_ratio_of os KR KE := by
  rintro os KR KE ⟨d, rfl, hpl, hlen, kr, ke⟩
  have big : (10300 : Nat) ≤ sizeLine := by decide
  refine x_body rfl (by simp) ?_
  simp only [List.map_cons, List.map_nil, Nat.reduceSub, List.replicate, List.cons_append, List.nil_append]
  unfold D_ratio_of
  refine seq_split (fun E => ∃ s, d = .str s ∧ E = [some (.sh d), none, none, none, none, none, none]) (fun b' hb => ?_) ?_
  · cases d with
    | str s =>
      simp only [↓z_c, ↓z_var, ↓z_nil, ↓z_cons, ↓z_b, ↓z_vslot, ↓z_kslot, ↓z_kval, ↓z_lst, ↓z_tup, ↓z_call, ↓z_callKw, ↓z_tslot, ↓z_pslot, ↓z_tru, ↓z_tb, ↓z_nott, ↓z_andt, ↓z_ort, ↓z_ifx, ↓z_andv, ↓z_orv, ↓z_notv, ↓z_isi, ↓z_xf, ↓z_xis, ↓z_app, ↓z_chain, ↓z_fld, ↓z_ins, ↓z_dic, ↓z_next, ↓z_seq, ↓z_break, ↓z_cont, ↓z_expr, ↓z_ret, ↓z_rval, ↓z_rslot, ↓z_retn, ↓z_if, ↓z_asg, ↓z_setix, ↓z_par, ↓z_asgg, ↓z_gnm, ↓z_gunp, ↓z_gone, ↓z_gno, ↓z_raise, ↓z_try, ↓z_for, ↓z_iseq, ↓z_irg1, ↓z_izip, ↓z_sslot, ↓z_ocons, ↓z_lc, ↓z_yes, ↓z_w0, ↓z_ws, ↓x_vnil, ↓x_vval, ↓x_knil, ↓x_kcons, ↓x_tnil, ↓x_tval, ↓x_pval, ↓x_pnil, ↓x_snil, ↓x_sval, ↓x_onil, z_trN, z_trB, z_trI, z_trS, z_trT, z_trL, slotV_s, slotN_n, slotN_s, slotL_l, slotC_sh, slotC_lst, slotC_ins, one1_d, oneI_i, two2_o, two2D_d, someV_s, isBl_b, boolO_b, setV_s, insV_s, tryV_t, tryV_f, insD_i, unpD_t, unpD_l, gAdd_ii, gAdd_ss, gAdd_ll, gAdd_tt, gMul_ii, gMul_li, gSub_ii, gLt_ii, gLe_ii, gGt_ii, gGe_ii, gFdiv_ii, gMod_ii, gPow_ii, gNeg_i, gAbs_i, gInt_i, gInt_b, gGcd_ii, gLen_l, gLen_t, gLen_s, gIx_l, gIx_t, gIx_s, gIs_bb, gIs_dn, gEq_de, gTuple_l, gTuple_t, gList_l, gList_t, items_l, items_t, items_s, seq_l, seq_t, isNon_n, isNon_i, isNon_b, isNon_s, isNon_t, isNon_l, g2_ii, isK, knownD, flatD, view_sh', view_lst, flat_sh, flat_lst, List.map_cons, List.map_nil, List.replicate, List.cons_append, List.nil_append, List.append_nil, List.getElem?_cons_zero, List.getElem?_cons_succ, List.set_cons_zero, List.set_cons_succ, List.length_cons, List.length_nil, List.contains, List.elem_nil, List.elem_cons, List.any_cons, List.any_nil, List.all_nil, List.all_cons, Bool.or_false, Bool.false_eq_true, if_true, if_false, ite_true, ite_false, Nat.reduceSub, Nat.reduceAdd, Nat.reduceBEq, Nat.reduceEqDiff, Nat.reduceLeDiff, Nat.reduceLT, beq_self_eq_true, Bool.not_true, Bool.not_false, Bool.and_true, Bool.true_and, Bool.and_false, Bool.false_and, Bool.or_true, Bool.true_or, Bool.false_or, decide_eq_true_eq, Bool.not_eq_true', decide_eq_false_iff_not, true_and, and_true, reduceCtorEq, at_0, at_1, at_2, at_3, List.getD_cons_zero, List.getD_cons_succ, ok_int, ok_bl, ok_non, ok_tup0, ok_tI, ok_str, ok_t1, eq_int, eq_str, eq_t1, eq_tI1, ix40, ix41, ix42, ix43, List.length_map, eqk_int, eqk_str, eqk_bl, eqv_int, eqv_str, List.take_succ_cons, List.take_zero, List.drop_succ_cons, List.drop_zero, List.take_nil, List.drop_nil, ↓z_m1, ↓z_strV, ↓z_strS, strO_s, ↓z_intV, ↓z_intS, intO_i, ↓z_sl, ↓z_part0, ↓z_part, ↓z_join, ↓z_js0, ↓z_js1, gStr_i, gAll_l, gIn_ss, gStart_ss, gSplit_ss, gCut_s, gCut_l, gCut_t, gFmt_s, gFmt_i, gMul_si, gInt_s]
      exact hb _ ⟨s, rfl, rfl⟩
    | ins c fs => rw [D.plain] at hpl; cases hpl
    | _ =>
      simp only [↓z_c, ↓z_var, ↓z_nil, ↓z_cons, ↓z_b, ↓z_vslot, ↓z_kslot, ↓z_kval, ↓z_lst, ↓z_tup, ↓z_call, ↓z_callKw, ↓z_tslot, ↓z_pslot, ↓z_tru, ↓z_tb, ↓z_nott, ↓z_andt, ↓z_ort, ↓z_ifx, ↓z_andv, ↓z_orv, ↓z_notv, ↓z_isi, ↓z_xf, ↓z_xis, ↓z_app, ↓z_chain, ↓z_fld, ↓z_ins, ↓z_dic, ↓z_next, ↓z_seq, ↓z_break, ↓z_cont, ↓z_expr, ↓z_ret, ↓z_rval, ↓z_rslot, ↓z_retn, ↓z_if, ↓z_asg, ↓z_setix, ↓z_par, ↓z_asgg, ↓z_gnm, ↓z_gunp, ↓z_gone, ↓z_gno, ↓z_raise, ↓z_try, ↓z_for, ↓z_iseq, ↓z_irg1, ↓z_izip, ↓z_sslot, ↓z_ocons, ↓z_lc, ↓z_yes, ↓z_w0, ↓z_ws, ↓x_vnil, ↓x_vval, ↓x_knil, ↓x_kcons, ↓x_tnil, ↓x_tval, ↓x_pval, ↓x_pnil, ↓x_snil, ↓x_sval, ↓x_onil, z_trN, z_trB, z_trI, z_trS, z_trT, z_trL, slotV_s, slotN_n, slotN_s, slotL_l, slotC_sh, slotC_lst, slotC_ins, one1_d, oneI_i, two2_o, two2D_d, someV_s, isBl_b, boolO_b, setV_s, insV_s, tryV_t, tryV_f, insD_i, unpD_t, unpD_l, gAdd_ii, gAdd_ss, gAdd_ll, gAdd_tt, gMul_ii, gMul_li, gSub_ii, gLt_ii, gLe_ii, gGt_ii, gGe_ii, gFdiv_ii, gMod_ii, gPow_ii, gNeg_i, gAbs_i, gInt_i, gInt_b, gGcd_ii, gLen_l, gLen_t, gLen_s, gIx_l, gIx_t, gIx_s, gIs_bb, gIs_dn, gEq_de, gTuple_l, gTuple_t, gList_l, gList_t, items_l, items_t, items_s, seq_l, seq_t, isNon_n, isNon_i, isNon_b, isNon_s, isNon_t, isNon_l, g2_ii, isK, knownD, flatD, view_sh', view_lst, flat_sh, flat_lst, List.map_cons, List.map_nil, List.replicate, List.cons_append, List.nil_append, List.append_nil, List.getElem?_cons_zero, List.getElem?_cons_succ, List.set_cons_zero, List.set_cons_succ, List.length_cons, List.length_nil, List.contains, List.elem_nil, List.elem_cons, List.any_cons, List.any_nil, List.all_nil, List.all_cons, Bool.or_false, Bool.false_eq_true, if_true, if_false, ite_true, ite_false, Nat.reduceSub, Nat.reduceAdd, Nat.reduceBEq, Nat.reduceEqDiff, Nat.reduceLeDiff, Nat.reduceLT, beq_self_eq_true, Bool.not_true, Bool.not_false, Bool.and_true, Bool.true_and, Bool.and_false, Bool.false_and, Bool.or_true, Bool.true_or, Bool.false_or, decide_eq_true_eq, Bool.not_eq_true', decide_eq_false_iff_not, true_and, and_true, reduceCtorEq, at_0, at_1, at_2, at_3, List.getD_cons_zero, List.getD_cons_succ, ok_int, ok_bl, ok_non, ok_tup0, ok_tI, ok_str, ok_t1, eq_int, eq_str, eq_t1, eq_tI1, ix40, ix41, ix42, ix43, List.length_map, eqk_int, eqk_str, eqk_bl, eqv_int, eqv_str, List.take_succ_cons, List.take_zero, List.drop_succ_cons, List.drop_zero, List.take_nil, List.drop_nil, ↓z_m1, ↓z_strV, ↓z_strS, strO_s, ↓z_intV, ↓z_intS, intO_i, ↓z_sl, ↓z_part0, ↓z_part, ↓z_join, ↓z_js0, ↓z_js1, gStr_i, gAll_l, gIn_ss, gStart_ss, gSplit_ss, gCut_s, gCut_l, gCut_t, gFmt_s, gFmt_i, gMul_si, gInt_s]
      exact ke rfl
  rintro E ⟨s, rfl, rfl⟩
  have hl := hlen s rfl
  have kr : ∀ q, readQ s = some q → KR (.sh (dR q)) [.sh (.str s)] := kr
  have ke : readQ s = none → KE ⟨1, [(0, .str "text")]⟩ [.sh (.str s)] := ke
  refine seq_split (fun E => E = [some (.sh (.str s)), some (.sh (.str (bareS s))), none, none, none, none, none]) (fun b' hb => ?_) ?_
  · simp only [↓z_c, ↓z_var, ↓z_nil, ↓z_cons, ↓z_b, ↓z_vslot, ↓z_kslot, ↓z_kval, ↓z_lst, ↓z_tup, ↓z_call, ↓z_callKw, ↓z_tslot, ↓z_pslot, ↓z_tru, ↓z_tb, ↓z_nott, ↓z_andt, ↓z_ort, ↓z_ifx, ↓z_andv, ↓z_orv, ↓z_notv, ↓z_isi, ↓z_xf, ↓z_xis, ↓z_app, ↓z_chain, ↓z_fld, ↓z_ins, ↓z_dic, ↓z_next, ↓z_seq, ↓z_break, ↓z_cont, ↓z_expr, ↓z_ret, ↓z_rval, ↓z_rslot, ↓z_retn, ↓z_if, ↓z_asg, ↓z_setix, ↓z_par, ↓z_asgg, ↓z_gnm, ↓z_gunp, ↓z_gone, ↓z_gno, ↓z_raise, ↓z_try, ↓z_for, ↓z_iseq, ↓z_irg1, ↓z_izip, ↓z_sslot, ↓z_ocons, ↓z_lc, ↓z_yes, ↓z_w0, ↓z_ws, ↓x_vnil, ↓x_vval, ↓x_knil, ↓x_kcons, ↓x_tnil, ↓x_tval, ↓x_pval, ↓x_pnil, ↓x_snil, ↓x_sval, ↓x_onil, z_trN, z_trB, z_trI, z_trS, z_trT, z_trL, slotV_s, slotN_n, slotN_s, slotL_l, slotC_sh, slotC_lst, slotC_ins, one1_d, oneI_i, two2_o, two2D_d, someV_s, isBl_b, boolO_b, setV_s, insV_s, tryV_t, tryV_f, insD_i, unpD_t, unpD_l, gAdd_ii, gAdd_ss, gAdd_ll, gAdd_tt, gMul_ii, gMul_li, gSub_ii, gLt_ii, gLe_ii, gGt_ii, gGe_ii, gFdiv_ii, gMod_ii, gPow_ii, gNeg_i, gAbs_i, gInt_i, gInt_b, gGcd_ii, gLen_l, gLen_t, gLen_s, gIx_l, gIx_t, gIx_s, gIs_bb, gIs_dn, gEq_de, gTuple_l, gTuple_t, gList_l, gList_t, items_l, items_t, items_s, seq_l, seq_t, isNon_n, isNon_i, isNon_b, isNon_s, isNon_t, isNon_l, g2_ii, isK, knownD, flatD, view_sh', view_lst, flat_sh, flat_lst, List.map_cons, List.map_nil, List.replicate, List.cons_append, List.nil_append, List.append_nil, List.getElem?_cons_zero, List.getElem?_cons_succ, List.set_cons_zero, List.set_cons_succ, List.length_cons, List.length_nil, List.contains, List.elem_nil, List.elem_cons, List.any_cons, List.any_nil, List.all_nil, List.all_cons, Bool.or_false, Bool.false_eq_true, if_true, if_false, ite_true, ite_false, Nat.reduceSub, Nat.reduceAdd, Nat.reduceBEq, Nat.reduceEqDiff, Nat.reduceLeDiff, Nat.reduceLT, beq_self_eq_true, Bool.not_true, Bool.not_false, Bool.and_true, Bool.true_and, Bool.and_false, Bool.false_and, Bool.or_true, Bool.true_or, Bool.false_or, decide_eq_true_eq, Bool.not_eq_true', decide_eq_false_iff_not, true_and, and_true, reduceCtorEq, at_0, at_1, at_2, at_3, List.getD_cons_zero, List.getD_cons_succ, ok_int, ok_bl, ok_non, ok_tup0, ok_tI, ok_str, ok_t1, eq_int, eq_str, eq_t1, eq_tI1, ix40, ix41, ix42, ix43, List.length_map, eqk_int, eqk_str, eqk_bl, eqv_int, eqv_str, List.take_succ_cons, List.take_zero, List.drop_succ_cons, List.drop_zero, List.take_nil, List.drop_nil, ↓z_m1, ↓z_strV, ↓z_strS, strO_s, ↓z_intV, ↓z_intS, intO_i, ↓z_sl, ↓z_part0, ↓z_part, ↓z_join, ↓z_js0, ↓z_js1, gStr_i, gAll_l, gIn_ss, gStart_ss, gSplit_ss, gCut_s, gCut_l, gCut_t, gFmt_s, gFmt_i, gMul_si, gInt_s, start_neg]
    have hb := hb _ rfl
    unfold bareS at hb
    by_cases hn : negS s = true
    · rw [if_pos hn]
      rw [if_pos hn] at hb
      rw [cut_tail]
      exact ⟨by omega, hb⟩
    · rw [if_neg hn]
      rw [if_neg hn] at hb
      exact hb
  rintro E rfl
  have hbl := bare_len s
  refine seq_split (fun E => ∃ zs, PZ zs (partsS s) ∧ E = [some (.sh (.str s)), some (.sh (.str (bareS s))), some (.lst zs), none, none, none, none]) (fun b' hb => ?_) ?_
  · simp only [↓z_c, ↓z_var, ↓z_nil, ↓z_cons, ↓z_b, ↓z_vslot, ↓z_kslot, ↓z_kval, ↓z_lst, ↓z_tup, ↓z_call, ↓z_callKw, ↓z_tslot, ↓z_pslot, ↓z_tru, ↓z_tb, ↓z_nott, ↓z_andt, ↓z_ort, ↓z_ifx, ↓z_andv, ↓z_orv, ↓z_notv, ↓z_isi, ↓z_xf, ↓z_xis, ↓z_app, ↓z_chain, ↓z_fld, ↓z_ins, ↓z_dic, ↓z_next, ↓z_seq, ↓z_break, ↓z_cont, ↓z_expr, ↓z_ret, ↓z_rval, ↓z_rslot, ↓z_retn, ↓z_if, ↓z_asg, ↓z_setix, ↓z_par, ↓z_asgg, ↓z_gnm, ↓z_gunp, ↓z_gone, ↓z_gno, ↓z_raise, ↓z_try, ↓z_for, ↓z_iseq, ↓z_irg1, ↓z_izip, ↓z_sslot, ↓z_ocons, ↓z_lc, ↓z_yes, ↓z_w0, ↓z_ws, ↓x_vnil, ↓x_vval, ↓x_knil, ↓x_kcons, ↓x_tnil, ↓x_tval, ↓x_pval, ↓x_pnil, ↓x_snil, ↓x_sval, ↓x_onil, z_trN, z_trB, z_trI, z_trS, z_trT, z_trL, slotV_s, slotN_n, slotN_s, slotL_l, slotC_sh, slotC_lst, slotC_ins, one1_d, oneI_i, two2_o, two2D_d, someV_s, isBl_b, boolO_b, setV_s, insV_s, tryV_t, tryV_f, insD_i, unpD_t, unpD_l, gAdd_ii, gAdd_ss, gAdd_ll, gAdd_tt, gMul_ii, gMul_li, gSub_ii, gLt_ii, gLe_ii, gGt_ii, gGe_ii, gFdiv_ii, gMod_ii, gPow_ii, gNeg_i, gAbs_i, gInt_i, gInt_b, gGcd_ii, gLen_l, gLen_t, gLen_s, gIx_l, gIx_t, gIx_s, gIs_bb, gIs_dn, gEq_de, gTuple_l, gTuple_t, gList_l, gList_t, items_l, items_t, items_s, seq_l, seq_t, isNon_n, isNon_i, isNon_b, isNon_s, isNon_t, isNon_l, g2_ii, isK, knownD, flatD, view_sh', view_lst, flat_sh, flat_lst, List.map_cons, List.map_nil, List.replicate, List.cons_append, List.nil_append, List.append_nil, List.getElem?_cons_zero, List.getElem?_cons_succ, List.set_cons_zero, List.set_cons_succ, List.length_cons, List.length_nil, List.contains, List.elem_nil, List.elem_cons, List.any_cons, List.any_nil, List.all_nil, List.all_cons, Bool.or_false, Bool.false_eq_true, if_true, if_false, ite_true, ite_false, Nat.reduceSub, Nat.reduceAdd, Nat.reduceBEq, Nat.reduceEqDiff, Nat.reduceLeDiff, Nat.reduceLT, beq_self_eq_true, Bool.not_true, Bool.not_false, Bool.and_true, Bool.true_and, Bool.and_false, Bool.false_and, Bool.or_true, Bool.true_or, Bool.false_or, decide_eq_true_eq, Bool.not_eq_true', decide_eq_false_iff_not, true_and, and_true, reduceCtorEq, at_0, at_1, at_2, at_3, List.getD_cons_zero, List.getD_cons_succ, ok_int, ok_bl, ok_non, ok_tup0, ok_tI, ok_str, ok_t1, eq_int, eq_str, eq_t1, eq_tI1, ix40, ix41, ix42, ix43, List.length_map, eqk_int, eqk_str, eqk_bl, eqv_int, eqv_str, List.take_succ_cons, List.take_zero, List.drop_succ_cons, List.drop_zero, List.take_nil, List.drop_nil, ↓z_m1, ↓z_strV, ↓z_strS, strO_s, ↓z_intV, ↓z_intS, intO_i, ↓z_sl, ↓z_part0, ↓z_part, ↓z_join, ↓z_js0, ↓z_js1, gStr_i, gAll_l, gIn_ss, gStart_ss, gSplit_ss, gCut_s, gCut_l, gCut_t, gFmt_s, gFmt_i, gMul_si, gInt_s]
    exact ⟨⟨by decide +kernel, by omega⟩, hb _ ⟨_, rfl, rfl⟩⟩
  rintro E ⟨zs, hz, rfl⟩
  have hz1 := hz.v
  have hz2 := hz.f
  have zl : zs.length = (partsS s).length := by rw [hz]; simp
  have bad : figsS s = false → KE ⟨1, [(0, .str "text")]⟩ [.sh (.str s)] := fun h => ke (law_none s (.inl h))
  refine seq_split (fun E => ∃ y, E = [some (.sh (.str s)), some (.sh (.str (bareS s))), some (.lst zs), none, none, none, y] ∧ figsS s = true) (fun b' hb => ?_) ?_
  · simp only [↓z_c, ↓z_var, ↓z_nil, ↓z_cons, ↓z_b, ↓z_vslot, ↓z_kslot, ↓z_kval, ↓z_lst, ↓z_tup, ↓z_call, ↓z_callKw, ↓z_tslot, ↓z_pslot, ↓z_tru, ↓z_tb, ↓z_nott, ↓z_andt, ↓z_ort, ↓z_ifx, ↓z_andv, ↓z_orv, ↓z_notv, ↓z_isi, ↓z_xf, ↓z_xis, ↓z_app, ↓z_chain, ↓z_fld, ↓z_ins, ↓z_dic, ↓z_next, ↓z_seq, ↓z_break, ↓z_cont, ↓z_expr, ↓z_ret, ↓z_rval, ↓z_rslot, ↓z_retn, ↓z_if, ↓z_asg, ↓z_setix, ↓z_par, ↓z_asgg, ↓z_gnm, ↓z_gunp, ↓z_gone, ↓z_gno, ↓z_raise, ↓z_try, ↓z_for, ↓z_iseq, ↓z_irg1, ↓z_izip, ↓z_sslot, ↓z_ocons, ↓z_lc, ↓z_yes, ↓z_w0, ↓z_ws, ↓x_vnil, ↓x_vval, ↓x_knil, ↓x_kcons, ↓x_tnil, ↓x_tval, ↓x_pval, ↓x_pnil, ↓x_snil, ↓x_sval, ↓x_onil, z_trN, z_trB, z_trI, z_trS, z_trT, z_trL, slotV_s, slotN_n, slotN_s, slotL_l, slotC_sh, slotC_lst, slotC_ins, one1_d, oneI_i, two2_o, two2D_d, someV_s, isBl_b, boolO_b, setV_s, insV_s, tryV_t, tryV_f, insD_i, unpD_t, unpD_l, gAdd_ii, gAdd_ss, gAdd_ll, gAdd_tt, gMul_ii, gMul_li, gSub_ii, gLt_ii, gLe_ii, gGt_ii, gGe_ii, gFdiv_ii, gMod_ii, gPow_ii, gNeg_i, gAbs_i, gInt_i, gInt_b, gGcd_ii, gLen_l, gLen_t, gLen_s, gIx_l, gIx_t, gIx_s, gIs_bb, gIs_dn, gEq_de, gTuple_l, gTuple_t, gList_l, gList_t, items_l, items_t, items_s, seq_l, seq_t, isNon_n, isNon_i, isNon_b, isNon_s, isNon_t, isNon_l, g2_ii, isK, knownD, flatD, view_sh', view_lst, flat_sh, flat_lst, List.map_cons, List.map_nil, List.replicate, List.cons_append, List.nil_append, List.append_nil, List.getElem?_cons_zero, List.getElem?_cons_succ, List.set_cons_zero, List.set_cons_succ, List.length_cons, List.length_nil, List.contains, List.elem_nil, List.elem_cons, List.any_cons, List.any_nil, List.all_nil, List.all_cons, Bool.or_false, Bool.false_eq_true, if_true, if_false, ite_true, ite_false, Nat.reduceSub, Nat.reduceAdd, Nat.reduceBEq, Nat.reduceEqDiff, Nat.reduceLeDiff, Nat.reduceLT, beq_self_eq_true, Bool.not_true, Bool.not_false, Bool.and_true, Bool.true_and, Bool.and_false, Bool.false_and, Bool.or_true, Bool.true_or, Bool.false_or, decide_eq_true_eq, Bool.not_eq_true', decide_eq_false_iff_not, true_and, and_true, reduceCtorEq, at_0, at_1, at_2, at_3, List.getD_cons_zero, List.getD_cons_succ, ok_int, ok_bl, ok_non, ok_tup0, ok_tI, ok_str, ok_t1, eq_int, eq_str, eq_t1, eq_tI1, ix40, ix41, ix42, ix43, List.length_map, eqk_int, eqk_str, eqk_bl, eqv_int, eqv_str, List.take_succ_cons, List.take_zero, List.drop_succ_cons, List.drop_zero, List.take_nil, List.drop_nil, ↓z_m1, ↓z_strV, ↓z_strS, strO_s, ↓z_intV, ↓z_intS, intO_i, ↓z_sl, ↓z_part0, ↓z_part, ↓z_join, ↓z_js0, ↓z_js1, gStr_i, gAll_l, gIn_ss, gStart_ss, gSplit_ss, gCut_s, gCut_l, gCut_t, gFmt_s, gFmt_i, gMul_si, gInt_s, hz1, hz2]
    by_cases h2 : (2 : Int) < (partsS s).length
    · rw [if_pos h2]
      exact bad (by unfold figsS; rw [decide_eq_false (by omega)]; rfl)
    · rw [if_neg h2]
      have h2 : decide ((partsS s).length ≤ 2) = true := decide_eq_true (by omega)
      refine lcD_inv (fun n acc E => (∃ y, E = [some (.sh (.str s)), some (.sh (.str (bareS s))), some (.lst zs), none, none, none, y]) ∧ acc.length = n ∧ acc.map O.view = (((partsS s).take n).map isFig).map D.bl) (fun i acc E h => by obtain ⟨⟨y, rfl⟩, _⟩ := h; exact holds1 (i := 2) (o := .lst zs) (fun q hq => by rw [List.mem_singleton] at hq; exact hq) rfl) 0 ?_ ⟨⟨_, rfl⟩, rfl, rfl⟩ ?_
      · rintro i d acc E tail hd ⟨⟨y, rfl⟩, hal, hac⟩ kt
        rw [List.getElem?_map] at hd
        cases hi : (partsS s)[i]? with
        | none => rw [hi] at hd; cases hd
        | some p =>
          rw [hi] at hd
          obtain rfl : D.str p = d := by simpa using hd
          have lt := (List.getElem?_eq_some_iff.mp hi).1
          have pl := part_len (List.mem_of_getElem? hi)
          simp only [↓z_c, ↓z_var, ↓z_nil, ↓z_cons, ↓z_b, ↓z_vslot, ↓z_kslot, ↓z_kval, ↓z_lst, ↓z_tup, ↓z_call, ↓z_callKw, ↓z_tslot, ↓z_pslot, ↓z_tru, ↓z_tb, ↓z_nott, ↓z_andt, ↓z_ort, ↓z_ifx, ↓z_andv, ↓z_orv, ↓z_notv, ↓z_isi, ↓z_xf, ↓z_xis, ↓z_app, ↓z_chain, ↓z_fld, ↓z_ins, ↓z_dic, ↓z_next, ↓z_seq, ↓z_break, ↓z_cont, ↓z_expr, ↓z_ret, ↓z_rval, ↓z_rslot, ↓z_retn, ↓z_if, ↓z_asg, ↓z_setix, ↓z_par, ↓z_asgg, ↓z_gnm, ↓z_gunp, ↓z_gone, ↓z_gno, ↓z_raise, ↓z_try, ↓z_for, ↓z_iseq, ↓z_irg1, ↓z_izip, ↓z_sslot, ↓z_ocons, ↓z_lc, ↓z_yes, ↓z_w0, ↓z_ws, ↓x_vnil, ↓x_vval, ↓x_knil, ↓x_kcons, ↓x_tnil, ↓x_tval, ↓x_pval, ↓x_pnil, ↓x_snil, ↓x_sval, ↓x_onil, z_trN, z_trB, z_trI, z_trS, z_trT, z_trL, slotV_s, slotN_n, slotN_s, slotL_l, slotC_sh, slotC_lst, slotC_ins, one1_d, oneI_i, two2_o, two2D_d, someV_s, isBl_b, boolO_b, setV_s, insV_s, tryV_t, tryV_f, insD_i, unpD_t, unpD_l, gAdd_ii, gAdd_ss, gAdd_ll, gAdd_tt, gMul_ii, gMul_li, gSub_ii, gLt_ii, gLe_ii, gGt_ii, gGe_ii, gFdiv_ii, gMod_ii, gPow_ii, gNeg_i, gAbs_i, gInt_i, gInt_b, gGcd_ii, gLen_l, gLen_t, gLen_s, gIx_l, gIx_t, gIx_s, gIs_bb, gIs_dn, gEq_de, gTuple_l, gTuple_t, gList_l, gList_t, items_l, items_t, items_s, seq_l, seq_t, isNon_n, isNon_i, isNon_b, isNon_s, isNon_t, isNon_l, g2_ii, isK, knownD, flatD, view_sh', view_lst, flat_sh, flat_lst, List.map_cons, List.map_nil, List.replicate, List.cons_append, List.nil_append, List.append_nil, List.getElem?_cons_zero, List.getElem?_cons_succ, List.set_cons_zero, List.set_cons_succ, List.length_cons, List.length_nil, List.contains, List.elem_nil, List.elem_cons, List.any_cons, List.any_nil, List.all_nil, List.all_cons, Bool.or_false, Bool.false_eq_true, if_true, if_false, ite_true, ite_false, Nat.reduceSub, Nat.reduceAdd, Nat.reduceBEq, Nat.reduceEqDiff, Nat.reduceLeDiff, Nat.reduceLT, beq_self_eq_true, Bool.not_true, Bool.not_false, Bool.and_true, Bool.true_and, Bool.and_false, Bool.false_and, Bool.or_true, Bool.true_or, Bool.false_or, decide_eq_true_eq, Bool.not_eq_true', decide_eq_false_iff_not, true_and, and_true, reduceCtorEq, at_0, at_1, at_2, at_3, List.getD_cons_zero, List.getD_cons_succ, ok_int, ok_bl, ok_non, ok_tup0, ok_tI, ok_str, ok_t1, eq_int, eq_str, eq_t1, eq_tI1, ix40, ix41, ix42, ix43, List.length_map, eqk_int, eqk_str, eqk_bl, eqv_int, eqv_str, List.take_succ_cons, List.take_zero, List.drop_succ_cons, List.drop_zero, List.take_nil, List.drop_nil, ↓z_m1, ↓z_strV, ↓z_strS, strO_s, ↓z_intV, ↓z_intS, intO_i, ↓z_sl, ↓z_part0, ↓z_part, ↓z_join, ↓z_js0, ↓z_js1, gStr_i, gAll_l, gIn_ss, gStart_ss, gSplit_ss, gCut_s, gCut_l, gCut_t, gFmt_s, gFmt_i, gMul_si, gInt_s]
          refine ⟨p, rfl, by omega, ?_⟩
          simp only [↓z_c, ↓z_var, ↓z_nil, ↓z_cons, ↓z_b, ↓z_vslot, ↓z_kslot, ↓z_kval, ↓z_lst, ↓z_tup, ↓z_call, ↓z_callKw, ↓z_tslot, ↓z_pslot, ↓z_tru, ↓z_tb, ↓z_nott, ↓z_andt, ↓z_ort, ↓z_ifx, ↓z_andv, ↓z_orv, ↓z_notv, ↓z_isi, ↓z_xf, ↓z_xis, ↓z_app, ↓z_chain, ↓z_fld, ↓z_ins, ↓z_dic, ↓z_next, ↓z_seq, ↓z_break, ↓z_cont, ↓z_expr, ↓z_ret, ↓z_rval, ↓z_rslot, ↓z_retn, ↓z_if, ↓z_asg, ↓z_setix, ↓z_par, ↓z_asgg, ↓z_gnm, ↓z_gunp, ↓z_gone, ↓z_gno, ↓z_raise, ↓z_try, ↓z_for, ↓z_iseq, ↓z_irg1, ↓z_izip, ↓z_sslot, ↓z_ocons, ↓z_lc, ↓z_yes, ↓z_w0, ↓z_ws, ↓x_vnil, ↓x_vval, ↓x_knil, ↓x_kcons, ↓x_tnil, ↓x_tval, ↓x_pval, ↓x_pnil, ↓x_snil, ↓x_sval, ↓x_onil, z_trN, z_trB, z_trI, z_trS, z_trT, z_trL, slotV_s, slotN_n, slotN_s, slotL_l, slotC_sh, slotC_lst, slotC_ins, one1_d, oneI_i, two2_o, two2D_d, someV_s, isBl_b, boolO_b, setV_s, insV_s, tryV_t, tryV_f, insD_i, unpD_t, unpD_l, gAdd_ii, gAdd_ss, gAdd_ll, gAdd_tt, gMul_ii, gMul_li, gSub_ii, gLt_ii, gLe_ii, gGt_ii, gGe_ii, gFdiv_ii, gMod_ii, gPow_ii, gNeg_i, gAbs_i, gInt_i, gInt_b, gGcd_ii, gLen_l, gLen_t, gLen_s, gIx_l, gIx_t, gIx_s, gIs_bb, gIs_dn, gEq_de, gTuple_l, gTuple_t, gList_l, gList_t, items_l, items_t, items_s, seq_l, seq_t, isNon_n, isNon_i, isNon_b, isNon_s, isNon_t, isNon_l, g2_ii, isK, knownD, flatD, view_sh', view_lst, flat_sh, flat_lst, List.map_cons, List.map_nil, List.replicate, List.cons_append, List.nil_append, List.append_nil, List.getElem?_cons_zero, List.getElem?_cons_succ, List.set_cons_zero, List.set_cons_succ, List.length_cons, List.length_nil, List.contains, List.elem_nil, List.elem_cons, List.any_cons, List.any_nil, List.all_nil, List.all_cons, Bool.or_false, Bool.false_eq_true, if_true, if_false, ite_true, ite_false, Nat.reduceSub, Nat.reduceAdd, Nat.reduceBEq, Nat.reduceEqDiff, Nat.reduceLeDiff, Nat.reduceLT, beq_self_eq_true, Bool.not_true, Bool.not_false, Bool.and_true, Bool.true_and, Bool.and_false, Bool.false_and, Bool.or_true, Bool.true_or, Bool.false_or, decide_eq_true_eq, Bool.not_eq_true', decide_eq_false_iff_not, true_and, and_true, reduceCtorEq, at_0, at_1, at_2, at_3, List.getD_cons_zero, List.getD_cons_succ, ok_int, ok_bl, ok_non, ok_tup0, ok_tI, ok_str, ok_t1, eq_int, eq_str, eq_t1, eq_tI1, ix40, ix41, ix42, ix43, List.length_map, eqk_int, eqk_str, eqk_bl, eqv_int, eqv_str, List.take_succ_cons, List.take_zero, List.drop_succ_cons, List.drop_zero, List.take_nil, List.drop_nil, ↓z_m1, ↓z_strV, ↓z_strS, strO_s, ↓z_intV, ↓z_intS, intO_i, ↓z_sl, ↓z_part0, ↓z_part, ↓z_join, ↓z_js0, ↓z_js1, gStr_i, gAll_l, gIn_ss, gStart_ss, gSplit_ss, gCut_s, gCut_l, gCut_t, gFmt_s, gFmt_i, gMul_si, gInt_s]
          have h2' := of_decide_eq_true h2
          refine ⟨by omega, kt _ _ ⟨⟨_, rfl⟩, by simp; omega, ?_⟩⟩
          rw [List.map_append, hac, Nat.zero_add, List.take_add_one, hi, List.map_append, List.map_append]
          simp [view_sh']
      · rintro acc E ⟨⟨y, rfl⟩, hal, hac⟩
        rw [List.length_map, Nat.zero_add, List.take_length] at hac
        simp only [↓z_c, ↓z_var, ↓z_nil, ↓z_cons, ↓z_b, ↓z_vslot, ↓z_kslot, ↓z_kval, ↓z_lst, ↓z_tup, ↓z_call, ↓z_callKw, ↓z_tslot, ↓z_pslot, ↓z_tru, ↓z_tb, ↓z_nott, ↓z_andt, ↓z_ort, ↓z_ifx, ↓z_andv, ↓z_orv, ↓z_notv, ↓z_isi, ↓z_xf, ↓z_xis, ↓z_app, ↓z_chain, ↓z_fld, ↓z_ins, ↓z_dic, ↓z_next, ↓z_seq, ↓z_break, ↓z_cont, ↓z_expr, ↓z_ret, ↓z_rval, ↓z_rslot, ↓z_retn, ↓z_if, ↓z_asg, ↓z_setix, ↓z_par, ↓z_asgg, ↓z_gnm, ↓z_gunp, ↓z_gone, ↓z_gno, ↓z_raise, ↓z_try, ↓z_for, ↓z_iseq, ↓z_irg1, ↓z_izip, ↓z_sslot, ↓z_ocons, ↓z_lc, ↓z_yes, ↓z_w0, ↓z_ws, ↓x_vnil, ↓x_vval, ↓x_knil, ↓x_kcons, ↓x_tnil, ↓x_tval, ↓x_pval, ↓x_pnil, ↓x_snil, ↓x_sval, ↓x_onil, z_trN, z_trB, z_trI, z_trS, z_trT, z_trL, slotV_s, slotN_n, slotN_s, slotL_l, slotC_sh, slotC_lst, slotC_ins, one1_d, oneI_i, two2_o, two2D_d, someV_s, isBl_b, boolO_b, setV_s, insV_s, tryV_t, tryV_f, insD_i, unpD_t, unpD_l, gAdd_ii, gAdd_ss, gAdd_ll, gAdd_tt, gMul_ii, gMul_li, gSub_ii, gLt_ii, gLe_ii, gGt_ii, gGe_ii, gFdiv_ii, gMod_ii, gPow_ii, gNeg_i, gAbs_i, gInt_i, gInt_b, gGcd_ii, gLen_l, gLen_t, gLen_s, gIx_l, gIx_t, gIx_s, gIs_bb, gIs_dn, gEq_de, gTuple_l, gTuple_t, gList_l, gList_t, items_l, items_t, items_s, seq_l, seq_t, isNon_n, isNon_i, isNon_b, isNon_s, isNon_t, isNon_l, g2_ii, isK, knownD, flatD, view_sh', view_lst, flat_sh, flat_lst, List.map_cons, List.map_nil, List.replicate, List.cons_append, List.nil_append, List.append_nil, List.getElem?_cons_zero, List.getElem?_cons_succ, List.set_cons_zero, List.set_cons_succ, List.length_cons, List.length_nil, List.contains, List.elem_nil, List.elem_cons, List.any_cons, List.any_nil, List.all_nil, List.all_cons, Bool.or_false, Bool.false_eq_true, if_true, if_false, ite_true, ite_false, Nat.reduceSub, Nat.reduceAdd, Nat.reduceBEq, Nat.reduceEqDiff, Nat.reduceLeDiff, Nat.reduceLT, beq_self_eq_true, Bool.not_true, Bool.not_false, Bool.and_true, Bool.true_and, Bool.and_false, Bool.false_and, Bool.or_true, Bool.true_or, Bool.false_or, decide_eq_true_eq, Bool.not_eq_true', decide_eq_false_iff_not, true_and, and_true, reduceCtorEq, at_0, at_1, at_2, at_3, List.getD_cons_zero, List.getD_cons_succ, ok_int, ok_bl, ok_non, ok_tup0, ok_tI, ok_str, ok_t1, eq_int, eq_str, eq_t1, eq_tI1, ix40, ix41, ix42, ix43, List.length_map, eqk_int, eqk_str, eqk_bl, eqv_int, eqv_str, List.take_succ_cons, List.take_zero, List.drop_succ_cons, List.drop_zero, List.take_nil, List.drop_nil, ↓z_m1, ↓z_strV, ↓z_strS, strO_s, ↓z_intV, ↓z_intS, intO_i, ↓z_sl, ↓z_part0, ↓z_part, ↓z_join, ↓z_js0, ↓z_js1, gStr_i, gAll_l, gIn_ss, gStart_ss, gSplit_ss, gCut_s, gCut_l, gCut_t, gFmt_s, gFmt_i, gMul_si, gInt_s, hac]
        refine ⟨(partsS s).map isFig, rfl, ?_⟩
        have e : ((partsS s).map isFig).all id = (partsS s).all isFig := by rw [List.all_map]; rfl
        rw [e]
        by_cases ha : (partsS s).all isFig = true
        · rw [if_neg (by rw [ha]; decide)]
          exact hb _ ⟨_, rfl, by unfold figsS; rw [h2, ha]; rfl⟩
        · have ha : (partsS s).all isFig = false := by simpa using ha
          rw [if_pos ha]
          exact bad (by unfold figsS; rw [ha, Bool.and_false])
  rintro E ⟨y, rfl, hf⟩
  have hcs := figs_cases hf
  obtain ⟨w1, w2, p2⟩ := told_rt hf
  refine seq_split (fun E => E = [some (.sh (.str s)), some (.sh (.str (bareS s))), some (.lst zs), some (oI (numT ((partsS s).getD 0 Str.empty))), none, none, y]) (fun b' hb => ?_) ?_
  · rcases hcs with ⟨p0, e, i0, l0⟩ | ⟨p0, p1, e, i0, l0, i1, l1⟩
    · simp only [↓z_c, ↓z_var, ↓z_nil, ↓z_cons, ↓z_b, ↓z_vslot, ↓z_kslot, ↓z_kval, ↓z_lst, ↓z_tup, ↓z_call, ↓z_callKw, ↓z_tslot, ↓z_pslot, ↓z_tru, ↓z_tb, ↓z_nott, ↓z_andt, ↓z_ort, ↓z_ifx, ↓z_andv, ↓z_orv, ↓z_notv, ↓z_isi, ↓z_xf, ↓z_xis, ↓z_app, ↓z_chain, ↓z_fld, ↓z_ins, ↓z_dic, ↓z_next, ↓z_seq, ↓z_break, ↓z_cont, ↓z_expr, ↓z_ret, ↓z_rval, ↓z_rslot, ↓z_retn, ↓z_if, ↓z_asg, ↓z_setix, ↓z_par, ↓z_asgg, ↓z_gnm, ↓z_gunp, ↓z_gone, ↓z_gno, ↓z_raise, ↓z_try, ↓z_for, ↓z_iseq, ↓z_irg1, ↓z_izip, ↓z_sslot, ↓z_ocons, ↓z_lc, ↓z_yes, ↓z_w0, ↓z_ws, ↓x_vnil, ↓x_vval, ↓x_knil, ↓x_kcons, ↓x_tnil, ↓x_tval, ↓x_pval, ↓x_pnil, ↓x_snil, ↓x_sval, ↓x_onil, z_trN, z_trB, z_trI, z_trS, z_trT, z_trL, slotV_s, slotN_n, slotN_s, slotL_l, slotC_sh, slotC_lst, slotC_ins, one1_d, oneI_i, two2_o, two2D_d, someV_s, isBl_b, boolO_b, setV_s, insV_s, tryV_t, tryV_f, insD_i, unpD_t, unpD_l, gAdd_ii, gAdd_ss, gAdd_ll, gAdd_tt, gMul_ii, gMul_li, gSub_ii, gLt_ii, gLe_ii, gGt_ii, gGe_ii, gFdiv_ii, gMod_ii, gPow_ii, gNeg_i, gAbs_i, gInt_i, gInt_b, gGcd_ii, gLen_l, gLen_t, gLen_s, gIx_l, gIx_t, gIx_s, gIs_bb, gIs_dn, gEq_de, gTuple_l, gTuple_t, gList_l, gList_t, items_l, items_t, items_s, seq_l, seq_t, isNon_n, isNon_i, isNon_b, isNon_s, isNon_t, isNon_l, g2_ii, isK, knownD, flatD, view_sh', view_lst, flat_sh, flat_lst, List.map_cons, List.map_nil, List.replicate, List.cons_append, List.nil_append, List.append_nil, List.getElem?_cons_zero, List.getElem?_cons_succ, List.set_cons_zero, List.set_cons_succ, List.length_cons, List.length_nil, List.contains, List.elem_nil, List.elem_cons, List.any_cons, List.any_nil, List.all_nil, List.all_cons, Bool.or_false, Bool.false_eq_true, if_true, if_false, ite_true, ite_false, Nat.reduceSub, Nat.reduceAdd, Nat.reduceBEq, Nat.reduceEqDiff, Nat.reduceLeDiff, Nat.reduceLT, beq_self_eq_true, Bool.not_true, Bool.not_false, Bool.and_true, Bool.true_and, Bool.and_false, Bool.false_and, Bool.or_true, Bool.true_or, Bool.false_or, decide_eq_true_eq, Bool.not_eq_true', decide_eq_false_iff_not, true_and, and_true, reduceCtorEq, at_0, at_1, at_2, at_3, List.getD_cons_zero, List.getD_cons_succ, ok_int, ok_bl, ok_non, ok_tup0, ok_tI, ok_str, ok_t1, eq_int, eq_str, eq_t1, eq_tI1, ix40, ix41, ix42, ix43, List.length_map, eqk_int, eqk_str, eqk_bl, eqv_int, eqv_str, List.take_succ_cons, List.take_zero, List.drop_succ_cons, List.drop_zero, List.take_nil, List.drop_nil, ↓z_m1, ↓z_strV, ↓z_strS, strO_s, ↓z_intV, ↓z_intS, intO_i, ↓z_sl, ↓z_part0, ↓z_part, ↓z_join, ↓z_js0, ↓z_js1, gStr_i, gAll_l, gIn_ss, gStart_ss, gSplit_ss, gCut_s, gCut_l, gCut_t, gFmt_s, gFmt_i, gMul_si, gInt_s, hz1, hz2, e]
      exact ⟨_, i0, by omega, hb _ (by rw [e]; rfl)⟩
    · simp only [↓z_c, ↓z_var, ↓z_nil, ↓z_cons, ↓z_b, ↓z_vslot, ↓z_kslot, ↓z_kval, ↓z_lst, ↓z_tup, ↓z_call, ↓z_callKw, ↓z_tslot, ↓z_pslot, ↓z_tru, ↓z_tb, ↓z_nott, ↓z_andt, ↓z_ort, ↓z_ifx, ↓z_andv, ↓z_orv, ↓z_notv, ↓z_isi, ↓z_xf, ↓z_xis, ↓z_app, ↓z_chain, ↓z_fld, ↓z_ins, ↓z_dic, ↓z_next, ↓z_seq, ↓z_break, ↓z_cont, ↓z_expr, ↓z_ret, ↓z_rval, ↓z_rslot, ↓z_retn, ↓z_if, ↓z_asg, ↓z_setix, ↓z_par, ↓z_asgg, ↓z_gnm, ↓z_gunp, ↓z_gone, ↓z_gno, ↓z_raise, ↓z_try, ↓z_for, ↓z_iseq, ↓z_irg1, ↓z_izip, ↓z_sslot, ↓z_ocons, ↓z_lc, ↓z_yes, ↓z_w0, ↓z_ws, ↓x_vnil, ↓x_vval, ↓x_knil, ↓x_kcons, ↓x_tnil, ↓x_tval, ↓x_pval, ↓x_pnil, ↓x_snil, ↓x_sval, ↓x_onil, z_trN, z_trB, z_trI, z_trS, z_trT, z_trL, slotV_s, slotN_n, slotN_s, slotL_l, slotC_sh, slotC_lst, slotC_ins, one1_d, oneI_i, two2_o, two2D_d, someV_s, isBl_b, boolO_b, setV_s, insV_s, tryV_t, tryV_f, insD_i, unpD_t, unpD_l, gAdd_ii, gAdd_ss, gAdd_ll, gAdd_tt, gMul_ii, gMul_li, gSub_ii, gLt_ii, gLe_ii, gGt_ii, gGe_ii, gFdiv_ii, gMod_ii, gPow_ii, gNeg_i, gAbs_i, gInt_i, gInt_b, gGcd_ii, gLen_l, gLen_t, gLen_s, gIx_l, gIx_t, gIx_s, gIs_bb, gIs_dn, gEq_de, gTuple_l, gTuple_t, gList_l, gList_t, items_l, items_t, items_s, seq_l, seq_t, isNon_n, isNon_i, isNon_b, isNon_s, isNon_t, isNon_l, g2_ii, isK, knownD, flatD, view_sh', view_lst, flat_sh, flat_lst, List.map_cons, List.map_nil, List.replicate, List.cons_append, List.nil_append, List.append_nil, List.getElem?_cons_zero, List.getElem?_cons_succ, List.set_cons_zero, List.set_cons_succ, List.length_cons, List.length_nil, List.contains, List.elem_nil, List.elem_cons, List.any_cons, List.any_nil, List.all_nil, List.all_cons, Bool.or_false, Bool.false_eq_true, if_true, if_false, ite_true, ite_false, Nat.reduceSub, Nat.reduceAdd, Nat.reduceBEq, Nat.reduceEqDiff, Nat.reduceLeDiff, Nat.reduceLT, beq_self_eq_true, Bool.not_true, Bool.not_false, Bool.and_true, Bool.true_and, Bool.and_false, Bool.false_and, Bool.or_true, Bool.true_or, Bool.false_or, decide_eq_true_eq, Bool.not_eq_true', decide_eq_false_iff_not, true_and, and_true, reduceCtorEq, at_0, at_1, at_2, at_3, List.getD_cons_zero, List.getD_cons_succ, ok_int, ok_bl, ok_non, ok_tup0, ok_tI, ok_str, ok_t1, eq_int, eq_str, eq_t1, eq_tI1, ix40, ix41, ix42, ix43, List.length_map, eqk_int, eqk_str, eqk_bl, eqv_int, eqv_str, List.take_succ_cons, List.take_zero, List.drop_succ_cons, List.drop_zero, List.take_nil, List.drop_nil, ↓z_m1, ↓z_strV, ↓z_strS, strO_s, ↓z_intV, ↓z_intS, intO_i, ↓z_sl, ↓z_part0, ↓z_part, ↓z_join, ↓z_js0, ↓z_js1, gStr_i, gAll_l, gIn_ss, gStart_ss, gSplit_ss, gCut_s, gCut_l, gCut_t, gFmt_s, gFmt_i, gMul_si, gInt_s, hz1, hz2, e]
      exact ⟨_, i0, by omega, hb _ (by rw [e]; rfl)⟩
  rintro E rfl
  refine seq_split (fun E => E = [some (.sh (.str s)), some (.sh (.str (bareS s))), some (.lst zs), some (oI (numT ((partsS s).getD 0 Str.empty))), some (oI (toldS s).2), none, y]) (fun b' hb => ?_) ?_
  · have hb := hb _ rfl
    unfold toldS at hb
    rcases hcs with ⟨p0, e, i0, l0⟩ | ⟨p0, p1, e, i0, l0, i1, l1⟩
    · simp only [↓z_c, ↓z_var, ↓z_nil, ↓z_cons, ↓z_b, ↓z_vslot, ↓z_kslot, ↓z_kval, ↓z_lst, ↓z_tup, ↓z_call, ↓z_callKw, ↓z_tslot, ↓z_pslot, ↓z_tru, ↓z_tb, ↓z_nott, ↓z_andt, ↓z_ort, ↓z_ifx, ↓z_andv, ↓z_orv, ↓z_notv, ↓z_isi, ↓z_xf, ↓z_xis, ↓z_app, ↓z_chain, ↓z_fld, ↓z_ins, ↓z_dic, ↓z_next, ↓z_seq, ↓z_break, ↓z_cont, ↓z_expr, ↓z_ret, ↓z_rval, ↓z_rslot, ↓z_retn, ↓z_if, ↓z_asg, ↓z_setix, ↓z_par, ↓z_asgg, ↓z_gnm, ↓z_gunp, ↓z_gone, ↓z_gno, ↓z_raise, ↓z_try, ↓z_for, ↓z_iseq, ↓z_irg1, ↓z_izip, ↓z_sslot, ↓z_ocons, ↓z_lc, ↓z_yes, ↓z_w0, ↓z_ws, ↓x_vnil, ↓x_vval, ↓x_knil, ↓x_kcons, ↓x_tnil, ↓x_tval, ↓x_pval, ↓x_pnil, ↓x_snil, ↓x_sval, ↓x_onil, z_trN, z_trB, z_trI, z_trS, z_trT, z_trL, slotV_s, slotN_n, slotN_s, slotL_l, slotC_sh, slotC_lst, slotC_ins, one1_d, oneI_i, two2_o, two2D_d, someV_s, isBl_b, boolO_b, setV_s, insV_s, tryV_t, tryV_f, insD_i, unpD_t, unpD_l, gAdd_ii, gAdd_ss, gAdd_ll, gAdd_tt, gMul_ii, gMul_li, gSub_ii, gLt_ii, gLe_ii, gGt_ii, gGe_ii, gFdiv_ii, gMod_ii, gPow_ii, gNeg_i, gAbs_i, gInt_i, gInt_b, gGcd_ii, gLen_l, gLen_t, gLen_s, gIx_l, gIx_t, gIx_s, gIs_bb, gIs_dn, gEq_de, gTuple_l, gTuple_t, gList_l, gList_t, items_l, items_t, items_s, seq_l, seq_t, isNon_n, isNon_i, isNon_b, isNon_s, isNon_t, isNon_l, g2_ii, isK, knownD, flatD, view_sh', view_lst, flat_sh, flat_lst, List.map_cons, List.map_nil, List.replicate, List.cons_append, List.nil_append, List.append_nil, List.getElem?_cons_zero, List.getElem?_cons_succ, List.set_cons_zero, List.set_cons_succ, List.length_cons, List.length_nil, List.contains, List.elem_nil, List.elem_cons, List.any_cons, List.any_nil, List.all_nil, List.all_cons, Bool.or_false, Bool.false_eq_true, if_true, if_false, ite_true, ite_false, Nat.reduceSub, Nat.reduceAdd, Nat.reduceBEq, Nat.reduceEqDiff, Nat.reduceLeDiff, Nat.reduceLT, beq_self_eq_true, Bool.not_true, Bool.not_false, Bool.and_true, Bool.true_and, Bool.and_false, Bool.false_and, Bool.or_true, Bool.true_or, Bool.false_or, decide_eq_true_eq, Bool.not_eq_true', decide_eq_false_iff_not, true_and, and_true, reduceCtorEq, at_0, at_1, at_2, at_3, List.getD_cons_zero, List.getD_cons_succ, ok_int, ok_bl, ok_non, ok_tup0, ok_tI, ok_str, ok_t1, eq_int, eq_str, eq_t1, eq_tI1, ix40, ix41, ix42, ix43, List.length_map, eqk_int, eqk_str, eqk_bl, eqv_int, eqv_str, List.take_succ_cons, List.take_zero, List.drop_succ_cons, List.drop_zero, List.take_nil, List.drop_nil, ↓z_m1, ↓z_strV, ↓z_strS, strO_s, ↓z_intV, ↓z_intS, intO_i, ↓z_sl, ↓z_part0, ↓z_part, ↓z_join, ↓z_js0, ↓z_js1, gStr_i, gAll_l, gIn_ss, gStart_ss, gSplit_ss, gCut_s, gCut_l, gCut_t, gFmt_s, gFmt_i, gMul_si, gInt_s, hz1, hz2, e] at hb ⊢
      exact hb
    · simp only [↓z_c, ↓z_var, ↓z_nil, ↓z_cons, ↓z_b, ↓z_vslot, ↓z_kslot, ↓z_kval, ↓z_lst, ↓z_tup, ↓z_call, ↓z_callKw, ↓z_tslot, ↓z_pslot, ↓z_tru, ↓z_tb, ↓z_nott, ↓z_andt, ↓z_ort, ↓z_ifx, ↓z_andv, ↓z_orv, ↓z_notv, ↓z_isi, ↓z_xf, ↓z_xis, ↓z_app, ↓z_chain, ↓z_fld, ↓z_ins, ↓z_dic, ↓z_next, ↓z_seq, ↓z_break, ↓z_cont, ↓z_expr, ↓z_ret, ↓z_rval, ↓z_rslot, ↓z_retn, ↓z_if, ↓z_asg, ↓z_setix, ↓z_par, ↓z_asgg, ↓z_gnm, ↓z_gunp, ↓z_gone, ↓z_gno, ↓z_raise, ↓z_try, ↓z_for, ↓z_iseq, ↓z_irg1, ↓z_izip, ↓z_sslot, ↓z_ocons, ↓z_lc, ↓z_yes, ↓z_w0, ↓z_ws, ↓x_vnil, ↓x_vval, ↓x_knil, ↓x_kcons, ↓x_tnil, ↓x_tval, ↓x_pval, ↓x_pnil, ↓x_snil, ↓x_sval, ↓x_onil, z_trN, z_trB, z_trI, z_trS, z_trT, z_trL, slotV_s, slotN_n, slotN_s, slotL_l, slotC_sh, slotC_lst, slotC_ins, one1_d, oneI_i, two2_o, two2D_d, someV_s, isBl_b, boolO_b, setV_s, insV_s, tryV_t, tryV_f, insD_i, unpD_t, unpD_l, gAdd_ii, gAdd_ss, gAdd_ll, gAdd_tt, gMul_ii, gMul_li, gSub_ii, gLt_ii, gLe_ii, gGt_ii, gGe_ii, gFdiv_ii, gMod_ii, gPow_ii, gNeg_i, gAbs_i, gInt_i, gInt_b, gGcd_ii, gLen_l, gLen_t, gLen_s, gIx_l, gIx_t, gIx_s, gIs_bb, gIs_dn, gEq_de, gTuple_l, gTuple_t, gList_l, gList_t, items_l, items_t, items_s, seq_l, seq_t, isNon_n, isNon_i, isNon_b, isNon_s, isNon_t, isNon_l, g2_ii, isK, knownD, flatD, view_sh', view_lst, flat_sh, flat_lst, List.map_cons, List.map_nil, List.replicate, List.cons_append, List.nil_append, List.append_nil, List.getElem?_cons_zero, List.getElem?_cons_succ, List.set_cons_zero, List.set_cons_succ, List.length_cons, List.length_nil, List.contains, List.elem_nil, List.elem_cons, List.any_cons, List.any_nil, List.all_nil, List.all_cons, Bool.or_false, Bool.false_eq_true, if_true, if_false, ite_true, ite_false, Nat.reduceSub, Nat.reduceAdd, Nat.reduceBEq, Nat.reduceEqDiff, Nat.reduceLeDiff, Nat.reduceLT, beq_self_eq_true, Bool.not_true, Bool.not_false, Bool.and_true, Bool.true_and, Bool.and_false, Bool.false_and, Bool.or_true, Bool.true_or, Bool.false_or, decide_eq_true_eq, Bool.not_eq_true', decide_eq_false_iff_not, true_and, and_true, reduceCtorEq, at_0, at_1, at_2, at_3, List.getD_cons_zero, List.getD_cons_succ, ok_int, ok_bl, ok_non, ok_tup0, ok_tI, ok_str, ok_t1, eq_int, eq_str, eq_t1, eq_tI1, ix40, ix41, ix42, ix43, List.length_map, eqk_int, eqk_str, eqk_bl, eqv_int, eqv_str, List.take_succ_cons, List.take_zero, List.drop_succ_cons, List.drop_zero, List.take_nil, List.drop_nil, ↓z_m1, ↓z_strV, ↓z_strS, strO_s, ↓z_intV, ↓z_intS, intO_i, ↓z_sl, ↓z_part0, ↓z_part, ↓z_join, ↓z_js0, ↓z_js1, gStr_i, gAll_l, gIn_ss, gStart_ss, gSplit_ss, gCut_s, gCut_l, gCut_t, gFmt_s, gFmt_i, gMul_si, gInt_s, hz1, hz2, e] at hb ⊢
      exact ⟨_, i1, by omega, hb⟩
  rintro E rfl
  refine seq_split (fun E => ∃ y3, E = [some (.sh (.str s)), some (.sh (.str (bareS s))), some (.lst zs), y3, some (oI (toldS s).2), some (.sh (dR (toldS s))), y]) (fun b' hb => ?_) ?_
  · simp only [↓z_c, ↓z_var, ↓z_nil, ↓z_cons, ↓z_b, ↓z_vslot, ↓z_kslot, ↓z_kval, ↓z_lst, ↓z_tup, ↓z_call, ↓z_callKw, ↓z_tslot, ↓z_pslot, ↓z_tru, ↓z_tb, ↓z_nott, ↓z_andt, ↓z_ort, ↓z_ifx, ↓z_andv, ↓z_orv, ↓z_notv, ↓z_isi, ↓z_xf, ↓z_xis, ↓z_app, ↓z_chain, ↓z_fld, ↓z_ins, ↓z_dic, ↓z_next, ↓z_seq, ↓z_break, ↓z_cont, ↓z_expr, ↓z_ret, ↓z_rval, ↓z_rslot, ↓z_retn, ↓z_if, ↓z_asg, ↓z_setix, ↓z_par, ↓z_asgg, ↓z_gnm, ↓z_gunp, ↓z_gone, ↓z_gno, ↓z_raise, ↓z_try, ↓z_for, ↓z_iseq, ↓z_irg1, ↓z_izip, ↓z_sslot, ↓z_ocons, ↓z_lc, ↓z_yes, ↓z_w0, ↓z_ws, ↓x_vnil, ↓x_vval, ↓x_knil, ↓x_kcons, ↓x_tnil, ↓x_tval, ↓x_pval, ↓x_pnil, ↓x_snil, ↓x_sval, ↓x_onil, z_trN, z_trB, z_trI, z_trS, z_trT, z_trL, slotV_s, slotN_n, slotN_s, slotL_l, slotC_sh, slotC_lst, slotC_ins, one1_d, oneI_i, two2_o, two2D_d, someV_s, isBl_b, boolO_b, setV_s, insV_s, tryV_t, tryV_f, insD_i, unpD_t, unpD_l, gAdd_ii, gAdd_ss, gAdd_ll, gAdd_tt, gMul_ii, gMul_li, gSub_ii, gLt_ii, gLe_ii, gGt_ii, gGe_ii, gFdiv_ii, gMod_ii, gPow_ii, gNeg_i, gAbs_i, gInt_i, gInt_b, gGcd_ii, gLen_l, gLen_t, gLen_s, gIx_l, gIx_t, gIx_s, gIs_bb, gIs_dn, gEq_de, gTuple_l, gTuple_t, gList_l, gList_t, items_l, items_t, items_s, seq_l, seq_t, isNon_n, isNon_i, isNon_b, isNon_s, isNon_t, isNon_l, g2_ii, isK, knownD, flatD, view_sh', view_lst, flat_sh, flat_lst, List.map_cons, List.map_nil, List.replicate, List.cons_append, List.nil_append, List.append_nil, List.getElem?_cons_zero, List.getElem?_cons_succ, List.set_cons_zero, List.set_cons_succ, List.length_cons, List.length_nil, List.contains, List.elem_nil, List.elem_cons, List.any_cons, List.any_nil, List.all_nil, List.all_cons, Bool.or_false, Bool.false_eq_true, if_true, if_false, ite_true, ite_false, Nat.reduceSub, Nat.reduceAdd, Nat.reduceBEq, Nat.reduceEqDiff, Nat.reduceLeDiff, Nat.reduceLT, beq_self_eq_true, Bool.not_true, Bool.not_false, Bool.and_true, Bool.true_and, Bool.and_false, Bool.false_and, Bool.or_true, Bool.true_or, Bool.false_or, decide_eq_true_eq, Bool.not_eq_true', decide_eq_false_iff_not, true_and, and_true, reduceCtorEq, at_0, at_1, at_2, at_3, List.getD_cons_zero, List.getD_cons_succ, ok_int, ok_bl, ok_non, ok_tup0, ok_tI, ok_str, ok_t1, eq_int, eq_str, eq_t1, eq_tI1, ix40, ix41, ix42, ix43, List.length_map, eqk_int, eqk_str, eqk_bl, eqv_int, eqv_str, List.take_succ_cons, List.take_zero, List.drop_succ_cons, List.drop_zero, List.take_nil, List.drop_nil, ↓z_m1, ↓z_strV, ↓z_strS, strO_s, ↓z_intV, ↓z_intS, intO_i, ↓z_sl, ↓z_part0, ↓z_part, ↓z_join, ↓z_js0, ↓z_js1, gStr_i, gAll_l, gIn_ss, gStart_ss, gSplit_ss, gCut_s, gCut_l, gCut_t, gFmt_s, gFmt_i, gMul_si, gInt_s, start_neg]
    have e1 : (toldS s).1 = if negS s = true then -numT ((partsS s).getD 0 Str.empty) else numT ((partsS s).getD 0 Str.empty) := rfl
    by_cases hn : negS s = true
    · rw [if_pos hn]
      rw [if_pos hn] at e1
      rw [← e1]
      exact ⟨by decide, hb _ ⟨_, rfl⟩⟩
    · rw [if_neg hn]
      rw [if_neg hn] at e1
      rw [← e1]
      exact ⟨by decide, hb _ ⟨_, rfl⟩⟩
  rintro E ⟨y3, rfl⟩
  have ke : readQ s = none → KE ⟨1, [(0, .str "text")]⟩ [.sh (.str s)] := ke
  refine seq_split (fun E => E = [some (.sh (.str s)), some (.sh (.str (bareS s))), some (.lst zs), y3, some (oI (toldS s).2), some (.sh (dR (toldS s))), y] ∧ readQ s = some (toldS s)) (fun b' hb => ?_) ?_
  · simp only [↓z_c, ↓z_var, ↓z_nil, ↓z_cons, ↓z_b, ↓z_vslot, ↓z_kslot, ↓z_kval, ↓z_lst, ↓z_tup, ↓z_call, ↓z_callKw, ↓z_tslot, ↓z_pslot, ↓z_tru, ↓z_tb, ↓z_nott, ↓z_andt, ↓z_ort, ↓z_ifx, ↓z_andv, ↓z_orv, ↓z_notv, ↓z_isi, ↓z_xf, ↓z_xis, ↓z_app, ↓z_chain, ↓z_fld, ↓z_ins, ↓z_dic, ↓z_next, ↓z_seq, ↓z_break, ↓z_cont, ↓z_expr, ↓z_ret, ↓z_rval, ↓z_rslot, ↓z_retn, ↓z_if, ↓z_asg, ↓z_setix, ↓z_par, ↓z_asgg, ↓z_gnm, ↓z_gunp, ↓z_gone, ↓z_gno, ↓z_raise, ↓z_try, ↓z_for, ↓z_iseq, ↓z_irg1, ↓z_izip, ↓z_sslot, ↓z_ocons, ↓z_lc, ↓z_yes, ↓z_w0, ↓z_ws, ↓x_vnil, ↓x_vval, ↓x_knil, ↓x_kcons, ↓x_tnil, ↓x_tval, ↓x_pval, ↓x_pnil, ↓x_snil, ↓x_sval, ↓x_onil, z_trN, z_trB, z_trI, z_trS, z_trT, z_trL, slotV_s, slotN_n, slotN_s, slotL_l, slotC_sh, slotC_lst, slotC_ins, one1_d, oneI_i, two2_o, two2D_d, someV_s, isBl_b, boolO_b, setV_s, insV_s, tryV_t, tryV_f, insD_i, unpD_t, unpD_l, gAdd_ii, gAdd_ss, gAdd_ll, gAdd_tt, gMul_ii, gMul_li, gSub_ii, gLt_ii, gLe_ii, gGt_ii, gGe_ii, gFdiv_ii, gMod_ii, gPow_ii, gNeg_i, gAbs_i, gInt_i, gInt_b, gGcd_ii, gLen_l, gLen_t, gLen_s, gIx_l, gIx_t, gIx_s, gIs_bb, gIs_dn, gEq_de, gTuple_l, gTuple_t, gList_l, gList_t, items_l, items_t, items_s, seq_l, seq_t, isNon_n, isNon_i, isNon_b, isNon_s, isNon_t, isNon_l, g2_ii, isK, knownD, flatD, view_sh', view_lst, flat_sh, flat_lst, List.map_cons, List.map_nil, List.replicate, List.cons_append, List.nil_append, List.append_nil, List.getElem?_cons_zero, List.getElem?_cons_succ, List.set_cons_zero, List.set_cons_succ, List.length_cons, List.length_nil, List.contains, List.elem_nil, List.elem_cons, List.any_cons, List.any_nil, List.all_nil, List.all_cons, Bool.or_false, Bool.false_eq_true, if_true, if_false, ite_true, ite_false, Nat.reduceSub, Nat.reduceAdd, Nat.reduceBEq, Nat.reduceEqDiff, Nat.reduceLeDiff, Nat.reduceLT, beq_self_eq_true, Bool.not_true, Bool.not_false, Bool.and_true, Bool.true_and, Bool.and_false, Bool.false_and, Bool.or_true, Bool.true_or, Bool.false_or, decide_eq_true_eq, Bool.not_eq_true', decide_eq_false_iff_not, true_and, and_true, reduceCtorEq, at_0, at_1, at_2, at_3, List.getD_cons_zero, List.getD_cons_succ, ok_int, ok_bl, ok_non, ok_tup0, ok_tI, ok_str, ok_t1, eq_int, eq_str, eq_t1, eq_tI1, ix40, ix41, ix42, ix43, List.length_map, eqk_int, eqk_str, eqk_bl, eqv_int, eqv_str, List.take_succ_cons, List.take_zero, List.drop_succ_cons, List.drop_zero, List.take_nil, List.drop_nil, ↓z_m1, ↓z_strV, ↓z_strS, strO_s, ↓z_intV, ↓z_intS, intO_i, ↓z_sl, ↓z_part0, ↓z_part, ↓z_join, ↓z_js0, ↓z_js1, gStr_i, gAll_l, gIn_ss, gStart_ss, gSplit_ss, gCut_s, gCut_l, gCut_t, gFmt_s, gFmt_i, gMul_si, gInt_s]
    refine ⟨_, rfl, rfl, ?_⟩
    simp only [↓z_c, ↓z_var, ↓z_nil, ↓z_cons, ↓z_b, ↓z_vslot, ↓z_kslot, ↓z_kval, ↓z_lst, ↓z_tup, ↓z_call, ↓z_callKw, ↓z_tslot, ↓z_pslot, ↓z_tru, ↓z_tb, ↓z_nott, ↓z_andt, ↓z_ort, ↓z_ifx, ↓z_andv, ↓z_orv, ↓z_notv, ↓z_isi, ↓z_xf, ↓z_xis, ↓z_app, ↓z_chain, ↓z_fld, ↓z_ins, ↓z_dic, ↓z_next, ↓z_seq, ↓z_break, ↓z_cont, ↓z_expr, ↓z_ret, ↓z_rval, ↓z_rslot, ↓z_retn, ↓z_if, ↓z_asg, ↓z_setix, ↓z_par, ↓z_asgg, ↓z_gnm, ↓z_gunp, ↓z_gone, ↓z_gno, ↓z_raise, ↓z_try, ↓z_for, ↓z_iseq, ↓z_irg1, ↓z_izip, ↓z_sslot, ↓z_ocons, ↓z_lc, ↓z_yes, ↓z_w0, ↓z_ws, ↓x_vnil, ↓x_vval, ↓x_knil, ↓x_kcons, ↓x_tnil, ↓x_tval, ↓x_pval, ↓x_pnil, ↓x_snil, ↓x_sval, ↓x_onil, z_trN, z_trB, z_trI, z_trS, z_trT, z_trL, slotV_s, slotN_n, slotN_s, slotL_l, slotC_sh, slotC_lst, slotC_ins, one1_d, oneI_i, two2_o, two2D_d, someV_s, isBl_b, boolO_b, setV_s, insV_s, tryV_t, tryV_f, insD_i, unpD_t, unpD_l, gAdd_ii, gAdd_ss, gAdd_ll, gAdd_tt, gMul_ii, gMul_li, gSub_ii, gLt_ii, gLe_ii, gGt_ii, gGe_ii, gFdiv_ii, gMod_ii, gPow_ii, gNeg_i, gAbs_i, gInt_i, gInt_b, gGcd_ii, gLen_l, gLen_t, gLen_s, gIx_l, gIx_t, gIx_s, gIs_bb, gIs_dn, gEq_de, gTuple_l, gTuple_t, gList_l, gList_t, items_l, items_t, items_s, seq_l, seq_t, isNon_n, isNon_i, isNon_b, isNon_s, isNon_t, isNon_l, g2_ii, isK, knownD, flatD, view_sh', view_lst, flat_sh, flat_lst, List.map_cons, List.map_nil, List.replicate, List.cons_append, List.nil_append, List.append_nil, List.getElem?_cons_zero, List.getElem?_cons_succ, List.set_cons_zero, List.set_cons_succ, List.length_cons, List.length_nil, List.contains, List.elem_nil, List.elem_cons, List.any_cons, List.any_nil, List.all_nil, List.all_cons, Bool.or_false, Bool.false_eq_true, if_true, if_false, ite_true, ite_false, Nat.reduceSub, Nat.reduceAdd, Nat.reduceBEq, Nat.reduceEqDiff, Nat.reduceLeDiff, Nat.reduceLT, beq_self_eq_true, Bool.not_true, Bool.not_false, Bool.and_true, Bool.true_and, Bool.and_false, Bool.false_and, Bool.or_true, Bool.true_or, Bool.false_or, decide_eq_true_eq, Bool.not_eq_true', decide_eq_false_iff_not, true_and, and_true, reduceCtorEq, at_0, at_1, at_2, at_3, List.getD_cons_zero, List.getD_cons_succ, ok_int, ok_bl, ok_non, ok_tup0, ok_tI, ok_str, ok_t1, eq_int, eq_str, eq_t1, eq_tI1, ix40, ix41, ix42, ix43, List.length_map, eqk_int, eqk_str, eqk_bl, eqv_int, eqv_str, List.take_succ_cons, List.take_zero, List.drop_succ_cons, List.drop_zero, List.take_nil, List.drop_nil, ↓z_m1, ↓z_strV, ↓z_strS, strO_s, ↓z_intV, ↓z_intS, intO_i, ↓z_sl, ↓z_part0, ↓z_part, ↓z_join, ↓z_js0, ↓z_js1, gStr_i, gAll_l, gIn_ss, gStart_ss, gSplit_ss, gCut_s, gCut_l, gCut_t, gFmt_s, gFmt_i, gMul_si, gInt_s]
    by_cases hr : ratioD (dR (toldS s)) = true
    · rw [if_neg (by rw [hr]; decide)]
      refine ⟨toldS s, rfl, (rt_of_ratio hr w1 w2).mono (by decide), ?_⟩
      simp only [↓z_c, ↓z_var, ↓z_nil, ↓z_cons, ↓z_b, ↓z_vslot, ↓z_kslot, ↓z_kval, ↓z_lst, ↓z_tup, ↓z_call, ↓z_callKw, ↓z_tslot, ↓z_pslot, ↓z_tru, ↓z_tb, ↓z_nott, ↓z_andt, ↓z_ort, ↓z_ifx, ↓z_andv, ↓z_orv, ↓z_notv, ↓z_isi, ↓z_xf, ↓z_xis, ↓z_app, ↓z_chain, ↓z_fld, ↓z_ins, ↓z_dic, ↓z_next, ↓z_seq, ↓z_break, ↓z_cont, ↓z_expr, ↓z_ret, ↓z_rval, ↓z_rslot, ↓z_retn, ↓z_if, ↓z_asg, ↓z_setix, ↓z_par, ↓z_asgg, ↓z_gnm, ↓z_gunp, ↓z_gone, ↓z_gno, ↓z_raise, ↓z_try, ↓z_for, ↓z_iseq, ↓z_irg1, ↓z_izip, ↓z_sslot, ↓z_ocons, ↓z_lc, ↓z_yes, ↓z_w0, ↓z_ws, ↓x_vnil, ↓x_vval, ↓x_knil, ↓x_kcons, ↓x_tnil, ↓x_tval, ↓x_pval, ↓x_pnil, ↓x_snil, ↓x_sval, ↓x_onil, z_trN, z_trB, z_trI, z_trS, z_trT, z_trL, slotV_s, slotN_n, slotN_s, slotL_l, slotC_sh, slotC_lst, slotC_ins, one1_d, oneI_i, two2_o, two2D_d, someV_s, isBl_b, boolO_b, setV_s, insV_s, tryV_t, tryV_f, insD_i, unpD_t, unpD_l, gAdd_ii, gAdd_ss, gAdd_ll, gAdd_tt, gMul_ii, gMul_li, gSub_ii, gLt_ii, gLe_ii, gGt_ii, gGe_ii, gFdiv_ii, gMod_ii, gPow_ii, gNeg_i, gAbs_i, gInt_i, gInt_b, gGcd_ii, gLen_l, gLen_t, gLen_s, gIx_l, gIx_t, gIx_s, gIs_bb, gIs_dn, gEq_de, gTuple_l, gTuple_t, gList_l, gList_t, items_l, items_t, items_s, seq_l, seq_t, isNon_n, isNon_i, isNon_b, isNon_s, isNon_t, isNon_l, g2_ii, isK, knownD, flatD, view_sh', view_lst, flat_sh, flat_lst, List.map_cons, List.map_nil, List.replicate, List.cons_append, List.nil_append, List.append_nil, List.getElem?_cons_zero, List.getElem?_cons_succ, List.set_cons_zero, List.set_cons_succ, List.length_cons, List.length_nil, List.contains, List.elem_nil, List.elem_cons, List.any_cons, List.any_nil, List.all_nil, List.all_cons, Bool.or_false, Bool.false_eq_true, if_true, if_false, ite_true, ite_false, Nat.reduceSub, Nat.reduceAdd, Nat.reduceBEq, Nat.reduceEqDiff, Nat.reduceLeDiff, Nat.reduceLT, beq_self_eq_true, Bool.not_true, Bool.not_false, Bool.and_true, Bool.true_and, Bool.and_false, Bool.false_and, Bool.or_true, Bool.true_or, Bool.false_or, decide_eq_true_eq, Bool.not_eq_true', decide_eq_false_iff_not, true_and, and_true, reduceCtorEq, at_0, at_1, at_2, at_3, List.getD_cons_zero, List.getD_cons_succ, ok_int, ok_bl, ok_non, ok_tup0, ok_tI, ok_str, ok_t1, eq_int, eq_str, eq_t1, eq_tI1, ix40, ix41, ix42, ix43, List.length_map, eqk_int, eqk_str, eqk_bl, eqv_int, eqv_str, List.take_succ_cons, List.take_zero, List.drop_succ_cons, List.drop_zero, List.take_nil, List.drop_nil, ↓z_m1, ↓z_strV, ↓z_strS, strO_s, ↓z_intV, ↓z_intS, intO_i, ↓z_sl, ↓z_part0, ↓z_part, ↓z_join, ↓z_js0, ↓z_js1, gStr_i, gAll_l, gIn_ss, gStart_ss, gSplit_ss, gCut_s, gCut_l, gCut_t, gFmt_s, gFmt_i, gMul_si, gInt_s]
      by_cases ht : textQ (toldS s) = s
      · rw [if_neg (by simpa using ht)]
        exact hb _ ⟨rfl, by unfold readQ; rw [if_pos ⟨hf, hr, ht⟩]⟩
      · rw [if_pos (by simpa using ht)]
        exact ke (by unfold readQ; rw [if_neg (fun z => ht z.2.2)])
    · rw [if_pos (by simpa using hr)]
      exact ke (by unfold readQ; rw [if_neg (fun z => hr z.2.1)])
  rintro E ⟨rfl, hq⟩
  simp only [↓z_c, ↓z_var, ↓z_nil, ↓z_cons, ↓z_b, ↓z_vslot, ↓z_kslot, ↓z_kval, ↓z_lst, ↓z_tup, ↓z_call, ↓z_callKw, ↓z_tslot, ↓z_pslot, ↓z_tru, ↓z_tb, ↓z_nott, ↓z_andt, ↓z_ort, ↓z_ifx, ↓z_andv, ↓z_orv, ↓z_notv, ↓z_isi, ↓z_xf, ↓z_xis, ↓z_app, ↓z_chain, ↓z_fld, ↓z_ins, ↓z_dic, ↓z_next, ↓z_seq, ↓z_break, ↓z_cont, ↓z_expr, ↓z_ret, ↓z_rval, ↓z_rslot, ↓z_retn, ↓z_if, ↓z_asg, ↓z_setix, ↓z_par, ↓z_asgg, ↓z_gnm, ↓z_gunp, ↓z_gone, ↓z_gno, ↓z_raise, ↓z_try, ↓z_for, ↓z_iseq, ↓z_irg1, ↓z_izip, ↓z_sslot, ↓z_ocons, ↓z_lc, ↓z_yes, ↓z_w0, ↓z_ws, ↓x_vnil, ↓x_vval, ↓x_knil, ↓x_kcons, ↓x_tnil, ↓x_tval, ↓x_pval, ↓x_pnil, ↓x_snil, ↓x_sval, ↓x_onil, z_trN, z_trB, z_trI, z_trS, z_trT, z_trL, slotV_s, slotN_n, slotN_s, slotL_l, slotC_sh, slotC_lst, slotC_ins, one1_d, oneI_i, two2_o, two2D_d, someV_s, isBl_b, boolO_b, setV_s, insV_s, tryV_t, tryV_f, insD_i, unpD_t, unpD_l, gAdd_ii, gAdd_ss, gAdd_ll, gAdd_tt, gMul_ii, gMul_li, gSub_ii, gLt_ii, gLe_ii, gGt_ii, gGe_ii, gFdiv_ii, gMod_ii, gPow_ii, gNeg_i, gAbs_i, gInt_i, gInt_b, gGcd_ii, gLen_l, gLen_t, gLen_s, gIx_l, gIx_t, gIx_s, gIs_bb, gIs_dn, gEq_de, gTuple_l, gTuple_t, gList_l, gList_t, items_l, items_t, items_s, seq_l, seq_t, isNon_n, isNon_i, isNon_b, isNon_s, isNon_t, isNon_l, g2_ii, isK, knownD, flatD, view_sh', view_lst, flat_sh, flat_lst, List.map_cons, List.map_nil, List.replicate, List.cons_append, List.nil_append, List.append_nil, List.getElem?_cons_zero, List.getElem?_cons_succ, List.set_cons_zero, List.set_cons_succ, List.length_cons, List.length_nil, List.contains, List.elem_nil, List.elem_cons, List.any_cons, List.any_nil, List.all_nil, List.all_cons, Bool.or_false, Bool.false_eq_true, if_true, if_false, ite_true, ite_false, Nat.reduceSub, Nat.reduceAdd, Nat.reduceBEq, Nat.reduceEqDiff, Nat.reduceLeDiff, Nat.reduceLT, beq_self_eq_true, Bool.not_true, Bool.not_false, Bool.and_true, Bool.true_and, Bool.and_false, Bool.false_and, Bool.or_true, Bool.true_or, Bool.false_or, decide_eq_true_eq, Bool.not_eq_true', decide_eq_false_iff_not, true_and, and_true, reduceCtorEq, at_0, at_1, at_2, at_3, List.getD_cons_zero, List.getD_cons_succ, ok_int, ok_bl, ok_non, ok_tup0, ok_tI, ok_str, ok_t1, eq_int, eq_str, eq_t1, eq_tI1, ix40, ix41, ix42, ix43, List.length_map, eqk_int, eqk_str, eqk_bl, eqv_int, eqv_str, List.take_succ_cons, List.take_zero, List.drop_succ_cons, List.drop_zero, List.take_nil, List.drop_nil, ↓z_m1, ↓z_strV, ↓z_strS, strO_s, ↓z_intV, ↓z_intS, intO_i, ↓z_sl, ↓z_part0, ↓z_part, ↓z_join, ↓z_js0, ↓z_js1, gStr_i, gAll_l, gIn_ss, gStart_ss, gSplit_ss, gCut_s, gCut_l, gCut_t, gFmt_s, gFmt_i, gMul_si, gInt_s]
  exact kr _ hq
theorem c__law_read : ∀ os KR KE, S__law_read os KR KE → bodyS 3 [] 1 D__law_read os KR KE := by
  rintro os KR KE ⟨d, rfl, hpl, hlen, k⟩
  refine x_body rfl (by simp) ?_
  simp only [↓z_c, ↓z_var, ↓z_nil, ↓z_cons, ↓z_b, ↓z_vslot, ↓z_kslot, ↓z_kval, ↓z_lst, ↓z_tup, ↓z_call, ↓z_callKw, ↓z_tslot, ↓z_pslot, ↓z_tru, ↓z_tb, ↓z_nott, ↓z_andt, ↓z_ort, ↓z_ifx, ↓z_andv, ↓z_orv, ↓z_notv, ↓z_isi, ↓z_xf, ↓z_xis, ↓z_app, ↓z_chain, ↓z_fld, ↓z_ins, ↓z_dic, ↓z_next, ↓z_seq, ↓z_break, ↓z_cont, ↓z_expr, ↓z_ret, ↓z_rval, ↓z_rslot, ↓z_retn, ↓z_if, ↓z_asg, ↓z_setix, ↓z_par, ↓z_asgg, ↓z_gnm, ↓z_gunp, ↓z_gone, ↓z_gno, ↓z_raise, ↓z_try, ↓z_for, ↓z_iseq, ↓z_irg1, ↓z_izip, ↓z_sslot, ↓z_ocons, ↓z_lc, ↓z_yes, ↓z_w0, ↓z_ws, ↓x_vnil, ↓x_vval, ↓x_knil, ↓x_kcons, ↓x_tnil, ↓x_tval, ↓x_pval, ↓x_pnil, ↓x_snil, ↓x_sval, ↓x_onil, z_trN, z_trB, z_trI, z_trS, z_trT, z_trL, slotV_s, slotN_n, slotN_s, slotL_l, slotC_sh, slotC_lst, slotC_ins, one1_d, oneI_i, two2_o, two2D_d, someV_s, isBl_b, boolO_b, setV_s, insV_s, tryV_t, tryV_f, insD_i, unpD_t, unpD_l, gAdd_ii, gAdd_ss, gAdd_ll, gAdd_tt, gMul_ii, gMul_li, gSub_ii, gLt_ii, gLe_ii, gGt_ii, gGe_ii, gFdiv_ii, gMod_ii, gPow_ii, gNeg_i, gAbs_i, gInt_i, gInt_b, gGcd_ii, gLen_l, gLen_t, gLen_s, gIx_l, gIx_t, gIx_s, gIs_bb, gIs_dn, gEq_de, gTuple_l, gTuple_t, gList_l, gList_t, items_l, items_t, items_s, seq_l, seq_t, isNon_n, isNon_i, isNon_b, isNon_s, isNon_t, isNon_l, g2_ii, isK, knownD, flatD, view_sh', view_lst, flat_sh, flat_lst, List.map_cons, List.map_nil, List.replicate, List.cons_append, List.nil_append, List.append_nil, List.getElem?_cons_zero, List.getElem?_cons_succ, List.set_cons_zero, List.set_cons_succ, List.length_cons, List.length_nil, List.contains, List.elem_nil, List.elem_cons, List.any_cons, List.any_nil, List.all_nil, List.all_cons, Bool.or_false, Bool.false_eq_true, if_true, if_false, ite_true, ite_false, Nat.reduceSub, Nat.reduceAdd, Nat.reduceBEq, Nat.reduceEqDiff, Nat.reduceLeDiff, Nat.reduceLT, beq_self_eq_true, Bool.not_true, Bool.not_false, Bool.and_true, Bool.true_and, Bool.and_false, Bool.false_and, Bool.or_true, Bool.true_or, Bool.false_or, decide_eq_true_eq, Bool.not_eq_true', decide_eq_false_iff_not, true_and, and_true, reduceCtorEq, at_0, at_1, at_2, at_3, List.getD_cons_zero, List.getD_cons_succ, ok_int, ok_bl, ok_non, ok_tup0, ok_tI, ok_str, ok_t1, eq_int, eq_str, eq_t1, eq_tI1, ix40, ix41, ix42, ix43, List.length_map, eqk_int, eqk_str, eqk_bl, eqv_int, eqv_str, List.take_succ_cons, List.take_zero, List.drop_succ_cons, List.drop_zero, List.take_nil, List.drop_nil, ↓z_m1, ↓z_strV, ↓z_strS, strO_s, ↓z_intV, ↓z_intS, intO_i, ↓z_sl, ↓z_part0, ↓z_part, ↓z_join, ↓z_js0, ↓z_js1, gStr_i, gAll_l, gIn_ss, gStart_ss, gSplit_ss, gCut_s, gCut_l, gCut_t, gFmt_s, gFmt_i, gMul_si, gInt_s, D__law_read]
  refine ⟨d, rfl, hpl, hlen, fun q hq => ?_, fun hq => ?_⟩
  · simp only [↓z_c, ↓z_var, ↓z_nil, ↓z_cons, ↓z_b, ↓z_vslot, ↓z_kslot, ↓z_kval, ↓z_lst, ↓z_tup, ↓z_call, ↓z_callKw, ↓z_tslot, ↓z_pslot, ↓z_tru, ↓z_tb, ↓z_nott, ↓z_andt, ↓z_ort, ↓z_ifx, ↓z_andv, ↓z_orv, ↓z_notv, ↓z_isi, ↓z_xf, ↓z_xis, ↓z_app, ↓z_chain, ↓z_fld, ↓z_ins, ↓z_dic, ↓z_next, ↓z_seq, ↓z_break, ↓z_cont, ↓z_expr, ↓z_ret, ↓z_rval, ↓z_rslot, ↓z_retn, ↓z_if, ↓z_asg, ↓z_setix, ↓z_par, ↓z_asgg, ↓z_gnm, ↓z_gunp, ↓z_gone, ↓z_gno, ↓z_raise, ↓z_try, ↓z_for, ↓z_iseq, ↓z_irg1, ↓z_izip, ↓z_sslot, ↓z_ocons, ↓z_lc, ↓z_yes, ↓z_w0, ↓z_ws, ↓x_vnil, ↓x_vval, ↓x_knil, ↓x_kcons, ↓x_tnil, ↓x_tval, ↓x_pval, ↓x_pnil, ↓x_snil, ↓x_sval, ↓x_onil, z_trN, z_trB, z_trI, z_trS, z_trT, z_trL, slotV_s, slotN_n, slotN_s, slotL_l, slotC_sh, slotC_lst, slotC_ins, one1_d, oneI_i, two2_o, two2D_d, someV_s, isBl_b, boolO_b, setV_s, insV_s, tryV_t, tryV_f, insD_i, unpD_t, unpD_l, gAdd_ii, gAdd_ss, gAdd_ll, gAdd_tt, gMul_ii, gMul_li, gSub_ii, gLt_ii, gLe_ii, gGt_ii, gGe_ii, gFdiv_ii, gMod_ii, gPow_ii, gNeg_i, gAbs_i, gInt_i, gInt_b, gGcd_ii, gLen_l, gLen_t, gLen_s, gIx_l, gIx_t, gIx_s, gIs_bb, gIs_dn, gEq_de, gTuple_l, gTuple_t, gList_l, gList_t, items_l, items_t, items_s, seq_l, seq_t, isNon_n, isNon_i, isNon_b, isNon_s, isNon_t, isNon_l, g2_ii, isK, knownD, flatD, view_sh', view_lst, flat_sh, flat_lst, List.map_cons, List.map_nil, List.replicate, List.cons_append, List.nil_append, List.append_nil, List.getElem?_cons_zero, List.getElem?_cons_succ, List.set_cons_zero, List.set_cons_succ, List.length_cons, List.length_nil, List.contains, List.elem_nil, List.elem_cons, List.any_cons, List.any_nil, List.all_nil, List.all_cons, Bool.or_false, Bool.false_eq_true, if_true, if_false, ite_true, ite_false, Nat.reduceSub, Nat.reduceAdd, Nat.reduceBEq, Nat.reduceEqDiff, Nat.reduceLeDiff, Nat.reduceLT, beq_self_eq_true, Bool.not_true, Bool.not_false, Bool.and_true, Bool.true_and, Bool.and_false, Bool.false_and, Bool.or_true, Bool.true_or, Bool.false_or, decide_eq_true_eq, Bool.not_eq_true', decide_eq_false_iff_not, true_and, and_true, reduceCtorEq, at_0, at_1, at_2, at_3, List.getD_cons_zero, List.getD_cons_succ, ok_int, ok_bl, ok_non, ok_tup0, ok_tI, ok_str, ok_t1, eq_int, eq_str, eq_t1, eq_tI1, ix40, ix41, ix42, ix43, List.length_map, eqk_int, eqk_str, eqk_bl, eqv_int, eqv_str, List.take_succ_cons, List.take_zero, List.drop_succ_cons, List.drop_zero, List.take_nil, List.drop_nil, ↓z_m1, ↓z_strV, ↓z_strS, strO_s, ↓z_intV, ↓z_intS, intO_i, ↓z_sl, ↓z_part0, ↓z_part, ↓z_join, ↓z_js0, ↓z_js1, gStr_i, gAll_l, gIn_ss, gStart_ss, gSplit_ss, gCut_s, gCut_l, gCut_t, gFmt_s, gFmt_i, gMul_si, gInt_s]
    rw [hq] at k
    exact k
  · simp only [↓z_c, ↓z_var, ↓z_nil, ↓z_cons, ↓z_b, ↓z_vslot, ↓z_kslot, ↓z_kval, ↓z_lst, ↓z_tup, ↓z_call, ↓z_callKw, ↓z_tslot, ↓z_pslot, ↓z_tru, ↓z_tb, ↓z_nott, ↓z_andt, ↓z_ort, ↓z_ifx, ↓z_andv, ↓z_orv, ↓z_notv, ↓z_isi, ↓z_xf, ↓z_xis, ↓z_app, ↓z_chain, ↓z_fld, ↓z_ins, ↓z_dic, ↓z_next, ↓z_seq, ↓z_break, ↓z_cont, ↓z_expr, ↓z_ret, ↓z_rval, ↓z_rslot, ↓z_retn, ↓z_if, ↓z_asg, ↓z_setix, ↓z_par, ↓z_asgg, ↓z_gnm, ↓z_gunp, ↓z_gone, ↓z_gno, ↓z_raise, ↓z_try, ↓z_for, ↓z_iseq, ↓z_irg1, ↓z_izip, ↓z_sslot, ↓z_ocons, ↓z_lc, ↓z_yes, ↓z_w0, ↓z_ws, ↓x_vnil, ↓x_vval, ↓x_knil, ↓x_kcons, ↓x_tnil, ↓x_tval, ↓x_pval, ↓x_pnil, ↓x_snil, ↓x_sval, ↓x_onil, z_trN, z_trB, z_trI, z_trS, z_trT, z_trL, slotV_s, slotN_n, slotN_s, slotL_l, slotC_sh, slotC_lst, slotC_ins, one1_d, oneI_i, two2_o, two2D_d, someV_s, isBl_b, boolO_b, setV_s, insV_s, tryV_t, tryV_f, insD_i, unpD_t, unpD_l, gAdd_ii, gAdd_ss, gAdd_ll, gAdd_tt, gMul_ii, gMul_li, gSub_ii, gLt_ii, gLe_ii, gGt_ii, gGe_ii, gFdiv_ii, gMod_ii, gPow_ii, gNeg_i, gAbs_i, gInt_i, gInt_b, gGcd_ii, gLen_l, gLen_t, gLen_s, gIx_l, gIx_t, gIx_s, gIs_bb, gIs_dn, gEq_de, gTuple_l, gTuple_t, gList_l, gList_t, items_l, items_t, items_s, seq_l, seq_t, isNon_n, isNon_i, isNon_b, isNon_s, isNon_t, isNon_l, g2_ii, isK, knownD, flatD, view_sh', view_lst, flat_sh, flat_lst, List.map_cons, List.map_nil, List.replicate, List.cons_append, List.nil_append, List.append_nil, List.getElem?_cons_zero, List.getElem?_cons_succ, List.set_cons_zero, List.set_cons_succ, List.length_cons, List.length_nil, List.contains, List.elem_nil, List.elem_cons, List.any_cons, List.any_nil, List.all_nil, List.all_cons, Bool.or_false, Bool.false_eq_true, if_true, if_false, ite_true, ite_false, Nat.reduceSub, Nat.reduceAdd, Nat.reduceBEq, Nat.reduceEqDiff, Nat.reduceLeDiff, Nat.reduceLT, beq_self_eq_true, Bool.not_true, Bool.not_false, Bool.and_true, Bool.true_and, Bool.and_false, Bool.false_and, Bool.or_true, Bool.true_or, Bool.false_or, decide_eq_true_eq, Bool.not_eq_true', decide_eq_false_iff_not, true_and, and_true, reduceCtorEq, at_0, at_1, at_2, at_3, List.getD_cons_zero, List.getD_cons_succ, ok_int, ok_bl, ok_non, ok_tup0, ok_tI, ok_str, ok_t1, eq_int, eq_str, eq_t1, eq_tI1, ix40, ix41, ix42, ix43, List.length_map, eqk_int, eqk_str, eqk_bl, eqv_int, eqv_str, List.take_succ_cons, List.take_zero, List.drop_succ_cons, List.drop_zero, List.take_nil, List.drop_nil, ↓z_m1, ↓z_strV, ↓z_strS, strO_s, ↓z_intV, ↓z_intS, intO_i, ↓z_sl, ↓z_part0, ↓z_part, ↓z_join, ↓z_js0, ↓z_js1, gStr_i, gAll_l, gIn_ss, gStart_ss, gSplit_ss, gCut_s, gCut_l, gCut_t, gFmt_s, gFmt_i, gMul_si, gInt_s, mx_BadRatio]
    rw [hq] at k
    exact ⟨by decide, k⟩
theorem c__law_due : ∀ os KR KE, S__law_due os KR KE → bodyS 7 [] 1 D__law_due os KR KE := by
  rintro os KR KE ⟨s, rfl, hl, k⟩
  have big : (10300 : Nat) ≤ sizeLine := by decide
  refine x_body rfl (by simp) ?_
  simp only [List.map_cons, List.map_nil, Nat.reduceSub, List.replicate, List.cons_append, List.nil_append]
  unfold D__law_due
  refine seq_split (fun E => E = [some (.sh (.str s)), some (.sh (.str (bareS s))), none, none, none, none, none]) (fun b' hb => ?_) ?_
  · simp only [↓z_c, ↓z_var, ↓z_nil, ↓z_cons, ↓z_b, ↓z_vslot, ↓z_kslot, ↓z_kval, ↓z_lst, ↓z_tup, ↓z_call, ↓z_callKw, ↓z_tslot, ↓z_pslot, ↓z_tru, ↓z_tb, ↓z_nott, ↓z_andt, ↓z_ort, ↓z_ifx, ↓z_andv, ↓z_orv, ↓z_notv, ↓z_isi, ↓z_xf, ↓z_xis, ↓z_app, ↓z_chain, ↓z_fld, ↓z_ins, ↓z_dic, ↓z_next, ↓z_seq, ↓z_break, ↓z_cont, ↓z_expr, ↓z_ret, ↓z_rval, ↓z_rslot, ↓z_retn, ↓z_if, ↓z_asg, ↓z_setix, ↓z_par, ↓z_asgg, ↓z_gnm, ↓z_gunp, ↓z_gone, ↓z_gno, ↓z_raise, ↓z_try, ↓z_for, ↓z_iseq, ↓z_irg1, ↓z_izip, ↓z_sslot, ↓z_ocons, ↓z_lc, ↓z_yes, ↓z_w0, ↓z_ws, ↓x_vnil, ↓x_vval, ↓x_knil, ↓x_kcons, ↓x_tnil, ↓x_tval, ↓x_pval, ↓x_pnil, ↓x_snil, ↓x_sval, ↓x_onil, z_trN, z_trB, z_trI, z_trS, z_trT, z_trL, slotV_s, slotN_n, slotN_s, slotL_l, slotC_sh, slotC_lst, slotC_ins, one1_d, oneI_i, two2_o, two2D_d, someV_s, isBl_b, boolO_b, setV_s, insV_s, tryV_t, tryV_f, insD_i, unpD_t, unpD_l, gAdd_ii, gAdd_ss, gAdd_ll, gAdd_tt, gMul_ii, gMul_li, gSub_ii, gLt_ii, gLe_ii, gGt_ii, gGe_ii, gFdiv_ii, gMod_ii, gPow_ii, gNeg_i, gAbs_i, gInt_i, gInt_b, gGcd_ii, gLen_l, gLen_t, gLen_s, gIx_l, gIx_t, gIx_s, gIs_bb, gIs_dn, gEq_de, gTuple_l, gTuple_t, gList_l, gList_t, items_l, items_t, items_s, seq_l, seq_t, isNon_n, isNon_i, isNon_b, isNon_s, isNon_t, isNon_l, g2_ii, isK, knownD, flatD, view_sh', view_lst, flat_sh, flat_lst, List.map_cons, List.map_nil, List.replicate, List.cons_append, List.nil_append, List.append_nil, List.getElem?_cons_zero, List.getElem?_cons_succ, List.set_cons_zero, List.set_cons_succ, List.length_cons, List.length_nil, List.contains, List.elem_nil, List.elem_cons, List.any_cons, List.any_nil, List.all_nil, List.all_cons, Bool.or_false, Bool.false_eq_true, if_true, if_false, ite_true, ite_false, Nat.reduceSub, Nat.reduceAdd, Nat.reduceBEq, Nat.reduceEqDiff, Nat.reduceLeDiff, Nat.reduceLT, beq_self_eq_true, Bool.not_true, Bool.not_false, Bool.and_true, Bool.true_and, Bool.and_false, Bool.false_and, Bool.or_true, Bool.true_or, Bool.false_or, decide_eq_true_eq, Bool.not_eq_true', decide_eq_false_iff_not, true_and, and_true, reduceCtorEq, at_0, at_1, at_2, at_3, List.getD_cons_zero, List.getD_cons_succ, ok_int, ok_bl, ok_non, ok_tup0, ok_tI, ok_str, ok_t1, eq_int, eq_str, eq_t1, eq_tI1, ix40, ix41, ix42, ix43, List.length_map, eqk_int, eqk_str, eqk_bl, eqv_int, eqv_str, List.take_succ_cons, List.take_zero, List.drop_succ_cons, List.drop_zero, List.take_nil, List.drop_nil, ↓z_m1, ↓z_strV, ↓z_strS, strO_s, ↓z_intV, ↓z_intS, intO_i, ↓z_sl, ↓z_part0, ↓z_part, ↓z_join, ↓z_js0, ↓z_js1, gStr_i, gAll_l, gIn_ss, gStart_ss, gSplit_ss, gCut_s, gCut_l, gCut_t, gFmt_s, gFmt_i, gMul_si, gInt_s]
    have hb := hb _ rfl
    have hn0 := cut_neg s
    unfold bareS at hb
    by_cases hn : negS s = true
    · rw [hn] at hn0
      rw [if_pos (of_decide_eq_true hn0)]
      rw [if_pos hn] at hb
      rw [cut_tail]
      exact ⟨by omega, by omega, hb⟩
    · have hn : negS s = false := by simpa using hn
      rw [hn] at hn0
      rw [if_neg (of_decide_eq_false hn0)]
      rw [if_neg (by rw [hn]; decide)] at hb
      exact ⟨by omega, hb⟩
  rintro E rfl
  have hbl := bare_len s
  refine seq_split (fun E => ∃ zs, PZ zs (partsS s) ∧ E = [some (.sh (.str s)), some (.sh (.str (bareS s))), some (.lst zs), none, none, none, none]) (fun b' hb => ?_) ?_
  · simp only [↓z_c, ↓z_var, ↓z_nil, ↓z_cons, ↓z_b, ↓z_vslot, ↓z_kslot, ↓z_kval, ↓z_lst, ↓z_tup, ↓z_call, ↓z_callKw, ↓z_tslot, ↓z_pslot, ↓z_tru, ↓z_tb, ↓z_nott, ↓z_andt, ↓z_ort, ↓z_ifx, ↓z_andv, ↓z_orv, ↓z_notv, ↓z_isi, ↓z_xf, ↓z_xis, ↓z_app, ↓z_chain, ↓z_fld, ↓z_ins, ↓z_dic, ↓z_next, ↓z_seq, ↓z_break, ↓z_cont, ↓z_expr, ↓z_ret, ↓z_rval, ↓z_rslot, ↓z_retn, ↓z_if, ↓z_asg, ↓z_setix, ↓z_par, ↓z_asgg, ↓z_gnm, ↓z_gunp, ↓z_gone, ↓z_gno, ↓z_raise, ↓z_try, ↓z_for, ↓z_iseq, ↓z_irg1, ↓z_izip, ↓z_sslot, ↓z_ocons, ↓z_lc, ↓z_yes, ↓z_w0, ↓z_ws, ↓x_vnil, ↓x_vval, ↓x_knil, ↓x_kcons, ↓x_tnil, ↓x_tval, ↓x_pval, ↓x_pnil, ↓x_snil, ↓x_sval, ↓x_onil, z_trN, z_trB, z_trI, z_trS, z_trT, z_trL, slotV_s, slotN_n, slotN_s, slotL_l, slotC_sh, slotC_lst, slotC_ins, one1_d, oneI_i, two2_o, two2D_d, someV_s, isBl_b, boolO_b, setV_s, insV_s, tryV_t, tryV_f, insD_i, unpD_t, unpD_l, gAdd_ii, gAdd_ss, gAdd_ll, gAdd_tt, gMul_ii, gMul_li, gSub_ii, gLt_ii, gLe_ii, gGt_ii, gGe_ii, gFdiv_ii, gMod_ii, gPow_ii, gNeg_i, gAbs_i, gInt_i, gInt_b, gGcd_ii, gLen_l, gLen_t, gLen_s, gIx_l, gIx_t, gIx_s, gIs_bb, gIs_dn, gEq_de, gTuple_l, gTuple_t, gList_l, gList_t, items_l, items_t, items_s, seq_l, seq_t, isNon_n, isNon_i, isNon_b, isNon_s, isNon_t, isNon_l, g2_ii, isK, knownD, flatD, view_sh', view_lst, flat_sh, flat_lst, List.map_cons, List.map_nil, List.replicate, List.cons_append, List.nil_append, List.append_nil, List.getElem?_cons_zero, List.getElem?_cons_succ, List.set_cons_zero, List.set_cons_succ, List.length_cons, List.length_nil, List.contains, List.elem_nil, List.elem_cons, List.any_cons, List.any_nil, List.all_nil, List.all_cons, Bool.or_false, Bool.false_eq_true, if_true, if_false, ite_true, ite_false, Nat.reduceSub, Nat.reduceAdd, Nat.reduceBEq, Nat.reduceEqDiff, Nat.reduceLeDiff, Nat.reduceLT, beq_self_eq_true, Bool.not_true, Bool.not_false, Bool.and_true, Bool.true_and, Bool.and_false, Bool.false_and, Bool.or_true, Bool.true_or, Bool.false_or, decide_eq_true_eq, Bool.not_eq_true', decide_eq_false_iff_not, true_and, and_true, reduceCtorEq, at_0, at_1, at_2, at_3, List.getD_cons_zero, List.getD_cons_succ, ok_int, ok_bl, ok_non, ok_tup0, ok_tI, ok_str, ok_t1, eq_int, eq_str, eq_t1, eq_tI1, ix40, ix41, ix42, ix43, List.length_map, eqk_int, eqk_str, eqk_bl, eqv_int, eqv_str, List.take_succ_cons, List.take_zero, List.drop_succ_cons, List.drop_zero, List.take_nil, List.drop_nil, ↓z_m1, ↓z_strV, ↓z_strS, strO_s, ↓z_intV, ↓z_intS, intO_i, ↓z_sl, ↓z_part0, ↓z_part, ↓z_join, ↓z_js0, ↓z_js1, gStr_i, gAll_l, gIn_ss, gStart_ss, gSplit_ss, gCut_s, gCut_l, gCut_t, gFmt_s, gFmt_i, gMul_si, gInt_s]
    exact ⟨⟨by decide +kernel, by omega⟩, hb _ ⟨_, rfl, rfl⟩⟩
  rintro E ⟨zs, hz, rfl⟩
  have hz1 := hz.v
  have hz2 := hz.f
  have zl : zs.length = (partsS s).length := by rw [hz]; simp
  have bad : figsS s = false ∨ (toldS s).2 = 0 → KR (.sh .non) [.sh (.str s)] := fun h => by
    rw [law_none s h] at k
    exact k
  refine seq_split (fun E => ∃ y, E = [some (.sh (.str s)), some (.sh (.str (bareS s))), some (.lst zs), none, none, none, y] ∧ figsS s = true) (fun b' hb => ?_) ?_
  · simp only [↓z_c, ↓z_var, ↓z_nil, ↓z_cons, ↓z_b, ↓z_vslot, ↓z_kslot, ↓z_kval, ↓z_lst, ↓z_tup, ↓z_call, ↓z_callKw, ↓z_tslot, ↓z_pslot, ↓z_tru, ↓z_tb, ↓z_nott, ↓z_andt, ↓z_ort, ↓z_ifx, ↓z_andv, ↓z_orv, ↓z_notv, ↓z_isi, ↓z_xf, ↓z_xis, ↓z_app, ↓z_chain, ↓z_fld, ↓z_ins, ↓z_dic, ↓z_next, ↓z_seq, ↓z_break, ↓z_cont, ↓z_expr, ↓z_ret, ↓z_rval, ↓z_rslot, ↓z_retn, ↓z_if, ↓z_asg, ↓z_setix, ↓z_par, ↓z_asgg, ↓z_gnm, ↓z_gunp, ↓z_gone, ↓z_gno, ↓z_raise, ↓z_try, ↓z_for, ↓z_iseq, ↓z_irg1, ↓z_izip, ↓z_sslot, ↓z_ocons, ↓z_lc, ↓z_yes, ↓z_w0, ↓z_ws, ↓x_vnil, ↓x_vval, ↓x_knil, ↓x_kcons, ↓x_tnil, ↓x_tval, ↓x_pval, ↓x_pnil, ↓x_snil, ↓x_sval, ↓x_onil, z_trN, z_trB, z_trI, z_trS, z_trT, z_trL, slotV_s, slotN_n, slotN_s, slotL_l, slotC_sh, slotC_lst, slotC_ins, one1_d, oneI_i, two2_o, two2D_d, someV_s, isBl_b, boolO_b, setV_s, insV_s, tryV_t, tryV_f, insD_i, unpD_t, unpD_l, gAdd_ii, gAdd_ss, gAdd_ll, gAdd_tt, gMul_ii, gMul_li, gSub_ii, gLt_ii, gLe_ii, gGt_ii, gGe_ii, gFdiv_ii, gMod_ii, gPow_ii, gNeg_i, gAbs_i, gInt_i, gInt_b, gGcd_ii, gLen_l, gLen_t, gLen_s, gIx_l, gIx_t, gIx_s, gIs_bb, gIs_dn, gEq_de, gTuple_l, gTuple_t, gList_l, gList_t, items_l, items_t, items_s, seq_l, seq_t, isNon_n, isNon_i, isNon_b, isNon_s, isNon_t, isNon_l, g2_ii, isK, knownD, flatD, view_sh', view_lst, flat_sh, flat_lst, List.map_cons, List.map_nil, List.replicate, List.cons_append, List.nil_append, List.append_nil, List.getElem?_cons_zero, List.getElem?_cons_succ, List.set_cons_zero, List.set_cons_succ, List.length_cons, List.length_nil, List.contains, List.elem_nil, List.elem_cons, List.any_cons, List.any_nil, List.all_nil, List.all_cons, Bool.or_false, Bool.false_eq_true, if_true, if_false, ite_true, ite_false, Nat.reduceSub, Nat.reduceAdd, Nat.reduceBEq, Nat.reduceEqDiff, Nat.reduceLeDiff, Nat.reduceLT, beq_self_eq_true, Bool.not_true, Bool.not_false, Bool.and_true, Bool.true_and, Bool.and_false, Bool.false_and, Bool.or_true, Bool.true_or, Bool.false_or, decide_eq_true_eq, Bool.not_eq_true', decide_eq_false_iff_not, true_and, and_true, reduceCtorEq, at_0, at_1, at_2, at_3, List.getD_cons_zero, List.getD_cons_succ, ok_int, ok_bl, ok_non, ok_tup0, ok_tI, ok_str, ok_t1, eq_int, eq_str, eq_t1, eq_tI1, ix40, ix41, ix42, ix43, List.length_map, eqk_int, eqk_str, eqk_bl, eqv_int, eqv_str, List.take_succ_cons, List.take_zero, List.drop_succ_cons, List.drop_zero, List.take_nil, List.drop_nil, ↓z_m1, ↓z_strV, ↓z_strS, strO_s, ↓z_intV, ↓z_intS, intO_i, ↓z_sl, ↓z_part0, ↓z_part, ↓z_join, ↓z_js0, ↓z_js1, gStr_i, gAll_l, gIn_ss, gStart_ss, gSplit_ss, gCut_s, gCut_l, gCut_t, gFmt_s, gFmt_i, gMul_si, gInt_s, hz1, hz2]
    by_cases h2 : (2 : Int) < (partsS s).length
    · rw [if_pos h2]
      exact bad (.inl (by unfold figsS; rw [decide_eq_false (by omega)]; rfl))
    · rw [if_neg h2]
      have h2 : decide ((partsS s).length ≤ 2) = true := decide_eq_true (by omega)
      refine lcD_inv (fun n acc E => (∃ y, E = [some (.sh (.str s)), some (.sh (.str (bareS s))), some (.lst zs), none, none, none, y]) ∧ acc.length ≤ n ∧ acc.isEmpty = ((partsS s).take n).all isFig) (fun i acc E h => by obtain ⟨⟨y, rfl⟩, _⟩ := h; exact holds1 (i := 2) (o := .lst zs) (fun q hq => by rw [List.mem_singleton] at hq; exact hq) rfl) 0 ?_ ⟨⟨_, rfl⟩, Nat.le_refl _, rfl⟩ ?_
      · rintro i d acc E tail hd ⟨⟨y, rfl⟩, hal, hac⟩ kt
        rw [List.getElem?_map] at hd
        cases hi : (partsS s)[i]? with
        | none => rw [hi] at hd; cases hd
        | some p =>
          rw [hi] at hd
          obtain rfl : D.str p = d := by simpa using hd
          have lt := (List.getElem?_eq_some_iff.mp hi).1
          have pl := part_len (List.mem_of_getElem? hi)
          have h2' := of_decide_eq_true h2
          have tk : (partsS s).take (0 + i + 1) = (partsS s).take (0 + i) ++ [p] := by
            rw [Nat.zero_add, List.take_add_one, hi]; rfl
          simp only [↓z_c, ↓z_var, ↓z_nil, ↓z_cons, ↓z_b, ↓z_vslot, ↓z_kslot, ↓z_kval, ↓z_lst, ↓z_tup, ↓z_call, ↓z_callKw, ↓z_tslot, ↓z_pslot, ↓z_tru, ↓z_tb, ↓z_nott, ↓z_andt, ↓z_ort, ↓z_ifx, ↓z_andv, ↓z_orv, ↓z_notv, ↓z_isi, ↓z_xf, ↓z_xis, ↓z_app, ↓z_chain, ↓z_fld, ↓z_ins, ↓z_dic, ↓z_next, ↓z_seq, ↓z_break, ↓z_cont, ↓z_expr, ↓z_ret, ↓z_rval, ↓z_rslot, ↓z_retn, ↓z_if, ↓z_asg, ↓z_setix, ↓z_par, ↓z_asgg, ↓z_gnm, ↓z_gunp, ↓z_gone, ↓z_gno, ↓z_raise, ↓z_try, ↓z_for, ↓z_iseq, ↓z_irg1, ↓z_izip, ↓z_sslot, ↓z_ocons, ↓z_lc, ↓z_yes, ↓z_w0, ↓z_ws, ↓x_vnil, ↓x_vval, ↓x_knil, ↓x_kcons, ↓x_tnil, ↓x_tval, ↓x_pval, ↓x_pnil, ↓x_snil, ↓x_sval, ↓x_onil, z_trN, z_trB, z_trI, z_trS, z_trT, z_trL, slotV_s, slotN_n, slotN_s, slotL_l, slotC_sh, slotC_lst, slotC_ins, one1_d, oneI_i, two2_o, two2D_d, someV_s, isBl_b, boolO_b, setV_s, insV_s, tryV_t, tryV_f, insD_i, unpD_t, unpD_l, gAdd_ii, gAdd_ss, gAdd_ll, gAdd_tt, gMul_ii, gMul_li, gSub_ii, gLt_ii, gLe_ii, gGt_ii, gGe_ii, gFdiv_ii, gMod_ii, gPow_ii, gNeg_i, gAbs_i, gInt_i, gInt_b, gGcd_ii, gLen_l, gLen_t, gLen_s, gIx_l, gIx_t, gIx_s, gIs_bb, gIs_dn, gEq_de, gTuple_l, gTuple_t, gList_l, gList_t, items_l, items_t, items_s, seq_l, seq_t, isNon_n, isNon_i, isNon_b, isNon_s, isNon_t, isNon_l, g2_ii, isK, knownD, flatD, view_sh', view_lst, flat_sh, flat_lst, List.map_cons, List.map_nil, List.replicate, List.cons_append, List.nil_append, List.append_nil, List.getElem?_cons_zero, List.getElem?_cons_succ, List.set_cons_zero, List.set_cons_succ, List.length_cons, List.length_nil, List.contains, List.elem_nil, List.elem_cons, List.any_cons, List.any_nil, List.all_nil, List.all_cons, Bool.or_false, Bool.false_eq_true, if_true, if_false, ite_true, ite_false, Nat.reduceSub, Nat.reduceAdd, Nat.reduceBEq, Nat.reduceEqDiff, Nat.reduceLeDiff, Nat.reduceLT, beq_self_eq_true, Bool.not_true, Bool.not_false, Bool.and_true, Bool.true_and, Bool.and_false, Bool.false_and, Bool.or_true, Bool.true_or, Bool.false_or, decide_eq_true_eq, Bool.not_eq_true', decide_eq_false_iff_not, true_and, and_true, reduceCtorEq, at_0, at_1, at_2, at_3, List.getD_cons_zero, List.getD_cons_succ, ok_int, ok_bl, ok_non, ok_tup0, ok_tI, ok_str, ok_t1, eq_int, eq_str, eq_t1, eq_tI1, ix40, ix41, ix42, ix43, List.length_map, eqk_int, eqk_str, eqk_bl, eqv_int, eqv_str, List.take_succ_cons, List.take_zero, List.drop_succ_cons, List.drop_zero, List.take_nil, List.drop_nil, ↓z_m1, ↓z_strV, ↓z_strS, strO_s, ↓z_intV, ↓z_intS, intO_i, ↓z_sl, ↓z_part0, ↓z_part, ↓z_join, ↓z_js0, ↓z_js1, gStr_i, gAll_l, gIn_ss, gStart_ss, gSplit_ss, gCut_s, gCut_l, gCut_t, gFmt_s, gFmt_i, gMul_si, gInt_s]
          refine ⟨p, rfl, by omega, ?_⟩
          simp only [↓z_c, ↓z_var, ↓z_nil, ↓z_cons, ↓z_b, ↓z_vslot, ↓z_kslot, ↓z_kval, ↓z_lst, ↓z_tup, ↓z_call, ↓z_callKw, ↓z_tslot, ↓z_pslot, ↓z_tru, ↓z_tb, ↓z_nott, ↓z_andt, ↓z_ort, ↓z_ifx, ↓z_andv, ↓z_orv, ↓z_notv, ↓z_isi, ↓z_xf, ↓z_xis, ↓z_app, ↓z_chain, ↓z_fld, ↓z_ins, ↓z_dic, ↓z_next, ↓z_seq, ↓z_break, ↓z_cont, ↓z_expr, ↓z_ret, ↓z_rval, ↓z_rslot, ↓z_retn, ↓z_if, ↓z_asg, ↓z_setix, ↓z_par, ↓z_asgg, ↓z_gnm, ↓z_gunp, ↓z_gone, ↓z_gno, ↓z_raise, ↓z_try, ↓z_for, ↓z_iseq, ↓z_irg1, ↓z_izip, ↓z_sslot, ↓z_ocons, ↓z_lc, ↓z_yes, ↓z_w0, ↓z_ws, ↓x_vnil, ↓x_vval, ↓x_knil, ↓x_kcons, ↓x_tnil, ↓x_tval, ↓x_pval, ↓x_pnil, ↓x_snil, ↓x_sval, ↓x_onil, z_trN, z_trB, z_trI, z_trS, z_trT, z_trL, slotV_s, slotN_n, slotN_s, slotL_l, slotC_sh, slotC_lst, slotC_ins, one1_d, oneI_i, two2_o, two2D_d, someV_s, isBl_b, boolO_b, setV_s, insV_s, tryV_t, tryV_f, insD_i, unpD_t, unpD_l, gAdd_ii, gAdd_ss, gAdd_ll, gAdd_tt, gMul_ii, gMul_li, gSub_ii, gLt_ii, gLe_ii, gGt_ii, gGe_ii, gFdiv_ii, gMod_ii, gPow_ii, gNeg_i, gAbs_i, gInt_i, gInt_b, gGcd_ii, gLen_l, gLen_t, gLen_s, gIx_l, gIx_t, gIx_s, gIs_bb, gIs_dn, gEq_de, gTuple_l, gTuple_t, gList_l, gList_t, items_l, items_t, items_s, seq_l, seq_t, isNon_n, isNon_i, isNon_b, isNon_s, isNon_t, isNon_l, g2_ii, isK, knownD, flatD, view_sh', view_lst, flat_sh, flat_lst, List.map_cons, List.map_nil, List.replicate, List.cons_append, List.nil_append, List.append_nil, List.getElem?_cons_zero, List.getElem?_cons_succ, List.set_cons_zero, List.set_cons_succ, List.length_cons, List.length_nil, List.contains, List.elem_nil, List.elem_cons, List.any_cons, List.any_nil, List.all_nil, List.all_cons, Bool.or_false, Bool.false_eq_true, if_true, if_false, ite_true, ite_false, Nat.reduceSub, Nat.reduceAdd, Nat.reduceBEq, Nat.reduceEqDiff, Nat.reduceLeDiff, Nat.reduceLT, beq_self_eq_true, Bool.not_true, Bool.not_false, Bool.and_true, Bool.true_and, Bool.and_false, Bool.false_and, Bool.or_true, Bool.true_or, Bool.false_or, decide_eq_true_eq, Bool.not_eq_true', decide_eq_false_iff_not, true_and, and_true, reduceCtorEq, at_0, at_1, at_2, at_3, List.getD_cons_zero, List.getD_cons_succ, ok_int, ok_bl, ok_non, ok_tup0, ok_tI, ok_str, ok_t1, eq_int, eq_str, eq_t1, eq_tI1, ix40, ix41, ix42, ix43, List.length_map, eqk_int, eqk_str, eqk_bl, eqv_int, eqv_str, List.take_succ_cons, List.take_zero, List.drop_succ_cons, List.drop_zero, List.take_nil, List.drop_nil, ↓z_m1, ↓z_strV, ↓z_strS, strO_s, ↓z_intV, ↓z_intS, intO_i, ↓z_sl, ↓z_part0, ↓z_part, ↓z_join, ↓z_js0, ↓z_js1, gStr_i, gAll_l, gIn_ss, gStart_ss, gSplit_ss, gCut_s, gCut_l, gCut_t, gFmt_s, gFmt_i, gMul_si, gInt_s]
          by_cases hc : isFig p = true
          · rw [if_neg (by rw [hc]; decide)]
            refine kt _ _ ⟨⟨_, rfl⟩, by omega, ?_⟩
            rw [tk, hac, List.all_append, List.all_cons, hc]
            simp
          · have hc : isFig p = false := by simpa using hc
            rw [if_pos hc]
            refine ⟨by omega, kt _ _ ⟨⟨_, rfl⟩, by simp; omega, ?_⟩⟩
            rw [tk, List.all_append, List.all_cons, hc]
            simp
      · rintro acc E ⟨⟨y, rfl⟩, hal, hac⟩
        have e2 : (acc.map O.view).isEmpty = (partsS s).all isFig := by
          rw [List.length_map, Nat.zero_add, List.take_length] at hac
          rw [← hac]; cases acc <;> rfl
        simp only [↓z_c, ↓z_var, ↓z_nil, ↓z_cons, ↓z_b, ↓z_vslot, ↓z_kslot, ↓z_kval, ↓z_lst, ↓z_tup, ↓z_call, ↓z_callKw, ↓z_tslot, ↓z_pslot, ↓z_tru, ↓z_tb, ↓z_nott, ↓z_andt, ↓z_ort, ↓z_ifx, ↓z_andv, ↓z_orv, ↓z_notv, ↓z_isi, ↓z_xf, ↓z_xis, ↓z_app, ↓z_chain, ↓z_fld, ↓z_ins, ↓z_dic, ↓z_next, ↓z_seq, ↓z_break, ↓z_cont, ↓z_expr, ↓z_ret, ↓z_rval, ↓z_rslot, ↓z_retn, ↓z_if, ↓z_asg, ↓z_setix, ↓z_par, ↓z_asgg, ↓z_gnm, ↓z_gunp, ↓z_gone, ↓z_gno, ↓z_raise, ↓z_try, ↓z_for, ↓z_iseq, ↓z_irg1, ↓z_izip, ↓z_sslot, ↓z_ocons, ↓z_lc, ↓z_yes, ↓z_w0, ↓z_ws, ↓x_vnil, ↓x_vval, ↓x_knil, ↓x_kcons, ↓x_tnil, ↓x_tval, ↓x_pval, ↓x_pnil, ↓x_snil, ↓x_sval, ↓x_onil, z_trN, z_trB, z_trI, z_trS, z_trT, z_trL, slotV_s, slotN_n, slotN_s, slotL_l, slotC_sh, slotC_lst, slotC_ins, one1_d, oneI_i, two2_o, two2D_d, someV_s, isBl_b, boolO_b, setV_s, insV_s, tryV_t, tryV_f, insD_i, unpD_t, unpD_l, gAdd_ii, gAdd_ss, gAdd_ll, gAdd_tt, gMul_ii, gMul_li, gSub_ii, gLt_ii, gLe_ii, gGt_ii, gGe_ii, gFdiv_ii, gMod_ii, gPow_ii, gNeg_i, gAbs_i, gInt_i, gInt_b, gGcd_ii, gLen_l, gLen_t, gLen_s, gIx_l, gIx_t, gIx_s, gIs_bb, gIs_dn, gEq_de, gTuple_l, gTuple_t, gList_l, gList_t, items_l, items_t, items_s, seq_l, seq_t, isNon_n, isNon_i, isNon_b, isNon_s, isNon_t, isNon_l, g2_ii, isK, knownD, flatD, view_sh', view_lst, flat_sh, flat_lst, List.map_cons, List.map_nil, List.replicate, List.cons_append, List.nil_append, List.append_nil, List.getElem?_cons_zero, List.getElem?_cons_succ, List.set_cons_zero, List.set_cons_succ, List.length_cons, List.length_nil, List.contains, List.elem_nil, List.elem_cons, List.any_cons, List.any_nil, List.all_nil, List.all_cons, Bool.or_false, Bool.false_eq_true, if_true, if_false, ite_true, ite_false, Nat.reduceSub, Nat.reduceAdd, Nat.reduceBEq, Nat.reduceEqDiff, Nat.reduceLeDiff, Nat.reduceLT, beq_self_eq_true, Bool.not_true, Bool.not_false, Bool.and_true, Bool.true_and, Bool.and_false, Bool.false_and, Bool.or_true, Bool.true_or, Bool.false_or, decide_eq_true_eq, Bool.not_eq_true', decide_eq_false_iff_not, true_and, and_true, reduceCtorEq, at_0, at_1, at_2, at_3, List.getD_cons_zero, List.getD_cons_succ, ok_int, ok_bl, ok_non, ok_tup0, ok_tI, ok_str, ok_t1, eq_int, eq_str, eq_t1, eq_tI1, ix40, ix41, ix42, ix43, List.length_map, eqk_int, eqk_str, eqk_bl, eqv_int, eqv_str, List.take_succ_cons, List.take_zero, List.drop_succ_cons, List.drop_zero, List.take_nil, List.drop_nil, ↓z_m1, ↓z_strV, ↓z_strS, strO_s, ↓z_intV, ↓z_intS, intO_i, ↓z_sl, ↓z_part0, ↓z_part, ↓z_join, ↓z_js0, ↓z_js1, gStr_i, gAll_l, gIn_ss, gStart_ss, gSplit_ss, gCut_s, gCut_l, gCut_t, gFmt_s, gFmt_i, gMul_si, gInt_s, e2]
        by_cases ha : (partsS s).all isFig = true
        · rw [if_neg (by rw [ha]; decide)]
          exact hb _ ⟨_, rfl, by unfold figsS; rw [h2, ha]; rfl⟩
        · have ha : (partsS s).all isFig = false := by simpa using ha
          rw [if_pos ha]
          exact bad (.inl (by unfold figsS; rw [ha, Bool.and_false]))
  rintro E ⟨y, rfl, hf⟩
  have hcs := figs_cases hf
  obtain ⟨w1, w2, p2⟩ := told_rt hf
  refine seq_split (fun E => E = [some (.sh (.str s)), some (.sh (.str (bareS s))), some (.lst zs), some (oI (numT ((partsS s).getD 0 Str.empty))), some (oI (toldS s).2), none, y]) (fun b' hb => ?_) ?_
  · have hb := hb _ rfl
    unfold toldS at hb
    rcases hcs with ⟨p0, e, i0, l0⟩ | ⟨p0, p1, e, i0, l0, i1, l1⟩
    · simp only [↓z_c, ↓z_var, ↓z_nil, ↓z_cons, ↓z_b, ↓z_vslot, ↓z_kslot, ↓z_kval, ↓z_lst, ↓z_tup, ↓z_call, ↓z_callKw, ↓z_tslot, ↓z_pslot, ↓z_tru, ↓z_tb, ↓z_nott, ↓z_andt, ↓z_ort, ↓z_ifx, ↓z_andv, ↓z_orv, ↓z_notv, ↓z_isi, ↓z_xf, ↓z_xis, ↓z_app, ↓z_chain, ↓z_fld, ↓z_ins, ↓z_dic, ↓z_next, ↓z_seq, ↓z_break, ↓z_cont, ↓z_expr, ↓z_ret, ↓z_rval, ↓z_rslot, ↓z_retn, ↓z_if, ↓z_asg, ↓z_setix, ↓z_par, ↓z_asgg, ↓z_gnm, ↓z_gunp, ↓z_gone, ↓z_gno, ↓z_raise, ↓z_try, ↓z_for, ↓z_iseq, ↓z_irg1, ↓z_izip, ↓z_sslot, ↓z_ocons, ↓z_lc, ↓z_yes, ↓z_w0, ↓z_ws, ↓x_vnil, ↓x_vval, ↓x_knil, ↓x_kcons, ↓x_tnil, ↓x_tval, ↓x_pval, ↓x_pnil, ↓x_snil, ↓x_sval, ↓x_onil, z_trN, z_trB, z_trI, z_trS, z_trT, z_trL, slotV_s, slotN_n, slotN_s, slotL_l, slotC_sh, slotC_lst, slotC_ins, one1_d, oneI_i, two2_o, two2D_d, someV_s, isBl_b, boolO_b, setV_s, insV_s, tryV_t, tryV_f, insD_i, unpD_t, unpD_l, gAdd_ii, gAdd_ss, gAdd_ll, gAdd_tt, gMul_ii, gMul_li, gSub_ii, gLt_ii, gLe_ii, gGt_ii, gGe_ii, gFdiv_ii, gMod_ii, gPow_ii, gNeg_i, gAbs_i, gInt_i, gInt_b, gGcd_ii, gLen_l, gLen_t, gLen_s, gIx_l, gIx_t, gIx_s, gIs_bb, gIs_dn, gEq_de, gTuple_l, gTuple_t, gList_l, gList_t, items_l, items_t, items_s, seq_l, seq_t, isNon_n, isNon_i, isNon_b, isNon_s, isNon_t, isNon_l, g2_ii, isK, knownD, flatD, view_sh', view_lst, flat_sh, flat_lst, List.map_cons, List.map_nil, List.replicate, List.cons_append, List.nil_append, List.append_nil, List.getElem?_cons_zero, List.getElem?_cons_succ, List.set_cons_zero, List.set_cons_succ, List.length_cons, List.length_nil, List.contains, List.elem_nil, List.elem_cons, List.any_cons, List.any_nil, List.all_nil, List.all_cons, Bool.or_false, Bool.false_eq_true, if_true, if_false, ite_true, ite_false, Nat.reduceSub, Nat.reduceAdd, Nat.reduceBEq, Nat.reduceEqDiff, Nat.reduceLeDiff, Nat.reduceLT, beq_self_eq_true, Bool.not_true, Bool.not_false, Bool.and_true, Bool.true_and, Bool.and_false, Bool.false_and, Bool.or_true, Bool.true_or, Bool.false_or, decide_eq_true_eq, Bool.not_eq_true', decide_eq_false_iff_not, true_and, and_true, reduceCtorEq, at_0, at_1, at_2, at_3, List.getD_cons_zero, List.getD_cons_succ, ok_int, ok_bl, ok_non, ok_tup0, ok_tI, ok_str, ok_t1, eq_int, eq_str, eq_t1, eq_tI1, ix40, ix41, ix42, ix43, List.length_map, eqk_int, eqk_str, eqk_bl, eqv_int, eqv_str, List.take_succ_cons, List.take_zero, List.drop_succ_cons, List.drop_zero, List.take_nil, List.drop_nil, ↓z_m1, ↓z_strV, ↓z_strS, strO_s, ↓z_intV, ↓z_intS, intO_i, ↓z_sl, ↓z_part0, ↓z_part, ↓z_join, ↓z_js0, ↓z_js1, gStr_i, gAll_l, gIn_ss, gStart_ss, gSplit_ss, gCut_s, gCut_l, gCut_t, gFmt_s, gFmt_i, gMul_si, gInt_s, hz1, hz2, e] at hb ⊢
      exact ⟨_, i0, by omega, hb⟩
    · simp only [↓z_c, ↓z_var, ↓z_nil, ↓z_cons, ↓z_b, ↓z_vslot, ↓z_kslot, ↓z_kval, ↓z_lst, ↓z_tup, ↓z_call, ↓z_callKw, ↓z_tslot, ↓z_pslot, ↓z_tru, ↓z_tb, ↓z_nott, ↓z_andt, ↓z_ort, ↓z_ifx, ↓z_andv, ↓z_orv, ↓z_notv, ↓z_isi, ↓z_xf, ↓z_xis, ↓z_app, ↓z_chain, ↓z_fld, ↓z_ins, ↓z_dic, ↓z_next, ↓z_seq, ↓z_break, ↓z_cont, ↓z_expr, ↓z_ret, ↓z_rval, ↓z_rslot, ↓z_retn, ↓z_if, ↓z_asg, ↓z_setix, ↓z_par, ↓z_asgg, ↓z_gnm, ↓z_gunp, ↓z_gone, ↓z_gno, ↓z_raise, ↓z_try, ↓z_for, ↓z_iseq, ↓z_irg1, ↓z_izip, ↓z_sslot, ↓z_ocons, ↓z_lc, ↓z_yes, ↓z_w0, ↓z_ws, ↓x_vnil, ↓x_vval, ↓x_knil, ↓x_kcons, ↓x_tnil, ↓x_tval, ↓x_pval, ↓x_pnil, ↓x_snil, ↓x_sval, ↓x_onil, z_trN, z_trB, z_trI, z_trS, z_trT, z_trL, slotV_s, slotN_n, slotN_s, slotL_l, slotC_sh, slotC_lst, slotC_ins, one1_d, oneI_i, two2_o, two2D_d, someV_s, isBl_b, boolO_b, setV_s, insV_s, tryV_t, tryV_f, insD_i, unpD_t, unpD_l, gAdd_ii, gAdd_ss, gAdd_ll, gAdd_tt, gMul_ii, gMul_li, gSub_ii, gLt_ii, gLe_ii, gGt_ii, gGe_ii, gFdiv_ii, gMod_ii, gPow_ii, gNeg_i, gAbs_i, gInt_i, gInt_b, gGcd_ii, gLen_l, gLen_t, gLen_s, gIx_l, gIx_t, gIx_s, gIs_bb, gIs_dn, gEq_de, gTuple_l, gTuple_t, gList_l, gList_t, items_l, items_t, items_s, seq_l, seq_t, isNon_n, isNon_i, isNon_b, isNon_s, isNon_t, isNon_l, g2_ii, isK, knownD, flatD, view_sh', view_lst, flat_sh, flat_lst, List.map_cons, List.map_nil, List.replicate, List.cons_append, List.nil_append, List.append_nil, List.getElem?_cons_zero, List.getElem?_cons_succ, List.set_cons_zero, List.set_cons_succ, List.length_cons, List.length_nil, List.contains, List.elem_nil, List.elem_cons, List.any_cons, List.any_nil, List.all_nil, List.all_cons, Bool.or_false, Bool.false_eq_true, if_true, if_false, ite_true, ite_false, Nat.reduceSub, Nat.reduceAdd, Nat.reduceBEq, Nat.reduceEqDiff, Nat.reduceLeDiff, Nat.reduceLT, beq_self_eq_true, Bool.not_true, Bool.not_false, Bool.and_true, Bool.true_and, Bool.and_false, Bool.false_and, Bool.or_true, Bool.true_or, Bool.false_or, decide_eq_true_eq, Bool.not_eq_true', decide_eq_false_iff_not, true_and, and_true, reduceCtorEq, at_0, at_1, at_2, at_3, List.getD_cons_zero, List.getD_cons_succ, ok_int, ok_bl, ok_non, ok_tup0, ok_tI, ok_str, ok_t1, eq_int, eq_str, eq_t1, eq_tI1, ix40, ix41, ix42, ix43, List.length_map, eqk_int, eqk_str, eqk_bl, eqv_int, eqv_str, List.take_succ_cons, List.take_zero, List.drop_succ_cons, List.drop_zero, List.take_nil, List.drop_nil, ↓z_m1, ↓z_strV, ↓z_strS, strO_s, ↓z_intV, ↓z_intS, intO_i, ↓z_sl, ↓z_part0, ↓z_part, ↓z_join, ↓z_js0, ↓z_js1, gStr_i, gAll_l, gIn_ss, gStart_ss, gSplit_ss, gCut_s, gCut_l, gCut_t, gFmt_s, gFmt_i, gMul_si, gInt_s, hz1, hz2, e] at hb ⊢
      have at_m : L2.atI [D.str p0, D.str p1] (-1) = some (.str p1) := rfl
      simp only [↓z_c, ↓z_var, ↓z_nil, ↓z_cons, ↓z_b, ↓z_vslot, ↓z_kslot, ↓z_kval, ↓z_lst, ↓z_tup, ↓z_call, ↓z_callKw, ↓z_tslot, ↓z_pslot, ↓z_tru, ↓z_tb, ↓z_nott, ↓z_andt, ↓z_ort, ↓z_ifx, ↓z_andv, ↓z_orv, ↓z_notv, ↓z_isi, ↓z_xf, ↓z_xis, ↓z_app, ↓z_chain, ↓z_fld, ↓z_ins, ↓z_dic, ↓z_next, ↓z_seq, ↓z_break, ↓z_cont, ↓z_expr, ↓z_ret, ↓z_rval, ↓z_rslot, ↓z_retn, ↓z_if, ↓z_asg, ↓z_setix, ↓z_par, ↓z_asgg, ↓z_gnm, ↓z_gunp, ↓z_gone, ↓z_gno, ↓z_raise, ↓z_try, ↓z_for, ↓z_iseq, ↓z_irg1, ↓z_izip, ↓z_sslot, ↓z_ocons, ↓z_lc, ↓z_yes, ↓z_w0, ↓z_ws, ↓x_vnil, ↓x_vval, ↓x_knil, ↓x_kcons, ↓x_tnil, ↓x_tval, ↓x_pval, ↓x_pnil, ↓x_snil, ↓x_sval, ↓x_onil, z_trN, z_trB, z_trI, z_trS, z_trT, z_trL, slotV_s, slotN_n, slotN_s, slotL_l, slotC_sh, slotC_lst, slotC_ins, one1_d, oneI_i, two2_o, two2D_d, someV_s, isBl_b, boolO_b, setV_s, insV_s, tryV_t, tryV_f, insD_i, unpD_t, unpD_l, gAdd_ii, gAdd_ss, gAdd_ll, gAdd_tt, gMul_ii, gMul_li, gSub_ii, gLt_ii, gLe_ii, gGt_ii, gGe_ii, gFdiv_ii, gMod_ii, gPow_ii, gNeg_i, gAbs_i, gInt_i, gInt_b, gGcd_ii, gLen_l, gLen_t, gLen_s, gIx_l, gIx_t, gIx_s, gIs_bb, gIs_dn, gEq_de, gTuple_l, gTuple_t, gList_l, gList_t, items_l, items_t, items_s, seq_l, seq_t, isNon_n, isNon_i, isNon_b, isNon_s, isNon_t, isNon_l, g2_ii, isK, knownD, flatD, view_sh', view_lst, flat_sh, flat_lst, List.map_cons, List.map_nil, List.replicate, List.cons_append, List.nil_append, List.append_nil, List.getElem?_cons_zero, List.getElem?_cons_succ, List.set_cons_zero, List.set_cons_succ, List.length_cons, List.length_nil, List.contains, List.elem_nil, List.elem_cons, List.any_cons, List.any_nil, List.all_nil, List.all_cons, Bool.or_false, Bool.false_eq_true, if_true, if_false, ite_true, ite_false, Nat.reduceSub, Nat.reduceAdd, Nat.reduceBEq, Nat.reduceEqDiff, Nat.reduceLeDiff, Nat.reduceLT, beq_self_eq_true, Bool.not_true, Bool.not_false, Bool.and_true, Bool.true_and, Bool.and_false, Bool.false_and, Bool.or_true, Bool.true_or, Bool.false_or, decide_eq_true_eq, Bool.not_eq_true', decide_eq_false_iff_not, true_and, and_true, reduceCtorEq, at_0, at_1, at_2, at_3, List.getD_cons_zero, List.getD_cons_succ, ok_int, ok_bl, ok_non, ok_tup0, ok_tI, ok_str, ok_t1, eq_int, eq_str, eq_t1, eq_tI1, ix40, ix41, ix42, ix43, List.length_map, eqk_int, eqk_str, eqk_bl, eqv_int, eqv_str, List.take_succ_cons, List.take_zero, List.drop_succ_cons, List.drop_zero, List.take_nil, List.drop_nil, ↓z_m1, ↓z_strV, ↓z_strS, strO_s, ↓z_intV, ↓z_intS, intO_i, ↓z_sl, ↓z_part0, ↓z_part, ↓z_join, ↓z_js0, ↓z_js1, gStr_i, gAll_l, gIn_ss, gStart_ss, gSplit_ss, gCut_s, gCut_l, gCut_t, gFmt_s, gFmt_i, gMul_si, gInt_s, at_m]
      exact ⟨_, i0, by omega, _, i1, by omega, hb⟩
  rintro E rfl
  refine seq_split (fun E => E = [some (.sh (.str s)), some (.sh (.str (bareS s))), some (.lst zs), some (oI (toldS s).1), some (oI (toldS s).2), none, y]) (fun b' hb => ?_) ?_
  · simp only [↓z_c, ↓z_var, ↓z_nil, ↓z_cons, ↓z_b, ↓z_vslot, ↓z_kslot, ↓z_kval, ↓z_lst, ↓z_tup, ↓z_call, ↓z_callKw, ↓z_tslot, ↓z_pslot, ↓z_tru, ↓z_tb, ↓z_nott, ↓z_andt, ↓z_ort, ↓z_ifx, ↓z_andv, ↓z_orv, ↓z_notv, ↓z_isi, ↓z_xf, ↓z_xis, ↓z_app, ↓z_chain, ↓z_fld, ↓z_ins, ↓z_dic, ↓z_next, ↓z_seq, ↓z_break, ↓z_cont, ↓z_expr, ↓z_ret, ↓z_rval, ↓z_rslot, ↓z_retn, ↓z_if, ↓z_asg, ↓z_setix, ↓z_par, ↓z_asgg, ↓z_gnm, ↓z_gunp, ↓z_gone, ↓z_gno, ↓z_raise, ↓z_try, ↓z_for, ↓z_iseq, ↓z_irg1, ↓z_izip, ↓z_sslot, ↓z_ocons, ↓z_lc, ↓z_yes, ↓z_w0, ↓z_ws, ↓x_vnil, ↓x_vval, ↓x_knil, ↓x_kcons, ↓x_tnil, ↓x_tval, ↓x_pval, ↓x_pnil, ↓x_snil, ↓x_sval, ↓x_onil, z_trN, z_trB, z_trI, z_trS, z_trT, z_trL, slotV_s, slotN_n, slotN_s, slotL_l, slotC_sh, slotC_lst, slotC_ins, one1_d, oneI_i, two2_o, two2D_d, someV_s, isBl_b, boolO_b, setV_s, insV_s, tryV_t, tryV_f, insD_i, unpD_t, unpD_l, gAdd_ii, gAdd_ss, gAdd_ll, gAdd_tt, gMul_ii, gMul_li, gSub_ii, gLt_ii, gLe_ii, gGt_ii, gGe_ii, gFdiv_ii, gMod_ii, gPow_ii, gNeg_i, gAbs_i, gInt_i, gInt_b, gGcd_ii, gLen_l, gLen_t, gLen_s, gIx_l, gIx_t, gIx_s, gIs_bb, gIs_dn, gEq_de, gTuple_l, gTuple_t, gList_l, gList_t, items_l, items_t, items_s, seq_l, seq_t, isNon_n, isNon_i, isNon_b, isNon_s, isNon_t, isNon_l, g2_ii, isK, knownD, flatD, view_sh', view_lst, flat_sh, flat_lst, List.map_cons, List.map_nil, List.replicate, List.cons_append, List.nil_append, List.append_nil, List.getElem?_cons_zero, List.getElem?_cons_succ, List.set_cons_zero, List.set_cons_succ, List.length_cons, List.length_nil, List.contains, List.elem_nil, List.elem_cons, List.any_cons, List.any_nil, List.all_nil, List.all_cons, Bool.or_false, Bool.false_eq_true, if_true, if_false, ite_true, ite_false, Nat.reduceSub, Nat.reduceAdd, Nat.reduceBEq, Nat.reduceEqDiff, Nat.reduceLeDiff, Nat.reduceLT, beq_self_eq_true, Bool.not_true, Bool.not_false, Bool.and_true, Bool.true_and, Bool.and_false, Bool.false_and, Bool.or_true, Bool.true_or, Bool.false_or, decide_eq_true_eq, Bool.not_eq_true', decide_eq_false_iff_not, true_and, and_true, reduceCtorEq, at_0, at_1, at_2, at_3, List.getD_cons_zero, List.getD_cons_succ, ok_int, ok_bl, ok_non, ok_tup0, ok_tI, ok_str, ok_t1, eq_int, eq_str, eq_t1, eq_tI1, ix40, ix41, ix42, ix43, List.length_map, eqk_int, eqk_str, eqk_bl, eqv_int, eqv_str, List.take_succ_cons, List.take_zero, List.drop_succ_cons, List.drop_zero, List.take_nil, List.drop_nil, ↓z_m1, ↓z_strV, ↓z_strS, strO_s, ↓z_intV, ↓z_intS, intO_i, ↓z_sl, ↓z_part0, ↓z_part, ↓z_join, ↓z_js0, ↓z_js1, gStr_i, gAll_l, gIn_ss, gStart_ss, gSplit_ss, gCut_s, gCut_l, gCut_t, gFmt_s, gFmt_i, gMul_si, gInt_s]
    have hn0 := cut_neg s
    have e1 : (toldS s).1 = if negS s = true then -numT ((partsS s).getD 0 Str.empty) else numT ((partsS s).getD 0 Str.empty) := rfl
    rw [e1] at hb
    by_cases hn : negS s = true
    · rw [hn] at hn0
      rw [if_pos (of_decide_eq_true hn0)]
      rw [if_pos hn] at hb
      exact ⟨by omega, hb _ rfl⟩
    · have hn : negS s = false := by simpa using hn
      rw [hn] at hn0
      rw [if_neg (of_decide_eq_false hn0)]
      rw [if_neg (by rw [hn]; decide)] at hb
      exact ⟨by omega, hb _ rfl⟩
  rintro E rfl
  refine seq_split (fun E => E = [some (.sh (.str s)), some (.sh (.str (bareS s))), some (.lst zs), some (oI (toldS s).1), some (oI (toldS s).2), none, y] ∧ (toldS s).2 ≠ 0) (fun b' hb => ?_) ?_
  · simp only [↓z_c, ↓z_var, ↓z_nil, ↓z_cons, ↓z_b, ↓z_vslot, ↓z_kslot, ↓z_kval, ↓z_lst, ↓z_tup, ↓z_call, ↓z_callKw, ↓z_tslot, ↓z_pslot, ↓z_tru, ↓z_tb, ↓z_nott, ↓z_andt, ↓z_ort, ↓z_ifx, ↓z_andv, ↓z_orv, ↓z_notv, ↓z_isi, ↓z_xf, ↓z_xis, ↓z_app, ↓z_chain, ↓z_fld, ↓z_ins, ↓z_dic, ↓z_next, ↓z_seq, ↓z_break, ↓z_cont, ↓z_expr, ↓z_ret, ↓z_rval, ↓z_rslot, ↓z_retn, ↓z_if, ↓z_asg, ↓z_setix, ↓z_par, ↓z_asgg, ↓z_gnm, ↓z_gunp, ↓z_gone, ↓z_gno, ↓z_raise, ↓z_try, ↓z_for, ↓z_iseq, ↓z_irg1, ↓z_izip, ↓z_sslot, ↓z_ocons, ↓z_lc, ↓z_yes, ↓z_w0, ↓z_ws, ↓x_vnil, ↓x_vval, ↓x_knil, ↓x_kcons, ↓x_tnil, ↓x_tval, ↓x_pval, ↓x_pnil, ↓x_snil, ↓x_sval, ↓x_onil, z_trN, z_trB, z_trI, z_trS, z_trT, z_trL, slotV_s, slotN_n, slotN_s, slotL_l, slotC_sh, slotC_lst, slotC_ins, one1_d, oneI_i, two2_o, two2D_d, someV_s, isBl_b, boolO_b, setV_s, insV_s, tryV_t, tryV_f, insD_i, unpD_t, unpD_l, gAdd_ii, gAdd_ss, gAdd_ll, gAdd_tt, gMul_ii, gMul_li, gSub_ii, gLt_ii, gLe_ii, gGt_ii, gGe_ii, gFdiv_ii, gMod_ii, gPow_ii, gNeg_i, gAbs_i, gInt_i, gInt_b, gGcd_ii, gLen_l, gLen_t, gLen_s, gIx_l, gIx_t, gIx_s, gIs_bb, gIs_dn, gEq_de, gTuple_l, gTuple_t, gList_l, gList_t, items_l, items_t, items_s, seq_l, seq_t, isNon_n, isNon_i, isNon_b, isNon_s, isNon_t, isNon_l, g2_ii, isK, knownD, flatD, view_sh', view_lst, flat_sh, flat_lst, List.map_cons, List.map_nil, List.replicate, List.cons_append, List.nil_append, List.append_nil, List.getElem?_cons_zero, List.getElem?_cons_succ, List.set_cons_zero, List.set_cons_succ, List.length_cons, List.length_nil, List.contains, List.elem_nil, List.elem_cons, List.any_cons, List.any_nil, List.all_nil, List.all_cons, Bool.or_false, Bool.false_eq_true, if_true, if_false, ite_true, ite_false, Nat.reduceSub, Nat.reduceAdd, Nat.reduceBEq, Nat.reduceEqDiff, Nat.reduceLeDiff, Nat.reduceLT, beq_self_eq_true, Bool.not_true, Bool.not_false, Bool.and_true, Bool.true_and, Bool.and_false, Bool.false_and, Bool.or_true, Bool.true_or, Bool.false_or, decide_eq_true_eq, Bool.not_eq_true', decide_eq_false_iff_not, true_and, and_true, reduceCtorEq, at_0, at_1, at_2, at_3, List.getD_cons_zero, List.getD_cons_succ, ok_int, ok_bl, ok_non, ok_tup0, ok_tI, ok_str, ok_t1, eq_int, eq_str, eq_t1, eq_tI1, ix40, ix41, ix42, ix43, List.length_map, eqk_int, eqk_str, eqk_bl, eqv_int, eqv_str, List.take_succ_cons, List.take_zero, List.drop_succ_cons, List.drop_zero, List.take_nil, List.drop_nil, ↓z_m1, ↓z_strV, ↓z_strS, strO_s, ↓z_intV, ↓z_intS, intO_i, ↓z_sl, ↓z_part0, ↓z_part, ↓z_join, ↓z_js0, ↓z_js1, gStr_i, gAll_l, gIn_ss, gStart_ss, gSplit_ss, gCut_s, gCut_l, gCut_t, gFmt_s, gFmt_i, gMul_si, gInt_s]
    by_cases h0 : (toldS s).2 = 0
    · rw [if_pos h0]
      exact bad (.inr h0)
    · rw [if_neg h0]
      exact hb _ ⟨rfl, h0⟩
  rintro E ⟨rfl, h0⟩
  rw [law_read s hf h0] at k
  simp only [↓z_c, ↓z_var, ↓z_nil, ↓z_cons, ↓z_b, ↓z_vslot, ↓z_kslot, ↓z_kval, ↓z_lst, ↓z_tup, ↓z_call, ↓z_callKw, ↓z_tslot, ↓z_pslot, ↓z_tru, ↓z_tb, ↓z_nott, ↓z_andt, ↓z_ort, ↓z_ifx, ↓z_andv, ↓z_orv, ↓z_notv, ↓z_isi, ↓z_xf, ↓z_xis, ↓z_app, ↓z_chain, ↓z_fld, ↓z_ins, ↓z_dic, ↓z_next, ↓z_seq, ↓z_break, ↓z_cont, ↓z_expr, ↓z_ret, ↓z_rval, ↓z_rslot, ↓z_retn, ↓z_if, ↓z_asg, ↓z_setix, ↓z_par, ↓z_asgg, ↓z_gnm, ↓z_gunp, ↓z_gone, ↓z_gno, ↓z_raise, ↓z_try, ↓z_for, ↓z_iseq, ↓z_irg1, ↓z_izip, ↓z_sslot, ↓z_ocons, ↓z_lc, ↓z_yes, ↓z_w0, ↓z_ws, ↓x_vnil, ↓x_vval, ↓x_knil, ↓x_kcons, ↓x_tnil, ↓x_tval, ↓x_pval, ↓x_pnil, ↓x_snil, ↓x_sval, ↓x_onil, z_trN, z_trB, z_trI, z_trS, z_trT, z_trL, slotV_s, slotN_n, slotN_s, slotL_l, slotC_sh, slotC_lst, slotC_ins, one1_d, oneI_i, two2_o, two2D_d, someV_s, isBl_b, boolO_b, setV_s, insV_s, tryV_t, tryV_f, insD_i, unpD_t, unpD_l, gAdd_ii, gAdd_ss, gAdd_ll, gAdd_tt, gMul_ii, gMul_li, gSub_ii, gLt_ii, gLe_ii, gGt_ii, gGe_ii, gFdiv_ii, gMod_ii, gPow_ii, gNeg_i, gAbs_i, gInt_i, gInt_b, gGcd_ii, gLen_l, gLen_t, gLen_s, gIx_l, gIx_t, gIx_s, gIs_bb, gIs_dn, gEq_de, gTuple_l, gTuple_t, gList_l, gList_t, items_l, items_t, items_s, seq_l, seq_t, isNon_n, isNon_i, isNon_b, isNon_s, isNon_t, isNon_l, g2_ii, isK, knownD, flatD, view_sh', view_lst, flat_sh, flat_lst, List.map_cons, List.map_nil, List.replicate, List.cons_append, List.nil_append, List.append_nil, List.getElem?_cons_zero, List.getElem?_cons_succ, List.set_cons_zero, List.set_cons_succ, List.length_cons, List.length_nil, List.contains, List.elem_nil, List.elem_cons, List.any_cons, List.any_nil, List.all_nil, List.all_cons, Bool.or_false, Bool.false_eq_true, if_true, if_false, ite_true, ite_false, Nat.reduceSub, Nat.reduceAdd, Nat.reduceBEq, Nat.reduceEqDiff, Nat.reduceLeDiff, Nat.reduceLT, beq_self_eq_true, Bool.not_true, Bool.not_false, Bool.and_true, Bool.true_and, Bool.and_false, Bool.false_and, Bool.or_true, Bool.true_or, Bool.false_or, decide_eq_true_eq, Bool.not_eq_true', decide_eq_false_iff_not, true_and, and_true, reduceCtorEq, at_0, at_1, at_2, at_3, List.getD_cons_zero, List.getD_cons_succ, ok_int, ok_bl, ok_non, ok_tup0, ok_tI, ok_str, ok_t1, eq_int, eq_str, eq_t1, eq_tI1, ix40, ix41, ix42, ix43, List.length_map, eqk_int, eqk_str, eqk_bl, eqv_int, eqv_str, List.take_succ_cons, List.take_zero, List.drop_succ_cons, List.drop_zero, List.take_nil, List.drop_nil, ↓z_m1, ↓z_strV, ↓z_strS, strO_s, ↓z_intV, ↓z_intS, intO_i, ↓z_sl, ↓z_part0, ↓z_part, ↓z_join, ↓z_js0, ↓z_js1, gStr_i, gAll_l, gIn_ss, gStart_ss, gSplit_ss, gCut_s, gCut_l, gCut_t, gFmt_s, gFmt_i, gMul_si, gInt_s]
  refine ⟨_, _, rfl, h0, w1.mono (by decide), w2.mono (by decide), ?_⟩
  simp only [↓z_c, ↓z_var, ↓z_nil, ↓z_cons, ↓z_b, ↓z_vslot, ↓z_kslot, ↓z_kval, ↓z_lst, ↓z_tup, ↓z_call, ↓z_callKw, ↓z_tslot, ↓z_pslot, ↓z_tru, ↓z_tb, ↓z_nott, ↓z_andt, ↓z_ort, ↓z_ifx, ↓z_andv, ↓z_orv, ↓z_notv, ↓z_isi, ↓z_xf, ↓z_xis, ↓z_app, ↓z_chain, ↓z_fld, ↓z_ins, ↓z_dic, ↓z_next, ↓z_seq, ↓z_break, ↓z_cont, ↓z_expr, ↓z_ret, ↓z_rval, ↓z_rslot, ↓z_retn, ↓z_if, ↓z_asg, ↓z_setix, ↓z_par, ↓z_asgg, ↓z_gnm, ↓z_gunp, ↓z_gone, ↓z_gno, ↓z_raise, ↓z_try, ↓z_for, ↓z_iseq, ↓z_irg1, ↓z_izip, ↓z_sslot, ↓z_ocons, ↓z_lc, ↓z_yes, ↓z_w0, ↓z_ws, ↓x_vnil, ↓x_vval, ↓x_knil, ↓x_kcons, ↓x_tnil, ↓x_tval, ↓x_pval, ↓x_pnil, ↓x_snil, ↓x_sval, ↓x_onil, z_trN, z_trB, z_trI, z_trS, z_trT, z_trL, slotV_s, slotN_n, slotN_s, slotL_l, slotC_sh, slotC_lst, slotC_ins, one1_d, oneI_i, two2_o, two2D_d, someV_s, isBl_b, boolO_b, setV_s, insV_s, tryV_t, tryV_f, insD_i, unpD_t, unpD_l, gAdd_ii, gAdd_ss, gAdd_ll, gAdd_tt, gMul_ii, gMul_li, gSub_ii, gLt_ii, gLe_ii, gGt_ii, gGe_ii, gFdiv_ii, gMod_ii, gPow_ii, gNeg_i, gAbs_i, gInt_i, gInt_b, gGcd_ii, gLen_l, gLen_t, gLen_s, gIx_l, gIx_t, gIx_s, gIs_bb, gIs_dn, gEq_de, gTuple_l, gTuple_t, gList_l, gList_t, items_l, items_t, items_s, seq_l, seq_t, isNon_n, isNon_i, isNon_b, isNon_s, isNon_t, isNon_l, g2_ii, isK, knownD, flatD, view_sh', view_lst, flat_sh, flat_lst, List.map_cons, List.map_nil, List.replicate, List.cons_append, List.nil_append, List.append_nil, List.getElem?_cons_zero, List.getElem?_cons_succ, List.set_cons_zero, List.set_cons_succ, List.length_cons, List.length_nil, List.contains, List.elem_nil, List.elem_cons, List.any_cons, List.any_nil, List.all_nil, List.all_cons, Bool.or_false, Bool.false_eq_true, if_true, if_false, ite_true, ite_false, Nat.reduceSub, Nat.reduceAdd, Nat.reduceBEq, Nat.reduceEqDiff, Nat.reduceLeDiff, Nat.reduceLT, beq_self_eq_true, Bool.not_true, Bool.not_false, Bool.and_true, Bool.true_and, Bool.and_false, Bool.false_and, Bool.or_true, Bool.true_or, Bool.false_or, decide_eq_true_eq, Bool.not_eq_true', decide_eq_false_iff_not, true_and, and_true, reduceCtorEq, at_0, at_1, at_2, at_3, List.getD_cons_zero, List.getD_cons_succ, ok_int, ok_bl, ok_non, ok_tup0, ok_tI, ok_str, ok_t1, eq_int, eq_str, eq_t1, eq_tI1, ix40, ix41, ix42, ix43, List.length_map, eqk_int, eqk_str, eqk_bl, eqv_int, eqv_str, List.take_succ_cons, List.take_zero, List.drop_succ_cons, List.drop_zero, List.take_nil, List.drop_nil, ↓z_m1, ↓z_strV, ↓z_strS, strO_s, ↓z_intV, ↓z_intS, intO_i, ↓z_sl, ↓z_part0, ↓z_part, ↓z_join, ↓z_js0, ↓z_js1, gStr_i, gAll_l, gIn_ss, gStart_ss, gSplit_ss, gCut_s, gCut_l, gCut_t, gFmt_s, gFmt_i, gMul_si, gInt_s]
  refine ⟨low (toldS s).1 (toldS s).2, rfl, (low_rt h0 w1 w2).mono (by decide), ?_⟩
  simp only [↓z_c, ↓z_var, ↓z_nil, ↓z_cons, ↓z_b, ↓z_vslot, ↓z_kslot, ↓z_kval, ↓z_lst, ↓z_tup, ↓z_call, ↓z_callKw, ↓z_tslot, ↓z_pslot, ↓z_tru, ↓z_tb, ↓z_nott, ↓z_andt, ↓z_ort, ↓z_ifx, ↓z_andv, ↓z_orv, ↓z_notv, ↓z_isi, ↓z_xf, ↓z_xis, ↓z_app, ↓z_chain, ↓z_fld, ↓z_ins, ↓z_dic, ↓z_next, ↓z_seq, ↓z_break, ↓z_cont, ↓z_expr, ↓z_ret, ↓z_rval, ↓z_rslot, ↓z_retn, ↓z_if, ↓z_asg, ↓z_setix, ↓z_par, ↓z_asgg, ↓z_gnm, ↓z_gunp, ↓z_gone, ↓z_gno, ↓z_raise, ↓z_try, ↓z_for, ↓z_iseq, ↓z_irg1, ↓z_izip, ↓z_sslot, ↓z_ocons, ↓z_lc, ↓z_yes, ↓z_w0, ↓z_ws, ↓x_vnil, ↓x_vval, ↓x_knil, ↓x_kcons, ↓x_tnil, ↓x_tval, ↓x_pval, ↓x_pnil, ↓x_snil, ↓x_sval, ↓x_onil, z_trN, z_trB, z_trI, z_trS, z_trT, z_trL, slotV_s, slotN_n, slotN_s, slotL_l, slotC_sh, slotC_lst, slotC_ins, one1_d, oneI_i, two2_o, two2D_d, someV_s, isBl_b, boolO_b, setV_s, insV_s, tryV_t, tryV_f, insD_i, unpD_t, unpD_l, gAdd_ii, gAdd_ss, gAdd_ll, gAdd_tt, gMul_ii, gMul_li, gSub_ii, gLt_ii, gLe_ii, gGt_ii, gGe_ii, gFdiv_ii, gMod_ii, gPow_ii, gNeg_i, gAbs_i, gInt_i, gInt_b, gGcd_ii, gLen_l, gLen_t, gLen_s, gIx_l, gIx_t, gIx_s, gIs_bb, gIs_dn, gEq_de, gTuple_l, gTuple_t, gList_l, gList_t, items_l, items_t, items_s, seq_l, seq_t, isNon_n, isNon_i, isNon_b, isNon_s, isNon_t, isNon_l, g2_ii, isK, knownD, flatD, view_sh', view_lst, flat_sh, flat_lst, List.map_cons, List.map_nil, List.replicate, List.cons_append, List.nil_append, List.append_nil, List.getElem?_cons_zero, List.getElem?_cons_succ, List.set_cons_zero, List.set_cons_succ, List.length_cons, List.length_nil, List.contains, List.elem_nil, List.elem_cons, List.any_cons, List.any_nil, List.all_nil, List.all_cons, Bool.or_false, Bool.false_eq_true, if_true, if_false, ite_true, ite_false, Nat.reduceSub, Nat.reduceAdd, Nat.reduceBEq, Nat.reduceEqDiff, Nat.reduceLeDiff, Nat.reduceLT, beq_self_eq_true, Bool.not_true, Bool.not_false, Bool.and_true, Bool.true_and, Bool.and_false, Bool.false_and, Bool.or_true, Bool.true_or, Bool.false_or, decide_eq_true_eq, Bool.not_eq_true', decide_eq_false_iff_not, true_and, and_true, reduceCtorEq, at_0, at_1, at_2, at_3, List.getD_cons_zero, List.getD_cons_succ, ok_int, ok_bl, ok_non, ok_tup0, ok_tI, ok_str, ok_t1, eq_int, eq_str, eq_t1, eq_tI1, ix40, ix41, ix42, ix43, List.length_map, eqk_int, eqk_str, eqk_bl, eqv_int, eqv_str, List.take_succ_cons, List.take_zero, List.drop_succ_cons, List.drop_zero, List.take_nil, List.drop_nil, ↓z_m1, ↓z_strV, ↓z_strS, strO_s, ↓z_intV, ↓z_intS, intO_i, ↓z_sl, ↓z_part0, ↓z_part, ↓z_join, ↓z_js0, ↓z_js1, gStr_i, gAll_l, gIn_ss, gStart_ss, gSplit_ss, gCut_s, gCut_l, gCut_t, gFmt_s, gFmt_i, gMul_si, gInt_s]
  by_cases ht : textQ (low (toldS s).1 (toldS s).2) = s
  · rw [if_pos ht] at k ⊢
    exact k
  · rw [if_neg ht] at k ⊢
    exact k

end K02

set_option Elab.async false
set_option linter.all false
set_option maxRecDepth 100000
set_option maxHeartbeats 2000000
set_option autoImplicit false
namespace K02
open PySem Pv
theorem same_self (q : Int × Int) : sameD (dR q) q = true := by simp [sameD, dR]
theorem txt_ok : PyData.strOk "text" = true := by decide +kernel
theorem eqk_t : eqOk (.tup [.str "text"]) (.tup [.str "text"]) = true := eqOk_of (by rw [ok_t1]; exact txt_ok) (by rw [ok_t1]; exact txt_ok)
/-- both judges of a text agree -/
theorem text_short {q : Int × Int} (h : Rt 110 q) : (textQ q).length ≤ 223 := by
  have l1 : (intS q.1).length ≤ 111 := by
    unfold intS; rw [PySem.ofString_length]
    exact int_text_length_le (by decide) (PySem.Flt.log2_lt_of (by decide) h.1)
  have l2 : (intS q.2).length ≤ 111 := by
    unfold intS; rw [PySem.ofString_length]
    exact int_text_length_le (by decide) (PySem.Flt.log2_lt_of (by decide) h.2.1)
  unfold textQ
  split
  · omega
  · rw [app_len, app_len, slash_len]; omega
def signs : List Str := ["-", "/", "0", "1", "2", " ", "+", ".", "x", "", "/1", "--", "_", "\n", "3/"]
theorem signs_short : ∀ s ∈ signs, s.length ≤ 2 := by decide +kernel
theorem sign_at {n : Int} (h0 : 0 ≤ n) (h1 : n < 15) : ∃ s ∈ signs, L2.atI (signs.map D.str) n = some (.str s) := by
  have l : n.toNat < signs.length := by show n.toNat < 15; omega
  refine ⟨signs[n.toNat]'l, List.getElem_mem _, ?_⟩
  rw [at_int h0 (by rw [List.length_map]; show n < 15; exact h1), List.getElem?_map, List.getElem?_eq_getElem l]
  rfl
theorem foldl_tl (a : Array Nat) : ∀ (n : Nat) (b : Array Nat), ((List.replicate n a).foldl (· ++ ·) b).toList = b.toList ++ (List.replicate n a.toList).flatten
  | 0, b => by simp
  | n + 1, b => by
    rw [List.replicate_succ, List.foldl_cons, foldl_tl a n, List.replicate_succ, List.flatten_cons, Array.toList_append, List.append_assoc]
theorem rep_tl {s : Str} {c : Nat} (h : s.cps.toList = [c]) (m : Nat) : (repS s (m : Int)).cps.toList = List.replicate m c := by
  show ((List.replicate (m : Int).toNat s.cps).foldl (· ++ ·) #[]).toList = _
  rw [foldl_tl, h, Int.toNat_natCast]
  have : ∀ n : Nat, (List.replicate n [c]).flatten = List.replicate n c := fun n => by
    induction n with
    | zero => rfl
    | succ n ih => rw [List.replicate_succ, List.flatten_cons, ih, List.replicate_succ]; rfl
  rw [this]
  simp
theorem c_law : ∀ os KR KE, S_law os KR KE → bodyS 14 [] 1 D_law os KR KE := by
  rintro os KR KE ⟨ns, rfl, hl, k⟩
  have big : (10300 : Nat) ≤ sizeLine := by decide
  refine x_body rfl (by simp) ?_
  simp only [List.map_cons, List.map_nil, Nat.reduceSub, List.replicate, List.cons_append, List.nil_append]
  unfold D_law
  generalize hX : O.sh (D.lst (List.map D.int ns)) = xs at k ⊢
  have hX' : xs = O.sh (D.lst (List.map D.int ns)) := hX.symm
  refine seq_split (fun E => ∃ l, E = [some xs, some (.lst l), none, none, none, none, none, none, none, none, none, none, none, none] ∧ Hand (.lst l)) (fun b' hb => ?_) ?_
  · subst hX'
    simp only [↓z_c, ↓z_var, ↓z_nil, ↓z_cons, ↓z_b, ↓z_vslot, ↓z_kslot, ↓z_kval, ↓z_lst, ↓z_tup, ↓z_call, ↓z_callKw, ↓z_tslot, ↓z_pslot, ↓z_tru, ↓z_tb, ↓z_nott, ↓z_andt, ↓z_ort, ↓z_ifx, ↓z_andv, ↓z_orv, ↓z_notv, ↓z_isi, ↓z_xf, ↓z_xis, ↓z_app, ↓z_chain, ↓z_fld, ↓z_ins, ↓z_dic, ↓z_next, ↓z_seq, ↓z_break, ↓z_cont, ↓z_expr, ↓z_ret, ↓z_rval, ↓z_rslot, ↓z_retn, ↓z_if, ↓z_asg, ↓z_setix, ↓z_par, ↓z_asgg, ↓z_gnm, ↓z_gunp, ↓z_gone, ↓z_gno, ↓z_raise, ↓z_try, ↓z_for, ↓z_iseq, ↓z_irg1, ↓z_izip, ↓z_sslot, ↓z_ocons, ↓z_lc, ↓z_yes, ↓z_w0, ↓z_ws, ↓x_vnil, ↓x_vval, ↓x_knil, ↓x_kcons, ↓x_tnil, ↓x_tval, ↓x_pval, ↓x_pnil, ↓x_snil, ↓x_sval, ↓x_onil, z_trN, z_trB, z_trI, z_trS, z_trT, z_trL, slotV_s, slotN_n, slotN_s, slotL_l, slotC_sh, slotC_lst, slotC_ins, one1_d, oneI_i, two2_o, two2D_d, someV_s, isBl_b, boolO_b, setV_s, insV_s, tryV_t, tryV_f, insD_i, unpD_t, unpD_l, gAdd_ii, gAdd_ss, gAdd_ll, gAdd_tt, gMul_ii, gMul_li, gSub_ii, gLt_ii, gLe_ii, gGt_ii, gGe_ii, gFdiv_ii, gMod_ii, gPow_ii, gNeg_i, gAbs_i, gInt_i, gInt_b, gGcd_ii, gLen_l, gLen_t, gLen_s, gIx_l, gIx_t, gIx_s, gIs_bb, gIs_dn, gEq_de, gTuple_l, gTuple_t, gList_l, gList_t, items_l, items_t, items_s, seq_l, seq_t, isNon_n, isNon_i, isNon_b, isNon_s, isNon_t, isNon_l, g2_ii, isK, knownD, flatD, view_sh', view_lst, flat_sh, flat_lst, List.map_cons, List.map_nil, List.replicate, List.cons_append, List.nil_append, List.append_nil, List.getElem?_cons_zero, List.getElem?_cons_succ, List.set_cons_zero, List.set_cons_succ, List.length_cons, List.length_nil, List.contains, List.elem_nil, List.elem_cons, List.any_cons, List.any_nil, List.all_nil, List.all_cons, Bool.or_false, Bool.false_eq_true, if_true, if_false, ite_true, ite_false, Nat.reduceSub, Nat.reduceAdd, Nat.reduceBEq, Nat.reduceEqDiff, Nat.reduceLeDiff, Nat.reduceLT, beq_self_eq_true, Bool.not_true, Bool.not_false, Bool.and_true, Bool.true_and, Bool.and_false, Bool.false_and, Bool.or_true, Bool.true_or, Bool.false_or, decide_eq_true_eq, Bool.not_eq_true', decide_eq_false_iff_not, true_and, and_true, reduceCtorEq, at_0, at_1, at_2, at_3, List.getD_cons_zero, List.getD_cons_succ, ok_int, ok_bl, ok_non, ok_tup0, ok_tI, ok_str, ok_t1, eq_int, eq_str, eq_t1, eq_tI1, ix40, ix41, ix42, ix43, List.length_map, eqk_int, eqk_str, eqk_bl, eqv_int, eqv_str, List.take_succ_cons, List.take_zero, List.drop_succ_cons, List.drop_zero, List.take_nil, List.drop_nil, ↓z_m1, ↓z_strV, ↓z_strS, strO_s, ↓z_intV, ↓z_intS, intO_i, ↓z_sl, ↓z_part0, ↓z_part, ↓z_join, ↓z_js0, ↓z_js1, gStr_i, gAll_l, gIn_ss, gStart_ss, gSplit_ss, gCut_s, gCut_l, gCut_t, gFmt_s, gFmt_i, gMul_si, gInt_s]
    refine ⟨ns, rfl, hl, fun l h => ?_⟩
    simp only [↓z_c, ↓z_var, ↓z_nil, ↓z_cons, ↓z_b, ↓z_vslot, ↓z_kslot, ↓z_kval, ↓z_lst, ↓z_tup, ↓z_call, ↓z_callKw, ↓z_tslot, ↓z_pslot, ↓z_tru, ↓z_tb, ↓z_nott, ↓z_andt, ↓z_ort, ↓z_ifx, ↓z_andv, ↓z_orv, ↓z_notv, ↓z_isi, ↓z_xf, ↓z_xis, ↓z_app, ↓z_chain, ↓z_fld, ↓z_ins, ↓z_dic, ↓z_next, ↓z_seq, ↓z_break, ↓z_cont, ↓z_expr, ↓z_ret, ↓z_rval, ↓z_rslot, ↓z_retn, ↓z_if, ↓z_asg, ↓z_setix, ↓z_par, ↓z_asgg, ↓z_gnm, ↓z_gunp, ↓z_gone, ↓z_gno, ↓z_raise, ↓z_try, ↓z_for, ↓z_iseq, ↓z_irg1, ↓z_izip, ↓z_sslot, ↓z_ocons, ↓z_lc, ↓z_yes, ↓z_w0, ↓z_ws, ↓x_vnil, ↓x_vval, ↓x_knil, ↓x_kcons, ↓x_tnil, ↓x_tval, ↓x_pval, ↓x_pnil, ↓x_snil, ↓x_sval, ↓x_onil, z_trN, z_trB, z_trI, z_trS, z_trT, z_trL, slotV_s, slotN_n, slotN_s, slotL_l, slotC_sh, slotC_lst, slotC_ins, one1_d, oneI_i, two2_o, two2D_d, someV_s, isBl_b, boolO_b, setV_s, insV_s, tryV_t, tryV_f, insD_i, unpD_t, unpD_l, gAdd_ii, gAdd_ss, gAdd_ll, gAdd_tt, gMul_ii, gMul_li, gSub_ii, gLt_ii, gLe_ii, gGt_ii, gGe_ii, gFdiv_ii, gMod_ii, gPow_ii, gNeg_i, gAbs_i, gInt_i, gInt_b, gGcd_ii, gLen_l, gLen_t, gLen_s, gIx_l, gIx_t, gIx_s, gIs_bb, gIs_dn, gEq_de, gTuple_l, gTuple_t, gList_l, gList_t, items_l, items_t, items_s, seq_l, seq_t, isNon_n, isNon_i, isNon_b, isNon_s, isNon_t, isNon_l, g2_ii, isK, knownD, flatD, view_sh', view_lst, flat_sh, flat_lst, List.map_cons, List.map_nil, List.replicate, List.cons_append, List.nil_append, List.append_nil, List.getElem?_cons_zero, List.getElem?_cons_succ, List.set_cons_zero, List.set_cons_succ, List.length_cons, List.length_nil, List.contains, List.elem_nil, List.elem_cons, List.any_cons, List.any_nil, List.all_nil, List.all_cons, Bool.or_false, Bool.false_eq_true, if_true, if_false, ite_true, ite_false, Nat.reduceSub, Nat.reduceAdd, Nat.reduceBEq, Nat.reduceEqDiff, Nat.reduceLeDiff, Nat.reduceLT, beq_self_eq_true, Bool.not_true, Bool.not_false, Bool.and_true, Bool.true_and, Bool.and_false, Bool.false_and, Bool.or_true, Bool.true_or, Bool.false_or, decide_eq_true_eq, Bool.not_eq_true', decide_eq_false_iff_not, true_and, and_true, reduceCtorEq, at_0, at_1, at_2, at_3, List.getD_cons_zero, List.getD_cons_succ, ok_int, ok_bl, ok_non, ok_tup0, ok_tI, ok_str, ok_t1, eq_int, eq_str, eq_t1, eq_tI1, ix40, ix41, ix42, ix43, List.length_map, eqk_int, eqk_str, eqk_bl, eqv_int, eqv_str, List.take_succ_cons, List.take_zero, List.drop_succ_cons, List.drop_zero, List.take_nil, List.drop_nil, ↓z_m1, ↓z_strV, ↓z_strS, strO_s, ↓z_intV, ↓z_intS, intO_i, ↓z_sl, ↓z_part0, ↓z_part, ↓z_join, ↓z_js0, ↓z_js1, gStr_i, gAll_l, gIn_ss, gStart_ss, gSplit_ss, gCut_s, gCut_l, gCut_t, gFmt_s, gFmt_i, gMul_si, gInt_s]
    exact hb _ ⟨l, rfl, h⟩
  rintro E ⟨l, rfl, h⟩
  refine seq_split (fun E => ∃ l y2 y3 y4 y5 y6 y7 y8 y9 y10, E = [some xs, some (.lst l), y2, y3, y4, y5, y6, y7, y8, y9, y10, none, none, none] ∧ Hand (.lst l)) (fun b' hb => ?_) ?_
  · rw [z_seq, z_for, z_irg1, z_c]
    simp only [x_vval, x_vnil, view_sh', oneI_i]
    refine ⟨⟨by decide, by decide⟩, rfl, ?_⟩
    refine forD_inv (fun _ E => ∃ l y2 y3 y4 y5 y6 y7 y8 y9 y10, E = [some xs, some (.lst l), y2, y3, y4, y5, y6, y7, y8, y9, y10, none, none, none] ∧ Hand (.lst l)) (fun _ _ _ => holds0) 0 ?_ ⟨l, _, _, _, _, _, _, _, _, _, rfl, h⟩ (fun E h => hb E h)
    rintro i d E tail hd ⟨l, y2, y3, y4, y5, y6, y7, y8, y9, y10, rfl, h⟩ kt
    simp only [z_gnm, List.set_cons_succ, List.set_cons_zero]
    generalize some (O.sh d) = y2
    refine seq_split (fun E => ∃ (l : List O) (q : Int × Int), E = [some xs, some (.lst l), y2, some (.sh (dR q)), y4, y5, y6, y7, y8, y9, y10, none, none, none] ∧ Hand (.lst l) ∧ Rt 110 q) (fun b' hb => ?_) ?_
    · simp only [↓z_c, ↓z_var, ↓z_nil, ↓z_cons, ↓z_b, ↓z_vslot, ↓z_kslot, ↓z_kval, ↓z_lst, ↓z_tup, ↓z_call, ↓z_callKw, ↓z_tslot, ↓z_pslot, ↓z_tru, ↓z_tb, ↓z_nott, ↓z_andt, ↓z_ort, ↓z_ifx, ↓z_andv, ↓z_orv, ↓z_notv, ↓z_isi, ↓z_xf, ↓z_xis, ↓z_app, ↓z_chain, ↓z_fld, ↓z_ins, ↓z_dic, ↓z_next, ↓z_seq, ↓z_break, ↓z_cont, ↓z_expr, ↓z_ret, ↓z_rval, ↓z_rslot, ↓z_retn, ↓z_if, ↓z_asg, ↓z_setix, ↓z_par, ↓z_asgg, ↓z_gnm, ↓z_gunp, ↓z_gone, ↓z_gno, ↓z_raise, ↓z_try, ↓z_for, ↓z_iseq, ↓z_irg1, ↓z_izip, ↓z_sslot, ↓z_ocons, ↓z_lc, ↓z_yes, ↓z_w0, ↓z_ws, ↓x_vnil, ↓x_vval, ↓x_knil, ↓x_kcons, ↓x_tnil, ↓x_tval, ↓x_pval, ↓x_pnil, ↓x_snil, ↓x_sval, ↓x_onil, z_trN, z_trB, z_trI, z_trS, z_trT, z_trL, slotV_s, slotN_n, slotN_s, slotL_l, slotC_sh, slotC_lst, slotC_ins, one1_d, oneI_i, two2_o, two2D_d, someV_s, isBl_b, boolO_b, setV_s, insV_s, tryV_t, tryV_f, insD_i, unpD_t, unpD_l, gAdd_ii, gAdd_ss, gAdd_ll, gAdd_tt, gMul_ii, gMul_li, gSub_ii, gLt_ii, gLe_ii, gGt_ii, gGe_ii, gFdiv_ii, gMod_ii, gPow_ii, gNeg_i, gAbs_i, gInt_i, gInt_b, gGcd_ii, gLen_l, gLen_t, gLen_s, gIx_l, gIx_t, gIx_s, gIs_bb, gIs_dn, gEq_de, gTuple_l, gTuple_t, gList_l, gList_t, items_l, items_t, items_s, seq_l, seq_t, isNon_n, isNon_i, isNon_b, isNon_s, isNon_t, isNon_l, g2_ii, isK, knownD, flatD, view_sh', view_lst, flat_sh, flat_lst, List.map_cons, List.map_nil, List.replicate, List.cons_append, List.nil_append, List.append_nil, List.getElem?_cons_zero, List.getElem?_cons_succ, List.set_cons_zero, List.set_cons_succ, List.length_cons, List.length_nil, List.contains, List.elem_nil, List.elem_cons, List.any_cons, List.any_nil, List.all_nil, List.all_cons, Bool.or_false, Bool.false_eq_true, if_true, if_false, ite_true, ite_false, Nat.reduceSub, Nat.reduceAdd, Nat.reduceBEq, Nat.reduceEqDiff, Nat.reduceLeDiff, Nat.reduceLT, beq_self_eq_true, Bool.not_true, Bool.not_false, Bool.and_true, Bool.true_and, Bool.and_false, Bool.false_and, Bool.or_true, Bool.true_or, Bool.false_or, decide_eq_true_eq, Bool.not_eq_true', decide_eq_false_iff_not, true_and, and_true, reduceCtorEq, at_0, at_1, at_2, at_3, List.getD_cons_zero, List.getD_cons_succ, ok_int, ok_bl, ok_non, ok_tup0, ok_tI, ok_str, ok_t1, eq_int, eq_str, eq_t1, eq_tI1, ix40, ix41, ix42, ix43, List.length_map, eqk_int, eqk_str, eqk_bl, eqv_int, eqv_str, List.take_succ_cons, List.take_zero, List.drop_succ_cons, List.drop_zero, List.take_nil, List.drop_nil, ↓z_m1, ↓z_strV, ↓z_strS, strO_s, ↓z_intV, ↓z_intS, intO_i, ↓z_sl, ↓z_part0, ↓z_part, ↓z_join, ↓z_js0, ↓z_js1, gStr_i, gAll_l, gIn_ss, gStart_ss, gSplit_ss, gCut_s, gCut_l, gCut_t, gFmt_s, gFmt_i, gMul_si, gInt_s]
      refine ⟨l, rfl, h, fun q l hq h => ?_⟩
      simp only [↓z_c, ↓z_var, ↓z_nil, ↓z_cons, ↓z_b, ↓z_vslot, ↓z_kslot, ↓z_kval, ↓z_lst, ↓z_tup, ↓z_call, ↓z_callKw, ↓z_tslot, ↓z_pslot, ↓z_tru, ↓z_tb, ↓z_nott, ↓z_andt, ↓z_ort, ↓z_ifx, ↓z_andv, ↓z_orv, ↓z_notv, ↓z_isi, ↓z_xf, ↓z_xis, ↓z_app, ↓z_chain, ↓z_fld, ↓z_ins, ↓z_dic, ↓z_next, ↓z_seq, ↓z_break, ↓z_cont, ↓z_expr, ↓z_ret, ↓z_rval, ↓z_rslot, ↓z_retn, ↓z_if, ↓z_asg, ↓z_setix, ↓z_par, ↓z_asgg, ↓z_gnm, ↓z_gunp, ↓z_gone, ↓z_gno, ↓z_raise, ↓z_try, ↓z_for, ↓z_iseq, ↓z_irg1, ↓z_izip, ↓z_sslot, ↓z_ocons, ↓z_lc, ↓z_yes, ↓z_w0, ↓z_ws, ↓x_vnil, ↓x_vval, ↓x_knil, ↓x_kcons, ↓x_tnil, ↓x_tval, ↓x_pval, ↓x_pnil, ↓x_snil, ↓x_sval, ↓x_onil, z_trN, z_trB, z_trI, z_trS, z_trT, z_trL, slotV_s, slotN_n, slotN_s, slotL_l, slotC_sh, slotC_lst, slotC_ins, one1_d, oneI_i, two2_o, two2D_d, someV_s, isBl_b, boolO_b, setV_s, insV_s, tryV_t, tryV_f, insD_i, unpD_t, unpD_l, gAdd_ii, gAdd_ss, gAdd_ll, gAdd_tt, gMul_ii, gMul_li, gSub_ii, gLt_ii, gLe_ii, gGt_ii, gGe_ii, gFdiv_ii, gMod_ii, gPow_ii, gNeg_i, gAbs_i, gInt_i, gInt_b, gGcd_ii, gLen_l, gLen_t, gLen_s, gIx_l, gIx_t, gIx_s, gIs_bb, gIs_dn, gEq_de, gTuple_l, gTuple_t, gList_l, gList_t, items_l, items_t, items_s, seq_l, seq_t, isNon_n, isNon_i, isNon_b, isNon_s, isNon_t, isNon_l, g2_ii, isK, knownD, flatD, view_sh', view_lst, flat_sh, flat_lst, List.map_cons, List.map_nil, List.replicate, List.cons_append, List.nil_append, List.append_nil, List.getElem?_cons_zero, List.getElem?_cons_succ, List.set_cons_zero, List.set_cons_succ, List.length_cons, List.length_nil, List.contains, List.elem_nil, List.elem_cons, List.any_cons, List.any_nil, List.all_nil, List.all_cons, Bool.or_false, Bool.false_eq_true, if_true, if_false, ite_true, ite_false, Nat.reduceSub, Nat.reduceAdd, Nat.reduceBEq, Nat.reduceEqDiff, Nat.reduceLeDiff, Nat.reduceLT, beq_self_eq_true, Bool.not_true, Bool.not_false, Bool.and_true, Bool.true_and, Bool.and_false, Bool.false_and, Bool.or_true, Bool.true_or, Bool.false_or, decide_eq_true_eq, Bool.not_eq_true', decide_eq_false_iff_not, true_and, and_true, reduceCtorEq, at_0, at_1, at_2, at_3, List.getD_cons_zero, List.getD_cons_succ, ok_int, ok_bl, ok_non, ok_tup0, ok_tI, ok_str, ok_t1, eq_int, eq_str, eq_t1, eq_tI1, ix40, ix41, ix42, ix43, List.length_map, eqk_int, eqk_str, eqk_bl, eqv_int, eqv_str, List.take_succ_cons, List.take_zero, List.drop_succ_cons, List.drop_zero, List.take_nil, List.drop_nil, ↓z_m1, ↓z_strV, ↓z_strS, strO_s, ↓z_intV, ↓z_intS, intO_i, ↓z_sl, ↓z_part0, ↓z_part, ↓z_join, ↓z_js0, ↓z_js1, gStr_i, gAll_l, gIn_ss, gStart_ss, gSplit_ss, gCut_s, gCut_l, gCut_t, gFmt_s, gFmt_i, gMul_si, gInt_s]
      exact hb _ ⟨l, q, rfl, h, hq⟩
    rintro E ⟨l, q, rfl, h, hq⟩
    have hts := text_short hq
    have hrd := read_text hq (pieces_small hq)
    refine seq_split (fun E => E = [some xs, some (.lst l), y2, some (.sh (dR q)), some (.sh (.str (textQ q))), y5, y6, y7, y8, y9, y10, none, none, none]) (fun b' hb => ?_) ?_
    · simp only [↓z_c, ↓z_var, ↓z_nil, ↓z_cons, ↓z_b, ↓z_vslot, ↓z_kslot, ↓z_kval, ↓z_lst, ↓z_tup, ↓z_call, ↓z_callKw, ↓z_tslot, ↓z_pslot, ↓z_tru, ↓z_tb, ↓z_nott, ↓z_andt, ↓z_ort, ↓z_ifx, ↓z_andv, ↓z_orv, ↓z_notv, ↓z_isi, ↓z_xf, ↓z_xis, ↓z_app, ↓z_chain, ↓z_fld, ↓z_ins, ↓z_dic, ↓z_next, ↓z_seq, ↓z_break, ↓z_cont, ↓z_expr, ↓z_ret, ↓z_rval, ↓z_rslot, ↓z_retn, ↓z_if, ↓z_asg, ↓z_setix, ↓z_par, ↓z_asgg, ↓z_gnm, ↓z_gunp, ↓z_gone, ↓z_gno, ↓z_raise, ↓z_try, ↓z_for, ↓z_iseq, ↓z_irg1, ↓z_izip, ↓z_sslot, ↓z_ocons, ↓z_lc, ↓z_yes, ↓z_w0, ↓z_ws, ↓x_vnil, ↓x_vval, ↓x_knil, ↓x_kcons, ↓x_tnil, ↓x_tval, ↓x_pval, ↓x_pnil, ↓x_snil, ↓x_sval, ↓x_onil, z_trN, z_trB, z_trI, z_trS, z_trT, z_trL, slotV_s, slotN_n, slotN_s, slotL_l, slotC_sh, slotC_lst, slotC_ins, one1_d, oneI_i, two2_o, two2D_d, someV_s, isBl_b, boolO_b, setV_s, insV_s, tryV_t, tryV_f, insD_i, unpD_t, unpD_l, gAdd_ii, gAdd_ss, gAdd_ll, gAdd_tt, gMul_ii, gMul_li, gSub_ii, gLt_ii, gLe_ii, gGt_ii, gGe_ii, gFdiv_ii, gMod_ii, gPow_ii, gNeg_i, gAbs_i, gInt_i, gInt_b, gGcd_ii, gLen_l, gLen_t, gLen_s, gIx_l, gIx_t, gIx_s, gIs_bb, gIs_dn, gEq_de, gTuple_l, gTuple_t, gList_l, gList_t, items_l, items_t, items_s, seq_l, seq_t, isNon_n, isNon_i, isNon_b, isNon_s, isNon_t, isNon_l, g2_ii, isK, knownD, flatD, view_sh', view_lst, flat_sh, flat_lst, List.map_cons, List.map_nil, List.replicate, List.cons_append, List.nil_append, List.append_nil, List.getElem?_cons_zero, List.getElem?_cons_succ, List.set_cons_zero, List.set_cons_succ, List.length_cons, List.length_nil, List.contains, List.elem_nil, List.elem_cons, List.any_cons, List.any_nil, List.all_nil, List.all_cons, Bool.or_false, Bool.false_eq_true, if_true, if_false, ite_true, ite_false, Nat.reduceSub, Nat.reduceAdd, Nat.reduceBEq, Nat.reduceEqDiff, Nat.reduceLeDiff, Nat.reduceLT, beq_self_eq_true, Bool.not_true, Bool.not_false, Bool.and_true, Bool.true_and, Bool.and_false, Bool.false_and, Bool.or_true, Bool.true_or, Bool.false_or, decide_eq_true_eq, Bool.not_eq_true', decide_eq_false_iff_not, true_and, and_true, reduceCtorEq, at_0, at_1, at_2, at_3, List.getD_cons_zero, List.getD_cons_succ, ok_int, ok_bl, ok_non, ok_tup0, ok_tI, ok_str, ok_t1, eq_int, eq_str, eq_t1, eq_tI1, ix40, ix41, ix42, ix43, List.length_map, eqk_int, eqk_str, eqk_bl, eqv_int, eqv_str, List.take_succ_cons, List.take_zero, List.drop_succ_cons, List.drop_zero, List.take_nil, List.drop_nil, ↓z_m1, ↓z_strV, ↓z_strS, strO_s, ↓z_intV, ↓z_intS, intO_i, ↓z_sl, ↓z_part0, ↓z_part, ↓z_join, ↓z_js0, ↓z_js1, gStr_i, gAll_l, gIn_ss, gStart_ss, gSplit_ss, gCut_s, gCut_l, gCut_t, gFmt_s, gFmt_i, gMul_si, gInt_s]
      refine ⟨q, rfl, hq.mono (by decide), ?_⟩
      simp only [↓z_c, ↓z_var, ↓z_nil, ↓z_cons, ↓z_b, ↓z_vslot, ↓z_kslot, ↓z_kval, ↓z_lst, ↓z_tup, ↓z_call, ↓z_callKw, ↓z_tslot, ↓z_pslot, ↓z_tru, ↓z_tb, ↓z_nott, ↓z_andt, ↓z_ort, ↓z_ifx, ↓z_andv, ↓z_orv, ↓z_notv, ↓z_isi, ↓z_xf, ↓z_xis, ↓z_app, ↓z_chain, ↓z_fld, ↓z_ins, ↓z_dic, ↓z_next, ↓z_seq, ↓z_break, ↓z_cont, ↓z_expr, ↓z_ret, ↓z_rval, ↓z_rslot, ↓z_retn, ↓z_if, ↓z_asg, ↓z_setix, ↓z_par, ↓z_asgg, ↓z_gnm, ↓z_gunp, ↓z_gone, ↓z_gno, ↓z_raise, ↓z_try, ↓z_for, ↓z_iseq, ↓z_irg1, ↓z_izip, ↓z_sslot, ↓z_ocons, ↓z_lc, ↓z_yes, ↓z_w0, ↓z_ws, ↓x_vnil, ↓x_vval, ↓x_knil, ↓x_kcons, ↓x_tnil, ↓x_tval, ↓x_pval, ↓x_pnil, ↓x_snil, ↓x_sval, ↓x_onil, z_trN, z_trB, z_trI, z_trS, z_trT, z_trL, slotV_s, slotN_n, slotN_s, slotL_l, slotC_sh, slotC_lst, slotC_ins, one1_d, oneI_i, two2_o, two2D_d, someV_s, isBl_b, boolO_b, setV_s, insV_s, tryV_t, tryV_f, insD_i, unpD_t, unpD_l, gAdd_ii, gAdd_ss, gAdd_ll, gAdd_tt, gMul_ii, gMul_li, gSub_ii, gLt_ii, gLe_ii, gGt_ii, gGe_ii, gFdiv_ii, gMod_ii, gPow_ii, gNeg_i, gAbs_i, gInt_i, gInt_b, gGcd_ii, gLen_l, gLen_t, gLen_s, gIx_l, gIx_t, gIx_s, gIs_bb, gIs_dn, gEq_de, gTuple_l, gTuple_t, gList_l, gList_t, items_l, items_t, items_s, seq_l, seq_t, isNon_n, isNon_i, isNon_b, isNon_s, isNon_t, isNon_l, g2_ii, isK, knownD, flatD, view_sh', view_lst, flat_sh, flat_lst, List.map_cons, List.map_nil, List.replicate, List.cons_append, List.nil_append, List.append_nil, List.getElem?_cons_zero, List.getElem?_cons_succ, List.set_cons_zero, List.set_cons_succ, List.length_cons, List.length_nil, List.contains, List.elem_nil, List.elem_cons, List.any_cons, List.any_nil, List.all_nil, List.all_cons, Bool.or_false, Bool.false_eq_true, if_true, if_false, ite_true, ite_false, Nat.reduceSub, Nat.reduceAdd, Nat.reduceBEq, Nat.reduceEqDiff, Nat.reduceLeDiff, Nat.reduceLT, beq_self_eq_true, Bool.not_true, Bool.not_false, Bool.and_true, Bool.true_and, Bool.and_false, Bool.false_and, Bool.or_true, Bool.true_or, Bool.false_or, decide_eq_true_eq, Bool.not_eq_true', decide_eq_false_iff_not, true_and, and_true, reduceCtorEq, at_0, at_1, at_2, at_3, List.getD_cons_zero, List.getD_cons_succ, ok_int, ok_bl, ok_non, ok_tup0, ok_tI, ok_str, ok_t1, eq_int, eq_str, eq_t1, eq_tI1, ix40, ix41, ix42, ix43, List.length_map, eqk_int, eqk_str, eqk_bl, eqv_int, eqv_str, List.take_succ_cons, List.take_zero, List.drop_succ_cons, List.drop_zero, List.take_nil, List.drop_nil, ↓z_m1, ↓z_strV, ↓z_strS, strO_s, ↓z_intV, ↓z_intS, intO_i, ↓z_sl, ↓z_part0, ↓z_part, ↓z_join, ↓z_js0, ↓z_js1, gStr_i, gAll_l, gIn_ss, gStart_ss, gSplit_ss, gCut_s, gCut_l, gCut_t, gFmt_s, gFmt_i, gMul_si, gInt_s]
      exact hb _ rfl
    rintro E rfl
    refine seq_split (fun E => E = [some xs, some (.lst l), y2, some (.sh (dR q)), some (.sh (.str (textQ q))), y5, y6, y7, y8, y9, y10, none, none, none]) (fun b' hb => ?_) ?_
    · simp only [↓z_c, ↓z_var, ↓z_nil, ↓z_cons, ↓z_b, ↓z_vslot, ↓z_kslot, ↓z_kval, ↓z_lst, ↓z_tup, ↓z_call, ↓z_callKw, ↓z_tslot, ↓z_pslot, ↓z_tru, ↓z_tb, ↓z_nott, ↓z_andt, ↓z_ort, ↓z_ifx, ↓z_andv, ↓z_orv, ↓z_notv, ↓z_isi, ↓z_xf, ↓z_xis, ↓z_app, ↓z_chain, ↓z_fld, ↓z_ins, ↓z_dic, ↓z_next, ↓z_seq, ↓z_break, ↓z_cont, ↓z_expr, ↓z_ret, ↓z_rval, ↓z_rslot, ↓z_retn, ↓z_if, ↓z_asg, ↓z_setix, ↓z_par, ↓z_asgg, ↓z_gnm, ↓z_gunp, ↓z_gone, ↓z_gno, ↓z_raise, ↓z_try, ↓z_for, ↓z_iseq, ↓z_irg1, ↓z_izip, ↓z_sslot, ↓z_ocons, ↓z_lc, ↓z_yes, ↓z_w0, ↓z_ws, ↓x_vnil, ↓x_vval, ↓x_knil, ↓x_kcons, ↓x_tnil, ↓x_tval, ↓x_pval, ↓x_pnil, ↓x_snil, ↓x_sval, ↓x_onil, z_trN, z_trB, z_trI, z_trS, z_trT, z_trL, slotV_s, slotN_n, slotN_s, slotL_l, slotC_sh, slotC_lst, slotC_ins, one1_d, oneI_i, two2_o, two2D_d, someV_s, isBl_b, boolO_b, setV_s, insV_s, tryV_t, tryV_f, insD_i, unpD_t, unpD_l, gAdd_ii, gAdd_ss, gAdd_ll, gAdd_tt, gMul_ii, gMul_li, gSub_ii, gLt_ii, gLe_ii, gGt_ii, gGe_ii, gFdiv_ii, gMod_ii, gPow_ii, gNeg_i, gAbs_i, gInt_i, gInt_b, gGcd_ii, gLen_l, gLen_t, gLen_s, gIx_l, gIx_t, gIx_s, gIs_bb, gIs_dn, gEq_de, gTuple_l, gTuple_t, gList_l, gList_t, items_l, items_t, items_s, seq_l, seq_t, isNon_n, isNon_i, isNon_b, isNon_s, isNon_t, isNon_l, g2_ii, isK, knownD, flatD, view_sh', view_lst, flat_sh, flat_lst, List.map_cons, List.map_nil, List.replicate, List.cons_append, List.nil_append, List.append_nil, List.getElem?_cons_zero, List.getElem?_cons_succ, List.set_cons_zero, List.set_cons_succ, List.length_cons, List.length_nil, List.contains, List.elem_nil, List.elem_cons, List.any_cons, List.any_nil, List.all_nil, List.all_cons, Bool.or_false, Bool.false_eq_true, if_true, if_false, ite_true, ite_false, Nat.reduceSub, Nat.reduceAdd, Nat.reduceBEq, Nat.reduceEqDiff, Nat.reduceLeDiff, Nat.reduceLT, beq_self_eq_true, Bool.not_true, Bool.not_false, Bool.and_true, Bool.true_and, Bool.and_false, Bool.false_and, Bool.or_true, Bool.true_or, Bool.false_or, decide_eq_true_eq, Bool.not_eq_true', decide_eq_false_iff_not, true_and, and_true, reduceCtorEq, at_0, at_1, at_2, at_3, List.getD_cons_zero, List.getD_cons_succ, ok_int, ok_bl, ok_non, ok_tup0, ok_tI, ok_str, ok_t1, eq_int, eq_str, eq_t1, eq_tI1, ix40, ix41, ix42, ix43, List.length_map, eqk_int, eqk_str, eqk_bl, eqv_int, eqv_str, List.take_succ_cons, List.take_zero, List.drop_succ_cons, List.drop_zero, List.take_nil, List.drop_nil, ↓z_m1, ↓z_strV, ↓z_strS, strO_s, ↓z_intV, ↓z_intS, intO_i, ↓z_sl, ↓z_part0, ↓z_part, ↓z_join, ↓z_js0, ↓z_js1, gStr_i, gAll_l, gIn_ss, gStart_ss, gSplit_ss, gCut_s, gCut_l, gCut_t, gFmt_s, gFmt_i, gMul_si, gInt_s]
      refine ⟨q, rfl, hq.mono (by decide), ?_⟩
      simp only [↓z_c, ↓z_var, ↓z_nil, ↓z_cons, ↓z_b, ↓z_vslot, ↓z_kslot, ↓z_kval, ↓z_lst, ↓z_tup, ↓z_call, ↓z_callKw, ↓z_tslot, ↓z_pslot, ↓z_tru, ↓z_tb, ↓z_nott, ↓z_andt, ↓z_ort, ↓z_ifx, ↓z_andv, ↓z_orv, ↓z_notv, ↓z_isi, ↓z_xf, ↓z_xis, ↓z_app, ↓z_chain, ↓z_fld, ↓z_ins, ↓z_dic, ↓z_next, ↓z_seq, ↓z_break, ↓z_cont, ↓z_expr, ↓z_ret, ↓z_rval, ↓z_rslot, ↓z_retn, ↓z_if, ↓z_asg, ↓z_setix, ↓z_par, ↓z_asgg, ↓z_gnm, ↓z_gunp, ↓z_gone, ↓z_gno, ↓z_raise, ↓z_try, ↓z_for, ↓z_iseq, ↓z_irg1, ↓z_izip, ↓z_sslot, ↓z_ocons, ↓z_lc, ↓z_yes, ↓z_w0, ↓z_ws, ↓x_vnil, ↓x_vval, ↓x_knil, ↓x_kcons, ↓x_tnil, ↓x_tval, ↓x_pval, ↓x_pnil, ↓x_snil, ↓x_sval, ↓x_onil, z_trN, z_trB, z_trI, z_trS, z_trT, z_trL, slotV_s, slotN_n, slotN_s, slotL_l, slotC_sh, slotC_lst, slotC_ins, one1_d, oneI_i, two2_o, two2D_d, someV_s, isBl_b, boolO_b, setV_s, insV_s, tryV_t, tryV_f, insD_i, unpD_t, unpD_l, gAdd_ii, gAdd_ss, gAdd_ll, gAdd_tt, gMul_ii, gMul_li, gSub_ii, gLt_ii, gLe_ii, gGt_ii, gGe_ii, gFdiv_ii, gMod_ii, gPow_ii, gNeg_i, gAbs_i, gInt_i, gInt_b, gGcd_ii, gLen_l, gLen_t, gLen_s, gIx_l, gIx_t, gIx_s, gIs_bb, gIs_dn, gEq_de, gTuple_l, gTuple_t, gList_l, gList_t, items_l, items_t, items_s, seq_l, seq_t, isNon_n, isNon_i, isNon_b, isNon_s, isNon_t, isNon_l, g2_ii, isK, knownD, flatD, view_sh', view_lst, flat_sh, flat_lst, List.map_cons, List.map_nil, List.replicate, List.cons_append, List.nil_append, List.append_nil, List.getElem?_cons_zero, List.getElem?_cons_succ, List.set_cons_zero, List.set_cons_succ, List.length_cons, List.length_nil, List.contains, List.elem_nil, List.elem_cons, List.any_cons, List.any_nil, List.all_nil, List.all_cons, Bool.or_false, Bool.false_eq_true, if_true, if_false, ite_true, ite_false, Nat.reduceSub, Nat.reduceAdd, Nat.reduceBEq, Nat.reduceEqDiff, Nat.reduceLeDiff, Nat.reduceLT, beq_self_eq_true, Bool.not_true, Bool.not_false, Bool.and_true, Bool.true_and, Bool.and_false, Bool.false_and, Bool.or_true, Bool.true_or, Bool.false_or, decide_eq_true_eq, Bool.not_eq_true', decide_eq_false_iff_not, true_and, and_true, reduceCtorEq, at_0, at_1, at_2, at_3, List.getD_cons_zero, List.getD_cons_succ, ok_int, ok_bl, ok_non, ok_tup0, ok_tI, ok_str, ok_t1, eq_int, eq_str, eq_t1, eq_tI1, ix40, ix41, ix42, ix43, List.length_map, eqk_int, eqk_str, eqk_bl, eqv_int, eqv_str, List.take_succ_cons, List.take_zero, List.drop_succ_cons, List.drop_zero, List.take_nil, List.drop_nil, ↓z_m1, ↓z_strV, ↓z_strS, strO_s, ↓z_intV, ↓z_intS, intO_i, ↓z_sl, ↓z_part0, ↓z_part, ↓z_join, ↓z_js0, ↓z_js1, gStr_i, gAll_l, gIn_ss, gStart_ss, gSplit_ss, gCut_s, gCut_l, gCut_t, gFmt_s, gFmt_i, gMul_si, gInt_s, decide_true]
      refine ⟨.str (textQ q), rfl, rfl, fun s e => by cases e; omega, ?_⟩
      have e : readD ((strD (.str (textQ q))).bind readQ) = dR q := by
        show readD (readQ (textQ q)) = _
        rw [hrd]; rfl
      rw [e]
      simp only [↓z_c, ↓z_var, ↓z_nil, ↓z_cons, ↓z_b, ↓z_vslot, ↓z_kslot, ↓z_kval, ↓z_lst, ↓z_tup, ↓z_call, ↓z_callKw, ↓z_tslot, ↓z_pslot, ↓z_tru, ↓z_tb, ↓z_nott, ↓z_andt, ↓z_ort, ↓z_ifx, ↓z_andv, ↓z_orv, ↓z_notv, ↓z_isi, ↓z_xf, ↓z_xis, ↓z_app, ↓z_chain, ↓z_fld, ↓z_ins, ↓z_dic, ↓z_next, ↓z_seq, ↓z_break, ↓z_cont, ↓z_expr, ↓z_ret, ↓z_rval, ↓z_rslot, ↓z_retn, ↓z_if, ↓z_asg, ↓z_setix, ↓z_par, ↓z_asgg, ↓z_gnm, ↓z_gunp, ↓z_gone, ↓z_gno, ↓z_raise, ↓z_try, ↓z_for, ↓z_iseq, ↓z_irg1, ↓z_izip, ↓z_sslot, ↓z_ocons, ↓z_lc, ↓z_yes, ↓z_w0, ↓z_ws, ↓x_vnil, ↓x_vval, ↓x_knil, ↓x_kcons, ↓x_tnil, ↓x_tval, ↓x_pval, ↓x_pnil, ↓x_snil, ↓x_sval, ↓x_onil, z_trN, z_trB, z_trI, z_trS, z_trT, z_trL, slotV_s, slotN_n, slotN_s, slotL_l, slotC_sh, slotC_lst, slotC_ins, one1_d, oneI_i, two2_o, two2D_d, someV_s, isBl_b, boolO_b, setV_s, insV_s, tryV_t, tryV_f, insD_i, unpD_t, unpD_l, gAdd_ii, gAdd_ss, gAdd_ll, gAdd_tt, gMul_ii, gMul_li, gSub_ii, gLt_ii, gLe_ii, gGt_ii, gGe_ii, gFdiv_ii, gMod_ii, gPow_ii, gNeg_i, gAbs_i, gInt_i, gInt_b, gGcd_ii, gLen_l, gLen_t, gLen_s, gIx_l, gIx_t, gIx_s, gIs_bb, gIs_dn, gEq_de, gTuple_l, gTuple_t, gList_l, gList_t, items_l, items_t, items_s, seq_l, seq_t, isNon_n, isNon_i, isNon_b, isNon_s, isNon_t, isNon_l, g2_ii, isK, knownD, flatD, view_sh', view_lst, flat_sh, flat_lst, List.map_cons, List.map_nil, List.replicate, List.cons_append, List.nil_append, List.append_nil, List.getElem?_cons_zero, List.getElem?_cons_succ, List.set_cons_zero, List.set_cons_succ, List.length_cons, List.length_nil, List.contains, List.elem_nil, List.elem_cons, List.any_cons, List.any_nil, List.all_nil, List.all_cons, Bool.or_false, Bool.false_eq_true, if_true, if_false, ite_true, ite_false, Nat.reduceSub, Nat.reduceAdd, Nat.reduceBEq, Nat.reduceEqDiff, Nat.reduceLeDiff, Nat.reduceLT, beq_self_eq_true, Bool.not_true, Bool.not_false, Bool.and_true, Bool.true_and, Bool.and_false, Bool.false_and, Bool.or_true, Bool.true_or, Bool.false_or, decide_eq_true_eq, Bool.not_eq_true', decide_eq_false_iff_not, true_and, and_true, reduceCtorEq, at_0, at_1, at_2, at_3, List.getD_cons_zero, List.getD_cons_succ, ok_int, ok_bl, ok_non, ok_tup0, ok_tI, ok_str, ok_t1, eq_int, eq_str, eq_t1, eq_tI1, ix40, ix41, ix42, ix43, List.length_map, eqk_int, eqk_str, eqk_bl, eqv_int, eqv_str, List.take_succ_cons, List.take_zero, List.drop_succ_cons, List.drop_zero, List.take_nil, List.drop_nil, ↓z_m1, ↓z_strV, ↓z_strS, strO_s, ↓z_intV, ↓z_intS, intO_i, ↓z_sl, ↓z_part0, ↓z_part, ↓z_join, ↓z_js0, ↓z_js1, gStr_i, gAll_l, gIn_ss, gStart_ss, gSplit_ss, gCut_s, gCut_l, gCut_t, gFmt_s, gFmt_i, gMul_si, gInt_s]
      refine ⟨_, q, rfl, rfl, ?_⟩
      simp only [↓z_c, ↓z_var, ↓z_nil, ↓z_cons, ↓z_b, ↓z_vslot, ↓z_kslot, ↓z_kval, ↓z_lst, ↓z_tup, ↓z_call, ↓z_callKw, ↓z_tslot, ↓z_pslot, ↓z_tru, ↓z_tb, ↓z_nott, ↓z_andt, ↓z_ort, ↓z_ifx, ↓z_andv, ↓z_orv, ↓z_notv, ↓z_isi, ↓z_xf, ↓z_xis, ↓z_app, ↓z_chain, ↓z_fld, ↓z_ins, ↓z_dic, ↓z_next, ↓z_seq, ↓z_break, ↓z_cont, ↓z_expr, ↓z_ret, ↓z_rval, ↓z_rslot, ↓z_retn, ↓z_if, ↓z_asg, ↓z_setix, ↓z_par, ↓z_asgg, ↓z_gnm, ↓z_gunp, ↓z_gone, ↓z_gno, ↓z_raise, ↓z_try, ↓z_for, ↓z_iseq, ↓z_irg1, ↓z_izip, ↓z_sslot, ↓z_ocons, ↓z_lc, ↓z_yes, ↓z_w0, ↓z_ws, ↓x_vnil, ↓x_vval, ↓x_knil, ↓x_kcons, ↓x_tnil, ↓x_tval, ↓x_pval, ↓x_pnil, ↓x_snil, ↓x_sval, ↓x_onil, z_trN, z_trB, z_trI, z_trS, z_trT, z_trL, slotV_s, slotN_n, slotN_s, slotL_l, slotC_sh, slotC_lst, slotC_ins, one1_d, oneI_i, two2_o, two2D_d, someV_s, isBl_b, boolO_b, setV_s, insV_s, tryV_t, tryV_f, insD_i, unpD_t, unpD_l, gAdd_ii, gAdd_ss, gAdd_ll, gAdd_tt, gMul_ii, gMul_li, gSub_ii, gLt_ii, gLe_ii, gGt_ii, gGe_ii, gFdiv_ii, gMod_ii, gPow_ii, gNeg_i, gAbs_i, gInt_i, gInt_b, gGcd_ii, gLen_l, gLen_t, gLen_s, gIx_l, gIx_t, gIx_s, gIs_bb, gIs_dn, gEq_de, gTuple_l, gTuple_t, gList_l, gList_t, items_l, items_t, items_s, seq_l, seq_t, isNon_n, isNon_i, isNon_b, isNon_s, isNon_t, isNon_l, g2_ii, isK, knownD, flatD, view_sh', view_lst, flat_sh, flat_lst, List.map_cons, List.map_nil, List.replicate, List.cons_append, List.nil_append, List.append_nil, List.getElem?_cons_zero, List.getElem?_cons_succ, List.set_cons_zero, List.set_cons_succ, List.length_cons, List.length_nil, List.contains, List.elem_nil, List.elem_cons, List.any_cons, List.any_nil, List.all_nil, List.all_cons, Bool.or_false, Bool.false_eq_true, if_true, if_false, ite_true, ite_false, Nat.reduceSub, Nat.reduceAdd, Nat.reduceBEq, Nat.reduceEqDiff, Nat.reduceLeDiff, Nat.reduceLT, beq_self_eq_true, Bool.not_true, Bool.not_false, Bool.and_true, Bool.true_and, Bool.and_false, Bool.false_and, Bool.or_true, Bool.true_or, Bool.false_or, decide_eq_true_eq, Bool.not_eq_true', decide_eq_false_iff_not, true_and, and_true, reduceCtorEq, at_0, at_1, at_2, at_3, List.getD_cons_zero, List.getD_cons_succ, ok_int, ok_bl, ok_non, ok_tup0, ok_tI, ok_str, ok_t1, eq_int, eq_str, eq_t1, eq_tI1, ix40, ix41, ix42, ix43, List.length_map, eqk_int, eqk_str, eqk_bl, eqv_int, eqv_str, List.take_succ_cons, List.take_zero, List.drop_succ_cons, List.drop_zero, List.take_nil, List.drop_nil, ↓z_m1, ↓z_strV, ↓z_strS, strO_s, ↓z_intV, ↓z_intS, intO_i, ↓z_sl, ↓z_part0, ↓z_part, ↓z_join, ↓z_js0, ↓z_js1, gStr_i, gAll_l, gIn_ss, gStart_ss, gSplit_ss, gCut_s, gCut_l, gCut_t, gFmt_s, gFmt_i, gMul_si, gInt_s, same_self]
      exact hb _ rfl
    rintro E rfl
    generalize htx : textQ q = tx at hts
    clear hrd
    refine seq_split (fun E => ∃ (l : List O) (n : Int), E = [some xs, some (.lst l), y2, some (.sh (dR q)), some (.sh (.str tx)), some (oI n), y6, y7, y8, y9, y10, none, none, none] ∧ Hand (.lst l) ∧ 0 ≤ n ∧ n ≤ 223) (fun b' hb => ?_) ?_
    · simp only [↓z_c, ↓z_var, ↓z_nil, ↓z_cons, ↓z_b, ↓z_vslot, ↓z_kslot, ↓z_kval, ↓z_lst, ↓z_tup, ↓z_call, ↓z_callKw, ↓z_tslot, ↓z_pslot, ↓z_tru, ↓z_tb, ↓z_nott, ↓z_andt, ↓z_ort, ↓z_ifx, ↓z_andv, ↓z_orv, ↓z_notv, ↓z_isi, ↓z_xf, ↓z_xis, ↓z_app, ↓z_chain, ↓z_fld, ↓z_ins, ↓z_dic, ↓z_next, ↓z_seq, ↓z_break, ↓z_cont, ↓z_expr, ↓z_ret, ↓z_rval, ↓z_rslot, ↓z_retn, ↓z_if, ↓z_asg, ↓z_setix, ↓z_par, ↓z_asgg, ↓z_gnm, ↓z_gunp, ↓z_gone, ↓z_gno, ↓z_raise, ↓z_try, ↓z_for, ↓z_iseq, ↓z_irg1, ↓z_izip, ↓z_sslot, ↓z_ocons, ↓z_lc, ↓z_yes, ↓z_w0, ↓z_ws, ↓x_vnil, ↓x_vval, ↓x_knil, ↓x_kcons, ↓x_tnil, ↓x_tval, ↓x_pval, ↓x_pnil, ↓x_snil, ↓x_sval, ↓x_onil, z_trN, z_trB, z_trI, z_trS, z_trT, z_trL, slotV_s, slotN_n, slotN_s, slotL_l, slotC_sh, slotC_lst, slotC_ins, one1_d, oneI_i, two2_o, two2D_d, someV_s, isBl_b, boolO_b, setV_s, insV_s, tryV_t, tryV_f, insD_i, unpD_t, unpD_l, gAdd_ii, gAdd_ss, gAdd_ll, gAdd_tt, gMul_ii, gMul_li, gSub_ii, gLt_ii, gLe_ii, gGt_ii, gGe_ii, gFdiv_ii, gMod_ii, gPow_ii, gNeg_i, gAbs_i, gInt_i, gInt_b, gGcd_ii, gLen_l, gLen_t, gLen_s, gIx_l, gIx_t, gIx_s, gIs_bb, gIs_dn, gEq_de, gTuple_l, gTuple_t, gList_l, gList_t, items_l, items_t, items_s, seq_l, seq_t, isNon_n, isNon_i, isNon_b, isNon_s, isNon_t, isNon_l, g2_ii, isK, knownD, flatD, view_sh', view_lst, flat_sh, flat_lst, List.map_cons, List.map_nil, List.replicate, List.cons_append, List.nil_append, List.append_nil, List.getElem?_cons_zero, List.getElem?_cons_succ, List.set_cons_zero, List.set_cons_succ, List.length_cons, List.length_nil, List.contains, List.elem_nil, List.elem_cons, List.any_cons, List.any_nil, List.all_nil, List.all_cons, Bool.or_false, Bool.false_eq_true, if_true, if_false, ite_true, ite_false, Nat.reduceSub, Nat.reduceAdd, Nat.reduceBEq, Nat.reduceEqDiff, Nat.reduceLeDiff, Nat.reduceLT, beq_self_eq_true, Bool.not_true, Bool.not_false, Bool.and_true, Bool.true_and, Bool.and_false, Bool.false_and, Bool.or_true, Bool.true_or, Bool.false_or, decide_eq_true_eq, Bool.not_eq_true', decide_eq_false_iff_not, true_and, and_true, reduceCtorEq, at_0, at_1, at_2, at_3, List.getD_cons_zero, List.getD_cons_succ, ok_int, ok_bl, ok_non, ok_tup0, ok_tI, ok_str, ok_t1, eq_int, eq_str, eq_t1, eq_tI1, ix40, ix41, ix42, ix43, List.length_map, eqk_int, eqk_str, eqk_bl, eqv_int, eqv_str, List.take_succ_cons, List.take_zero, List.drop_succ_cons, List.drop_zero, List.take_nil, List.drop_nil, ↓z_m1, ↓z_strV, ↓z_strS, strO_s, ↓z_intV, ↓z_intS, intO_i, ↓z_sl, ↓z_part0, ↓z_part, ↓z_join, ↓z_js0, ↓z_js1, gStr_i, gAll_l, gIn_ss, gStart_ss, gSplit_ss, gCut_s, gCut_l, gCut_t, gFmt_s, gFmt_i, gMul_si, gInt_s]
      refine ⟨by omega, l, _, rfl, h, by omega, by unfold Wb; omega, fun n l h0 h1 h => ?_⟩
      simp only [↓z_c, ↓z_var, ↓z_nil, ↓z_cons, ↓z_b, ↓z_vslot, ↓z_kslot, ↓z_kval, ↓z_lst, ↓z_tup, ↓z_call, ↓z_callKw, ↓z_tslot, ↓z_pslot, ↓z_tru, ↓z_tb, ↓z_nott, ↓z_andt, ↓z_ort, ↓z_ifx, ↓z_andv, ↓z_orv, ↓z_notv, ↓z_isi, ↓z_xf, ↓z_xis, ↓z_app, ↓z_chain, ↓z_fld, ↓z_ins, ↓z_dic, ↓z_next, ↓z_seq, ↓z_break, ↓z_cont, ↓z_expr, ↓z_ret, ↓z_rval, ↓z_rslot, ↓z_retn, ↓z_if, ↓z_asg, ↓z_setix, ↓z_par, ↓z_asgg, ↓z_gnm, ↓z_gunp, ↓z_gone, ↓z_gno, ↓z_raise, ↓z_try, ↓z_for, ↓z_iseq, ↓z_irg1, ↓z_izip, ↓z_sslot, ↓z_ocons, ↓z_lc, ↓z_yes, ↓z_w0, ↓z_ws, ↓x_vnil, ↓x_vval, ↓x_knil, ↓x_kcons, ↓x_tnil, ↓x_tval, ↓x_pval, ↓x_pnil, ↓x_snil, ↓x_sval, ↓x_onil, z_trN, z_trB, z_trI, z_trS, z_trT, z_trL, slotV_s, slotN_n, slotN_s, slotL_l, slotC_sh, slotC_lst, slotC_ins, one1_d, oneI_i, two2_o, two2D_d, someV_s, isBl_b, boolO_b, setV_s, insV_s, tryV_t, tryV_f, insD_i, unpD_t, unpD_l, gAdd_ii, gAdd_ss, gAdd_ll, gAdd_tt, gMul_ii, gMul_li, gSub_ii, gLt_ii, gLe_ii, gGt_ii, gGe_ii, gFdiv_ii, gMod_ii, gPow_ii, gNeg_i, gAbs_i, gInt_i, gInt_b, gGcd_ii, gLen_l, gLen_t, gLen_s, gIx_l, gIx_t, gIx_s, gIs_bb, gIs_dn, gEq_de, gTuple_l, gTuple_t, gList_l, gList_t, items_l, items_t, items_s, seq_l, seq_t, isNon_n, isNon_i, isNon_b, isNon_s, isNon_t, isNon_l, g2_ii, isK, knownD, flatD, view_sh', view_lst, flat_sh, flat_lst, List.map_cons, List.map_nil, List.replicate, List.cons_append, List.nil_append, List.append_nil, List.getElem?_cons_zero, List.getElem?_cons_succ, List.set_cons_zero, List.set_cons_succ, List.length_cons, List.length_nil, List.contains, List.elem_nil, List.elem_cons, List.any_cons, List.any_nil, List.all_nil, List.all_cons, Bool.or_false, Bool.false_eq_true, if_true, if_false, ite_true, ite_false, Nat.reduceSub, Nat.reduceAdd, Nat.reduceBEq, Nat.reduceEqDiff, Nat.reduceLeDiff, Nat.reduceLT, beq_self_eq_true, Bool.not_true, Bool.not_false, Bool.and_true, Bool.true_and, Bool.and_false, Bool.false_and, Bool.or_true, Bool.true_or, Bool.false_or, decide_eq_true_eq, Bool.not_eq_true', decide_eq_false_iff_not, true_and, and_true, reduceCtorEq, at_0, at_1, at_2, at_3, List.getD_cons_zero, List.getD_cons_succ, ok_int, ok_bl, ok_non, ok_tup0, ok_tI, ok_str, ok_t1, eq_int, eq_str, eq_t1, eq_tI1, ix40, ix41, ix42, ix43, List.length_map, eqk_int, eqk_str, eqk_bl, eqv_int, eqv_str, List.take_succ_cons, List.take_zero, List.drop_succ_cons, List.drop_zero, List.take_nil, List.drop_nil, ↓z_m1, ↓z_strV, ↓z_strS, strO_s, ↓z_intV, ↓z_intS, intO_i, ↓z_sl, ↓z_part0, ↓z_part, ↓z_join, ↓z_js0, ↓z_js1, gStr_i, gAll_l, gIn_ss, gStart_ss, gSplit_ss, gCut_s, gCut_l, gCut_t, gFmt_s, gFmt_i, gMul_si, gInt_s]
      exact hb _ ⟨l, n, rfl, h, h0, by omega⟩
    rintro E ⟨l, n, rfl, h, n0, n1⟩
    refine seq_split (fun E => ∃ (l : List O) (sg : Str), E = [some xs, some (.lst l), y2, some (.sh (dR q)), some (.sh (.str tx)), some (oI n), some (.sh (.str sg)), y7, y8, y9, y10, none, none, none] ∧ Hand (.lst l) ∧ sg.length ≤ 2) (fun b' hb => ?_) ?_
    · simp only [↓z_seq, ↓z_asg, ↓z_b, ↓z_cons]
      refine ev_lst (evl_cons ev_c (evl_cons ev_c (evl_cons ev_c (evl_cons ev_c (evl_cons ev_c (evl_cons ev_c (evl_cons ev_c (evl_cons ev_c (evl_cons ev_c (evl_cons ev_c (evl_cons ev_c (evl_cons ev_c (evl_cons ev_c (evl_cons ev_c (evl_cons ev_c evl_nil))))))))))))))) (by decide) _ _ _ ?_
      have ev : ∀ zs : List O, zs = signs.map (fun s => O.sh (.str s)) → (zs.map O.view) = signs.map D.str := fun zs e => by rw [e, List.map_map]; simp [Function.comp_def, view_sh']
      generalize hzs : ([_, _, _, _, _, _, _, _, _, _, _, _, _, _, _] : List O) = zs
      have hv := ev zs (by rw [← hzs]; rfl)
      clear hzs ev
      simp only [↓z_c, ↓z_var, ↓z_nil, ↓z_cons, ↓z_b, ↓z_vslot, ↓z_kslot, ↓z_kval, ↓z_lst, ↓z_tup, ↓z_call, ↓z_callKw, ↓z_tslot, ↓z_pslot, ↓z_tru, ↓z_tb, ↓z_nott, ↓z_andt, ↓z_ort, ↓z_ifx, ↓z_andv, ↓z_orv, ↓z_notv, ↓z_isi, ↓z_xf, ↓z_xis, ↓z_app, ↓z_chain, ↓z_fld, ↓z_ins, ↓z_dic, ↓z_next, ↓z_seq, ↓z_break, ↓z_cont, ↓z_expr, ↓z_ret, ↓z_rval, ↓z_rslot, ↓z_retn, ↓z_if, ↓z_asg, ↓z_setix, ↓z_par, ↓z_asgg, ↓z_gnm, ↓z_gunp, ↓z_gone, ↓z_gno, ↓z_raise, ↓z_try, ↓z_for, ↓z_iseq, ↓z_irg1, ↓z_izip, ↓z_sslot, ↓z_ocons, ↓z_lc, ↓z_yes, ↓z_w0, ↓z_ws, ↓x_vnil, ↓x_vval, ↓x_knil, ↓x_kcons, ↓x_tnil, ↓x_tval, ↓x_pval, ↓x_pnil, ↓x_snil, ↓x_sval, ↓x_onil, z_trN, z_trB, z_trI, z_trS, z_trT, z_trL, slotV_s, slotN_n, slotN_s, slotL_l, slotC_sh, slotC_lst, slotC_ins, one1_d, oneI_i, two2_o, two2D_d, someV_s, isBl_b, boolO_b, setV_s, insV_s, tryV_t, tryV_f, insD_i, unpD_t, unpD_l, gAdd_ii, gAdd_ss, gAdd_ll, gAdd_tt, gMul_ii, gMul_li, gSub_ii, gLt_ii, gLe_ii, gGt_ii, gGe_ii, gFdiv_ii, gMod_ii, gPow_ii, gNeg_i, gAbs_i, gInt_i, gInt_b, gGcd_ii, gLen_l, gLen_t, gLen_s, gIx_l, gIx_t, gIx_s, gIs_bb, gIs_dn, gEq_de, gTuple_l, gTuple_t, gList_l, gList_t, items_l, items_t, items_s, seq_l, seq_t, isNon_n, isNon_i, isNon_b, isNon_s, isNon_t, isNon_l, g2_ii, isK, knownD, flatD, view_sh', view_lst, flat_sh, flat_lst, List.map_cons, List.map_nil, List.replicate, List.cons_append, List.nil_append, List.append_nil, List.getElem?_cons_zero, List.getElem?_cons_succ, List.set_cons_zero, List.set_cons_succ, List.length_cons, List.length_nil, List.contains, List.elem_nil, List.elem_cons, List.any_cons, List.any_nil, List.all_nil, List.all_cons, Bool.or_false, Bool.false_eq_true, if_true, if_false, ite_true, ite_false, Nat.reduceSub, Nat.reduceAdd, Nat.reduceBEq, Nat.reduceEqDiff, Nat.reduceLeDiff, Nat.reduceLT, beq_self_eq_true, Bool.not_true, Bool.not_false, Bool.and_true, Bool.true_and, Bool.and_false, Bool.false_and, Bool.or_true, Bool.true_or, Bool.false_or, decide_eq_true_eq, Bool.not_eq_true', decide_eq_false_iff_not, true_and, and_true, reduceCtorEq, at_0, at_1, at_2, at_3, List.getD_cons_zero, List.getD_cons_succ, ok_int, ok_bl, ok_non, ok_tup0, ok_tI, ok_str, ok_t1, eq_int, eq_str, eq_t1, eq_tI1, ix40, ix41, ix42, ix43, List.length_map, eqk_int, eqk_str, eqk_bl, eqv_int, eqv_str, List.take_succ_cons, List.take_zero, List.drop_succ_cons, List.drop_zero, List.take_nil, List.drop_nil, ↓z_m1, ↓z_strV, ↓z_strS, strO_s, ↓z_intV, ↓z_intS, intO_i, ↓z_sl, ↓z_part0, ↓z_part, ↓z_join, ↓z_js0, ↓z_js1, gStr_i, gAll_l, gIn_ss, gStart_ss, gSplit_ss, gCut_s, gCut_l, gCut_t, gFmt_s, gFmt_i, gMul_si, gInt_s]
      refine ⟨l, _, rfl, h, by decide, by unfold Wb; decide, fun n l h0 h1 h => ?_⟩
      obtain ⟨sg, hm, e⟩ := sign_at h0 h1
      simp only [↓z_c, ↓z_var, ↓z_nil, ↓z_cons, ↓z_b, ↓z_vslot, ↓z_kslot, ↓z_kval, ↓z_lst, ↓z_tup, ↓z_call, ↓z_callKw, ↓z_tslot, ↓z_pslot, ↓z_tru, ↓z_tb, ↓z_nott, ↓z_andt, ↓z_ort, ↓z_ifx, ↓z_andv, ↓z_orv, ↓z_notv, ↓z_isi, ↓z_xf, ↓z_xis, ↓z_app, ↓z_chain, ↓z_fld, ↓z_ins, ↓z_dic, ↓z_next, ↓z_seq, ↓z_break, ↓z_cont, ↓z_expr, ↓z_ret, ↓z_rval, ↓z_rslot, ↓z_retn, ↓z_if, ↓z_asg, ↓z_setix, ↓z_par, ↓z_asgg, ↓z_gnm, ↓z_gunp, ↓z_gone, ↓z_gno, ↓z_raise, ↓z_try, ↓z_for, ↓z_iseq, ↓z_irg1, ↓z_izip, ↓z_sslot, ↓z_ocons, ↓z_lc, ↓z_yes, ↓z_w0, ↓z_ws, ↓x_vnil, ↓x_vval, ↓x_knil, ↓x_kcons, ↓x_tnil, ↓x_tval, ↓x_pval, ↓x_pnil, ↓x_snil, ↓x_sval, ↓x_onil, z_trN, z_trB, z_trI, z_trS, z_trT, z_trL, slotV_s, slotN_n, slotN_s, slotL_l, slotC_sh, slotC_lst, slotC_ins, one1_d, oneI_i, two2_o, two2D_d, someV_s, isBl_b, boolO_b, setV_s, insV_s, tryV_t, tryV_f, insD_i, unpD_t, unpD_l, gAdd_ii, gAdd_ss, gAdd_ll, gAdd_tt, gMul_ii, gMul_li, gSub_ii, gLt_ii, gLe_ii, gGt_ii, gGe_ii, gFdiv_ii, gMod_ii, gPow_ii, gNeg_i, gAbs_i, gInt_i, gInt_b, gGcd_ii, gLen_l, gLen_t, gLen_s, gIx_l, gIx_t, gIx_s, gIs_bb, gIs_dn, gEq_de, gTuple_l, gTuple_t, gList_l, gList_t, items_l, items_t, items_s, seq_l, seq_t, isNon_n, isNon_i, isNon_b, isNon_s, isNon_t, isNon_l, g2_ii, isK, knownD, flatD, view_sh', view_lst, flat_sh, flat_lst, List.map_cons, List.map_nil, List.replicate, List.cons_append, List.nil_append, List.append_nil, List.getElem?_cons_zero, List.getElem?_cons_succ, List.set_cons_zero, List.set_cons_succ, List.length_cons, List.length_nil, List.contains, List.elem_nil, List.elem_cons, List.any_cons, List.any_nil, List.all_nil, List.all_cons, Bool.or_false, Bool.false_eq_true, if_true, if_false, ite_true, ite_false, Nat.reduceSub, Nat.reduceAdd, Nat.reduceBEq, Nat.reduceEqDiff, Nat.reduceLeDiff, Nat.reduceLT, beq_self_eq_true, Bool.not_true, Bool.not_false, Bool.and_true, Bool.true_and, Bool.and_false, Bool.false_and, Bool.or_true, Bool.true_or, Bool.false_or, decide_eq_true_eq, Bool.not_eq_true', decide_eq_false_iff_not, true_and, and_true, reduceCtorEq, at_0, at_1, at_2, at_3, List.getD_cons_zero, List.getD_cons_succ, ok_int, ok_bl, ok_non, ok_tup0, ok_tI, ok_str, ok_t1, eq_int, eq_str, eq_t1, eq_tI1, ix40, ix41, ix42, ix43, List.length_map, eqk_int, eqk_str, eqk_bl, eqv_int, eqv_str, List.take_succ_cons, List.take_zero, List.drop_succ_cons, List.drop_zero, List.take_nil, List.drop_nil, ↓z_m1, ↓z_strV, ↓z_strS, strO_s, ↓z_intV, ↓z_intS, intO_i, ↓z_sl, ↓z_part0, ↓z_part, ↓z_join, ↓z_js0, ↓z_js1, gStr_i, gAll_l, gIn_ss, gStart_ss, gSplit_ss, gCut_s, gCut_l, gCut_t, gFmt_s, gFmt_i, gMul_si, gInt_s, hv, e]
      exact hb _ ⟨l, sg, rfl, h, signs_short sg hm⟩
    rintro E ⟨l, sg, rfl, h, hsg⟩
    refine seq_split (fun E => ∃ (l : List O) (sp : Str), E = [some xs, some (.lst l), y2, some (.sh (dR q)), some (.sh (.str tx)), some (oI n), some (.sh (.str sg)), some (.sh (.str sp)), y8, y9, y10, none, none, none] ∧ Hand (.lst l) ∧ sp.length ≤ 500) (fun b' hb => ?_) ?_
    · simp only [↓z_c, ↓z_var, ↓z_nil, ↓z_cons, ↓z_b, ↓z_vslot, ↓z_kslot, ↓z_kval, ↓z_lst, ↓z_tup, ↓z_call, ↓z_callKw, ↓z_tslot, ↓z_pslot, ↓z_tru, ↓z_tb, ↓z_nott, ↓z_andt, ↓z_ort, ↓z_ifx, ↓z_andv, ↓z_orv, ↓z_notv, ↓z_isi, ↓z_xf, ↓z_xis, ↓z_app, ↓z_chain, ↓z_fld, ↓z_ins, ↓z_dic, ↓z_next, ↓z_seq, ↓z_break, ↓z_cont, ↓z_expr, ↓z_ret, ↓z_rval, ↓z_rslot, ↓z_retn, ↓z_if, ↓z_asg, ↓z_setix, ↓z_par, ↓z_asgg, ↓z_gnm, ↓z_gunp, ↓z_gone, ↓z_gno, ↓z_raise, ↓z_try, ↓z_for, ↓z_iseq, ↓z_irg1, ↓z_izip, ↓z_sslot, ↓z_ocons, ↓z_lc, ↓z_yes, ↓z_w0, ↓z_ws, ↓x_vnil, ↓x_vval, ↓x_knil, ↓x_kcons, ↓x_tnil, ↓x_tval, ↓x_pval, ↓x_pnil, ↓x_snil, ↓x_sval, ↓x_onil, z_trN, z_trB, z_trI, z_trS, z_trT, z_trL, slotV_s, slotN_n, slotN_s, slotL_l, slotC_sh, slotC_lst, slotC_ins, one1_d, oneI_i, two2_o, two2D_d, someV_s, isBl_b, boolO_b, setV_s, insV_s, tryV_t, tryV_f, insD_i, unpD_t, unpD_l, gAdd_ii, gAdd_ss, gAdd_ll, gAdd_tt, gMul_ii, gMul_li, gSub_ii, gLt_ii, gLe_ii, gGt_ii, gGe_ii, gFdiv_ii, gMod_ii, gPow_ii, gNeg_i, gAbs_i, gInt_i, gInt_b, gGcd_ii, gLen_l, gLen_t, gLen_s, gIx_l, gIx_t, gIx_s, gIs_bb, gIs_dn, gEq_de, gTuple_l, gTuple_t, gList_l, gList_t, items_l, items_t, items_s, seq_l, seq_t, isNon_n, isNon_i, isNon_b, isNon_s, isNon_t, isNon_l, g2_ii, isK, knownD, flatD, view_sh', view_lst, flat_sh, flat_lst, List.map_cons, List.map_nil, List.replicate, List.cons_append, List.nil_append, List.append_nil, List.getElem?_cons_zero, List.getElem?_cons_succ, List.set_cons_zero, List.set_cons_succ, List.length_cons, List.length_nil, List.contains, List.elem_nil, List.elem_cons, List.any_cons, List.any_nil, List.all_nil, List.all_cons, Bool.or_false, Bool.false_eq_true, if_true, if_false, ite_true, ite_false, Nat.reduceSub, Nat.reduceAdd, Nat.reduceBEq, Nat.reduceEqDiff, Nat.reduceLeDiff, Nat.reduceLT, beq_self_eq_true, Bool.not_true, Bool.not_false, Bool.and_true, Bool.true_and, Bool.and_false, Bool.false_and, Bool.or_true, Bool.true_or, Bool.false_or, decide_eq_true_eq, Bool.not_eq_true', decide_eq_false_iff_not, true_and, and_true, reduceCtorEq, at_0, at_1, at_2, at_3, List.getD_cons_zero, List.getD_cons_succ, ok_int, ok_bl, ok_non, ok_tup0, ok_tI, ok_str, ok_t1, eq_int, eq_str, eq_t1, eq_tI1, ix40, ix41, ix42, ix43, List.length_map, eqk_int, eqk_str, eqk_bl, eqv_int, eqv_str, List.take_succ_cons, List.take_zero, List.drop_succ_cons, List.drop_zero, List.take_nil, List.drop_nil, ↓z_m1, ↓z_strV, ↓z_strS, strO_s, ↓z_intV, ↓z_intS, intO_i, ↓z_sl, ↓z_part0, ↓z_part, ↓z_join, ↓z_js0, ↓z_js1, gStr_i, gAll_l, gIn_ss, gStart_ss, gSplit_ss, gCut_s, gCut_l, gCut_t, gFmt_s, gFmt_i, gMul_si, gInt_s]
      have c1 := L2.cutS_length tx none (some n)
      refine ⟨by omega, by omega, l, _, rfl, h, by decide, by unfold Wb; decide, fun m l h0 h1 h => ?_⟩
      have c2 := L2.cutS_length tx (some (n + m)) none
      simp only [↓z_c, ↓z_var, ↓z_nil, ↓z_cons, ↓z_b, ↓z_vslot, ↓z_kslot, ↓z_kval, ↓z_lst, ↓z_tup, ↓z_call, ↓z_callKw, ↓z_tslot, ↓z_pslot, ↓z_tru, ↓z_tb, ↓z_nott, ↓z_andt, ↓z_ort, ↓z_ifx, ↓z_andv, ↓z_orv, ↓z_notv, ↓z_isi, ↓z_xf, ↓z_xis, ↓z_app, ↓z_chain, ↓z_fld, ↓z_ins, ↓z_dic, ↓z_next, ↓z_seq, ↓z_break, ↓z_cont, ↓z_expr, ↓z_ret, ↓z_rval, ↓z_rslot, ↓z_retn, ↓z_if, ↓z_asg, ↓z_setix, ↓z_par, ↓z_asgg, ↓z_gnm, ↓z_gunp, ↓z_gone, ↓z_gno, ↓z_raise, ↓z_try, ↓z_for, ↓z_iseq, ↓z_irg1, ↓z_izip, ↓z_sslot, ↓z_ocons, ↓z_lc, ↓z_yes, ↓z_w0, ↓z_ws, ↓x_vnil, ↓x_vval, ↓x_knil, ↓x_kcons, ↓x_tnil, ↓x_tval, ↓x_pval, ↓x_pnil, ↓x_snil, ↓x_sval, ↓x_onil, z_trN, z_trB, z_trI, z_trS, z_trT, z_trL, slotV_s, slotN_n, slotN_s, slotL_l, slotC_sh, slotC_lst, slotC_ins, one1_d, oneI_i, two2_o, two2D_d, someV_s, isBl_b, boolO_b, setV_s, insV_s, tryV_t, tryV_f, insD_i, unpD_t, unpD_l, gAdd_ii, gAdd_ss, gAdd_ll, gAdd_tt, gMul_ii, gMul_li, gSub_ii, gLt_ii, gLe_ii, gGt_ii, gGe_ii, gFdiv_ii, gMod_ii, gPow_ii, gNeg_i, gAbs_i, gInt_i, gInt_b, gGcd_ii, gLen_l, gLen_t, gLen_s, gIx_l, gIx_t, gIx_s, gIs_bb, gIs_dn, gEq_de, gTuple_l, gTuple_t, gList_l, gList_t, items_l, items_t, items_s, seq_l, seq_t, isNon_n, isNon_i, isNon_b, isNon_s, isNon_t, isNon_l, g2_ii, isK, knownD, flatD, view_sh', view_lst, flat_sh, flat_lst, List.map_cons, List.map_nil, List.replicate, List.cons_append, List.nil_append, List.append_nil, List.getElem?_cons_zero, List.getElem?_cons_succ, List.set_cons_zero, List.set_cons_succ, List.length_cons, List.length_nil, List.contains, List.elem_nil, List.elem_cons, List.any_cons, List.any_nil, List.all_nil, List.all_cons, Bool.or_false, Bool.false_eq_true, if_true, if_false, ite_true, ite_false, Nat.reduceSub, Nat.reduceAdd, Nat.reduceBEq, Nat.reduceEqDiff, Nat.reduceLeDiff, Nat.reduceLT, beq_self_eq_true, Bool.not_true, Bool.not_false, Bool.and_true, Bool.true_and, Bool.and_false, Bool.false_and, Bool.or_true, Bool.true_or, Bool.false_or, decide_eq_true_eq, Bool.not_eq_true', decide_eq_false_iff_not, true_and, and_true, reduceCtorEq, at_0, at_1, at_2, at_3, List.getD_cons_zero, List.getD_cons_succ, ok_int, ok_bl, ok_non, ok_tup0, ok_tI, ok_str, ok_t1, eq_int, eq_str, eq_t1, eq_tI1, ix40, ix41, ix42, ix43, List.length_map, eqk_int, eqk_str, eqk_bl, eqv_int, eqv_str, List.take_succ_cons, List.take_zero, List.drop_succ_cons, List.drop_zero, List.take_nil, List.drop_nil, ↓z_m1, ↓z_strV, ↓z_strS, strO_s, ↓z_intV, ↓z_intS, intO_i, ↓z_sl, ↓z_part0, ↓z_part, ↓z_join, ↓z_js0, ↓z_js1, gStr_i, gAll_l, gIn_ss, gStart_ss, gSplit_ss, gCut_s, gCut_l, gCut_t, gFmt_s, gFmt_i, gMul_si, gInt_s]
      refine ⟨by omega, ?_, hb _ ⟨l, _, rfl, h, ?_⟩⟩
      · rw [app_len]; omega
      · rw [app_len, app_len]; omega
    rintro E ⟨l, sp, rfl, h, hsp⟩
    refine seq_split (fun E => E = [some xs, some (.lst l), y2, some (.sh (dR q)), some (.sh (.str tx)), some (oI n), some (.sh (.str sg)), some (.sh (.str sp)), some (.sh (dueD (readQ sp))), some (.sh (readD (readQ sp))), y10, none, none, none]) (fun b' hb => ?_) ?_
    · simp only [↓z_c, ↓z_var, ↓z_nil, ↓z_cons, ↓z_b, ↓z_vslot, ↓z_kslot, ↓z_kval, ↓z_lst, ↓z_tup, ↓z_call, ↓z_callKw, ↓z_tslot, ↓z_pslot, ↓z_tru, ↓z_tb, ↓z_nott, ↓z_andt, ↓z_ort, ↓z_ifx, ↓z_andv, ↓z_orv, ↓z_notv, ↓z_isi, ↓z_xf, ↓z_xis, ↓z_app, ↓z_chain, ↓z_fld, ↓z_ins, ↓z_dic, ↓z_next, ↓z_seq, ↓z_break, ↓z_cont, ↓z_expr, ↓z_ret, ↓z_rval, ↓z_rslot, ↓z_retn, ↓z_if, ↓z_asg, ↓z_setix, ↓z_par, ↓z_asgg, ↓z_gnm, ↓z_gunp, ↓z_gone, ↓z_gno, ↓z_raise, ↓z_try, ↓z_for, ↓z_iseq, ↓z_irg1, ↓z_izip, ↓z_sslot, ↓z_ocons, ↓z_lc, ↓z_yes, ↓z_w0, ↓z_ws, ↓x_vnil, ↓x_vval, ↓x_knil, ↓x_kcons, ↓x_tnil, ↓x_tval, ↓x_pval, ↓x_pnil, ↓x_snil, ↓x_sval, ↓x_onil, z_trN, z_trB, z_trI, z_trS, z_trT, z_trL, slotV_s, slotN_n, slotN_s, slotL_l, slotC_sh, slotC_lst, slotC_ins, one1_d, oneI_i, two2_o, two2D_d, someV_s, isBl_b, boolO_b, setV_s, insV_s, tryV_t, tryV_f, insD_i, unpD_t, unpD_l, gAdd_ii, gAdd_ss, gAdd_ll, gAdd_tt, gMul_ii, gMul_li, gSub_ii, gLt_ii, gLe_ii, gGt_ii, gGe_ii, gFdiv_ii, gMod_ii, gPow_ii, gNeg_i, gAbs_i, gInt_i, gInt_b, gGcd_ii, gLen_l, gLen_t, gLen_s, gIx_l, gIx_t, gIx_s, gIs_bb, gIs_dn, gEq_de, gTuple_l, gTuple_t, gList_l, gList_t, items_l, items_t, items_s, seq_l, seq_t, isNon_n, isNon_i, isNon_b, isNon_s, isNon_t, isNon_l, g2_ii, isK, knownD, flatD, view_sh', view_lst, flat_sh, flat_lst, List.map_cons, List.map_nil, List.replicate, List.cons_append, List.nil_append, List.append_nil, List.getElem?_cons_zero, List.getElem?_cons_succ, List.set_cons_zero, List.set_cons_succ, List.length_cons, List.length_nil, List.contains, List.elem_nil, List.elem_cons, List.any_cons, List.any_nil, List.all_nil, List.all_cons, Bool.or_false, Bool.false_eq_true, if_true, if_false, ite_true, ite_false, Nat.reduceSub, Nat.reduceAdd, Nat.reduceBEq, Nat.reduceEqDiff, Nat.reduceLeDiff, Nat.reduceLT, beq_self_eq_true, Bool.not_true, Bool.not_false, Bool.and_true, Bool.true_and, Bool.and_false, Bool.false_and, Bool.or_true, Bool.true_or, Bool.false_or, decide_eq_true_eq, Bool.not_eq_true', decide_eq_false_iff_not, true_and, and_true, reduceCtorEq, at_0, at_1, at_2, at_3, List.getD_cons_zero, List.getD_cons_succ, ok_int, ok_bl, ok_non, ok_tup0, ok_tI, ok_str, ok_t1, eq_int, eq_str, eq_t1, eq_tI1, ix40, ix41, ix42, ix43, List.length_map, eqk_int, eqk_str, eqk_bl, eqv_int, eqv_str, List.take_succ_cons, List.take_zero, List.drop_succ_cons, List.drop_zero, List.take_nil, List.drop_nil, ↓z_m1, ↓z_strV, ↓z_strS, strO_s, ↓z_intV, ↓z_intS, intO_i, ↓z_sl, ↓z_part0, ↓z_part, ↓z_join, ↓z_js0, ↓z_js1, gStr_i, gAll_l, gIn_ss, gStart_ss, gSplit_ss, gCut_s, gCut_l, gCut_t, gFmt_s, gFmt_i, gMul_si, gInt_s]
      refine ⟨sp, rfl, by omega, ?_⟩
      simp only [↓z_c, ↓z_var, ↓z_nil, ↓z_cons, ↓z_b, ↓z_vslot, ↓z_kslot, ↓z_kval, ↓z_lst, ↓z_tup, ↓z_call, ↓z_callKw, ↓z_tslot, ↓z_pslot, ↓z_tru, ↓z_tb, ↓z_nott, ↓z_andt, ↓z_ort, ↓z_ifx, ↓z_andv, ↓z_orv, ↓z_notv, ↓z_isi, ↓z_xf, ↓z_xis, ↓z_app, ↓z_chain, ↓z_fld, ↓z_ins, ↓z_dic, ↓z_next, ↓z_seq, ↓z_break, ↓z_cont, ↓z_expr, ↓z_ret, ↓z_rval, ↓z_rslot, ↓z_retn, ↓z_if, ↓z_asg, ↓z_setix, ↓z_par, ↓z_asgg, ↓z_gnm, ↓z_gunp, ↓z_gone, ↓z_gno, ↓z_raise, ↓z_try, ↓z_for, ↓z_iseq, ↓z_irg1, ↓z_izip, ↓z_sslot, ↓z_ocons, ↓z_lc, ↓z_yes, ↓z_w0, ↓z_ws, ↓x_vnil, ↓x_vval, ↓x_knil, ↓x_kcons, ↓x_tnil, ↓x_tval, ↓x_pval, ↓x_pnil, ↓x_snil, ↓x_sval, ↓x_onil, z_trN, z_trB, z_trI, z_trS, z_trT, z_trL, slotV_s, slotN_n, slotN_s, slotL_l, slotC_sh, slotC_lst, slotC_ins, one1_d, oneI_i, two2_o, two2D_d, someV_s, isBl_b, boolO_b, setV_s, insV_s, tryV_t, tryV_f, insD_i, unpD_t, unpD_l, gAdd_ii, gAdd_ss, gAdd_ll, gAdd_tt, gMul_ii, gMul_li, gSub_ii, gLt_ii, gLe_ii, gGt_ii, gGe_ii, gFdiv_ii, gMod_ii, gPow_ii, gNeg_i, gAbs_i, gInt_i, gInt_b, gGcd_ii, gLen_l, gLen_t, gLen_s, gIx_l, gIx_t, gIx_s, gIs_bb, gIs_dn, gEq_de, gTuple_l, gTuple_t, gList_l, gList_t, items_l, items_t, items_s, seq_l, seq_t, isNon_n, isNon_i, isNon_b, isNon_s, isNon_t, isNon_l, g2_ii, isK, knownD, flatD, view_sh', view_lst, flat_sh, flat_lst, List.map_cons, List.map_nil, List.replicate, List.cons_append, List.nil_append, List.append_nil, List.getElem?_cons_zero, List.getElem?_cons_succ, List.set_cons_zero, List.set_cons_succ, List.length_cons, List.length_nil, List.contains, List.elem_nil, List.elem_cons, List.any_cons, List.any_nil, List.all_nil, List.all_cons, Bool.or_false, Bool.false_eq_true, if_true, if_false, ite_true, ite_false, Nat.reduceSub, Nat.reduceAdd, Nat.reduceBEq, Nat.reduceEqDiff, Nat.reduceLeDiff, Nat.reduceLT, beq_self_eq_true, Bool.not_true, Bool.not_false, Bool.and_true, Bool.true_and, Bool.and_false, Bool.false_and, Bool.or_true, Bool.true_or, Bool.false_or, decide_eq_true_eq, Bool.not_eq_true', decide_eq_false_iff_not, true_and, and_true, reduceCtorEq, at_0, at_1, at_2, at_3, List.getD_cons_zero, List.getD_cons_succ, ok_int, ok_bl, ok_non, ok_tup0, ok_tI, ok_str, ok_t1, eq_int, eq_str, eq_t1, eq_tI1, ix40, ix41, ix42, ix43, List.length_map, eqk_int, eqk_str, eqk_bl, eqv_int, eqv_str, List.take_succ_cons, List.take_zero, List.drop_succ_cons, List.drop_zero, List.take_nil, List.drop_nil, ↓z_m1, ↓z_strV, ↓z_strS, strO_s, ↓z_intV, ↓z_intS, intO_i, ↓z_sl, ↓z_part0, ↓z_part, ↓z_join, ↓z_js0, ↓z_js1, gStr_i, gAll_l, gIn_ss, gStart_ss, gSplit_ss, gCut_s, gCut_l, gCut_t, gFmt_s, gFmt_i, gMul_si, gInt_s]
      refine ⟨.str sp, rfl, rfl, fun s e => by cases e; omega, ?_⟩
      simp only [↓z_c, ↓z_var, ↓z_nil, ↓z_cons, ↓z_b, ↓z_vslot, ↓z_kslot, ↓z_kval, ↓z_lst, ↓z_tup, ↓z_call, ↓z_callKw, ↓z_tslot, ↓z_pslot, ↓z_tru, ↓z_tb, ↓z_nott, ↓z_andt, ↓z_ort, ↓z_ifx, ↓z_andv, ↓z_orv, ↓z_notv, ↓z_isi, ↓z_xf, ↓z_xis, ↓z_app, ↓z_chain, ↓z_fld, ↓z_ins, ↓z_dic, ↓z_next, ↓z_seq, ↓z_break, ↓z_cont, ↓z_expr, ↓z_ret, ↓z_rval, ↓z_rslot, ↓z_retn, ↓z_if, ↓z_asg, ↓z_setix, ↓z_par, ↓z_asgg, ↓z_gnm, ↓z_gunp, ↓z_gone, ↓z_gno, ↓z_raise, ↓z_try, ↓z_for, ↓z_iseq, ↓z_irg1, ↓z_izip, ↓z_sslot, ↓z_ocons, ↓z_lc, ↓z_yes, ↓z_w0, ↓z_ws, ↓x_vnil, ↓x_vval, ↓x_knil, ↓x_kcons, ↓x_tnil, ↓x_tval, ↓x_pval, ↓x_pnil, ↓x_snil, ↓x_sval, ↓x_onil, z_trN, z_trB, z_trI, z_trS, z_trT, z_trL, slotV_s, slotN_n, slotN_s, slotL_l, slotC_sh, slotC_lst, slotC_ins, one1_d, oneI_i, two2_o, two2D_d, someV_s, isBl_b, boolO_b, setV_s, insV_s, tryV_t, tryV_f, insD_i, unpD_t, unpD_l, gAdd_ii, gAdd_ss, gAdd_ll, gAdd_tt, gMul_ii, gMul_li, gSub_ii, gLt_ii, gLe_ii, gGt_ii, gGe_ii, gFdiv_ii, gMod_ii, gPow_ii, gNeg_i, gAbs_i, gInt_i, gInt_b, gGcd_ii, gLen_l, gLen_t, gLen_s, gIx_l, gIx_t, gIx_s, gIs_bb, gIs_dn, gEq_de, gTuple_l, gTuple_t, gList_l, gList_t, items_l, items_t, items_s, seq_l, seq_t, isNon_n, isNon_i, isNon_b, isNon_s, isNon_t, isNon_l, g2_ii, isK, knownD, flatD, view_sh', view_lst, flat_sh, flat_lst, List.map_cons, List.map_nil, List.replicate, List.cons_append, List.nil_append, List.append_nil, List.getElem?_cons_zero, List.getElem?_cons_succ, List.set_cons_zero, List.set_cons_succ, List.length_cons, List.length_nil, List.contains, List.elem_nil, List.elem_cons, List.any_cons, List.any_nil, List.all_nil, List.all_cons, Bool.or_false, Bool.false_eq_true, if_true, if_false, ite_true, ite_false, Nat.reduceSub, Nat.reduceAdd, Nat.reduceBEq, Nat.reduceEqDiff, Nat.reduceLeDiff, Nat.reduceLT, beq_self_eq_true, Bool.not_true, Bool.not_false, Bool.and_true, Bool.true_and, Bool.and_false, Bool.false_and, Bool.or_true, Bool.true_or, Bool.false_or, decide_eq_true_eq, Bool.not_eq_true', decide_eq_false_iff_not, true_and, and_true, reduceCtorEq, at_0, at_1, at_2, at_3, List.getD_cons_zero, List.getD_cons_succ, ok_int, ok_bl, ok_non, ok_tup0, ok_tI, ok_str, ok_t1, eq_int, eq_str, eq_t1, eq_tI1, ix40, ix41, ix42, ix43, List.length_map, eqk_int, eqk_str, eqk_bl, eqv_int, eqv_str, List.take_succ_cons, List.take_zero, List.drop_succ_cons, List.drop_zero, List.take_nil, List.drop_nil, ↓z_m1, ↓z_strV, ↓z_strS, strO_s, ↓z_intV, ↓z_intS, intO_i, ↓z_sl, ↓z_part0, ↓z_part, ↓z_join, ↓z_js0, ↓z_js1, gStr_i, gAll_l, gIn_ss, gStart_ss, gSplit_ss, gCut_s, gCut_l, gCut_t, gFmt_s, gFmt_i, gMul_si, gInt_s]
      exact hb _ rfl
    rintro E rfl
    refine seq_split (fun E => E = [some xs, some (.lst l), y2, some (.sh (dR q)), some (.sh (.str tx)), some (oI n), some (.sh (.str sg)), some (.sh (.str sp)), some (.sh (dueD (readQ sp))), some (.sh (readD (readQ sp))), y10, none, none, none]) (fun b' hb => ?_) ?_
    · cases hq : readQ sp with
      | none =>
        rw [hq] at hb
        simp only [dueD, readD] at hb ⊢
        simp only [↓z_c, ↓z_var, ↓z_nil, ↓z_cons, ↓z_b, ↓z_vslot, ↓z_kslot, ↓z_kval, ↓z_lst, ↓z_tup, ↓z_call, ↓z_callKw, ↓z_tslot, ↓z_pslot, ↓z_tru, ↓z_tb, ↓z_nott, ↓z_andt, ↓z_ort, ↓z_ifx, ↓z_andv, ↓z_orv, ↓z_notv, ↓z_isi, ↓z_xf, ↓z_xis, ↓z_app, ↓z_chain, ↓z_fld, ↓z_ins, ↓z_dic, ↓z_next, ↓z_seq, ↓z_break, ↓z_cont, ↓z_expr, ↓z_ret, ↓z_rval, ↓z_rslot, ↓z_retn, ↓z_if, ↓z_asg, ↓z_setix, ↓z_par, ↓z_asgg, ↓z_gnm, ↓z_gunp, ↓z_gone, ↓z_gno, ↓z_raise, ↓z_try, ↓z_for, ↓z_iseq, ↓z_irg1, ↓z_izip, ↓z_sslot, ↓z_ocons, ↓z_lc, ↓z_yes, ↓z_w0, ↓z_ws, ↓x_vnil, ↓x_vval, ↓x_knil, ↓x_kcons, ↓x_tnil, ↓x_tval, ↓x_pval, ↓x_pnil, ↓x_snil, ↓x_sval, ↓x_onil, z_trN, z_trB, z_trI, z_trS, z_trT, z_trL, slotV_s, slotN_n, slotN_s, slotL_l, slotC_sh, slotC_lst, slotC_ins, one1_d, oneI_i, two2_o, two2D_d, someV_s, isBl_b, boolO_b, setV_s, insV_s, tryV_t, tryV_f, insD_i, unpD_t, unpD_l, gAdd_ii, gAdd_ss, gAdd_ll, gAdd_tt, gMul_ii, gMul_li, gSub_ii, gLt_ii, gLe_ii, gGt_ii, gGe_ii, gFdiv_ii, gMod_ii, gPow_ii, gNeg_i, gAbs_i, gInt_i, gInt_b, gGcd_ii, gLen_l, gLen_t, gLen_s, gIx_l, gIx_t, gIx_s, gIs_bb, gIs_dn, gEq_de, gTuple_l, gTuple_t, gList_l, gList_t, items_l, items_t, items_s, seq_l, seq_t, isNon_n, isNon_i, isNon_b, isNon_s, isNon_t, isNon_l, g2_ii, isK, knownD, flatD, view_sh', view_lst, flat_sh, flat_lst, List.map_cons, List.map_nil, List.replicate, List.cons_append, List.nil_append, List.append_nil, List.getElem?_cons_zero, List.getElem?_cons_succ, List.set_cons_zero, List.set_cons_succ, List.length_cons, List.length_nil, List.contains, List.elem_nil, List.elem_cons, List.any_cons, List.any_nil, List.all_nil, List.all_cons, Bool.or_false, Bool.false_eq_true, if_true, if_false, ite_true, ite_false, Nat.reduceSub, Nat.reduceAdd, Nat.reduceBEq, Nat.reduceEqDiff, Nat.reduceLeDiff, Nat.reduceLT, beq_self_eq_true, Bool.not_true, Bool.not_false, Bool.and_true, Bool.true_and, Bool.and_false, Bool.false_and, Bool.or_true, Bool.true_or, Bool.false_or, decide_eq_true_eq, Bool.not_eq_true', decide_eq_false_iff_not, true_and, and_true, reduceCtorEq, at_0, at_1, at_2, at_3, List.getD_cons_zero, List.getD_cons_succ, ok_int, ok_bl, ok_non, ok_tup0, ok_tI, ok_str, ok_t1, eq_int, eq_str, eq_t1, eq_tI1, ix40, ix41, ix42, ix43, List.length_map, eqk_int, eqk_str, eqk_bl, eqv_int, eqv_str, List.take_succ_cons, List.take_zero, List.drop_succ_cons, List.drop_zero, List.take_nil, List.drop_nil, ↓z_m1, ↓z_strV, ↓z_strS, strO_s, ↓z_intV, ↓z_intS, intO_i, ↓z_sl, ↓z_part0, ↓z_part, ↓z_join, ↓z_js0, ↓z_js1, gStr_i, gAll_l, gIn_ss, gStart_ss, gSplit_ss, gCut_s, gCut_l, gCut_t, gFmt_s, gFmt_i, gMul_si, gInt_s, eqk_t]
        exact ⟨by decide, hb _ rfl⟩
      | some z =>
        rw [hq] at hb
        simp only [dueD, readD] at hb ⊢
        simp only [↓z_c, ↓z_var, ↓z_nil, ↓z_cons, ↓z_b, ↓z_vslot, ↓z_kslot, ↓z_kval, ↓z_lst, ↓z_tup, ↓z_call, ↓z_callKw, ↓z_tslot, ↓z_pslot, ↓z_tru, ↓z_tb, ↓z_nott, ↓z_andt, ↓z_ort, ↓z_ifx, ↓z_andv, ↓z_orv, ↓z_notv, ↓z_isi, ↓z_xf, ↓z_xis, ↓z_app, ↓z_chain, ↓z_fld, ↓z_ins, ↓z_dic, ↓z_next, ↓z_seq, ↓z_break, ↓z_cont, ↓z_expr, ↓z_ret, ↓z_rval, ↓z_rslot, ↓z_retn, ↓z_if, ↓z_asg, ↓z_setix, ↓z_par, ↓z_asgg, ↓z_gnm, ↓z_gunp, ↓z_gone, ↓z_gno, ↓z_raise, ↓z_try, ↓z_for, ↓z_iseq, ↓z_irg1, ↓z_izip, ↓z_sslot, ↓z_ocons, ↓z_lc, ↓z_yes, ↓z_w0, ↓z_ws, ↓x_vnil, ↓x_vval, ↓x_knil, ↓x_kcons, ↓x_tnil, ↓x_tval, ↓x_pval, ↓x_pnil, ↓x_snil, ↓x_sval, ↓x_onil, z_trN, z_trB, z_trI, z_trS, z_trT, z_trL, slotV_s, slotN_n, slotN_s, slotL_l, slotC_sh, slotC_lst, slotC_ins, one1_d, oneI_i, two2_o, two2D_d, someV_s, isBl_b, boolO_b, setV_s, insV_s, tryV_t, tryV_f, insD_i, unpD_t, unpD_l, gAdd_ii, gAdd_ss, gAdd_ll, gAdd_tt, gMul_ii, gMul_li, gSub_ii, gLt_ii, gLe_ii, gGt_ii, gGe_ii, gFdiv_ii, gMod_ii, gPow_ii, gNeg_i, gAbs_i, gInt_i, gInt_b, gGcd_ii, gLen_l, gLen_t, gLen_s, gIx_l, gIx_t, gIx_s, gIs_bb, gIs_dn, gEq_de, gTuple_l, gTuple_t, gList_l, gList_t, items_l, items_t, items_s, seq_l, seq_t, isNon_n, isNon_i, isNon_b, isNon_s, isNon_t, isNon_l, g2_ii, isK, knownD, flatD, view_sh', view_lst, flat_sh, flat_lst, List.map_cons, List.map_nil, List.replicate, List.cons_append, List.nil_append, List.append_nil, List.getElem?_cons_zero, List.getElem?_cons_succ, List.set_cons_zero, List.set_cons_succ, List.length_cons, List.length_nil, List.contains, List.elem_nil, List.elem_cons, List.any_cons, List.any_nil, List.all_nil, List.all_cons, Bool.or_false, Bool.false_eq_true, if_true, if_false, ite_true, ite_false, Nat.reduceSub, Nat.reduceAdd, Nat.reduceBEq, Nat.reduceEqDiff, Nat.reduceLeDiff, Nat.reduceLT, beq_self_eq_true, Bool.not_true, Bool.not_false, Bool.and_true, Bool.true_and, Bool.and_false, Bool.false_and, Bool.or_true, Bool.true_or, Bool.false_or, decide_eq_true_eq, Bool.not_eq_true', decide_eq_false_iff_not, true_and, and_true, reduceCtorEq, at_0, at_1, at_2, at_3, List.getD_cons_zero, List.getD_cons_succ, ok_int, ok_bl, ok_non, ok_tup0, ok_tI, ok_str, ok_t1, eq_int, eq_str, eq_t1, eq_tI1, ix40, ix41, ix42, ix43, List.length_map, eqk_int, eqk_str, eqk_bl, eqv_int, eqv_str, List.take_succ_cons, List.take_zero, List.drop_succ_cons, List.drop_zero, List.take_nil, List.drop_nil, ↓z_m1, ↓z_strV, ↓z_strS, strO_s, ↓z_intV, ↓z_intS, intO_i, ↓z_sl, ↓z_part0, ↓z_part, ↓z_join, ↓z_js0, ↓z_js1, gStr_i, gAll_l, gIn_ss, gStart_ss, gSplit_ss, gCut_s, gCut_l, gCut_t, gFmt_s, gFmt_i, gMul_si, gInt_s]
        refine ⟨_, z, rfl, rfl, ?_⟩
        simp only [↓z_c, ↓z_var, ↓z_nil, ↓z_cons, ↓z_b, ↓z_vslot, ↓z_kslot, ↓z_kval, ↓z_lst, ↓z_tup, ↓z_call, ↓z_callKw, ↓z_tslot, ↓z_pslot, ↓z_tru, ↓z_tb, ↓z_nott, ↓z_andt, ↓z_ort, ↓z_ifx, ↓z_andv, ↓z_orv, ↓z_notv, ↓z_isi, ↓z_xf, ↓z_xis, ↓z_app, ↓z_chain, ↓z_fld, ↓z_ins, ↓z_dic, ↓z_next, ↓z_seq, ↓z_break, ↓z_cont, ↓z_expr, ↓z_ret, ↓z_rval, ↓z_rslot, ↓z_retn, ↓z_if, ↓z_asg, ↓z_setix, ↓z_par, ↓z_asgg, ↓z_gnm, ↓z_gunp, ↓z_gone, ↓z_gno, ↓z_raise, ↓z_try, ↓z_for, ↓z_iseq, ↓z_irg1, ↓z_izip, ↓z_sslot, ↓z_ocons, ↓z_lc, ↓z_yes, ↓z_w0, ↓z_ws, ↓x_vnil, ↓x_vval, ↓x_knil, ↓x_kcons, ↓x_tnil, ↓x_tval, ↓x_pval, ↓x_pnil, ↓x_snil, ↓x_sval, ↓x_onil, z_trN, z_trB, z_trI, z_trS, z_trT, z_trL, slotV_s, slotN_n, slotN_s, slotL_l, slotC_sh, slotC_lst, slotC_ins, one1_d, oneI_i, two2_o, two2D_d, someV_s, isBl_b, boolO_b, setV_s, insV_s, tryV_t, tryV_f, insD_i, unpD_t, unpD_l, gAdd_ii, gAdd_ss, gAdd_ll, gAdd_tt, gMul_ii, gMul_li, gSub_ii, gLt_ii, gLe_ii, gGt_ii, gGe_ii, gFdiv_ii, gMod_ii, gPow_ii, gNeg_i, gAbs_i, gInt_i, gInt_b, gGcd_ii, gLen_l, gLen_t, gLen_s, gIx_l, gIx_t, gIx_s, gIs_bb, gIs_dn, gEq_de, gTuple_l, gTuple_t, gList_l, gList_t, items_l, items_t, items_s, seq_l, seq_t, isNon_n, isNon_i, isNon_b, isNon_s, isNon_t, isNon_l, g2_ii, isK, knownD, flatD, view_sh', view_lst, flat_sh, flat_lst, List.map_cons, List.map_nil, List.replicate, List.cons_append, List.nil_append, List.append_nil, List.getElem?_cons_zero, List.getElem?_cons_succ, List.set_cons_zero, List.set_cons_succ, List.length_cons, List.length_nil, List.contains, List.elem_nil, List.elem_cons, List.any_cons, List.any_nil, List.all_nil, List.all_cons, Bool.or_false, Bool.false_eq_true, if_true, if_false, ite_true, ite_false, Nat.reduceSub, Nat.reduceAdd, Nat.reduceBEq, Nat.reduceEqDiff, Nat.reduceLeDiff, Nat.reduceLT, beq_self_eq_true, Bool.not_true, Bool.not_false, Bool.and_true, Bool.true_and, Bool.and_false, Bool.false_and, Bool.or_true, Bool.true_or, Bool.false_or, decide_eq_true_eq, Bool.not_eq_true', decide_eq_false_iff_not, true_and, and_true, reduceCtorEq, at_0, at_1, at_2, at_3, List.getD_cons_zero, List.getD_cons_succ, ok_int, ok_bl, ok_non, ok_tup0, ok_tI, ok_str, ok_t1, eq_int, eq_str, eq_t1, eq_tI1, ix40, ix41, ix42, ix43, List.length_map, eqk_int, eqk_str, eqk_bl, eqv_int, eqv_str, List.take_succ_cons, List.take_zero, List.drop_succ_cons, List.drop_zero, List.take_nil, List.drop_nil, ↓z_m1, ↓z_strV, ↓z_strS, strO_s, ↓z_intV, ↓z_intS, intO_i, ↓z_sl, ↓z_part0, ↓z_part, ↓z_join, ↓z_js0, ↓z_js1, gStr_i, gAll_l, gIn_ss, gStart_ss, gSplit_ss, gCut_s, gCut_l, gCut_t, gFmt_s, gFmt_i, gMul_si, gInt_s, same_self]
        exact hb _ rfl
    rintro E rfl
    refine seq_split (fun E => ∃ (l : List O) (d : D), E = [some xs, some (.lst l), y2, some (.sh (dR q)), some (.sh (.str tx)), some (oI n), some (.sh (.str sg)), some (.sh (.str sp)), some (.sh (dueD (readQ sp))), some (.sh (readD (readQ sp))), some (.sh d), none, none, none] ∧ Hand (.lst l) ∧ d.plain = true) (fun b' hb => ?_) ?_
    · simp only [↓z_c, ↓z_var, ↓z_nil, ↓z_cons, ↓z_b, ↓z_vslot, ↓z_kslot, ↓z_kval, ↓z_lst, ↓z_tup, ↓z_call, ↓z_callKw, ↓z_tslot, ↓z_pslot, ↓z_tru, ↓z_tb, ↓z_nott, ↓z_andt, ↓z_ort, ↓z_ifx, ↓z_andv, ↓z_orv, ↓z_notv, ↓z_isi, ↓z_xf, ↓z_xis, ↓z_app, ↓z_chain, ↓z_fld, ↓z_ins, ↓z_dic, ↓z_next, ↓z_seq, ↓z_break, ↓z_cont, ↓z_expr, ↓z_ret, ↓z_rval, ↓z_rslot, ↓z_retn, ↓z_if, ↓z_asg, ↓z_setix, ↓z_par, ↓z_asgg, ↓z_gnm, ↓z_gunp, ↓z_gone, ↓z_gno, ↓z_raise, ↓z_try, ↓z_for, ↓z_iseq, ↓z_irg1, ↓z_izip, ↓z_sslot, ↓z_ocons, ↓z_lc, ↓z_yes, ↓z_w0, ↓z_ws, ↓x_vnil, ↓x_vval, ↓x_knil, ↓x_kcons, ↓x_tnil, ↓x_tval, ↓x_pval, ↓x_pnil, ↓x_snil, ↓x_sval, ↓x_onil, z_trN, z_trB, z_trI, z_trS, z_trT, z_trL, slotV_s, slotN_n, slotN_s, slotL_l, slotC_sh, slotC_lst, slotC_ins, one1_d, oneI_i, two2_o, two2D_d, someV_s, isBl_b, boolO_b, setV_s, insV_s, tryV_t, tryV_f, insD_i, unpD_t, unpD_l, gAdd_ii, gAdd_ss, gAdd_ll, gAdd_tt, gMul_ii, gMul_li, gSub_ii, gLt_ii, gLe_ii, gGt_ii, gGe_ii, gFdiv_ii, gMod_ii, gPow_ii, gNeg_i, gAbs_i, gInt_i, gInt_b, gGcd_ii, gLen_l, gLen_t, gLen_s, gIx_l, gIx_t, gIx_s, gIs_bb, gIs_dn, gEq_de, gTuple_l, gTuple_t, gList_l, gList_t, items_l, items_t, items_s, seq_l, seq_t, isNon_n, isNon_i, isNon_b, isNon_s, isNon_t, isNon_l, g2_ii, isK, knownD, flatD, view_sh', view_lst, flat_sh, flat_lst, List.map_cons, List.map_nil, List.replicate, List.cons_append, List.nil_append, List.append_nil, List.getElem?_cons_zero, List.getElem?_cons_succ, List.set_cons_zero, List.set_cons_succ, List.length_cons, List.length_nil, List.contains, List.elem_nil, List.elem_cons, List.any_cons, List.any_nil, List.all_nil, List.all_cons, Bool.or_false, Bool.false_eq_true, if_true, if_false, ite_true, ite_false, Nat.reduceSub, Nat.reduceAdd, Nat.reduceBEq, Nat.reduceEqDiff, Nat.reduceLeDiff, Nat.reduceLT, beq_self_eq_true, Bool.not_true, Bool.not_false, Bool.and_true, Bool.true_and, Bool.and_false, Bool.false_and, Bool.or_true, Bool.true_or, Bool.false_or, decide_eq_true_eq, Bool.not_eq_true', decide_eq_false_iff_not, true_and, and_true, reduceCtorEq, at_0, at_1, at_2, at_3, List.getD_cons_zero, List.getD_cons_succ, ok_int, ok_bl, ok_non, ok_tup0, ok_tI, ok_str, ok_t1, eq_int, eq_str, eq_t1, eq_tI1, ix40, ix41, ix42, ix43, List.length_map, eqk_int, eqk_str, eqk_bl, eqv_int, eqv_str, List.take_succ_cons, List.take_zero, List.drop_succ_cons, List.drop_zero, List.take_nil, List.drop_nil, ↓z_m1, ↓z_strV, ↓z_strS, strO_s, ↓z_intV, ↓z_intS, intO_i, ↓z_sl, ↓z_part0, ↓z_part, ↓z_join, ↓z_js0, ↓z_js1, gStr_i, gAll_l, gIn_ss, gStart_ss, gSplit_ss, gCut_s, gCut_l, gCut_t, gFmt_s, gFmt_i, gMul_si, gInt_s]
      refine ⟨l, rfl, h, fun d l hd h => ?_⟩
      simp only [↓z_c, ↓z_var, ↓z_nil, ↓z_cons, ↓z_b, ↓z_vslot, ↓z_kslot, ↓z_kval, ↓z_lst, ↓z_tup, ↓z_call, ↓z_callKw, ↓z_tslot, ↓z_pslot, ↓z_tru, ↓z_tb, ↓z_nott, ↓z_andt, ↓z_ort, ↓z_ifx, ↓z_andv, ↓z_orv, ↓z_notv, ↓z_isi, ↓z_xf, ↓z_xis, ↓z_app, ↓z_chain, ↓z_fld, ↓z_ins, ↓z_dic, ↓z_next, ↓z_seq, ↓z_break, ↓z_cont, ↓z_expr, ↓z_ret, ↓z_rval, ↓z_rslot, ↓z_retn, ↓z_if, ↓z_asg, ↓z_setix, ↓z_par, ↓z_asgg, ↓z_gnm, ↓z_gunp, ↓z_gone, ↓z_gno, ↓z_raise, ↓z_try, ↓z_for, ↓z_iseq, ↓z_irg1, ↓z_izip, ↓z_sslot, ↓z_ocons, ↓z_lc, ↓z_yes, ↓z_w0, ↓z_ws, ↓x_vnil, ↓x_vval, ↓x_knil, ↓x_kcons, ↓x_tnil, ↓x_tval, ↓x_pval, ↓x_pnil, ↓x_snil, ↓x_sval, ↓x_onil, z_trN, z_trB, z_trI, z_trS, z_trT, z_trL, slotV_s, slotN_n, slotN_s, slotL_l, slotC_sh, slotC_lst, slotC_ins, one1_d, oneI_i, two2_o, two2D_d, someV_s, isBl_b, boolO_b, setV_s, insV_s, tryV_t, tryV_f, insD_i, unpD_t, unpD_l, gAdd_ii, gAdd_ss, gAdd_ll, gAdd_tt, gMul_ii, gMul_li, gSub_ii, gLt_ii, gLe_ii, gGt_ii, gGe_ii, gFdiv_ii, gMod_ii, gPow_ii, gNeg_i, gAbs_i, gInt_i, gInt_b, gGcd_ii, gLen_l, gLen_t, gLen_s, gIx_l, gIx_t, gIx_s, gIs_bb, gIs_dn, gEq_de, gTuple_l, gTuple_t, gList_l, gList_t, items_l, items_t, items_s, seq_l, seq_t, isNon_n, isNon_i, isNon_b, isNon_s, isNon_t, isNon_l, g2_ii, isK, knownD, flatD, view_sh', view_lst, flat_sh, flat_lst, List.map_cons, List.map_nil, List.replicate, List.cons_append, List.nil_append, List.append_nil, List.getElem?_cons_zero, List.getElem?_cons_succ, List.set_cons_zero, List.set_cons_succ, List.length_cons, List.length_nil, List.contains, List.elem_nil, List.elem_cons, List.any_cons, List.any_nil, List.all_nil, List.all_cons, Bool.or_false, Bool.false_eq_true, if_true, if_false, ite_true, ite_false, Nat.reduceSub, Nat.reduceAdd, Nat.reduceBEq, Nat.reduceEqDiff, Nat.reduceLeDiff, Nat.reduceLT, beq_self_eq_true, Bool.not_true, Bool.not_false, Bool.and_true, Bool.true_and, Bool.and_false, Bool.false_and, Bool.or_true, Bool.true_or, Bool.false_or, decide_eq_true_eq, Bool.not_eq_true', decide_eq_false_iff_not, true_and, and_true, reduceCtorEq, at_0, at_1, at_2, at_3, List.getD_cons_zero, List.getD_cons_succ, ok_int, ok_bl, ok_non, ok_tup0, ok_tI, ok_str, ok_t1, eq_int, eq_str, eq_t1, eq_tI1, ix40, ix41, ix42, ix43, List.length_map, eqk_int, eqk_str, eqk_bl, eqv_int, eqv_str, List.take_succ_cons, List.take_zero, List.drop_succ_cons, List.drop_zero, List.take_nil, List.drop_nil, ↓z_m1, ↓z_strV, ↓z_strS, strO_s, ↓z_intV, ↓z_intS, intO_i, ↓z_sl, ↓z_part0, ↓z_part, ↓z_join, ↓z_js0, ↓z_js1, gStr_i, gAll_l, gIn_ss, gStart_ss, gSplit_ss, gCut_s, gCut_l, gCut_t, gFmt_s, gFmt_i, gMul_si, gInt_s]
      refine hb _ ⟨l, d, rfl, h, ?_⟩
      simp only [odds, List.mem_cons, List.not_mem_nil, or_false] at hd
      rcases hd with e | e | e | e | e | e | e | e | e | e | e | e | e <;> subst e <;> rfl
    rintro E ⟨l, d, rfl, h, hp⟩
    have fin : tail [some xs, some (.lst l), y2, some (.sh (dR q)), some (.sh (.str tx)), some (oI n), some (.sh (.str sg)), some (.sh (.str sp)), some (.sh (dueD (readQ sp))), some (.sh (readD (readQ sp))), some (.sh d), none, none, none] := kt _ ⟨l, _, _, _, _, _, _, _, _, _, rfl, h⟩
    cases d with
    | ins c fs => rw [D.plain] at hp; cases hp
    | str s =>
      simp only [↓z_c, ↓z_var, ↓z_nil, ↓z_cons, ↓z_b, ↓z_vslot, ↓z_kslot, ↓z_kval, ↓z_lst, ↓z_tup, ↓z_call, ↓z_callKw, ↓z_tslot, ↓z_pslot, ↓z_tru, ↓z_tb, ↓z_nott, ↓z_andt, ↓z_ort, ↓z_ifx, ↓z_andv, ↓z_orv, ↓z_notv, ↓z_isi, ↓z_xf, ↓z_xis, ↓z_app, ↓z_chain, ↓z_fld, ↓z_ins, ↓z_dic, ↓z_next, ↓z_seq, ↓z_break, ↓z_cont, ↓z_expr, ↓z_ret, ↓z_rval, ↓z_rslot, ↓z_retn, ↓z_if, ↓z_asg, ↓z_setix, ↓z_par, ↓z_asgg, ↓z_gnm, ↓z_gunp, ↓z_gone, ↓z_gno, ↓z_raise, ↓z_try, ↓z_for, ↓z_iseq, ↓z_irg1, ↓z_izip, ↓z_sslot, ↓z_ocons, ↓z_lc, ↓z_yes, ↓z_w0, ↓z_ws, ↓x_vnil, ↓x_vval, ↓x_knil, ↓x_kcons, ↓x_tnil, ↓x_tval, ↓x_pval, ↓x_pnil, ↓x_snil, ↓x_sval, ↓x_onil, z_trN, z_trB, z_trI, z_trS, z_trT, z_trL, slotV_s, slotN_n, slotN_s, slotL_l, slotC_sh, slotC_lst, slotC_ins, one1_d, oneI_i, two2_o, two2D_d, someV_s, isBl_b, boolO_b, setV_s, insV_s, tryV_t, tryV_f, insD_i, unpD_t, unpD_l, gAdd_ii, gAdd_ss, gAdd_ll, gAdd_tt, gMul_ii, gMul_li, gSub_ii, gLt_ii, gLe_ii, gGt_ii, gGe_ii, gFdiv_ii, gMod_ii, gPow_ii, gNeg_i, gAbs_i, gInt_i, gInt_b, gGcd_ii, gLen_l, gLen_t, gLen_s, gIx_l, gIx_t, gIx_s, gIs_bb, gIs_dn, gEq_de, gTuple_l, gTuple_t, gList_l, gList_t, items_l, items_t, items_s, seq_l, seq_t, isNon_n, isNon_i, isNon_b, isNon_s, isNon_t, isNon_l, g2_ii, isK, knownD, flatD, view_sh', view_lst, flat_sh, flat_lst, List.map_cons, List.map_nil, List.replicate, List.cons_append, List.nil_append, List.append_nil, List.getElem?_cons_zero, List.getElem?_cons_succ, List.set_cons_zero, List.set_cons_succ, List.length_cons, List.length_nil, List.contains, List.elem_nil, List.elem_cons, List.any_cons, List.any_nil, List.all_nil, List.all_cons, Bool.or_false, Bool.false_eq_true, if_true, if_false, ite_true, ite_false, Nat.reduceSub, Nat.reduceAdd, Nat.reduceBEq, Nat.reduceEqDiff, Nat.reduceLeDiff, Nat.reduceLT, beq_self_eq_true, Bool.not_true, Bool.not_false, Bool.and_true, Bool.true_and, Bool.and_false, Bool.false_and, Bool.or_true, Bool.true_or, Bool.false_or, decide_eq_true_eq, Bool.not_eq_true', decide_eq_false_iff_not, true_and, and_true, reduceCtorEq, at_0, at_1, at_2, at_3, List.getD_cons_zero, List.getD_cons_succ, ok_int, ok_bl, ok_non, ok_tup0, ok_tI, ok_str, ok_t1, eq_int, eq_str, eq_t1, eq_tI1, ix40, ix41, ix42, ix43, List.length_map, eqk_int, eqk_str, eqk_bl, eqv_int, eqv_str, List.take_succ_cons, List.take_zero, List.drop_succ_cons, List.drop_zero, List.take_nil, List.drop_nil, ↓z_m1, ↓z_strV, ↓z_strS, strO_s, ↓z_intV, ↓z_intS, intO_i, ↓z_sl, ↓z_part0, ↓z_part, ↓z_join, ↓z_js0, ↓z_js1, gStr_i, gAll_l, gIn_ss, gStart_ss, gSplit_ss, gCut_s, gCut_l, gCut_t, gFmt_s, gFmt_i, gMul_si, gInt_s]
      exact fin
    | _ =>
      simp only [↓z_c, ↓z_var, ↓z_nil, ↓z_cons, ↓z_b, ↓z_vslot, ↓z_kslot, ↓z_kval, ↓z_lst, ↓z_tup, ↓z_call, ↓z_callKw, ↓z_tslot, ↓z_pslot, ↓z_tru, ↓z_tb, ↓z_nott, ↓z_andt, ↓z_ort, ↓z_ifx, ↓z_andv, ↓z_orv, ↓z_notv, ↓z_isi, ↓z_xf, ↓z_xis, ↓z_app, ↓z_chain, ↓z_fld, ↓z_ins, ↓z_dic, ↓z_next, ↓z_seq, ↓z_break, ↓z_cont, ↓z_expr, ↓z_ret, ↓z_rval, ↓z_rslot, ↓z_retn, ↓z_if, ↓z_asg, ↓z_setix, ↓z_par, ↓z_asgg, ↓z_gnm, ↓z_gunp, ↓z_gone, ↓z_gno, ↓z_raise, ↓z_try, ↓z_for, ↓z_iseq, ↓z_irg1, ↓z_izip, ↓z_sslot, ↓z_ocons, ↓z_lc, ↓z_yes, ↓z_w0, ↓z_ws, ↓x_vnil, ↓x_vval, ↓x_knil, ↓x_kcons, ↓x_tnil, ↓x_tval, ↓x_pval, ↓x_pnil, ↓x_snil, ↓x_sval, ↓x_onil, z_trN, z_trB, z_trI, z_trS, z_trT, z_trL, slotV_s, slotN_n, slotN_s, slotL_l, slotC_sh, slotC_lst, slotC_ins, one1_d, oneI_i, two2_o, two2D_d, someV_s, isBl_b, boolO_b, setV_s, insV_s, tryV_t, tryV_f, insD_i, unpD_t, unpD_l, gAdd_ii, gAdd_ss, gAdd_ll, gAdd_tt, gMul_ii, gMul_li, gSub_ii, gLt_ii, gLe_ii, gGt_ii, gGe_ii, gFdiv_ii, gMod_ii, gPow_ii, gNeg_i, gAbs_i, gInt_i, gInt_b, gGcd_ii, gLen_l, gLen_t, gLen_s, gIx_l, gIx_t, gIx_s, gIs_bb, gIs_dn, gEq_de, gTuple_l, gTuple_t, gList_l, gList_t, items_l, items_t, items_s, seq_l, seq_t, isNon_n, isNon_i, isNon_b, isNon_s, isNon_t, isNon_l, g2_ii, isK, knownD, flatD, view_sh', view_lst, flat_sh, flat_lst, List.map_cons, List.map_nil, List.replicate, List.cons_append, List.nil_append, List.append_nil, List.getElem?_cons_zero, List.getElem?_cons_succ, List.set_cons_zero, List.set_cons_succ, List.length_cons, List.length_nil, List.contains, List.elem_nil, List.elem_cons, List.any_cons, List.any_nil, List.all_nil, List.all_cons, Bool.or_false, Bool.false_eq_true, if_true, if_false, ite_true, ite_false, Nat.reduceSub, Nat.reduceAdd, Nat.reduceBEq, Nat.reduceEqDiff, Nat.reduceLeDiff, Nat.reduceLT, beq_self_eq_true, Bool.not_true, Bool.not_false, Bool.and_true, Bool.true_and, Bool.and_false, Bool.false_and, Bool.or_true, Bool.true_or, Bool.false_or, decide_eq_true_eq, Bool.not_eq_true', decide_eq_false_iff_not, true_and, and_true, reduceCtorEq, at_0, at_1, at_2, at_3, List.getD_cons_zero, List.getD_cons_succ, ok_int, ok_bl, ok_non, ok_tup0, ok_tI, ok_str, ok_t1, eq_int, eq_str, eq_t1, eq_tI1, ix40, ix41, ix42, ix43, List.length_map, eqk_int, eqk_str, eqk_bl, eqv_int, eqv_str, List.take_succ_cons, List.take_zero, List.drop_succ_cons, List.drop_zero, List.take_nil, List.drop_nil, ↓z_m1, ↓z_strV, ↓z_strS, strO_s, ↓z_intV, ↓z_intS, intO_i, ↓z_sl, ↓z_part0, ↓z_part, ↓z_join, ↓z_js0, ↓z_js1, gStr_i, gAll_l, gIn_ss, gStart_ss, gSplit_ss, gCut_s, gCut_l, gCut_t, gFmt_s, gFmt_i, gMul_si, gInt_s]
      refine ⟨_, rfl, hp, (fun s e => by cases e), ?_⟩
      simp only [↓z_c, ↓z_var, ↓z_nil, ↓z_cons, ↓z_b, ↓z_vslot, ↓z_kslot, ↓z_kval, ↓z_lst, ↓z_tup, ↓z_call, ↓z_callKw, ↓z_tslot, ↓z_pslot, ↓z_tru, ↓z_tb, ↓z_nott, ↓z_andt, ↓z_ort, ↓z_ifx, ↓z_andv, ↓z_orv, ↓z_notv, ↓z_isi, ↓z_xf, ↓z_xis, ↓z_app, ↓z_chain, ↓z_fld, ↓z_ins, ↓z_dic, ↓z_next, ↓z_seq, ↓z_break, ↓z_cont, ↓z_expr, ↓z_ret, ↓z_rval, ↓z_rslot, ↓z_retn, ↓z_if, ↓z_asg, ↓z_setix, ↓z_par, ↓z_asgg, ↓z_gnm, ↓z_gunp, ↓z_gone, ↓z_gno, ↓z_raise, ↓z_try, ↓z_for, ↓z_iseq, ↓z_irg1, ↓z_izip, ↓z_sslot, ↓z_ocons, ↓z_lc, ↓z_yes, ↓z_w0, ↓z_ws, ↓x_vnil, ↓x_vval, ↓x_knil, ↓x_kcons, ↓x_tnil, ↓x_tval, ↓x_pval, ↓x_pnil, ↓x_snil, ↓x_sval, ↓x_onil, z_trN, z_trB, z_trI, z_trS, z_trT, z_trL, slotV_s, slotN_n, slotN_s, slotL_l, slotC_sh, slotC_lst, slotC_ins, one1_d, oneI_i, two2_o, two2D_d, someV_s, isBl_b, boolO_b, setV_s, insV_s, tryV_t, tryV_f, insD_i, unpD_t, unpD_l, gAdd_ii, gAdd_ss, gAdd_ll, gAdd_tt, gMul_ii, gMul_li, gSub_ii, gLt_ii, gLe_ii, gGt_ii, gGe_ii, gFdiv_ii, gMod_ii, gPow_ii, gNeg_i, gAbs_i, gInt_i, gInt_b, gGcd_ii, gLen_l, gLen_t, gLen_s, gIx_l, gIx_t, gIx_s, gIs_bb, gIs_dn, gEq_de, gTuple_l, gTuple_t, gList_l, gList_t, items_l, items_t, items_s, seq_l, seq_t, isNon_n, isNon_i, isNon_b, isNon_s, isNon_t, isNon_l, g2_ii, isK, knownD, flatD, view_sh', view_lst, flat_sh, flat_lst, List.map_cons, List.map_nil, List.replicate, List.cons_append, List.nil_append, List.append_nil, List.getElem?_cons_zero, List.getElem?_cons_succ, List.set_cons_zero, List.set_cons_succ, List.length_cons, List.length_nil, List.contains, List.elem_nil, List.elem_cons, List.any_cons, List.any_nil, List.all_nil, List.all_cons, Bool.or_false, Bool.false_eq_true, if_true, if_false, ite_true, ite_false, Nat.reduceSub, Nat.reduceAdd, Nat.reduceBEq, Nat.reduceEqDiff, Nat.reduceLeDiff, Nat.reduceLT, beq_self_eq_true, Bool.not_true, Bool.not_false, Bool.and_true, Bool.true_and, Bool.and_false, Bool.false_and, Bool.or_true, Bool.true_or, Bool.false_or, decide_eq_true_eq, Bool.not_eq_true', decide_eq_false_iff_not, true_and, and_true, reduceCtorEq, at_0, at_1, at_2, at_3, List.getD_cons_zero, List.getD_cons_succ, ok_int, ok_bl, ok_non, ok_tup0, ok_tI, ok_str, ok_t1, eq_int, eq_str, eq_t1, eq_tI1, ix40, ix41, ix42, ix43, List.length_map, eqk_int, eqk_str, eqk_bl, eqv_int, eqv_str, List.take_succ_cons, List.take_zero, List.drop_succ_cons, List.drop_zero, List.take_nil, List.drop_nil, ↓z_m1, ↓z_strV, ↓z_strS, strO_s, ↓z_intV, ↓z_intS, intO_i, ↓z_sl, ↓z_part0, ↓z_part, ↓z_join, ↓z_js0, ↓z_js1, gStr_i, gAll_l, gIn_ss, gStart_ss, gSplit_ss, gCut_s, gCut_l, gCut_t, gFmt_s, gFmt_i, gMul_si, gInt_s, strD, Option.bind_none, readD, eqk_t]
      exact ⟨by decide, fin⟩
  rintro E ⟨l, y2, y3, y4, y5, y6, y7, y8, y9, y10, rfl, h⟩
  refine seq_split (fun E => ∃ (l : List O) (m : Nat), E = [some xs, some (.lst l), y2, y3, y4, y5, y6, y7, y8, y9, y10, some (oI m), none, none] ∧ Hand (.lst l) ∧ 299 ≤ m ∧ m ≤ 302) (fun b' hb => ?_) ?_
  · simp only [↓z_c, ↓z_var, ↓z_nil, ↓z_cons, ↓z_b, ↓z_vslot, ↓z_kslot, ↓z_kval, ↓z_lst, ↓z_tup, ↓z_call, ↓z_callKw, ↓z_tslot, ↓z_pslot, ↓z_tru, ↓z_tb, ↓z_nott, ↓z_andt, ↓z_ort, ↓z_ifx, ↓z_andv, ↓z_orv, ↓z_notv, ↓z_isi, ↓z_xf, ↓z_xis, ↓z_app, ↓z_chain, ↓z_fld, ↓z_ins, ↓z_dic, ↓z_next, ↓z_seq, ↓z_break, ↓z_cont, ↓z_expr, ↓z_ret, ↓z_rval, ↓z_rslot, ↓z_retn, ↓z_if, ↓z_asg, ↓z_setix, ↓z_par, ↓z_asgg, ↓z_gnm, ↓z_gunp, ↓z_gone, ↓z_gno, ↓z_raise, ↓z_try, ↓z_for, ↓z_iseq, ↓z_irg1, ↓z_izip, ↓z_sslot, ↓z_ocons, ↓z_lc, ↓z_yes, ↓z_w0, ↓z_ws, ↓x_vnil, ↓x_vval, ↓x_knil, ↓x_kcons, ↓x_tnil, ↓x_tval, ↓x_pval, ↓x_pnil, ↓x_snil, ↓x_sval, ↓x_onil, z_trN, z_trB, z_trI, z_trS, z_trT, z_trL, slotV_s, slotN_n, slotN_s, slotL_l, slotC_sh, slotC_lst, slotC_ins, one1_d, oneI_i, two2_o, two2D_d, someV_s, isBl_b, boolO_b, setV_s, insV_s, tryV_t, tryV_f, insD_i, unpD_t, unpD_l, gAdd_ii, gAdd_ss, gAdd_ll, gAdd_tt, gMul_ii, gMul_li, gSub_ii, gLt_ii, gLe_ii, gGt_ii, gGe_ii, gFdiv_ii, gMod_ii, gPow_ii, gNeg_i, gAbs_i, gInt_i, gInt_b, gGcd_ii, gLen_l, gLen_t, gLen_s, gIx_l, gIx_t, gIx_s, gIs_bb, gIs_dn, gEq_de, gTuple_l, gTuple_t, gList_l, gList_t, items_l, items_t, items_s, seq_l, seq_t, isNon_n, isNon_i, isNon_b, isNon_s, isNon_t, isNon_l, g2_ii, isK, knownD, flatD, view_sh', view_lst, flat_sh, flat_lst, List.map_cons, List.map_nil, List.replicate, List.cons_append, List.nil_append, List.append_nil, List.getElem?_cons_zero, List.getElem?_cons_succ, List.set_cons_zero, List.set_cons_succ, List.length_cons, List.length_nil, List.contains, List.elem_nil, List.elem_cons, List.any_cons, List.any_nil, List.all_nil, List.all_cons, Bool.or_false, Bool.false_eq_true, if_true, if_false, ite_true, ite_false, Nat.reduceSub, Nat.reduceAdd, Nat.reduceBEq, Nat.reduceEqDiff, Nat.reduceLeDiff, Nat.reduceLT, beq_self_eq_true, Bool.not_true, Bool.not_false, Bool.and_true, Bool.true_and, Bool.and_false, Bool.false_and, Bool.or_true, Bool.true_or, Bool.false_or, decide_eq_true_eq, Bool.not_eq_true', decide_eq_false_iff_not, true_and, and_true, reduceCtorEq, at_0, at_1, at_2, at_3, List.getD_cons_zero, List.getD_cons_succ, ok_int, ok_bl, ok_non, ok_tup0, ok_tI, ok_str, ok_t1, eq_int, eq_str, eq_t1, eq_tI1, ix40, ix41, ix42, ix43, List.length_map, eqk_int, eqk_str, eqk_bl, eqv_int, eqv_str, List.take_succ_cons, List.take_zero, List.drop_succ_cons, List.drop_zero, List.take_nil, List.drop_nil, ↓z_m1, ↓z_strV, ↓z_strS, strO_s, ↓z_intV, ↓z_intS, intO_i, ↓z_sl, ↓z_part0, ↓z_part, ↓z_join, ↓z_js0, ↓z_js1, gStr_i, gAll_l, gIn_ss, gStart_ss, gSplit_ss, gCut_s, gCut_l, gCut_t, gFmt_s, gFmt_i, gMul_si, gInt_s]
    refine ⟨l, _, rfl, h, by decide, by unfold Wb; decide, fun n l h0 h1 h => ?_⟩
    simp only [↓z_c, ↓z_var, ↓z_nil, ↓z_cons, ↓z_b, ↓z_vslot, ↓z_kslot, ↓z_kval, ↓z_lst, ↓z_tup, ↓z_call, ↓z_callKw, ↓z_tslot, ↓z_pslot, ↓z_tru, ↓z_tb, ↓z_nott, ↓z_andt, ↓z_ort, ↓z_ifx, ↓z_andv, ↓z_orv, ↓z_notv, ↓z_isi, ↓z_xf, ↓z_xis, ↓z_app, ↓z_chain, ↓z_fld, ↓z_ins, ↓z_dic, ↓z_next, ↓z_seq, ↓z_break, ↓z_cont, ↓z_expr, ↓z_ret, ↓z_rval, ↓z_rslot, ↓z_retn, ↓z_if, ↓z_asg, ↓z_setix, ↓z_par, ↓z_asgg, ↓z_gnm, ↓z_gunp, ↓z_gone, ↓z_gno, ↓z_raise, ↓z_try, ↓z_for, ↓z_iseq, ↓z_irg1, ↓z_izip, ↓z_sslot, ↓z_ocons, ↓z_lc, ↓z_yes, ↓z_w0, ↓z_ws, ↓x_vnil, ↓x_vval, ↓x_knil, ↓x_kcons, ↓x_tnil, ↓x_tval, ↓x_pval, ↓x_pnil, ↓x_snil, ↓x_sval, ↓x_onil, z_trN, z_trB, z_trI, z_trS, z_trT, z_trL, slotV_s, slotN_n, slotN_s, slotL_l, slotC_sh, slotC_lst, slotC_ins, one1_d, oneI_i, two2_o, two2D_d, someV_s, isBl_b, boolO_b, setV_s, insV_s, tryV_t, tryV_f, insD_i, unpD_t, unpD_l, gAdd_ii, gAdd_ss, gAdd_ll, gAdd_tt, gMul_ii, gMul_li, gSub_ii, gLt_ii, gLe_ii, gGt_ii, gGe_ii, gFdiv_ii, gMod_ii, gPow_ii, gNeg_i, gAbs_i, gInt_i, gInt_b, gGcd_ii, gLen_l, gLen_t, gLen_s, gIx_l, gIx_t, gIx_s, gIs_bb, gIs_dn, gEq_de, gTuple_l, gTuple_t, gList_l, gList_t, items_l, items_t, items_s, seq_l, seq_t, isNon_n, isNon_i, isNon_b, isNon_s, isNon_t, isNon_l, g2_ii, isK, knownD, flatD, view_sh', view_lst, flat_sh, flat_lst, List.map_cons, List.map_nil, List.replicate, List.cons_append, List.nil_append, List.append_nil, List.getElem?_cons_zero, List.getElem?_cons_succ, List.set_cons_zero, List.set_cons_succ, List.length_cons, List.length_nil, List.contains, List.elem_nil, List.elem_cons, List.any_cons, List.any_nil, List.all_nil, List.all_cons, Bool.or_false, Bool.false_eq_true, if_true, if_false, ite_true, ite_false, Nat.reduceSub, Nat.reduceAdd, Nat.reduceBEq, Nat.reduceEqDiff, Nat.reduceLeDiff, Nat.reduceLT, beq_self_eq_true, Bool.not_true, Bool.not_false, Bool.and_true, Bool.true_and, Bool.and_false, Bool.false_and, Bool.or_true, Bool.true_or, Bool.false_or, decide_eq_true_eq, Bool.not_eq_true', decide_eq_false_iff_not, true_and, and_true, reduceCtorEq, at_0, at_1, at_2, at_3, List.getD_cons_zero, List.getD_cons_succ, ok_int, ok_bl, ok_non, ok_tup0, ok_tI, ok_str, ok_t1, eq_int, eq_str, eq_t1, eq_tI1, ix40, ix41, ix42, ix43, List.length_map, eqk_int, eqk_str, eqk_bl, eqv_int, eqv_str, List.take_succ_cons, List.take_zero, List.drop_succ_cons, List.drop_zero, List.take_nil, List.drop_nil, ↓z_m1, ↓z_strV, ↓z_strS, strO_s, ↓z_intV, ↓z_intS, intO_i, ↓z_sl, ↓z_part0, ↓z_part, ↓z_join, ↓z_js0, ↓z_js1, gStr_i, gAll_l, gIn_ss, gStart_ss, gSplit_ss, gCut_s, gCut_l, gCut_t, gFmt_s, gFmt_i, gMul_si, gInt_s]
    have e : (299 + n) = (((299 + n).toNat : Nat) : Int) := by omega
    rw [e]
    exact hb _ ⟨l, (299 + n).toNat, rfl, h, by omega, by omega⟩
  rintro E ⟨l, m, rfl, h, m0, m1⟩
  refine seq_split (fun E => ∃ (l : List O) (d : Nat), E = [some xs, some (.lst l), y2, y3, y4, y5, y6, y7, y8, y9, y10, some (oI m), some (.sh (.str (numS d))), none] ∧ Hand (.lst l) ∧ 1 ≤ d ∧ d ≤ 9) (fun b' hb => ?_) ?_
  · simp only [↓z_c, ↓z_var, ↓z_nil, ↓z_cons, ↓z_b, ↓z_vslot, ↓z_kslot, ↓z_kval, ↓z_lst, ↓z_tup, ↓z_call, ↓z_callKw, ↓z_tslot, ↓z_pslot, ↓z_tru, ↓z_tb, ↓z_nott, ↓z_andt, ↓z_ort, ↓z_ifx, ↓z_andv, ↓z_orv, ↓z_notv, ↓z_isi, ↓z_xf, ↓z_xis, ↓z_app, ↓z_chain, ↓z_fld, ↓z_ins, ↓z_dic, ↓z_next, ↓z_seq, ↓z_break, ↓z_cont, ↓z_expr, ↓z_ret, ↓z_rval, ↓z_rslot, ↓z_retn, ↓z_if, ↓z_asg, ↓z_setix, ↓z_par, ↓z_asgg, ↓z_gnm, ↓z_gunp, ↓z_gone, ↓z_gno, ↓z_raise, ↓z_try, ↓z_for, ↓z_iseq, ↓z_irg1, ↓z_izip, ↓z_sslot, ↓z_ocons, ↓z_lc, ↓z_yes, ↓z_w0, ↓z_ws, ↓x_vnil, ↓x_vval, ↓x_knil, ↓x_kcons, ↓x_tnil, ↓x_tval, ↓x_pval, ↓x_pnil, ↓x_snil, ↓x_sval, ↓x_onil, z_trN, z_trB, z_trI, z_trS, z_trT, z_trL, slotV_s, slotN_n, slotN_s, slotL_l, slotC_sh, slotC_lst, slotC_ins, one1_d, oneI_i, two2_o, two2D_d, someV_s, isBl_b, boolO_b, setV_s, insV_s, tryV_t, tryV_f, insD_i, unpD_t, unpD_l, gAdd_ii, gAdd_ss, gAdd_ll, gAdd_tt, gMul_ii, gMul_li, gSub_ii, gLt_ii, gLe_ii, gGt_ii, gGe_ii, gFdiv_ii, gMod_ii, gPow_ii, gNeg_i, gAbs_i, gInt_i, gInt_b, gGcd_ii, gLen_l, gLen_t, gLen_s, gIx_l, gIx_t, gIx_s, gIs_bb, gIs_dn, gEq_de, gTuple_l, gTuple_t, gList_l, gList_t, items_l, items_t, items_s, seq_l, seq_t, isNon_n, isNon_i, isNon_b, isNon_s, isNon_t, isNon_l, g2_ii, isK, knownD, flatD, view_sh', view_lst, flat_sh, flat_lst, List.map_cons, List.map_nil, List.replicate, List.cons_append, List.nil_append, List.append_nil, List.getElem?_cons_zero, List.getElem?_cons_succ, List.set_cons_zero, List.set_cons_succ, List.length_cons, List.length_nil, List.contains, List.elem_nil, List.elem_cons, List.any_cons, List.any_nil, List.all_nil, List.all_cons, Bool.or_false, Bool.false_eq_true, if_true, if_false, ite_true, ite_false, Nat.reduceSub, Nat.reduceAdd, Nat.reduceBEq, Nat.reduceEqDiff, Nat.reduceLeDiff, Nat.reduceLT, beq_self_eq_true, Bool.not_true, Bool.not_false, Bool.and_true, Bool.true_and, Bool.and_false, Bool.false_and, Bool.or_true, Bool.true_or, Bool.false_or, decide_eq_true_eq, Bool.not_eq_true', decide_eq_false_iff_not, true_and, and_true, reduceCtorEq, at_0, at_1, at_2, at_3, List.getD_cons_zero, List.getD_cons_succ, ok_int, ok_bl, ok_non, ok_tup0, ok_tI, ok_str, ok_t1, eq_int, eq_str, eq_t1, eq_tI1, ix40, ix41, ix42, ix43, List.length_map, eqk_int, eqk_str, eqk_bl, eqv_int, eqv_str, List.take_succ_cons, List.take_zero, List.drop_succ_cons, List.drop_zero, List.take_nil, List.drop_nil, ↓z_m1, ↓z_strV, ↓z_strS, strO_s, ↓z_intV, ↓z_intS, intO_i, ↓z_sl, ↓z_part0, ↓z_part, ↓z_join, ↓z_js0, ↓z_js1, gStr_i, gAll_l, gIn_ss, gStart_ss, gSplit_ss, gCut_s, gCut_l, gCut_t, gFmt_s, gFmt_i, gMul_si, gInt_s]
    refine ⟨l, _, rfl, h, by decide, by unfold Wb; decide, fun n l h0 h1 h => ?_⟩
    simp only [↓z_c, ↓z_var, ↓z_nil, ↓z_cons, ↓z_b, ↓z_vslot, ↓z_kslot, ↓z_kval, ↓z_lst, ↓z_tup, ↓z_call, ↓z_callKw, ↓z_tslot, ↓z_pslot, ↓z_tru, ↓z_tb, ↓z_nott, ↓z_andt, ↓z_ort, ↓z_ifx, ↓z_andv, ↓z_orv, ↓z_notv, ↓z_isi, ↓z_xf, ↓z_xis, ↓z_app, ↓z_chain, ↓z_fld, ↓z_ins, ↓z_dic, ↓z_next, ↓z_seq, ↓z_break, ↓z_cont, ↓z_expr, ↓z_ret, ↓z_rval, ↓z_rslot, ↓z_retn, ↓z_if, ↓z_asg, ↓z_setix, ↓z_par, ↓z_asgg, ↓z_gnm, ↓z_gunp, ↓z_gone, ↓z_gno, ↓z_raise, ↓z_try, ↓z_for, ↓z_iseq, ↓z_irg1, ↓z_izip, ↓z_sslot, ↓z_ocons, ↓z_lc, ↓z_yes, ↓z_w0, ↓z_ws, ↓x_vnil, ↓x_vval, ↓x_knil, ↓x_kcons, ↓x_tnil, ↓x_tval, ↓x_pval, ↓x_pnil, ↓x_snil, ↓x_sval, ↓x_onil, z_trN, z_trB, z_trI, z_trS, z_trT, z_trL, slotV_s, slotN_n, slotN_s, slotL_l, slotC_sh, slotC_lst, slotC_ins, one1_d, oneI_i, two2_o, two2D_d, someV_s, isBl_b, boolO_b, setV_s, insV_s, tryV_t, tryV_f, insD_i, unpD_t, unpD_l, gAdd_ii, gAdd_ss, gAdd_ll, gAdd_tt, gMul_ii, gMul_li, gSub_ii, gLt_ii, gLe_ii, gGt_ii, gGe_ii, gFdiv_ii, gMod_ii, gPow_ii, gNeg_i, gAbs_i, gInt_i, gInt_b, gGcd_ii, gLen_l, gLen_t, gLen_s, gIx_l, gIx_t, gIx_s, gIs_bb, gIs_dn, gEq_de, gTuple_l, gTuple_t, gList_l, gList_t, items_l, items_t, items_s, seq_l, seq_t, isNon_n, isNon_i, isNon_b, isNon_s, isNon_t, isNon_l, g2_ii, isK, knownD, flatD, view_sh', view_lst, flat_sh, flat_lst, List.map_cons, List.map_nil, List.replicate, List.cons_append, List.nil_append, List.append_nil, List.getElem?_cons_zero, List.getElem?_cons_succ, List.set_cons_zero, List.set_cons_succ, List.length_cons, List.length_nil, List.contains, List.elem_nil, List.elem_cons, List.any_cons, List.any_nil, List.all_nil, List.all_cons, Bool.or_false, Bool.false_eq_true, if_true, if_false, ite_true, ite_false, Nat.reduceSub, Nat.reduceAdd, Nat.reduceBEq, Nat.reduceEqDiff, Nat.reduceLeDiff, Nat.reduceLT, beq_self_eq_true, Bool.not_true, Bool.not_false, Bool.and_true, Bool.true_and, Bool.and_false, Bool.false_and, Bool.or_true, Bool.true_or, Bool.false_or, decide_eq_true_eq, Bool.not_eq_true', decide_eq_false_iff_not, true_and, and_true, reduceCtorEq, at_0, at_1, at_2, at_3, List.getD_cons_zero, List.getD_cons_succ, ok_int, ok_bl, ok_non, ok_tup0, ok_tI, ok_str, ok_t1, eq_int, eq_str, eq_t1, eq_tI1, ix40, ix41, ix42, ix43, List.length_map, eqk_int, eqk_str, eqk_bl, eqv_int, eqv_str, List.take_succ_cons, List.take_zero, List.drop_succ_cons, List.drop_zero, List.take_nil, List.drop_nil, ↓z_m1, ↓z_strV, ↓z_strS, strO_s, ↓z_intV, ↓z_intS, intO_i, ↓z_sl, ↓z_part0, ↓z_part, ↓z_join, ↓z_js0, ↓z_js1, gStr_i, gAll_l, gIn_ss, gStart_ss, gSplit_ss, gCut_s, gCut_l, gCut_t, gFmt_s, gFmt_i, gMul_si, gInt_s]
    have e : (1 + n) = (((1 + n).toNat : Nat) : Int) := by omega
    refine ⟨bit_log (n := 10) (by unfold Wb; omega) (by decide) (by decide), ?_⟩
    rw [e]
    exact hb _ ⟨l, (1 + n).toNat, rfl, h, by omega, by omega⟩
  rintro E ⟨l, d, rfl, h, d0, d9⟩
  have td : (numS d).cps.toList = [48 + d] := by
    have := tl_num (cs := [48 + d]) ⟨fun c hc => by rw [List.mem_singleton] at hc; omega, .inr ⟨_, _, rfl, by omega⟩⟩
    have e : NumText.digitsVal [48 + d] = d := by show 0 * 10 + (48 + d - 48) = d; omega
    rw [e] at this
    exact this
  have ld : (numS d).length = 1 := by rw [len_tl, td]; rfl
  have tT : (repS (numS d) (m : Int)).cps.toList = List.replicate m (48 + d) := rep_tl td m
  have lT : (repS (numS d) (m : Int)).length = m := by rw [len_tl, tT, List.length_replicate]
  refine seq_split (fun E => E = [some xs, some (.lst l), y2, y3, some (.sh (.str (repS (numS d) (m : Int)))), y5, y6, y7, y8, y9, y10, some (oI m), some (.sh (.str (numS d))), none]) (fun b' hb => ?_) ?_
  · simp only [↓z_c, ↓z_var, ↓z_nil, ↓z_cons, ↓z_b, ↓z_vslot, ↓z_kslot, ↓z_kval, ↓z_lst, ↓z_tup, ↓z_call, ↓z_callKw, ↓z_tslot, ↓z_pslot, ↓z_tru, ↓z_tb, ↓z_nott, ↓z_andt, ↓z_ort, ↓z_ifx, ↓z_andv, ↓z_orv, ↓z_notv, ↓z_isi, ↓z_xf, ↓z_xis, ↓z_app, ↓z_chain, ↓z_fld, ↓z_ins, ↓z_dic, ↓z_next, ↓z_seq, ↓z_break, ↓z_cont, ↓z_expr, ↓z_ret, ↓z_rval, ↓z_rslot, ↓z_retn, ↓z_if, ↓z_asg, ↓z_setix, ↓z_par, ↓z_asgg, ↓z_gnm, ↓z_gunp, ↓z_gone, ↓z_gno, ↓z_raise, ↓z_try, ↓z_for, ↓z_iseq, ↓z_irg1, ↓z_izip, ↓z_sslot, ↓z_ocons, ↓z_lc, ↓z_yes, ↓z_w0, ↓z_ws, ↓x_vnil, ↓x_vval, ↓x_knil, ↓x_kcons, ↓x_tnil, ↓x_tval, ↓x_pval, ↓x_pnil, ↓x_snil, ↓x_sval, ↓x_onil, z_trN, z_trB, z_trI, z_trS, z_trT, z_trL, slotV_s, slotN_n, slotN_s, slotL_l, slotC_sh, slotC_lst, slotC_ins, one1_d, oneI_i, two2_o, two2D_d, someV_s, isBl_b, boolO_b, setV_s, insV_s, tryV_t, tryV_f, insD_i, unpD_t, unpD_l, gAdd_ii, gAdd_ss, gAdd_ll, gAdd_tt, gMul_ii, gMul_li, gSub_ii, gLt_ii, gLe_ii, gGt_ii, gGe_ii, gFdiv_ii, gMod_ii, gPow_ii, gNeg_i, gAbs_i, gInt_i, gInt_b, gGcd_ii, gLen_l, gLen_t, gLen_s, gIx_l, gIx_t, gIx_s, gIs_bb, gIs_dn, gEq_de, gTuple_l, gTuple_t, gList_l, gList_t, items_l, items_t, items_s, seq_l, seq_t, isNon_n, isNon_i, isNon_b, isNon_s, isNon_t, isNon_l, g2_ii, isK, knownD, flatD, view_sh', view_lst, flat_sh, flat_lst, List.map_cons, List.map_nil, List.replicate, List.cons_append, List.nil_append, List.append_nil, List.getElem?_cons_zero, List.getElem?_cons_succ, List.set_cons_zero, List.set_cons_succ, List.length_cons, List.length_nil, List.contains, List.elem_nil, List.elem_cons, List.any_cons, List.any_nil, List.all_nil, List.all_cons, Bool.or_false, Bool.false_eq_true, if_true, if_false, ite_true, ite_false, Nat.reduceSub, Nat.reduceAdd, Nat.reduceBEq, Nat.reduceEqDiff, Nat.reduceLeDiff, Nat.reduceLT, beq_self_eq_true, Bool.not_true, Bool.not_false, Bool.and_true, Bool.true_and, Bool.and_false, Bool.false_and, Bool.or_true, Bool.true_or, Bool.false_or, decide_eq_true_eq, Bool.not_eq_true', decide_eq_false_iff_not, true_and, and_true, reduceCtorEq, at_0, at_1, at_2, at_3, List.getD_cons_zero, List.getD_cons_succ, ok_int, ok_bl, ok_non, ok_tup0, ok_tI, ok_str, ok_t1, eq_int, eq_str, eq_t1, eq_tI1, ix40, ix41, ix42, ix43, List.length_map, eqk_int, eqk_str, eqk_bl, eqv_int, eqv_str, List.take_succ_cons, List.take_zero, List.drop_succ_cons, List.drop_zero, List.take_nil, List.drop_nil, ↓z_m1, ↓z_strV, ↓z_strS, strO_s, ↓z_intV, ↓z_intS, intO_i, ↓z_sl, ↓z_part0, ↓z_part, ↓z_join, ↓z_js0, ↓z_js1, gStr_i, gAll_l, gIn_ss, gStart_ss, gSplit_ss, gCut_s, gCut_l, gCut_t, gFmt_s, gFmt_i, gMul_si, gInt_s]
    exact ⟨⟨by omega, by omega, by omega, by rw [ld]; omega⟩, hb _ rfl⟩
  rintro E rfl
  generalize repS (numS d) (m : Int) = T at tT lT
  have p2 : (("1/" : String) : Str).length = 2 := by decide +kernel
  have p1 := dash_len
  refine seq_split (fun E => E = [some xs, some (.lst l), y2, y3, some (.sh (.str T)), y5, y6, y7, y8, y9, y10, some (oI m), some (.sh (.str (numS d))), some (.sh (readD (readQ ("1/" ++ T))))]) (fun b' hb => ?_) ?_
  · simp only [↓z_c, ↓z_var, ↓z_nil, ↓z_cons, ↓z_b, ↓z_vslot, ↓z_kslot, ↓z_kval, ↓z_lst, ↓z_tup, ↓z_call, ↓z_callKw, ↓z_tslot, ↓z_pslot, ↓z_tru, ↓z_tb, ↓z_nott, ↓z_andt, ↓z_ort, ↓z_ifx, ↓z_andv, ↓z_orv, ↓z_notv, ↓z_isi, ↓z_xf, ↓z_xis, ↓z_app, ↓z_chain, ↓z_fld, ↓z_ins, ↓z_dic, ↓z_next, ↓z_seq, ↓z_break, ↓z_cont, ↓z_expr, ↓z_ret, ↓z_rval, ↓z_rslot, ↓z_retn, ↓z_if, ↓z_asg, ↓z_setix, ↓z_par, ↓z_asgg, ↓z_gnm, ↓z_gunp, ↓z_gone, ↓z_gno, ↓z_raise, ↓z_try, ↓z_for, ↓z_iseq, ↓z_irg1, ↓z_izip, ↓z_sslot, ↓z_ocons, ↓z_lc, ↓z_yes, ↓z_w0, ↓z_ws, ↓x_vnil, ↓x_vval, ↓x_knil, ↓x_kcons, ↓x_tnil, ↓x_tval, ↓x_pval, ↓x_pnil, ↓x_snil, ↓x_sval, ↓x_onil, z_trN, z_trB, z_trI, z_trS, z_trT, z_trL, slotV_s, slotN_n, slotN_s, slotL_l, slotC_sh, slotC_lst, slotC_ins, one1_d, oneI_i, two2_o, two2D_d, someV_s, isBl_b, boolO_b, setV_s, insV_s, tryV_t, tryV_f, insD_i, unpD_t, unpD_l, gAdd_ii, gAdd_ss, gAdd_ll, gAdd_tt, gMul_ii, gMul_li, gSub_ii, gLt_ii, gLe_ii, gGt_ii, gGe_ii, gFdiv_ii, gMod_ii, gPow_ii, gNeg_i, gAbs_i, gInt_i, gInt_b, gGcd_ii, gLen_l, gLen_t, gLen_s, gIx_l, gIx_t, gIx_s, gIs_bb, gIs_dn, gEq_de, gTuple_l, gTuple_t, gList_l, gList_t, items_l, items_t, items_s, seq_l, seq_t, isNon_n, isNon_i, isNon_b, isNon_s, isNon_t, isNon_l, g2_ii, isK, knownD, flatD, view_sh', view_lst, flat_sh, flat_lst, List.map_cons, List.map_nil, List.replicate, List.cons_append, List.nil_append, List.append_nil, List.getElem?_cons_zero, List.getElem?_cons_succ, List.set_cons_zero, List.set_cons_succ, List.length_cons, List.length_nil, List.contains, List.elem_nil, List.elem_cons, List.any_cons, List.any_nil, List.all_nil, List.all_cons, Bool.or_false, Bool.false_eq_true, if_true, if_false, ite_true, ite_false, Nat.reduceSub, Nat.reduceAdd, Nat.reduceBEq, Nat.reduceEqDiff, Nat.reduceLeDiff, Nat.reduceLT, beq_self_eq_true, Bool.not_true, Bool.not_false, Bool.and_true, Bool.true_and, Bool.and_false, Bool.false_and, Bool.or_true, Bool.true_or, Bool.false_or, decide_eq_true_eq, Bool.not_eq_true', decide_eq_false_iff_not, true_and, and_true, reduceCtorEq, at_0, at_1, at_2, at_3, List.getD_cons_zero, List.getD_cons_succ, ok_int, ok_bl, ok_non, ok_tup0, ok_tI, ok_str, ok_t1, eq_int, eq_str, eq_t1, eq_tI1, ix40, ix41, ix42, ix43, List.length_map, eqk_int, eqk_str, eqk_bl, eqv_int, eqv_str, List.take_succ_cons, List.take_zero, List.drop_succ_cons, List.drop_zero, List.take_nil, List.drop_nil, ↓z_m1, ↓z_strV, ↓z_strS, strO_s, ↓z_intV, ↓z_intS, intO_i, ↓z_sl, ↓z_part0, ↓z_part, ↓z_join, ↓z_js0, ↓z_js1, gStr_i, gAll_l, gIn_ss, gStart_ss, gSplit_ss, gCut_s, gCut_l, gCut_t, gFmt_s, gFmt_i, gMul_si, gInt_s]
    refine ⟨by omega, .str ("1/" ++ T), rfl, rfl, (fun s e => by cases e; rw [app_len]; omega), ?_⟩
    simp only [↓z_c, ↓z_var, ↓z_nil, ↓z_cons, ↓z_b, ↓z_vslot, ↓z_kslot, ↓z_kval, ↓z_lst, ↓z_tup, ↓z_call, ↓z_callKw, ↓z_tslot, ↓z_pslot, ↓z_tru, ↓z_tb, ↓z_nott, ↓z_andt, ↓z_ort, ↓z_ifx, ↓z_andv, ↓z_orv, ↓z_notv, ↓z_isi, ↓z_xf, ↓z_xis, ↓z_app, ↓z_chain, ↓z_fld, ↓z_ins, ↓z_dic, ↓z_next, ↓z_seq, ↓z_break, ↓z_cont, ↓z_expr, ↓z_ret, ↓z_rval, ↓z_rslot, ↓z_retn, ↓z_if, ↓z_asg, ↓z_setix, ↓z_par, ↓z_asgg, ↓z_gnm, ↓z_gunp, ↓z_gone, ↓z_gno, ↓z_raise, ↓z_try, ↓z_for, ↓z_iseq, ↓z_irg1, ↓z_izip, ↓z_sslot, ↓z_ocons, ↓z_lc, ↓z_yes, ↓z_w0, ↓z_ws, ↓x_vnil, ↓x_vval, ↓x_knil, ↓x_kcons, ↓x_tnil, ↓x_tval, ↓x_pval, ↓x_pnil, ↓x_snil, ↓x_sval, ↓x_onil, z_trN, z_trB, z_trI, z_trS, z_trT, z_trL, slotV_s, slotN_n, slotN_s, slotL_l, slotC_sh, slotC_lst, slotC_ins, one1_d, oneI_i, two2_o, two2D_d, someV_s, isBl_b, boolO_b, setV_s, insV_s, tryV_t, tryV_f, insD_i, unpD_t, unpD_l, gAdd_ii, gAdd_ss, gAdd_ll, gAdd_tt, gMul_ii, gMul_li, gSub_ii, gLt_ii, gLe_ii, gGt_ii, gGe_ii, gFdiv_ii, gMod_ii, gPow_ii, gNeg_i, gAbs_i, gInt_i, gInt_b, gGcd_ii, gLen_l, gLen_t, gLen_s, gIx_l, gIx_t, gIx_s, gIs_bb, gIs_dn, gEq_de, gTuple_l, gTuple_t, gList_l, gList_t, items_l, items_t, items_s, seq_l, seq_t, isNon_n, isNon_i, isNon_b, isNon_s, isNon_t, isNon_l, g2_ii, isK, knownD, flatD, view_sh', view_lst, flat_sh, flat_lst, List.map_cons, List.map_nil, List.replicate, List.cons_append, List.nil_append, List.append_nil, List.getElem?_cons_zero, List.getElem?_cons_succ, List.set_cons_zero, List.set_cons_succ, List.length_cons, List.length_nil, List.contains, List.elem_nil, List.elem_cons, List.any_cons, List.any_nil, List.all_nil, List.all_cons, Bool.or_false, Bool.false_eq_true, if_true, if_false, ite_true, ite_false, Nat.reduceSub, Nat.reduceAdd, Nat.reduceBEq, Nat.reduceEqDiff, Nat.reduceLeDiff, Nat.reduceLT, beq_self_eq_true, Bool.not_true, Bool.not_false, Bool.and_true, Bool.true_and, Bool.and_false, Bool.false_and, Bool.or_true, Bool.true_or, Bool.false_or, decide_eq_true_eq, Bool.not_eq_true', decide_eq_false_iff_not, true_and, and_true, reduceCtorEq, at_0, at_1, at_2, at_3, List.getD_cons_zero, List.getD_cons_succ, ok_int, ok_bl, ok_non, ok_tup0, ok_tI, ok_str, ok_t1, eq_int, eq_str, eq_t1, eq_tI1, ix40, ix41, ix42, ix43, List.length_map, eqk_int, eqk_str, eqk_bl, eqv_int, eqv_str, List.take_succ_cons, List.take_zero, List.drop_succ_cons, List.drop_zero, List.take_nil, List.drop_nil, ↓z_m1, ↓z_strV, ↓z_strS, strO_s, ↓z_intV, ↓z_intS, intO_i, ↓z_sl, ↓z_part0, ↓z_part, ↓z_join, ↓z_js0, ↓z_js1, gStr_i, gAll_l, gIn_ss, gStart_ss, gSplit_ss, gCut_s, gCut_l, gCut_t, gFmt_s, gFmt_i, gMul_si, gInt_s]
    exact hb _ rfl
  rintro E rfl
  refine seq_split (fun E => E = [some xs, some (.lst l), y2, y3, some (.sh (.str T)), y5, y6, y7, some (.sh (dueD (readQ ("1/" ++ T)))), y9, y10, some (oI m), some (.sh (.str (numS d))), some (.sh (readD (readQ ("1/" ++ T))))]) (fun b' hb => ?_) ?_
  · simp only [↓z_c, ↓z_var, ↓z_nil, ↓z_cons, ↓z_b, ↓z_vslot, ↓z_kslot, ↓z_kval, ↓z_lst, ↓z_tup, ↓z_call, ↓z_callKw, ↓z_tslot, ↓z_pslot, ↓z_tru, ↓z_tb, ↓z_nott, ↓z_andt, ↓z_ort, ↓z_ifx, ↓z_andv, ↓z_orv, ↓z_notv, ↓z_isi, ↓z_xf, ↓z_xis, ↓z_app, ↓z_chain, ↓z_fld, ↓z_ins, ↓z_dic, ↓z_next, ↓z_seq, ↓z_break, ↓z_cont, ↓z_expr, ↓z_ret, ↓z_rval, ↓z_rslot, ↓z_retn, ↓z_if, ↓z_asg, ↓z_setix, ↓z_par, ↓z_asgg, ↓z_gnm, ↓z_gunp, ↓z_gone, ↓z_gno, ↓z_raise, ↓z_try, ↓z_for, ↓z_iseq, ↓z_irg1, ↓z_izip, ↓z_sslot, ↓z_ocons, ↓z_lc, ↓z_yes, ↓z_w0, ↓z_ws, ↓x_vnil, ↓x_vval, ↓x_knil, ↓x_kcons, ↓x_tnil, ↓x_tval, ↓x_pval, ↓x_pnil, ↓x_snil, ↓x_sval, ↓x_onil, z_trN, z_trB, z_trI, z_trS, z_trT, z_trL, slotV_s, slotN_n, slotN_s, slotL_l, slotC_sh, slotC_lst, slotC_ins, one1_d, oneI_i, two2_o, two2D_d, someV_s, isBl_b, boolO_b, setV_s, insV_s, tryV_t, tryV_f, insD_i, unpD_t, unpD_l, gAdd_ii, gAdd_ss, gAdd_ll, gAdd_tt, gMul_ii, gMul_li, gSub_ii, gLt_ii, gLe_ii, gGt_ii, gGe_ii, gFdiv_ii, gMod_ii, gPow_ii, gNeg_i, gAbs_i, gInt_i, gInt_b, gGcd_ii, gLen_l, gLen_t, gLen_s, gIx_l, gIx_t, gIx_s, gIs_bb, gIs_dn, gEq_de, gTuple_l, gTuple_t, gList_l, gList_t, items_l, items_t, items_s, seq_l, seq_t, isNon_n, isNon_i, isNon_b, isNon_s, isNon_t, isNon_l, g2_ii, isK, knownD, flatD, view_sh', view_lst, flat_sh, flat_lst, List.map_cons, List.map_nil, List.replicate, List.cons_append, List.nil_append, List.append_nil, List.getElem?_cons_zero, List.getElem?_cons_succ, List.set_cons_zero, List.set_cons_succ, List.length_cons, List.length_nil, List.contains, List.elem_nil, List.elem_cons, List.any_cons, List.any_nil, List.all_nil, List.all_cons, Bool.or_false, Bool.false_eq_true, if_true, if_false, ite_true, ite_false, Nat.reduceSub, Nat.reduceAdd, Nat.reduceBEq, Nat.reduceEqDiff, Nat.reduceLeDiff, Nat.reduceLT, beq_self_eq_true, Bool.not_true, Bool.not_false, Bool.and_true, Bool.true_and, Bool.and_false, Bool.false_and, Bool.or_true, Bool.true_or, Bool.false_or, decide_eq_true_eq, Bool.not_eq_true', decide_eq_false_iff_not, true_and, and_true, reduceCtorEq, at_0, at_1, at_2, at_3, List.getD_cons_zero, List.getD_cons_succ, ok_int, ok_bl, ok_non, ok_tup0, ok_tI, ok_str, ok_t1, eq_int, eq_str, eq_t1, eq_tI1, ix40, ix41, ix42, ix43, List.length_map, eqk_int, eqk_str, eqk_bl, eqv_int, eqv_str, List.take_succ_cons, List.take_zero, List.drop_succ_cons, List.drop_zero, List.take_nil, List.drop_nil, ↓z_m1, ↓z_strV, ↓z_strS, strO_s, ↓z_intV, ↓z_intS, intO_i, ↓z_sl, ↓z_part0, ↓z_part, ↓z_join, ↓z_js0, ↓z_js1, gStr_i, gAll_l, gIn_ss, gStart_ss, gSplit_ss, gCut_s, gCut_l, gCut_t, gFmt_s, gFmt_i, gMul_si, gInt_s]
    refine ⟨by omega, "1/" ++ T, rfl, by rw [app_len]; omega, ?_⟩
    simp only [↓z_c, ↓z_var, ↓z_nil, ↓z_cons, ↓z_b, ↓z_vslot, ↓z_kslot, ↓z_kval, ↓z_lst, ↓z_tup, ↓z_call, ↓z_callKw, ↓z_tslot, ↓z_pslot, ↓z_tru, ↓z_tb, ↓z_nott, ↓z_andt, ↓z_ort, ↓z_ifx, ↓z_andv, ↓z_orv, ↓z_notv, ↓z_isi, ↓z_xf, ↓z_xis, ↓z_app, ↓z_chain, ↓z_fld, ↓z_ins, ↓z_dic, ↓z_next, ↓z_seq, ↓z_break, ↓z_cont, ↓z_expr, ↓z_ret, ↓z_rval, ↓z_rslot, ↓z_retn, ↓z_if, ↓z_asg, ↓z_setix, ↓z_par, ↓z_asgg, ↓z_gnm, ↓z_gunp, ↓z_gone, ↓z_gno, ↓z_raise, ↓z_try, ↓z_for, ↓z_iseq, ↓z_irg1, ↓z_izip, ↓z_sslot, ↓z_ocons, ↓z_lc, ↓z_yes, ↓z_w0, ↓z_ws, ↓x_vnil, ↓x_vval, ↓x_knil, ↓x_kcons, ↓x_tnil, ↓x_tval, ↓x_pval, ↓x_pnil, ↓x_snil, ↓x_sval, ↓x_onil, z_trN, z_trB, z_trI, z_trS, z_trT, z_trL, slotV_s, slotN_n, slotN_s, slotL_l, slotC_sh, slotC_lst, slotC_ins, one1_d, oneI_i, two2_o, two2D_d, someV_s, isBl_b, boolO_b, setV_s, insV_s, tryV_t, tryV_f, insD_i, unpD_t, unpD_l, gAdd_ii, gAdd_ss, gAdd_ll, gAdd_tt, gMul_ii, gMul_li, gSub_ii, gLt_ii, gLe_ii, gGt_ii, gGe_ii, gFdiv_ii, gMod_ii, gPow_ii, gNeg_i, gAbs_i, gInt_i, gInt_b, gGcd_ii, gLen_l, gLen_t, gLen_s, gIx_l, gIx_t, gIx_s, gIs_bb, gIs_dn, gEq_de, gTuple_l, gTuple_t, gList_l, gList_t, items_l, items_t, items_s, seq_l, seq_t, isNon_n, isNon_i, isNon_b, isNon_s, isNon_t, isNon_l, g2_ii, isK, knownD, flatD, view_sh', view_lst, flat_sh, flat_lst, List.map_cons, List.map_nil, List.replicate, List.cons_append, List.nil_append, List.append_nil, List.getElem?_cons_zero, List.getElem?_cons_succ, List.set_cons_zero, List.set_cons_succ, List.length_cons, List.length_nil, List.contains, List.elem_nil, List.elem_cons, List.any_cons, List.any_nil, List.all_nil, List.all_cons, Bool.or_false, Bool.false_eq_true, if_true, if_false, ite_true, ite_false, Nat.reduceSub, Nat.reduceAdd, Nat.reduceBEq, Nat.reduceEqDiff, Nat.reduceLeDiff, Nat.reduceLT, beq_self_eq_true, Bool.not_true, Bool.not_false, Bool.and_true, Bool.true_and, Bool.and_false, Bool.false_and, Bool.or_true, Bool.true_or, Bool.false_or, decide_eq_true_eq, Bool.not_eq_true', decide_eq_false_iff_not, true_and, and_true, reduceCtorEq, at_0, at_1, at_2, at_3, List.getD_cons_zero, List.getD_cons_succ, ok_int, ok_bl, ok_non, ok_tup0, ok_tI, ok_str, ok_t1, eq_int, eq_str, eq_t1, eq_tI1, ix40, ix41, ix42, ix43, List.length_map, eqk_int, eqk_str, eqk_bl, eqv_int, eqv_str, List.take_succ_cons, List.take_zero, List.drop_succ_cons, List.drop_zero, List.take_nil, List.drop_nil, ↓z_m1, ↓z_strV, ↓z_strS, strO_s, ↓z_intV, ↓z_intS, intO_i, ↓z_sl, ↓z_part0, ↓z_part, ↓z_join, ↓z_js0, ↓z_js1, gStr_i, gAll_l, gIn_ss, gStart_ss, gSplit_ss, gCut_s, gCut_l, gCut_t, gFmt_s, gFmt_i, gMul_si, gInt_s]
    exact hb _ rfl
  rintro E rfl
  generalize readQ ("1/" ++ T) = rq
  refine seq_split (fun E => E = [some xs, some (.lst l), y2, y3, some (.sh (.str T)), y5, y6, y7, some (.sh (dueD rq)), y9, y10, some (oI m), some (.sh (.str (numS d))), some (.sh (readD rq))]) (fun b' hb => ?_) ?_
  · cases rq with
    | none =>
      simp only [dueD, readD] at hb ⊢
      simp only [↓z_c, ↓z_var, ↓z_nil, ↓z_cons, ↓z_b, ↓z_vslot, ↓z_kslot, ↓z_kval, ↓z_lst, ↓z_tup, ↓z_call, ↓z_callKw, ↓z_tslot, ↓z_pslot, ↓z_tru, ↓z_tb, ↓z_nott, ↓z_andt, ↓z_ort, ↓z_ifx, ↓z_andv, ↓z_orv, ↓z_notv, ↓z_isi, ↓z_xf, ↓z_xis, ↓z_app, ↓z_chain, ↓z_fld, ↓z_ins, ↓z_dic, ↓z_next, ↓z_seq, ↓z_break, ↓z_cont, ↓z_expr, ↓z_ret, ↓z_rval, ↓z_rslot, ↓z_retn, ↓z_if, ↓z_asg, ↓z_setix, ↓z_par, ↓z_asgg, ↓z_gnm, ↓z_gunp, ↓z_gone, ↓z_gno, ↓z_raise, ↓z_try, ↓z_for, ↓z_iseq, ↓z_irg1, ↓z_izip, ↓z_sslot, ↓z_ocons, ↓z_lc, ↓z_yes, ↓z_w0, ↓z_ws, ↓x_vnil, ↓x_vval, ↓x_knil, ↓x_kcons, ↓x_tnil, ↓x_tval, ↓x_pval, ↓x_pnil, ↓x_snil, ↓x_sval, ↓x_onil, z_trN, z_trB, z_trI, z_trS, z_trT, z_trL, slotV_s, slotN_n, slotN_s, slotL_l, slotC_sh, slotC_lst, slotC_ins, one1_d, oneI_i, two2_o, two2D_d, someV_s, isBl_b, boolO_b, setV_s, insV_s, tryV_t, tryV_f, insD_i, unpD_t, unpD_l, gAdd_ii, gAdd_ss, gAdd_ll, gAdd_tt, gMul_ii, gMul_li, gSub_ii, gLt_ii, gLe_ii, gGt_ii, gGe_ii, gFdiv_ii, gMod_ii, gPow_ii, gNeg_i, gAbs_i, gInt_i, gInt_b, gGcd_ii, gLen_l, gLen_t, gLen_s, gIx_l, gIx_t, gIx_s, gIs_bb, gIs_dn, gEq_de, gTuple_l, gTuple_t, gList_l, gList_t, items_l, items_t, items_s, seq_l, seq_t, isNon_n, isNon_i, isNon_b, isNon_s, isNon_t, isNon_l, g2_ii, isK, knownD, flatD, view_sh', view_lst, flat_sh, flat_lst, List.map_cons, List.map_nil, List.replicate, List.cons_append, List.nil_append, List.append_nil, List.getElem?_cons_zero, List.getElem?_cons_succ, List.set_cons_zero, List.set_cons_succ, List.length_cons, List.length_nil, List.contains, List.elem_nil, List.elem_cons, List.any_cons, List.any_nil, List.all_nil, List.all_cons, Bool.or_false, Bool.false_eq_true, if_true, if_false, ite_true, ite_false, Nat.reduceSub, Nat.reduceAdd, Nat.reduceBEq, Nat.reduceEqDiff, Nat.reduceLeDiff, Nat.reduceLT, beq_self_eq_true, Bool.not_true, Bool.not_false, Bool.and_true, Bool.true_and, Bool.and_false, Bool.false_and, Bool.or_true, Bool.true_or, Bool.false_or, decide_eq_true_eq, Bool.not_eq_true', decide_eq_false_iff_not, true_and, and_true, reduceCtorEq, at_0, at_1, at_2, at_3, List.getD_cons_zero, List.getD_cons_succ, ok_int, ok_bl, ok_non, ok_tup0, ok_tI, ok_str, ok_t1, eq_int, eq_str, eq_t1, eq_tI1, ix40, ix41, ix42, ix43, List.length_map, eqk_int, eqk_str, eqk_bl, eqv_int, eqv_str, List.take_succ_cons, List.take_zero, List.drop_succ_cons, List.drop_zero, List.take_nil, List.drop_nil, ↓z_m1, ↓z_strV, ↓z_strS, strO_s, ↓z_intV, ↓z_intS, intO_i, ↓z_sl, ↓z_part0, ↓z_part, ↓z_join, ↓z_js0, ↓z_js1, gStr_i, gAll_l, gIn_ss, gStart_ss, gSplit_ss, gCut_s, gCut_l, gCut_t, gFmt_s, gFmt_i, gMul_si, gInt_s, eqk_t]
      exact ⟨by decide, hb _ rfl⟩
    | some z =>
      simp only [dueD, readD] at hb ⊢
      simp only [↓z_c, ↓z_var, ↓z_nil, ↓z_cons, ↓z_b, ↓z_vslot, ↓z_kslot, ↓z_kval, ↓z_lst, ↓z_tup, ↓z_call, ↓z_callKw, ↓z_tslot, ↓z_pslot, ↓z_tru, ↓z_tb, ↓z_nott, ↓z_andt, ↓z_ort, ↓z_ifx, ↓z_andv, ↓z_orv, ↓z_notv, ↓z_isi, ↓z_xf, ↓z_xis, ↓z_app, ↓z_chain, ↓z_fld, ↓z_ins, ↓z_dic, ↓z_next, ↓z_seq, ↓z_break, ↓z_cont, ↓z_expr, ↓z_ret, ↓z_rval, ↓z_rslot, ↓z_retn, ↓z_if, ↓z_asg, ↓z_setix, ↓z_par, ↓z_asgg, ↓z_gnm, ↓z_gunp, ↓z_gone, ↓z_gno, ↓z_raise, ↓z_try, ↓z_for, ↓z_iseq, ↓z_irg1, ↓z_izip, ↓z_sslot, ↓z_ocons, ↓z_lc, ↓z_yes, ↓z_w0, ↓z_ws, ↓x_vnil, ↓x_vval, ↓x_knil, ↓x_kcons, ↓x_tnil, ↓x_tval, ↓x_pval, ↓x_pnil, ↓x_snil, ↓x_sval, ↓x_onil, z_trN, z_trB, z_trI, z_trS, z_trT, z_trL, slotV_s, slotN_n, slotN_s, slotL_l, slotC_sh, slotC_lst, slotC_ins, one1_d, oneI_i, two2_o, two2D_d, someV_s, isBl_b, boolO_b, setV_s, insV_s, tryV_t, tryV_f, insD_i, unpD_t, unpD_l, gAdd_ii, gAdd_ss, gAdd_ll, gAdd_tt, gMul_ii, gMul_li, gSub_ii, gLt_ii, gLe_ii, gGt_ii, gGe_ii, gFdiv_ii, gMod_ii, gPow_ii, gNeg_i, gAbs_i, gInt_i, gInt_b, gGcd_ii, gLen_l, gLen_t, gLen_s, gIx_l, gIx_t, gIx_s, gIs_bb, gIs_dn, gEq_de, gTuple_l, gTuple_t, gList_l, gList_t, items_l, items_t, items_s, seq_l, seq_t, isNon_n, isNon_i, isNon_b, isNon_s, isNon_t, isNon_l, g2_ii, isK, knownD, flatD, view_sh', view_lst, flat_sh, flat_lst, List.map_cons, List.map_nil, List.replicate, List.cons_append, List.nil_append, List.append_nil, List.getElem?_cons_zero, List.getElem?_cons_succ, List.set_cons_zero, List.set_cons_succ, List.length_cons, List.length_nil, List.contains, List.elem_nil, List.elem_cons, List.any_cons, List.any_nil, List.all_nil, List.all_cons, Bool.or_false, Bool.false_eq_true, if_true, if_false, ite_true, ite_false, Nat.reduceSub, Nat.reduceAdd, Nat.reduceBEq, Nat.reduceEqDiff, Nat.reduceLeDiff, Nat.reduceLT, beq_self_eq_true, Bool.not_true, Bool.not_false, Bool.and_true, Bool.true_and, Bool.and_false, Bool.false_and, Bool.or_true, Bool.true_or, Bool.false_or, decide_eq_true_eq, Bool.not_eq_true', decide_eq_false_iff_not, true_and, and_true, reduceCtorEq, at_0, at_1, at_2, at_3, List.getD_cons_zero, List.getD_cons_succ, ok_int, ok_bl, ok_non, ok_tup0, ok_tI, ok_str, ok_t1, eq_int, eq_str, eq_t1, eq_tI1, ix40, ix41, ix42, ix43, List.length_map, eqk_int, eqk_str, eqk_bl, eqv_int, eqv_str, List.take_succ_cons, List.take_zero, List.drop_succ_cons, List.drop_zero, List.take_nil, List.drop_nil, ↓z_m1, ↓z_strV, ↓z_strS, strO_s, ↓z_intV, ↓z_intS, intO_i, ↓z_sl, ↓z_part0, ↓z_part, ↓z_join, ↓z_js0, ↓z_js1, gStr_i, gAll_l, gIn_ss, gStart_ss, gSplit_ss, gCut_s, gCut_l, gCut_t, gFmt_s, gFmt_i, gMul_si, gInt_s]
      refine ⟨_, z, rfl, rfl, ?_⟩
      simp only [↓z_c, ↓z_var, ↓z_nil, ↓z_cons, ↓z_b, ↓z_vslot, ↓z_kslot, ↓z_kval, ↓z_lst, ↓z_tup, ↓z_call, ↓z_callKw, ↓z_tslot, ↓z_pslot, ↓z_tru, ↓z_tb, ↓z_nott, ↓z_andt, ↓z_ort, ↓z_ifx, ↓z_andv, ↓z_orv, ↓z_notv, ↓z_isi, ↓z_xf, ↓z_xis, ↓z_app, ↓z_chain, ↓z_fld, ↓z_ins, ↓z_dic, ↓z_next, ↓z_seq, ↓z_break, ↓z_cont, ↓z_expr, ↓z_ret, ↓z_rval, ↓z_rslot, ↓z_retn, ↓z_if, ↓z_asg, ↓z_setix, ↓z_par, ↓z_asgg, ↓z_gnm, ↓z_gunp, ↓z_gone, ↓z_gno, ↓z_raise, ↓z_try, ↓z_for, ↓z_iseq, ↓z_irg1, ↓z_izip, ↓z_sslot, ↓z_ocons, ↓z_lc, ↓z_yes, ↓z_w0, ↓z_ws, ↓x_vnil, ↓x_vval, ↓x_knil, ↓x_kcons, ↓x_tnil, ↓x_tval, ↓x_pval, ↓x_pnil, ↓x_snil, ↓x_sval, ↓x_onil, z_trN, z_trB, z_trI, z_trS, z_trT, z_trL, slotV_s, slotN_n, slotN_s, slotL_l, slotC_sh, slotC_lst, slotC_ins, one1_d, oneI_i, two2_o, two2D_d, someV_s, isBl_b, boolO_b, setV_s, insV_s, tryV_t, tryV_f, insD_i, unpD_t, unpD_l, gAdd_ii, gAdd_ss, gAdd_ll, gAdd_tt, gMul_ii, gMul_li, gSub_ii, gLt_ii, gLe_ii, gGt_ii, gGe_ii, gFdiv_ii, gMod_ii, gPow_ii, gNeg_i, gAbs_i, gInt_i, gInt_b, gGcd_ii, gLen_l, gLen_t, gLen_s, gIx_l, gIx_t, gIx_s, gIs_bb, gIs_dn, gEq_de, gTuple_l, gTuple_t, gList_l, gList_t, items_l, items_t, items_s, seq_l, seq_t, isNon_n, isNon_i, isNon_b, isNon_s, isNon_t, isNon_l, g2_ii, isK, knownD, flatD, view_sh', view_lst, flat_sh, flat_lst, List.map_cons, List.map_nil, List.replicate, List.cons_append, List.nil_append, List.append_nil, List.getElem?_cons_zero, List.getElem?_cons_succ, List.set_cons_zero, List.set_cons_succ, List.length_cons, List.length_nil, List.contains, List.elem_nil, List.elem_cons, List.any_cons, List.any_nil, List.all_nil, List.all_cons, Bool.or_false, Bool.false_eq_true, if_true, if_false, ite_true, ite_false, Nat.reduceSub, Nat.reduceAdd, Nat.reduceBEq, Nat.reduceEqDiff, Nat.reduceLeDiff, Nat.reduceLT, beq_self_eq_true, Bool.not_true, Bool.not_false, Bool.and_true, Bool.true_and, Bool.and_false, Bool.false_and, Bool.or_true, Bool.true_or, Bool.false_or, decide_eq_true_eq, Bool.not_eq_true', decide_eq_false_iff_not, true_and, and_true, reduceCtorEq, at_0, at_1, at_2, at_3, List.getD_cons_zero, List.getD_cons_succ, ok_int, ok_bl, ok_non, ok_tup0, ok_tI, ok_str, ok_t1, eq_int, eq_str, eq_t1, eq_tI1, ix40, ix41, ix42, ix43, List.length_map, eqk_int, eqk_str, eqk_bl, eqv_int, eqv_str, List.take_succ_cons, List.take_zero, List.drop_succ_cons, List.drop_zero, List.take_nil, List.drop_nil, ↓z_m1, ↓z_strV, ↓z_strS, strO_s, ↓z_intV, ↓z_intS, intO_i, ↓z_sl, ↓z_part0, ↓z_part, ↓z_join, ↓z_js0, ↓z_js1, gStr_i, gAll_l, gIn_ss, gStart_ss, gSplit_ss, gCut_s, gCut_l, gCut_t, gFmt_s, gFmt_i, gMul_si, gInt_s, same_self]
      exact hb _ rfl
  rintro E rfl
  refine seq_split (fun E => E = [some xs, some (.lst l), y2, y3, some (.sh (.str T)), y5, y6, y7, some (.sh (dueD rq)), some (.sh (readD (readQ ("-" ++ T)))), y10, some (oI m), some (.sh (.str (numS d))), some (.sh (readD rq))]) (fun b' hb => ?_) ?_
  · simp only [↓z_c, ↓z_var, ↓z_nil, ↓z_cons, ↓z_b, ↓z_vslot, ↓z_kslot, ↓z_kval, ↓z_lst, ↓z_tup, ↓z_call, ↓z_callKw, ↓z_tslot, ↓z_pslot, ↓z_tru, ↓z_tb, ↓z_nott, ↓z_andt, ↓z_ort, ↓z_ifx, ↓z_andv, ↓z_orv, ↓z_notv, ↓z_isi, ↓z_xf, ↓z_xis, ↓z_app, ↓z_chain, ↓z_fld, ↓z_ins, ↓z_dic, ↓z_next, ↓z_seq, ↓z_break, ↓z_cont, ↓z_expr, ↓z_ret, ↓z_rval, ↓z_rslot, ↓z_retn, ↓z_if, ↓z_asg, ↓z_setix, ↓z_par, ↓z_asgg, ↓z_gnm, ↓z_gunp, ↓z_gone, ↓z_gno, ↓z_raise, ↓z_try, ↓z_for, ↓z_iseq, ↓z_irg1, ↓z_izip, ↓z_sslot, ↓z_ocons, ↓z_lc, ↓z_yes, ↓z_w0, ↓z_ws, ↓x_vnil, ↓x_vval, ↓x_knil, ↓x_kcons, ↓x_tnil, ↓x_tval, ↓x_pval, ↓x_pnil, ↓x_snil, ↓x_sval, ↓x_onil, z_trN, z_trB, z_trI, z_trS, z_trT, z_trL, slotV_s, slotN_n, slotN_s, slotL_l, slotC_sh, slotC_lst, slotC_ins, one1_d, oneI_i, two2_o, two2D_d, someV_s, isBl_b, boolO_b, setV_s, insV_s, tryV_t, tryV_f, insD_i, unpD_t, unpD_l, gAdd_ii, gAdd_ss, gAdd_ll, gAdd_tt, gMul_ii, gMul_li, gSub_ii, gLt_ii, gLe_ii, gGt_ii, gGe_ii, gFdiv_ii, gMod_ii, gPow_ii, gNeg_i, gAbs_i, gInt_i, gInt_b, gGcd_ii, gLen_l, gLen_t, gLen_s, gIx_l, gIx_t, gIx_s, gIs_bb, gIs_dn, gEq_de, gTuple_l, gTuple_t, gList_l, gList_t, items_l, items_t, items_s, seq_l, seq_t, isNon_n, isNon_i, isNon_b, isNon_s, isNon_t, isNon_l, g2_ii, isK, knownD, flatD, view_sh', view_lst, flat_sh, flat_lst, List.map_cons, List.map_nil, List.replicate, List.cons_append, List.nil_append, List.append_nil, List.getElem?_cons_zero, List.getElem?_cons_succ, List.set_cons_zero, List.set_cons_succ, List.length_cons, List.length_nil, List.contains, List.elem_nil, List.elem_cons, List.any_cons, List.any_nil, List.all_nil, List.all_cons, Bool.or_false, Bool.false_eq_true, if_true, if_false, ite_true, ite_false, Nat.reduceSub, Nat.reduceAdd, Nat.reduceBEq, Nat.reduceEqDiff, Nat.reduceLeDiff, Nat.reduceLT, beq_self_eq_true, Bool.not_true, Bool.not_false, Bool.and_true, Bool.true_and, Bool.and_false, Bool.false_and, Bool.or_true, Bool.true_or, Bool.false_or, decide_eq_true_eq, Bool.not_eq_true', decide_eq_false_iff_not, true_and, and_true, reduceCtorEq, at_0, at_1, at_2, at_3, List.getD_cons_zero, List.getD_cons_succ, ok_int, ok_bl, ok_non, ok_tup0, ok_tI, ok_str, ok_t1, eq_int, eq_str, eq_t1, eq_tI1, ix40, ix41, ix42, ix43, List.length_map, eqk_int, eqk_str, eqk_bl, eqv_int, eqv_str, List.take_succ_cons, List.take_zero, List.drop_succ_cons, List.drop_zero, List.take_nil, List.drop_nil, ↓z_m1, ↓z_strV, ↓z_strS, strO_s, ↓z_intV, ↓z_intS, intO_i, ↓z_sl, ↓z_part0, ↓z_part, ↓z_join, ↓z_js0, ↓z_js1, gStr_i, gAll_l, gIn_ss, gStart_ss, gSplit_ss, gCut_s, gCut_l, gCut_t, gFmt_s, gFmt_i, gMul_si, gInt_s]
    refine ⟨by omega, .str ("-" ++ T), rfl, rfl, (fun s e => by cases e; rw [app_len]; omega), ?_⟩
    simp only [↓z_c, ↓z_var, ↓z_nil, ↓z_cons, ↓z_b, ↓z_vslot, ↓z_kslot, ↓z_kval, ↓z_lst, ↓z_tup, ↓z_call, ↓z_callKw, ↓z_tslot, ↓z_pslot, ↓z_tru, ↓z_tb, ↓z_nott, ↓z_andt, ↓z_ort, ↓z_ifx, ↓z_andv, ↓z_orv, ↓z_notv, ↓z_isi, ↓z_xf, ↓z_xis, ↓z_app, ↓z_chain, ↓z_fld, ↓z_ins, ↓z_dic, ↓z_next, ↓z_seq, ↓z_break, ↓z_cont, ↓z_expr, ↓z_ret, ↓z_rval, ↓z_rslot, ↓z_retn, ↓z_if, ↓z_asg, ↓z_setix, ↓z_par, ↓z_asgg, ↓z_gnm, ↓z_gunp, ↓z_gone, ↓z_gno, ↓z_raise, ↓z_try, ↓z_for, ↓z_iseq, ↓z_irg1, ↓z_izip, ↓z_sslot, ↓z_ocons, ↓z_lc, ↓z_yes, ↓z_w0, ↓z_ws, ↓x_vnil, ↓x_vval, ↓x_knil, ↓x_kcons, ↓x_tnil, ↓x_tval, ↓x_pval, ↓x_pnil, ↓x_snil, ↓x_sval, ↓x_onil, z_trN, z_trB, z_trI, z_trS, z_trT, z_trL, slotV_s, slotN_n, slotN_s, slotL_l, slotC_sh, slotC_lst, slotC_ins, one1_d, oneI_i, two2_o, two2D_d, someV_s, isBl_b, boolO_b, setV_s, insV_s, tryV_t, tryV_f, insD_i, unpD_t, unpD_l, gAdd_ii, gAdd_ss, gAdd_ll, gAdd_tt, gMul_ii, gMul_li, gSub_ii, gLt_ii, gLe_ii, gGt_ii, gGe_ii, gFdiv_ii, gMod_ii, gPow_ii, gNeg_i, gAbs_i, gInt_i, gInt_b, gGcd_ii, gLen_l, gLen_t, gLen_s, gIx_l, gIx_t, gIx_s, gIs_bb, gIs_dn, gEq_de, gTuple_l, gTuple_t, gList_l, gList_t, items_l, items_t, items_s, seq_l, seq_t, isNon_n, isNon_i, isNon_b, isNon_s, isNon_t, isNon_l, g2_ii, isK, knownD, flatD, view_sh', view_lst, flat_sh, flat_lst, List.map_cons, List.map_nil, List.replicate, List.cons_append, List.nil_append, List.append_nil, List.getElem?_cons_zero, List.getElem?_cons_succ, List.set_cons_zero, List.set_cons_succ, List.length_cons, List.length_nil, List.contains, List.elem_nil, List.elem_cons, List.any_cons, List.any_nil, List.all_nil, List.all_cons, Bool.or_false, Bool.false_eq_true, if_true, if_false, ite_true, ite_false, Nat.reduceSub, Nat.reduceAdd, Nat.reduceBEq, Nat.reduceEqDiff, Nat.reduceLeDiff, Nat.reduceLT, beq_self_eq_true, Bool.not_true, Bool.not_false, Bool.and_true, Bool.true_and, Bool.and_false, Bool.false_and, Bool.or_true, Bool.true_or, Bool.false_or, decide_eq_true_eq, Bool.not_eq_true', decide_eq_false_iff_not, true_and, and_true, reduceCtorEq, at_0, at_1, at_2, at_3, List.getD_cons_zero, List.getD_cons_succ, ok_int, ok_bl, ok_non, ok_tup0, ok_tI, ok_str, ok_t1, eq_int, eq_str, eq_t1, eq_tI1, ix40, ix41, ix42, ix43, List.length_map, eqk_int, eqk_str, eqk_bl, eqv_int, eqv_str, List.take_succ_cons, List.take_zero, List.drop_succ_cons, List.drop_zero, List.take_nil, List.drop_nil, ↓z_m1, ↓z_strV, ↓z_strS, strO_s, ↓z_intV, ↓z_intS, intO_i, ↓z_sl, ↓z_part0, ↓z_part, ↓z_join, ↓z_js0, ↓z_js1, gStr_i, gAll_l, gIn_ss, gStart_ss, gSplit_ss, gCut_s, gCut_l, gCut_t, gFmt_s, gFmt_i, gMul_si, gInt_s]
    exact hb _ rfl
  rintro E rfl
  have td1 : (("-" : String) : Str).cps.toList = [45] := by decide +kernel
  have tD : ("-" ++ T : Str).cps.toList = 45 :: List.replicate m (48 + d) := by
    rw [tl_app, td1, tT]; rfl
  have no : ∀ c ∈ T.cps.toList, c = 48 + d := fun c hc => by
    rw [tT] at hc; exact List.eq_of_mem_replicate hc
  have hbare : bareS ("-" ++ T) = T := by
    unfold bareS negS
    rw [tD, if_pos (by simp)]
    refine str_ext ?_
    rw [tl_mk, tT]; rfl
  have hparts : partsS ("-" ++ T) = [T] := by
    unfold partsS
    rw [hbare]
    have e : Txt.join "/" [T] = T := by rw [TL.join_eq]; rfl
    have := TL.split_join (y := "/") (s := 47) (S := []) (by decide +kernel) (by decide +kernel) (parts := [T]) (by simp) fun p hp hc => by
      rw [List.mem_singleton] at hp
      rw [hp] at hc
      have := no 47 hc
      omega
    rw [e] at this
    exact this
  subst hX'
  refine seq_split (fun E => E = [some (.sh (.lst (ns.map D.int))), some (.lst l), y2, y3, some (.sh (.str T)), y5, y6, y7, some (.sh (dueD rq)), some (.sh (readD (readQ ("-" ++ T)))), y10, some (oI m), some (.sh (.str (numS d))), some (.sh (readD rq))] ∧ m ≤ 300) (fun b' hb => ?_) ?_
  · simp only [↓z_c, ↓z_var, ↓z_nil, ↓z_cons, ↓z_b, ↓z_vslot, ↓z_kslot, ↓z_kval, ↓z_lst, ↓z_tup, ↓z_call, ↓z_callKw, ↓z_tslot, ↓z_pslot, ↓z_tru, ↓z_tb, ↓z_nott, ↓z_andt, ↓z_ort, ↓z_ifx, ↓z_andv, ↓z_orv, ↓z_notv, ↓z_isi, ↓z_xf, ↓z_xis, ↓z_app, ↓z_chain, ↓z_fld, ↓z_ins, ↓z_dic, ↓z_next, ↓z_seq, ↓z_break, ↓z_cont, ↓z_expr, ↓z_ret, ↓z_rval, ↓z_rslot, ↓z_retn, ↓z_if, ↓z_asg, ↓z_setix, ↓z_par, ↓z_asgg, ↓z_gnm, ↓z_gunp, ↓z_gone, ↓z_gno, ↓z_raise, ↓z_try, ↓z_for, ↓z_iseq, ↓z_irg1, ↓z_izip, ↓z_sslot, ↓z_ocons, ↓z_lc, ↓z_yes, ↓z_w0, ↓z_ws, ↓x_vnil, ↓x_vval, ↓x_knil, ↓x_kcons, ↓x_tnil, ↓x_tval, ↓x_pval, ↓x_pnil, ↓x_snil, ↓x_sval, ↓x_onil, z_trN, z_trB, z_trI, z_trS, z_trT, z_trL, slotV_s, slotN_n, slotN_s, slotL_l, slotC_sh, slotC_lst, slotC_ins, one1_d, oneI_i, two2_o, two2D_d, someV_s, isBl_b, boolO_b, setV_s, insV_s, tryV_t, tryV_f, insD_i, unpD_t, unpD_l, gAdd_ii, gAdd_ss, gAdd_ll, gAdd_tt, gMul_ii, gMul_li, gSub_ii, gLt_ii, gLe_ii, gGt_ii, gGe_ii, gFdiv_ii, gMod_ii, gPow_ii, gNeg_i, gAbs_i, gInt_i, gInt_b, gGcd_ii, gLen_l, gLen_t, gLen_s, gIx_l, gIx_t, gIx_s, gIs_bb, gIs_dn, gEq_de, gTuple_l, gTuple_t, gList_l, gList_t, items_l, items_t, items_s, seq_l, seq_t, isNon_n, isNon_i, isNon_b, isNon_s, isNon_t, isNon_l, g2_ii, isK, knownD, flatD, view_sh', view_lst, flat_sh, flat_lst, List.map_cons, List.map_nil, List.replicate, List.cons_append, List.nil_append, List.append_nil, List.getElem?_cons_zero, List.getElem?_cons_succ, List.set_cons_zero, List.set_cons_succ, List.length_cons, List.length_nil, List.contains, List.elem_nil, List.elem_cons, List.any_cons, List.any_nil, List.all_nil, List.all_cons, Bool.or_false, Bool.false_eq_true, if_true, if_false, ite_true, ite_false, Nat.reduceSub, Nat.reduceAdd, Nat.reduceBEq, Nat.reduceEqDiff, Nat.reduceLeDiff, Nat.reduceLT, beq_self_eq_true, Bool.not_true, Bool.not_false, Bool.and_true, Bool.true_and, Bool.and_false, Bool.false_and, Bool.or_true, Bool.true_or, Bool.false_or, decide_eq_true_eq, Bool.not_eq_true', decide_eq_false_iff_not, true_and, and_true, reduceCtorEq, at_0, at_1, at_2, at_3, List.getD_cons_zero, List.getD_cons_succ, ok_int, ok_bl, ok_non, ok_tup0, ok_tI, ok_str, ok_t1, eq_int, eq_str, eq_t1, eq_tI1, ix40, ix41, ix42, ix43, List.length_map, eqk_int, eqk_str, eqk_bl, eqv_int, eqv_str, List.take_succ_cons, List.take_zero, List.drop_succ_cons, List.drop_zero, List.take_nil, List.drop_nil, ↓z_m1, ↓z_strV, ↓z_strS, strO_s, ↓z_intV, ↓z_intS, intO_i, ↓z_sl, ↓z_part0, ↓z_part, ↓z_join, ↓z_js0, ↓z_js1, gStr_i, gAll_l, gIn_ss, gStart_ss, gSplit_ss, gCut_s, gCut_l, gCut_t, gFmt_s, gFmt_i, gMul_si, gInt_s]
    by_cases hm : (300 : Int) < m
    · rw [if_pos hm]
      have hq : readQ ("-" ++ T) = none := law_none _ (.inl (by
        unfold figsS
        rw [hparts]
        simp only [List.all_cons, List.all_nil, Bool.and_true]
        rw [fig_parts, decide_eq_false (show ¬ T.length ≤ 300 by omega)]
        simp))
      rw [hq]
      simp only [readD]
      refine ⟨by decide, ?_⟩
      simp only [↓z_c, ↓z_var, ↓z_nil, ↓z_cons, ↓z_b, ↓z_vslot, ↓z_kslot, ↓z_kval, ↓z_lst, ↓z_tup, ↓z_call, ↓z_callKw, ↓z_tslot, ↓z_pslot, ↓z_tru, ↓z_tb, ↓z_nott, ↓z_andt, ↓z_ort, ↓z_ifx, ↓z_andv, ↓z_orv, ↓z_notv, ↓z_isi, ↓z_xf, ↓z_xis, ↓z_app, ↓z_chain, ↓z_fld, ↓z_ins, ↓z_dic, ↓z_next, ↓z_seq, ↓z_break, ↓z_cont, ↓z_expr, ↓z_ret, ↓z_rval, ↓z_rslot, ↓z_retn, ↓z_if, ↓z_asg, ↓z_setix, ↓z_par, ↓z_asgg, ↓z_gnm, ↓z_gunp, ↓z_gone, ↓z_gno, ↓z_raise, ↓z_try, ↓z_for, ↓z_iseq, ↓z_irg1, ↓z_izip, ↓z_sslot, ↓z_ocons, ↓z_lc, ↓z_yes, ↓z_w0, ↓z_ws, ↓x_vnil, ↓x_vval, ↓x_knil, ↓x_kcons, ↓x_tnil, ↓x_tval, ↓x_pval, ↓x_pnil, ↓x_snil, ↓x_sval, ↓x_onil, z_trN, z_trB, z_trI, z_trS, z_trT, z_trL, slotV_s, slotN_n, slotN_s, slotL_l, slotC_sh, slotC_lst, slotC_ins, one1_d, oneI_i, two2_o, two2D_d, someV_s, isBl_b, boolO_b, setV_s, insV_s, tryV_t, tryV_f, insD_i, unpD_t, unpD_l, gAdd_ii, gAdd_ss, gAdd_ll, gAdd_tt, gMul_ii, gMul_li, gSub_ii, gLt_ii, gLe_ii, gGt_ii, gGe_ii, gFdiv_ii, gMod_ii, gPow_ii, gNeg_i, gAbs_i, gInt_i, gInt_b, gGcd_ii, gLen_l, gLen_t, gLen_s, gIx_l, gIx_t, gIx_s, gIs_bb, gIs_dn, gEq_de, gTuple_l, gTuple_t, gList_l, gList_t, items_l, items_t, items_s, seq_l, seq_t, isNon_n, isNon_i, isNon_b, isNon_s, isNon_t, isNon_l, g2_ii, isK, knownD, flatD, view_sh', view_lst, flat_sh, flat_lst, List.map_cons, List.map_nil, List.replicate, List.cons_append, List.nil_append, List.append_nil, List.getElem?_cons_zero, List.getElem?_cons_succ, List.set_cons_zero, List.set_cons_succ, List.length_cons, List.length_nil, List.contains, List.elem_nil, List.elem_cons, List.any_cons, List.any_nil, List.all_nil, List.all_cons, Bool.or_false, Bool.false_eq_true, if_true, if_false, ite_true, ite_false, Nat.reduceSub, Nat.reduceAdd, Nat.reduceBEq, Nat.reduceEqDiff, Nat.reduceLeDiff, Nat.reduceLT, beq_self_eq_true, Bool.not_true, Bool.not_false, Bool.and_true, Bool.true_and, Bool.and_false, Bool.false_and, Bool.or_true, Bool.true_or, Bool.false_or, decide_eq_true_eq, Bool.not_eq_true', decide_eq_false_iff_not, true_and, and_true, reduceCtorEq, at_0, at_1, at_2, at_3, List.getD_cons_zero, List.getD_cons_succ, ok_int, ok_bl, ok_non, ok_tup0, ok_tI, ok_str, ok_t1, eq_int, eq_str, eq_t1, eq_tI1, ix40, ix41, ix42, ix43, List.length_map, eqk_int, eqk_str, eqk_bl, eqv_int, eqv_str, List.take_succ_cons, List.take_zero, List.drop_succ_cons, List.drop_zero, List.take_nil, List.drop_nil, ↓z_m1, ↓z_strV, ↓z_strS, strO_s, ↓z_intV, ↓z_intS, intO_i, ↓z_sl, ↓z_part0, ↓z_part, ↓z_join, ↓z_js0, ↓z_js1, gStr_i, gAll_l, gIn_ss, gStart_ss, gSplit_ss, gCut_s, gCut_l, gCut_t, gFmt_s, gFmt_i, gMul_si, gInt_s, eqk_t, decide_true]
      exact k
    · rw [if_neg hm]
      exact hb _ ⟨rfl, by omega⟩
  rintro E ⟨rfl, hm⟩
  have hfig : isFig T = true := by
    refine canon_figL ⟨fun c hc => by have := no c hc; omega, ?_⟩ (by rw [← len_tl]; omega)
    rw [tT]
    obtain ⟨m', e⟩ : ∃ m', m = m' + 1 := ⟨m - 1, by omega⟩
    rw [e, List.replicate_succ]
    exact .inr ⟨_, _, rfl, by omega⟩
  obtain ⟨N, hN, hi, hlT, _⟩ := fig_num hfig
  have N1 : 1 ≤ N := by
    rcases Nat.eq_zero_or_pos N with z | z
    · exfalso
      have e : (numS N).cps.toList = [48] := by
        have := tl_num (cs := [48]) ⟨fun c hc => by rw [List.mem_singleton] at hc; omega, .inl rfl⟩
        rw [z]; exact this
      rw [hN, e] at tT
      have := congrArg List.length tT
      simp at this
      omega
    · exact z
  have hw := num_small (by rw [← hN]; exact hlT)
  have hrt : Rt 1000 (-(N : Int), 1) := ⟨hw.neg, by show Wb 1000 1; unfold Wb; decide +kernel, by show (0 : Int) < 1; decide, Int.gcd_one_right _⟩
  have hT : textQ (-(N : Int), 1) = "-" ++ T := by
    refine str_ext ?_
    show (intS (-(N : Int))).cps.toList = _
    rw [tl_int, if_pos (by omega), Int.natAbs_neg, Int.natAbs_natCast, ← hN, tD, tT]
  have hq : readQ ("-" ++ T) = some (-(N : Int), 1) := by
    rw [← hT]
    refine read_text hrt fun p hp => ?_
    have e : pieces (-(N : Int), 1) = [numS N] := by
      show [numS (-(N : Int)).natAbs] = _
      rw [Int.natAbs_neg, Int.natAbs_natCast]
    rw [e, List.mem_singleton] at hp
    rw [hp, ← hN]; exact hlT
  rw [hq]
  simp only [readD]
  simp only [↓z_c, ↓z_var, ↓z_nil, ↓z_cons, ↓z_b, ↓z_vslot, ↓z_kslot, ↓z_kval, ↓z_lst, ↓z_tup, ↓z_call, ↓z_callKw, ↓z_tslot, ↓z_pslot, ↓z_tru, ↓z_tb, ↓z_nott, ↓z_andt, ↓z_ort, ↓z_ifx, ↓z_andv, ↓z_orv, ↓z_notv, ↓z_isi, ↓z_xf, ↓z_xis, ↓z_app, ↓z_chain, ↓z_fld, ↓z_ins, ↓z_dic, ↓z_next, ↓z_seq, ↓z_break, ↓z_cont, ↓z_expr, ↓z_ret, ↓z_rval, ↓z_rslot, ↓z_retn, ↓z_if, ↓z_asg, ↓z_setix, ↓z_par, ↓z_asgg, ↓z_gnm, ↓z_gunp, ↓z_gone, ↓z_gno, ↓z_raise, ↓z_try, ↓z_for, ↓z_iseq, ↓z_irg1, ↓z_izip, ↓z_sslot, ↓z_ocons, ↓z_lc, ↓z_yes, ↓z_w0, ↓z_ws, ↓x_vnil, ↓x_vval, ↓x_knil, ↓x_kcons, ↓x_tnil, ↓x_tval, ↓x_pval, ↓x_pnil, ↓x_snil, ↓x_sval, ↓x_onil, z_trN, z_trB, z_trI, z_trS, z_trT, z_trL, slotV_s, slotN_n, slotN_s, slotL_l, slotC_sh, slotC_lst, slotC_ins, one1_d, oneI_i, two2_o, two2D_d, someV_s, isBl_b, boolO_b, setV_s, insV_s, tryV_t, tryV_f, insD_i, unpD_t, unpD_l, gAdd_ii, gAdd_ss, gAdd_ll, gAdd_tt, gMul_ii, gMul_li, gSub_ii, gLt_ii, gLe_ii, gGt_ii, gGe_ii, gFdiv_ii, gMod_ii, gPow_ii, gNeg_i, gAbs_i, gInt_i, gInt_b, gGcd_ii, gLen_l, gLen_t, gLen_s, gIx_l, gIx_t, gIx_s, gIs_bb, gIs_dn, gEq_de, gTuple_l, gTuple_t, gList_l, gList_t, items_l, items_t, items_s, seq_l, seq_t, isNon_n, isNon_i, isNon_b, isNon_s, isNon_t, isNon_l, g2_ii, isK, knownD, flatD, view_sh', view_lst, flat_sh, flat_lst, List.map_cons, List.map_nil, List.replicate, List.cons_append, List.nil_append, List.append_nil, List.getElem?_cons_zero, List.getElem?_cons_succ, List.set_cons_zero, List.set_cons_succ, List.length_cons, List.length_nil, List.contains, List.elem_nil, List.elem_cons, List.any_cons, List.any_nil, List.all_nil, List.all_cons, Bool.or_false, Bool.false_eq_true, if_true, if_false, ite_true, ite_false, Nat.reduceSub, Nat.reduceAdd, Nat.reduceBEq, Nat.reduceEqDiff, Nat.reduceLeDiff, Nat.reduceLT, beq_self_eq_true, Bool.not_true, Bool.not_false, Bool.and_true, Bool.true_and, Bool.and_false, Bool.false_and, Bool.or_true, Bool.true_or, Bool.false_or, decide_eq_true_eq, Bool.not_eq_true', decide_eq_false_iff_not, true_and, and_true, reduceCtorEq, at_0, at_1, at_2, at_3, List.getD_cons_zero, List.getD_cons_succ, ok_int, ok_bl, ok_non, ok_tup0, ok_tI, ok_str, ok_t1, eq_int, eq_str, eq_t1, eq_tI1, ix40, ix41, ix42, ix43, List.length_map, eqk_int, eqk_str, eqk_bl, eqv_int, eqv_str, List.take_succ_cons, List.take_zero, List.drop_succ_cons, List.drop_zero, List.take_nil, List.drop_nil, ↓z_m1, ↓z_strV, ↓z_strS, strO_s, ↓z_intV, ↓z_intS, intO_i, ↓z_sl, ↓z_part0, ↓z_part, ↓z_join, ↓z_js0, ↓z_js1, gStr_i, gAll_l, gIn_ss, gStart_ss, gSplit_ss, gCut_s, gCut_l, gCut_t, gFmt_s, gFmt_i, gMul_si, gInt_s]
  refine ⟨(N : Int), hi, by omega, by decide, ?_⟩
  refine ⟨dR (-(N : Int), 1), (-(N : Int), 1), rfl, rfl, ?_⟩
  simp only [↓z_c, ↓z_var, ↓z_nil, ↓z_cons, ↓z_b, ↓z_vslot, ↓z_kslot, ↓z_kval, ↓z_lst, ↓z_tup, ↓z_call, ↓z_callKw, ↓z_tslot, ↓z_pslot, ↓z_tru, ↓z_tb, ↓z_nott, ↓z_andt, ↓z_ort, ↓z_ifx, ↓z_andv, ↓z_orv, ↓z_notv, ↓z_isi, ↓z_xf, ↓z_xis, ↓z_app, ↓z_chain, ↓z_fld, ↓z_ins, ↓z_dic, ↓z_next, ↓z_seq, ↓z_break, ↓z_cont, ↓z_expr, ↓z_ret, ↓z_rval, ↓z_rslot, ↓z_retn, ↓z_if, ↓z_asg, ↓z_setix, ↓z_par, ↓z_asgg, ↓z_gnm, ↓z_gunp, ↓z_gone, ↓z_gno, ↓z_raise, ↓z_try, ↓z_for, ↓z_iseq, ↓z_irg1, ↓z_izip, ↓z_sslot, ↓z_ocons, ↓z_lc, ↓z_yes, ↓z_w0, ↓z_ws, ↓x_vnil, ↓x_vval, ↓x_knil, ↓x_kcons, ↓x_tnil, ↓x_tval, ↓x_pval, ↓x_pnil, ↓x_snil, ↓x_sval, ↓x_onil, z_trN, z_trB, z_trI, z_trS, z_trT, z_trL, slotV_s, slotN_n, slotN_s, slotL_l, slotC_sh, slotC_lst, slotC_ins, one1_d, oneI_i, two2_o, two2D_d, someV_s, isBl_b, boolO_b, setV_s, insV_s, tryV_t, tryV_f, insD_i, unpD_t, unpD_l, gAdd_ii, gAdd_ss, gAdd_ll, gAdd_tt, gMul_ii, gMul_li, gSub_ii, gLt_ii, gLe_ii, gGt_ii, gGe_ii, gFdiv_ii, gMod_ii, gPow_ii, gNeg_i, gAbs_i, gInt_i, gInt_b, gGcd_ii, gLen_l, gLen_t, gLen_s, gIx_l, gIx_t, gIx_s, gIs_bb, gIs_dn, gEq_de, gTuple_l, gTuple_t, gList_l, gList_t, items_l, items_t, items_s, seq_l, seq_t, isNon_n, isNon_i, isNon_b, isNon_s, isNon_t, isNon_l, g2_ii, isK, knownD, flatD, view_sh', view_lst, flat_sh, flat_lst, List.map_cons, List.map_nil, List.replicate, List.cons_append, List.nil_append, List.append_nil, List.getElem?_cons_zero, List.getElem?_cons_succ, List.set_cons_zero, List.set_cons_succ, List.length_cons, List.length_nil, List.contains, List.elem_nil, List.elem_cons, List.any_cons, List.any_nil, List.all_nil, List.all_cons, Bool.or_false, Bool.false_eq_true, if_true, if_false, ite_true, ite_false, Nat.reduceSub, Nat.reduceAdd, Nat.reduceBEq, Nat.reduceEqDiff, Nat.reduceLeDiff, Nat.reduceLT, beq_self_eq_true, Bool.not_true, Bool.not_false, Bool.and_true, Bool.true_and, Bool.and_false, Bool.false_and, Bool.or_true, Bool.true_or, Bool.false_or, decide_eq_true_eq, Bool.not_eq_true', decide_eq_false_iff_not, true_and, and_true, reduceCtorEq, at_0, at_1, at_2, at_3, List.getD_cons_zero, List.getD_cons_succ, ok_int, ok_bl, ok_non, ok_tup0, ok_tI, ok_str, ok_t1, eq_int, eq_str, eq_t1, eq_tI1, ix40, ix41, ix42, ix43, List.length_map, eqk_int, eqk_str, eqk_bl, eqv_int, eqv_str, List.take_succ_cons, List.take_zero, List.drop_succ_cons, List.drop_zero, List.take_nil, List.drop_nil, ↓z_m1, ↓z_strV, ↓z_strS, strO_s, ↓z_intV, ↓z_intS, intO_i, ↓z_sl, ↓z_part0, ↓z_part, ↓z_join, ↓z_js0, ↓z_js1, gStr_i, gAll_l, gIn_ss, gStart_ss, gSplit_ss, gCut_s, gCut_l, gCut_t, gFmt_s, gFmt_i, gMul_si, gInt_s, same_self]
  refine ⟨(-(N : Int), 1), rfl, hrt.mono (by decide), ?_⟩
  simp only [↓z_c, ↓z_var, ↓z_nil, ↓z_cons, ↓z_b, ↓z_vslot, ↓z_kslot, ↓z_kval, ↓z_lst, ↓z_tup, ↓z_call, ↓z_callKw, ↓z_tslot, ↓z_pslot, ↓z_tru, ↓z_tb, ↓z_nott, ↓z_andt, ↓z_ort, ↓z_ifx, ↓z_andv, ↓z_orv, ↓z_notv, ↓z_isi, ↓z_xf, ↓z_xis, ↓z_app, ↓z_chain, ↓z_fld, ↓z_ins, ↓z_dic, ↓z_next, ↓z_seq, ↓z_break, ↓z_cont, ↓z_expr, ↓z_ret, ↓z_rval, ↓z_rslot, ↓z_retn, ↓z_if, ↓z_asg, ↓z_setix, ↓z_par, ↓z_asgg, ↓z_gnm, ↓z_gunp, ↓z_gone, ↓z_gno, ↓z_raise, ↓z_try, ↓z_for, ↓z_iseq, ↓z_irg1, ↓z_izip, ↓z_sslot, ↓z_ocons, ↓z_lc, ↓z_yes, ↓z_w0, ↓z_ws, ↓x_vnil, ↓x_vval, ↓x_knil, ↓x_kcons, ↓x_tnil, ↓x_tval, ↓x_pval, ↓x_pnil, ↓x_snil, ↓x_sval, ↓x_onil, z_trN, z_trB, z_trI, z_trS, z_trT, z_trL, slotV_s, slotN_n, slotN_s, slotL_l, slotC_sh, slotC_lst, slotC_ins, one1_d, oneI_i, two2_o, two2D_d, someV_s, isBl_b, boolO_b, setV_s, insV_s, tryV_t, tryV_f, insD_i, unpD_t, unpD_l, gAdd_ii, gAdd_ss, gAdd_ll, gAdd_tt, gMul_ii, gMul_li, gSub_ii, gLt_ii, gLe_ii, gGt_ii, gGe_ii, gFdiv_ii, gMod_ii, gPow_ii, gNeg_i, gAbs_i, gInt_i, gInt_b, gGcd_ii, gLen_l, gLen_t, gLen_s, gIx_l, gIx_t, gIx_s, gIs_bb, gIs_dn, gEq_de, gTuple_l, gTuple_t, gList_l, gList_t, items_l, items_t, items_s, seq_l, seq_t, isNon_n, isNon_i, isNon_b, isNon_s, isNon_t, isNon_l, g2_ii, isK, knownD, flatD, view_sh', view_lst, flat_sh, flat_lst, List.map_cons, List.map_nil, List.replicate, List.cons_append, List.nil_append, List.append_nil, List.getElem?_cons_zero, List.getElem?_cons_succ, List.set_cons_zero, List.set_cons_succ, List.length_cons, List.length_nil, List.contains, List.elem_nil, List.elem_cons, List.any_cons, List.any_nil, List.all_nil, List.all_cons, Bool.or_false, Bool.false_eq_true, if_true, if_false, ite_true, ite_false, Nat.reduceSub, Nat.reduceAdd, Nat.reduceBEq, Nat.reduceEqDiff, Nat.reduceLeDiff, Nat.reduceLT, beq_self_eq_true, Bool.not_true, Bool.not_false, Bool.and_true, Bool.true_and, Bool.and_false, Bool.false_and, Bool.or_true, Bool.true_or, Bool.false_or, decide_eq_true_eq, Bool.not_eq_true', decide_eq_false_iff_not, true_and, and_true, reduceCtorEq, at_0, at_1, at_2, at_3, List.getD_cons_zero, List.getD_cons_succ, ok_int, ok_bl, ok_non, ok_tup0, ok_tI, ok_str, ok_t1, eq_int, eq_str, eq_t1, eq_tI1, ix40, ix41, ix42, ix43, List.length_map, eqk_int, eqk_str, eqk_bl, eqv_int, eqv_str, List.take_succ_cons, List.take_zero, List.drop_succ_cons, List.drop_zero, List.take_nil, List.drop_nil, ↓z_m1, ↓z_strV, ↓z_strS, strO_s, ↓z_intV, ↓z_intS, intO_i, ↓z_sl, ↓z_part0, ↓z_part, ↓z_join, ↓z_js0, ↓z_js1, gStr_i, gAll_l, gIn_ss, gStart_ss, gSplit_ss, gCut_s, gCut_l, gCut_t, gFmt_s, gFmt_i, gMul_si, gInt_s, hT, decide_true]
  exact ⟨by omega, k⟩

end K02

set_option Elab.async false
set_option linter.all false
set_option maxRecDepth 100000
set_option maxHeartbeats 0
set_option autoImplicit false
namespace K02
open PySem PySem.Spec PyProof.Rows L2 Pv
theorem law_true (ns : List Int) (hl : ns.length ≤ 63) : S_law [.sh (.lst (ns.map D.int))] (fun o _ => o = oB true) (fun _ _ => False) := ⟨ns, rfl, hl, rfl⟩
def clsBody_BadRatio : Stmt := (match top 3 with
  | .ClassDef _ _ _ b _ _ _ _ _ _ _ => b.getD 0 (.Pass ⟨0, 0, 0, 0⟩)
  | s => s)
def fn : List He.DefD := [
  ⟨("is_whole", none), "is_whole", "is_whole", defArgs s_is_whole, defBody s_is_whole, defScope s_is_whole, [.non, .non], []⟩,
  ⟨("is_ratio", none), "is_ratio", "is_ratio", defArgs s_is_ratio, defBody s_is_ratio, defScope s_is_ratio, [], []⟩,
  ⟨("ratio_text", none), "ratio_text", "ratio_text", defArgs s_ratio_text, defBody s_ratio_text, defScope s_ratio_text, [], []⟩,
  ⟨("is_figures", none), "is_figures", "is_figures", defArgs s_is_figures, defBody s_is_figures, defScope s_is_figures, [], []⟩,
  ⟨("ratio_of", none), "ratio_of", "ratio_of", defArgs s_ratio_of, defBody s_ratio_of, defScope s_ratio_of, [], []⟩,
  ⟨("_law_hand", none), "_law_hand", "_law_hand", defArgs s__law_hand, defBody s__law_hand, defScope s__law_hand, [], []⟩,
  ⟨("_law_mixed", none), "_law_mixed", "_law_mixed", defArgs s__law_mixed, defBody s__law_mixed, defScope s__law_mixed, [], []⟩,
  ⟨("_law_take", none), "_law_take", "_law_take", defArgs s__law_take, defBody s__law_take, defScope s__law_take, [], []⟩,
  ⟨("_law_gcd", none), "_law_gcd", "_law_gcd", defArgs s__law_gcd, defBody s__law_gcd, defScope s__law_gcd, [], []⟩,
  ⟨("_law_ratio", none), "_law_ratio", "_law_ratio", defArgs s__law_ratio, defBody s__law_ratio, defScope s__law_ratio, [], []⟩,
  ⟨("_law_same", none), "_law_same", "_law_same", defArgs s__law_same, defBody s__law_same, defScope s__law_same, [], []⟩,
  ⟨("_law_number", none), "_law_number", "_law_number", defArgs s__law_number, defBody s__law_number, defScope s__law_number, [], []⟩,
  ⟨("_law_any_ratio", none), "_law_any_ratio", "_law_any_ratio", defArgs s__law_any_ratio, defBody s__law_any_ratio, defScope s__law_any_ratio, [], []⟩,
  ⟨("_law_odd", none), "_law_odd", "_law_odd", defArgs s__law_odd, defBody s__law_odd, defScope s__law_odd, [], []⟩,
  ⟨("_law_text", none), "_law_text", "_law_text", defArgs s__law_text, defBody s__law_text, defScope s__law_text, [], []⟩,
  ⟨("_law_read", none), "_law_read", "_law_read", defArgs s__law_read, defBody s__law_read, defScope s__law_read, [], []⟩,
  ⟨("_law_figures", none), "_law_figures", "_law_figures", defArgs s__law_figures, defBody s__law_figures, defScope s__law_figures, [], []⟩,
  ⟨("_law_due", none), "_law_due", "_law_due", defArgs s__law_due, defBody s__law_due, defScope s__law_due, [], []⟩,
  ⟨("law", none), "law", "law", defArgs s_law, defBody s_law, defScope s_law, [], []⟩,
  ⟨("BadRatio", some "__init__"), "__init__", "BadRatio.__init__", defArgs clsBody_BadRatio, defBody clsBody_BadRatio, defScope clsBody_BadRatio, [], []⟩]
def fa : List He.Fa := [.glo "is_whole", .glo "is_ratio", .glo "ratio_text", .glo "is_figures", .glo "ratio_of", .glo "_law_hand", .glo "_law_mixed", .glo "_law_take", .glo "_law_gcd", .glo "_law_ratio", .glo "_law_same", .glo "_law_number", .glo "_law_any_ratio", .glo "_law_odd", .glo "_law_text", .glo "_law_read", .glo "_law_figures", .glo "_law_due", .glo "law", .glo "BadRatio", .glo "WorksError", .free "abs", .free "all", .free "bool", .free "int", .free "isinstance", .free "len", .free "range", .free "str", .free "tuple"]
def exL (K : PySem.W.Frag) : List Bool := [glB K "FIGURES_MOST" (.int 300), blB K "gcd" "math.gcd", ecB K "BadRatio" ["what"], exmB K (CN 0) "BadRatio" false, exmB K (CN 1) "BadRatio" true, (excB K (He.ga K (CN 1)) && decide (PySem.W.findIn K (.ref (He.ga K (CN 1))) "what" = some none))]
def ex (K : PySem.W.Frag) : Bool := (exL K).all id
theorem ex_at {K : PySem.W.Frag} (h : ex K = true) {i : Nat} {b : Bool} (e : (exL K)[i]? = some b) : b = true := List.all_eq_true.mp h b (List.mem_of_getElem? e)
def loose0 : List Str := [("WorksError" : Str), ("BadRatio" : Str), ("FIGURES_MOST" : Str), ("is_whole" : Str), ("is_ratio" : Str), ("ratio_text" : Str), ("is_figures" : Str), ("ratio_of" : Str), ("_law_hand" : Str), ("_law_mixed" : Str), ("_law_take" : Str), ("_law_gcd" : Str), ("_law_ratio" : Str), ("_law_same" : Str), ("_law_number" : Str), ("_law_any_ratio" : Str), ("_law_odd" : Str), ("_law_text" : Str), ("_law_read" : Str), ("_law_figures" : Str), ("_law_due" : Str)]
abbrev R : PySem.W.OpenRow := PySem.W.OpenLaw.row PySem.Challenge.rw_leastlabour_k02_whole_ratios_written_and
abbrev hk : PySem.W.Hook := He.hookX 5 fa fn [] [] ex
def ob (s : PySem.W.SharedT) : He.AlX := He.obsX 5 fa fn [] [] ex (HandSHeadRun.getT s)
theorem ob_eq (s : PySem.W.SharedT) : ob s = hk.obs s.abs := He.obsX_eq (HandSHeadRun.getT_eq s)
def loose : List Str := loose0
theorem run (w : World) : HandSHeadRun.RunEqI R (PySem.W.view R.prog [0, 25]) hk ob 3000 loose w := by
  unfold HandSHeadRun.RunEqI
  kernel_rfl
section
variable {P : Program} {w : World} {K : PySem.W.Frag} {h : Heap} {mg : Str → Option Value} {f : Addr}
theorem facts (X : K.In h) (G : h.Ns mainGlobals mg) (hfa : mg ("law" : Str) = some (.ref f)) (c : He.SaysX fa fn [] [] ex w h K) :
    ∃ fd : FuncData, (∀ (s : Shared) (v : Value), BindsTo s fd ⟨[v], []⟩ [("_law_script", v)]) ∧ ∀ base : Heap, K.In base → base.Ns mainGlobals mg → FnG P w K mg base (L2.CX P w) 5 f fd ["_law_script"] (spS (TT K) S_law) := by
  have cd := c.t.d
  have cx := c.more
  obtain ⟨fd_is_whole, FD_is_whole⟩ := cd.def_ 0 rfl
  obtain ⟨fd_is_ratio, FD_is_ratio⟩ := cd.def_ 1 rfl
  obtain ⟨fd_ratio_text, FD_ratio_text⟩ := cd.def_ 2 rfl
  obtain ⟨fd_is_figures, FD_is_figures⟩ := cd.def_ 3 rfl
  obtain ⟨fd_ratio_of, FD_ratio_of⟩ := cd.def_ 4 rfl
  obtain ⟨fd__law_hand, FD__law_hand⟩ := cd.def_ 5 rfl
  obtain ⟨fd__law_mixed, FD__law_mixed⟩ := cd.def_ 6 rfl
  obtain ⟨fd__law_take, FD__law_take⟩ := cd.def_ 7 rfl
  obtain ⟨fd__law_gcd, FD__law_gcd⟩ := cd.def_ 8 rfl
  obtain ⟨fd__law_ratio, FD__law_ratio⟩ := cd.def_ 9 rfl
  obtain ⟨fd__law_same, FD__law_same⟩ := cd.def_ 10 rfl
  obtain ⟨fd__law_number, FD__law_number⟩ := cd.def_ 11 rfl
  obtain ⟨fd__law_any_ratio, FD__law_any_ratio⟩ := cd.def_ 12 rfl
  obtain ⟨fd__law_odd, FD__law_odd⟩ := cd.def_ 13 rfl
  obtain ⟨fd__law_text, FD__law_text⟩ := cd.def_ 14 rfl
  obtain ⟨fd__law_read, FD__law_read⟩ := cd.def_ 15 rfl
  obtain ⟨fd__law_figures, FD__law_figures⟩ := cd.def_ 16 rfl
  obtain ⟨fd__law_due, FD__law_due⟩ := cd.def_ 17 rfl
  obtain ⟨fd_law, FD_law⟩ := cd.def_ 18 rfl
  obtain ⟨fdI_BadRatio, FDI_BadRatio⟩ := cd.def_ 19 rfl
  have mg_is_whole : mg "is_whole" = some (.ref (He.ga K "is_whole")) := He.glo_ok X G (cd.fact 0 rfl)
  have mg_is_ratio : mg "is_ratio" = some (.ref (He.ga K "is_ratio")) := He.glo_ok X G (cd.fact 1 rfl)
  have mg_ratio_text : mg "ratio_text" = some (.ref (He.ga K "ratio_text")) := He.glo_ok X G (cd.fact 2 rfl)
  have mg_is_figures : mg "is_figures" = some (.ref (He.ga K "is_figures")) := He.glo_ok X G (cd.fact 3 rfl)
  have mg_ratio_of : mg "ratio_of" = some (.ref (He.ga K "ratio_of")) := He.glo_ok X G (cd.fact 4 rfl)
  have mg__law_hand : mg "_law_hand" = some (.ref (He.ga K "_law_hand")) := He.glo_ok X G (cd.fact 5 rfl)
  have mg__law_mixed : mg "_law_mixed" = some (.ref (He.ga K "_law_mixed")) := He.glo_ok X G (cd.fact 6 rfl)
  have mg__law_take : mg "_law_take" = some (.ref (He.ga K "_law_take")) := He.glo_ok X G (cd.fact 7 rfl)
  have mg__law_gcd : mg "_law_gcd" = some (.ref (He.ga K "_law_gcd")) := He.glo_ok X G (cd.fact 8 rfl)
  have mg__law_ratio : mg "_law_ratio" = some (.ref (He.ga K "_law_ratio")) := He.glo_ok X G (cd.fact 9 rfl)
  have mg__law_same : mg "_law_same" = some (.ref (He.ga K "_law_same")) := He.glo_ok X G (cd.fact 10 rfl)
  have mg__law_number : mg "_law_number" = some (.ref (He.ga K "_law_number")) := He.glo_ok X G (cd.fact 11 rfl)
  have mg__law_any_ratio : mg "_law_any_ratio" = some (.ref (He.ga K "_law_any_ratio")) := He.glo_ok X G (cd.fact 12 rfl)
  have mg__law_odd : mg "_law_odd" = some (.ref (He.ga K "_law_odd")) := He.glo_ok X G (cd.fact 13 rfl)
  have mg__law_text : mg "_law_text" = some (.ref (He.ga K "_law_text")) := He.glo_ok X G (cd.fact 14 rfl)
  have mg__law_read : mg "_law_read" = some (.ref (He.ga K "_law_read")) := He.glo_ok X G (cd.fact 15 rfl)
  have mg__law_figures : mg "_law_figures" = some (.ref (He.ga K "_law_figures")) := He.glo_ok X G (cd.fact 16 rfl)
  have mg__law_due : mg "_law_due" = some (.ref (He.ga K "_law_due")) := He.glo_ok X G (cd.fact 17 rfl)
  have mg_law : mg "law" = some (.ref (He.ga K "law")) := He.glo_ok X G (cd.fact 18 rfl)
  have mg_BadRatio : mg "BadRatio" = some (.ref (He.ga K "BadRatio")) := He.glo_ok X G (cd.fact 19 rfl)
  have mg_WorksError : mg "WorksError" = some (.ref (He.ga K "WorksError")) := He.glo_ok X G (cd.fact 20 rfl)
  have fr_abs : mg "abs" = none := He.free_ok X G (cd.fact 21 rfl)
  have fr_all : mg "all" = none := He.free_ok X G (cd.fact 22 rfl)
  have fr_bool : mg "bool" = none := He.free_ok X G (cd.fact 23 rfl)
  have fr_int : mg "int" = none := He.free_ok X G (cd.fact 24 rfl)
  have fr_isinstance : mg "isinstance" = none := He.free_ok X G (cd.fact 25 rfl)
  have fr_len : mg "len" = none := He.free_ok X G (cd.fact 26 rfl)
  have fr_range : mg "range" = none := He.free_ok X G (cd.fact 27 rfl)
  have fr_str : mg "str" = none := He.free_ok X G (cd.fact 28 rfl)
  have fr_tuple : mg "tuple" = none := He.free_ok X G (cd.fact 29 rfl)
  have gl_FIGURES_MOST : GlD K mg "FIGURES_MOST" (.int 300) := glB_ok X G (ex_at cx (i := 0) rfl)
  have bl_gcd : mg "gcd" = some (.builtin "math.gcd") := blB_ok X G (ex_at cx (i := 1) rfl)
  have ec_BadRatio : Ec K (He.ga K "BadRatio") ["what"] _ _ ["what"] := ec_ok (ex_at cx (i := 2) rfl) FDI_BadRatio (N := ["self", "what"]) (qs := ["what"]) ⟨rfl, rfl, rfl, by decide +kernel, rfl, by decide +kernel, by decide +kernel⟩ (.cons (.nil)) rfl (by decide) (by decide) (by decide) (by decide) (FunD.bindsN (ps := ["self", "what"]) FDI_BadRatio fun _ _ _ _ _ _ us hl => match us, hl with | [_, _], _ => rfl)
  have ex_BadRatio : ∀ k b, mx_BadRatio k = some b → PySem.W.exmOne K (.ref ((TT K).ca k)) (.ref (He.ga K "BadRatio")) = some b := fun k b e => match k, e with
    | 0, rfl => of_decide_eq_true (ex_at cx (i := 3) rfl)
    | 1, rfl => of_decide_eq_true (ex_at cx (i := 4) rfl)
  have xf_1_what : ∀ c ∈ ([1] : List Nat), excB K ((TT K).ca c) = true ∧ PySem.W.findIn K (.ref ((TT K).ca c)) "what" = some none := fun c hc => by
    simp only [List.mem_cons, List.not_mem_nil, or_false] at hc
    rcases hc with rfl
    · exact ⟨(bsplit (ex_at cx (i := 5) rfl)).1, of_decide_eq_true (bsplit (ex_at cx (i := 5) rfl)).2⟩
  have bd__law_any_ratio_0 : Bd K fd__law_any_ratio ["_law_hand_here"] [] := Bd.all (FunD.bindsN (ps := ["_law_hand_here"]) FD__law_any_ratio fun _ _ _ _ _ _ us hl => match us, hl with | [_], _ => rfl)
  have bd__law_due_0 : Bd K fd__law_due ["_law_text_here"] [] := Bd.all (FunD.bindsN (ps := ["_law_text_here"]) FD__law_due fun _ _ _ _ _ _ us hl => match us, hl with | [_], _ => rfl)
  have bd__law_figures_0 : Bd K fd__law_figures ["_law_text_here"] [] := Bd.all (FunD.bindsN (ps := ["_law_text_here"]) FD__law_figures fun _ _ _ _ _ _ us hl => match us, hl with | [_], _ => rfl)
  have bd__law_gcd_0 : Bd K fd__law_gcd ["_law_one", "_law_other"] [] := Bd.all (FunD.bindsN (ps := ["_law_one", "_law_other"]) FD__law_gcd fun _ _ _ _ _ _ us hl => match us, hl with | [_, _], _ => rfl)
  have bd__law_hand_0 : Bd K fd__law_hand ["_law_script"] [] := Bd.all (FunD.bindsN (ps := ["_law_script"]) FD__law_hand fun _ _ _ _ _ _ us hl => match us, hl with | [_], _ => rfl)
  have bd__law_mixed_0 : Bd K fd__law_mixed ["_law_number_here", "_law_turn"] [] := Bd.all (FunD.bindsN (ps := ["_law_number_here", "_law_turn"]) FD__law_mixed fun _ _ _ _ _ _ us hl => match us, hl with | [_, _], _ => rfl)
  have bd__law_number_0 : Bd K fd__law_number ["_law_hand_here"] [] := Bd.all (FunD.bindsN (ps := ["_law_hand_here"]) FD__law_number fun _ _ _ _ _ _ us hl => match us, hl with | [_], _ => rfl)
  have bd__law_odd_0 : Bd K fd__law_odd ["_law_hand_here"] [] := Bd.all (FunD.bindsN (ps := ["_law_hand_here"]) FD__law_odd fun _ _ _ _ _ _ us hl => match us, hl with | [_], _ => rfl)
  have bd__law_ratio_0 : Bd K fd__law_ratio ["_law_top", "_law_bottom"] [] := Bd.all (FunD.bindsN (ps := ["_law_top", "_law_bottom"]) FD__law_ratio fun _ _ _ _ _ _ us hl => match us, hl with | [_, _], _ => rfl)
  have bd__law_read_0 : Bd K fd__law_read ["_law_text_here"] [] := Bd.all (FunD.bindsN (ps := ["_law_text_here"]) FD__law_read fun _ _ _ _ _ _ us hl => match us, hl with | [_], _ => rfl)
  have bd__law_same_0 : Bd K fd__law_same ["_law_found", "_law_due_here"] [] := Bd.all (FunD.bindsN (ps := ["_law_found", "_law_due_here"]) FD__law_same fun _ _ _ _ _ _ us hl => match us, hl with | [_, _], _ => rfl)
  have bd__law_take_0 : Bd K fd__law_take ["_law_hand_here", "_law_many"] [] := Bd.all (FunD.bindsN (ps := ["_law_hand_here", "_law_many"]) FD__law_take fun _ _ _ _ _ _ us hl => match us, hl with | [_, _], _ => rfl)
  have bd__law_text_0 : Bd K fd__law_text ["_law_one"] [] := Bd.all (FunD.bindsN (ps := ["_law_one"]) FD__law_text fun _ _ _ _ _ _ us hl => match us, hl with | [_], _ => rfl)
  have bd_is_figures_0 : Bd K fd_is_figures ["text"] [] := Bd.all (FunD.bindsN (ps := ["text"]) FD_is_figures fun _ _ _ _ _ _ us hl => match us, hl with | [_], _ => rfl)
  have bd_is_ratio_0 : Bd K fd_is_ratio ["thing"] [] := Bd.all (FunD.bindsN (ps := ["thing"]) FD_is_ratio fun _ _ _ _ _ _ us hl => match us, hl with | [_], _ => rfl)
  have bd_is_whole_1 : Bd K fd_is_whole ["thing", "low", "high"] [.non] := bd_some (FunD.binds1 (ps := ["thing", "low", "high"]) FD_is_whole 2 1 (by intro z; cases z) rfl fun _ _ _ _ _ _ _ us its hu hi => match us, hu, its, hi with | [_, _], _, [_, _], _ => ⟨_, rfl, rfl⟩) fun _ _ => (.cons .non .nil)
  have bd_is_whole_2 : Bd K fd_is_whole ["thing", "low", "high"] [.non, .non] := bd_some (FunD.binds1 (ps := ["thing", "low", "high"]) FD_is_whole 1 0 (by intro z; cases z) rfl fun _ _ _ _ _ _ _ us its hu hi => match us, hu, its, hi with | [_], _, [_, _], _ => ⟨_, rfl, rfl⟩) fun _ _ => (.cons .non (.cons .non .nil))
  have bd_ratio_of_0 : Bd K fd_ratio_of ["text"] [] := Bd.all (FunD.bindsN (ps := ["text"]) FD_ratio_of fun _ _ _ _ _ _ us hl => match us, hl with | [_], _ => rfl)
  have bd_ratio_text_0 : Bd K fd_ratio_text ["one"] [] := Bd.all (FunD.bindsN (ps := ["one"]) FD_ratio_text fun _ _ _ _ _ _ us hl => match us, hl with | [_], _ => rfl)
  have e := hfa.symm.trans mg_law
  cases e
  refine ⟨fd_law, fun s v => FunD.bindsA (ps := ["_law_script"]) FD_law (fun _ _ _ _ _ _ us hl => match us, hl with | [_], _ => rfl) s [v] rfl, fun base _ _ => ?_⟩
  have F_is_whole : FnQ P w K mg base (TT K) "is_whole" _ 1 S_is_whole _ _ := fn_of_bodyG (b_is_whole FD_is_whole fr_bool fr_int fr_isinstance) c_is_whole mg_is_whole FD_is_whole.kp
  have F_is_ratio : FnQ P w K mg base (TT K) "is_ratio" _ 2 S_is_ratio _ _ := fn_of_bodyG (b_is_ratio FD_is_ratio F_is_whole bd_is_whole_1 bd_is_whole_2 fr_isinstance fr_len fr_tuple bl_gcd) c_is_ratio mg_is_ratio FD_is_ratio.kp
  have F_ratio_text : FnQ P w K mg base (TT K) "ratio_text" _ 1 S_ratio_text _ _ := fn_of_bodyG (b_ratio_text FD_ratio_text fr_str) c_ratio_text mg_ratio_text FD_ratio_text.kp
  have F_is_figures : FnQ P w K mg base (TT K) "is_figures" _ 1 S_is_figures _ _ := fn_of_bodyG (b_is_figures FD_is_figures fr_len gl_FIGURES_MOST) c_is_figures mg_is_figures FD_is_figures.kp
  have F_ratio_of : FnQ P w K mg base (TT K) "ratio_of" _ 3 S_ratio_of _ _ := fn_of_bodyG (b_ratio_of FD_ratio_of F_is_figures F_is_ratio F_ratio_text bd_is_figures_0 bd_is_ratio_0 bd_ratio_text_0 fr_all fr_int fr_isinstance fr_len fr_str mg_BadRatio ec_BadRatio) c_ratio_of mg_ratio_of FD_ratio_of.kp
  have F__law_hand : FnQ P w K mg base (TT K) "_law_hand" _ 1 S__law_hand _ _ := fn_of_bodyG (b__law_hand FD__law_hand fr_int fr_len) c__law_hand mg__law_hand FD__law_hand.kp
  have F__law_mixed : FnQ P w K mg base (TT K) "_law_mixed" _ 1 S__law_mixed _ _ := fn_of_bodyG (b__law_mixed FD__law_mixed fr_int) c__law_mixed mg__law_mixed FD__law_mixed.kp
  have F__law_take : FnQ P w K mg base (TT K) "_law_take" _ 2 S__law_take _ _ := fn_of_bodyG (b__law_take FD__law_take F__law_mixed bd__law_mixed_0 fr_int fr_len) c__law_take mg__law_take FD__law_take.kp
  have F__law_gcd : FnQ P w K mg base (TT K) "_law_gcd" _ 1 S__law_gcd _ _ := fn_of_bodyG (b__law_gcd FD__law_gcd fr_abs fr_int) c__law_gcd mg__law_gcd FD__law_gcd.kp
  have F__law_ratio : FnQ P w K mg base (TT K) "_law_ratio" _ 2 S__law_ratio _ _ := fn_of_bodyG (b__law_ratio FD__law_ratio F__law_gcd bd__law_gcd_0) c__law_ratio mg__law_ratio FD__law_ratio.kp
  have F__law_same : FnQ P w K mg base (TT K) "_law_same" _ 1 S__law_same _ _ := fn_of_bodyG (b__law_same FD__law_same fr_bool fr_int fr_isinstance fr_len fr_tuple) c__law_same mg__law_same FD__law_same.kp
  have F__law_number : FnQ P w K mg base (TT K) "_law_number" _ 3 S__law_number _ _ := fn_of_bodyG (b__law_number FD__law_number F__law_take bd__law_take_0 fr_range) c__law_number mg__law_number FD__law_number.kp
  have F__law_any_ratio : FnQ P w K mg base (TT K) "_law_any_ratio" _ 4 S__law_any_ratio _ _ := fn_of_bodyG (b__law_any_ratio FD__law_any_ratio F__law_number F__law_ratio F__law_take bd__law_number_0 bd__law_ratio_0 bd__law_take_0 fr_abs) c__law_any_ratio mg__law_any_ratio FD__law_any_ratio.kp
  have F__law_odd : FnQ P w K mg base (TT K) "_law_odd" _ 3 S__law_odd _ _ := fn_of_bodyG (b__law_odd FD__law_odd F__law_take bd__law_take_0) c__law_odd mg__law_odd FD__law_odd.kp
  have F__law_text : FnQ P w K mg base (TT K) "_law_text" _ 1 S__law_text _ _ := fn_of_bodyG (b__law_text FD__law_text fr_str) c__law_text mg__law_text FD__law_text.kp
  have F__law_read : FnQ P w K mg base (TT K) "_law_read" _ 4 S__law_read _ _ := fn_of_bodyG (b__law_read FD__law_read F_ratio_of bd_ratio_of_0 mg_BadRatio ex_BadRatio xf_1_what) c__law_read mg__law_read FD__law_read.kp
  have F__law_figures : FnQ P w K mg base (TT K) "_law_figures" _ 1 S__law_figures _ _ := fn_of_bodyG (b__law_figures FD__law_figures fr_len) c__law_figures mg__law_figures FD__law_figures.kp
  have F__law_due : FnQ P w K mg base (TT K) "_law_due" _ 3 S__law_due _ _ := fn_of_bodyG (b__law_due FD__law_due F__law_figures F__law_ratio F__law_text bd__law_figures_0 bd__law_ratio_0 bd__law_text_0 fr_int fr_len) c__law_due mg__law_due FD__law_due.kp
  have F_law : FnQ P w K mg base (TT K) "law" _ 5 S_law _ _ := fn_of_bodyG (b_law FD_law F__law_any_ratio F__law_due F__law_hand F__law_odd F__law_read F__law_same F__law_take F__law_text F_ratio_text bd__law_any_ratio_0 bd__law_due_0 bd__law_hand_0 bd__law_odd_0 bd__law_read_0 bd__law_same_0 bd__law_take_0 bd__law_text_0 bd_ratio_text_0 fr_int fr_isinstance fr_len fr_range fr_str) c_law mg_law FD_law.kp
  exact F_law.ok
end
end K02
open PySem PySem.W PySem.Calls PyProof.Rows
theorem PySem.Challenge.cw_leastlabour_k02_whole_ratios_written_and_holds : PySem.Challenge.rw_leastlabour_k02_whole_ratios_written_and.Holds := by
  w_on; o_law
  refine HandSHeadRun.head_imp (r := OpenLaw.row PySem.Challenge.rw_leastlabour_k02_whole_ratios_written_and) (q := view (OpenLaw.row PySem.Challenge.rw_leastlabour_k02_whole_ratios_written_and).prog [0, 25]) (H := K02.hk) (ob := K02.ob) (M := 3000) (loose := K02.loose) (d := HandSHeadRun.topDef (OpenLaw.row PySem.Challenge.rw_leastlabour_k02_whole_ratios_written_and).prog 25) (kwd := []) K02.ob_eq
    K02.run (by kernel_rfl) (by kernel_rfl) (by kernel_rfl) (by rfl) (by first | assumption | decide +kernel) (by decide +kernel) ⟨rfl, rfl, rfl, rfl, rfl, by decide +kernel⟩ ?hw ?hc
  case hw => w_witness2
  case hc =>
    refine Pv.walkWG (l := PySem.Challenge.rw_leastlabour_k02_whole_ratios_written_and) (n := 63) (k := 5) (x := "_law_script") rfl (by decide) (by kernel_rfl) ⟨rfl, by decide, by decide⟩ ?F
    intro w mg fa h Y G hmg0
    obtain ⟨K, KX, c⟩ := Y
    have hmg : mg ("law" : PySem.Str) = some (.ref fa) := by
      have e : (HandSHeadRun.topDef (OpenLaw.row PySem.Challenge.rw_leastlabour_k02_whole_ratios_written_and).prog 25).name = ("law" : PySem.Str) := by kernel_rfl
      rw [← e]
      exact hmg0
    obtain ⟨fd, hb, hF⟩ := K02.facts (P := (PySem.Challenge.rw_leastlabour_k02_whole_ratios_written_and).prog) (w := w) KX G hmg c
    exact ⟨K, fd, _, KX, hb, fun H a ns hl _ hS => Pv.law_sp (T := K02.TT K) hS (K02.law_true ns hl), hF⟩

