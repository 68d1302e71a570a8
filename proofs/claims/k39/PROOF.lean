import PyProof.Rows.All
import Wide.All
import OpenK.AllK
import Wide.FinOn
import HandS.ForMost
import HandS.ForExc
import HandS.IsInst
import HandS.TupAny
import HandS.TupMul
import HandS.Deep
import HandS.Wide
import HandS.StrMore
import HandS.Conv
import HandS.DeepEq
import HandS.Flow
import HandS.Style
import HandS.Walk
import HandS.Zip
import KE.GoesEnum
import KE.KUnpackStar
import HandS.Defaults
import PySem.Challenge.RW_dotread_k39_lines_in_boxes
set_option Elab.async false
set_option linter.all false
set_option maxRecDepth 100000
set_option maxHeartbeats 4000001
/-! The data layer: values as trees, owned objects apart from frozen ones; expressions and statements as steps from one such state to the next. -/
namespace Q
open PySem L2

def mk (l : List Nat) : Str := ⟨l.toArray⟩
theorem mk_cps (l : List Nat) : (mk l).cps.toList = l := by simp [mk]
theorem mk_of (s : Str) : s = mk s.cps.toList := by cases s; simp [mk]
theorem mk_inj {a b : List Nat} (h : mk a = mk b) : a = b := by
  have := congrArg (fun s : Str => s.cps.toList) h
  simpa [mk] using this
theorem mk_len (l : List Nat) : (mk l).length = l.length := by
  show (mk l).cps.size = l.length
  simp [mk]

/-- data: what never changes again -/
inductive D where
  | non | bl (b : Bool) | int (i : Int) | str (l : List Nat)
  | lst (ds : List D) | tup (ds : List D)
  | rl (ds : List D)
  | ins (C : Addr) (ns : List Str) (ds : List D)
  | val (v : V)

mutual
def Rep (K : PySem.W.Frag) (F : Hp) : D → V → Prop
  | .non, v => v = .non
  | .bl b, v => v = .bl b
  | .int i, v => v = .int i
  | .str l, v => v = .str (mk l)
  | .lst ds, v => ∃ a xs, v = .ref a ∧ F a = some (.lst xs) ∧ Reps K F ds xs
  | .tup ds, v => ∃ a xs, v = .ref a ∧ SqT K F a xs ∧ Reps K F ds xs
  | .rl ds, v => ∃ a xs, v = .ref a ∧ SqL K F a xs ∧ Reps K F ds xs
  | .ins C ns ds, v => ∃ a dx xs, v = .ref a ∧ F a = some (.ins C dx (ns.zip xs)) ∧ ns.length = xs.length ∧ Reps K F ds xs
  | .val w, v => v = w
def Reps (K : PySem.W.Frag) (F : Hp) : List D → List V → Prop
  | [], xs => xs = []
  | d :: ds, xs => ∃ v vs, xs = v :: vs ∧ Rep K F d v ∧ Reps K F ds vs
end

theorem same_t {K : PySem.W.Frag} {H H' : Hp} {a : Addr} {xs : List V} (e : Same H H') (h : SqT K H a xs) : SqT K H' a xs := by
  rcases h with (h | ⟨o, h⟩) | h
  · exact .inl (.inl (e _ _ h))
  · exact .inl (.inr ⟨o, e _ _ h⟩)
  · exact .inr h

mutual
theorem Rep.mono {K : PySem.W.Frag} {F F' : Hp} (e : Same F F') : ∀ (d : D) (v : V), Rep K F d v → Rep K F' d v
  | .non, _, h => h
  | .bl _, _, h => h
  | .int _, _, h => h
  | .str _, _, h => h
  | .val _, _, h => h
  | .lst ds, _, ⟨a, xs, h1, h2, h3⟩ => ⟨a, xs, h1, e _ _ h2, Reps.mono e ds xs h3⟩
  | .tup ds, _, ⟨a, xs, h1, h2, h3⟩ => ⟨a, xs, h1, same_t e h2, Reps.mono e ds xs h3⟩
  | .rl ds, _, ⟨a, xs, h1, h2, h3⟩ => ⟨a, xs, h1, e.seq h2, Reps.mono e ds xs h3⟩
  | .ins _ _ ds, _, ⟨a, dx, xs, h1, h2, h3, h4⟩ => ⟨a, dx, xs, h1, e _ _ h2, h3, Reps.mono e ds xs h4⟩
theorem Reps.mono {K : PySem.W.Frag} {F F' : Hp} (e : Same F F') : ∀ (ds : List D) (xs : List V), Reps K F ds xs → Reps K F' ds xs
  | [], _, h => h
  | d :: ds, _, ⟨v, vs, h1, h2, h3⟩ => ⟨v, vs, h1, Rep.mono e d v h2, Reps.mono e ds vs h3⟩
end

section
variable {K : PySem.W.Frag} {F : Hp}
theorem Reps.len : ∀ {ds : List D} {xs : List V}, Reps K F ds xs → xs.length = ds.length
  | [], _, h => by cases h; rfl
  | _ :: _, _, ⟨_, _, h, _, h3⟩ => by cases h; simp [Reps.len h3]
theorem Reps.get : ∀ {ds : List D} {xs : List V} {i : Nat} {d : D}, Reps K F ds xs → ds[i]? = some d → ∃ v, xs[i]? = some v ∧ Rep K F d v
  | [], _, _, _, _, e => by simp at e
  | _ :: _, _, 0, _, ⟨v, _, h, h2, _⟩, e => by
    cases h
    simp at e; subst e
    exact ⟨v, rfl, h2⟩
  | _ :: _, _, i + 1, _, ⟨_, _, h, _, h3⟩, e => by
    cases h
    obtain ⟨w, h4, h5⟩ := Reps.get (i := i) h3 (by simpa using e)
    exact ⟨w, by simpa using h4, h5⟩
theorem Reps.append : ∀ {ds es : List D} {xs ys : List V}, Reps K F ds xs → Reps K F es ys → Reps K F (ds ++ es) (xs ++ ys)
  | [], _, _, _, h, h' => by cases h; exact h'
  | _ :: _, _, _, _, ⟨v, vs, h, h2, h3⟩, h' => by
    cases h
    exact ⟨v, vs ++ _, rfl, h2, Reps.append h3 h'⟩
theorem Reps.one {d : D} {v : V} (h : Rep K F d v) : Reps K F [d] [v] := ⟨v, [], rfl, h, rfl⟩
theorem Reps.set : ∀ {ds : List D} {xs : List V} {d : D} {v : V} (i : Nat), Reps K F ds xs → Rep K F d v → Reps K F (ds.set i d) (xs.set i v)
  | [], _, _, _, _, h, _ => by cases h; rfl
  | _ :: _, _, _, _, 0, ⟨_, vs, h, _, h3⟩, q => by cases h; exact ⟨_, vs, rfl, q, h3⟩
  | _ :: _, _, _, _, i + 1, ⟨w, vs, h, h2, h3⟩, q => by cases h; exact ⟨w, _, rfl, h2, Reps.set i h3 q⟩
theorem Reps.take : ∀ {ds : List D} {xs : List V} (n : Nat), Reps K F ds xs → Reps K F (ds.take n) (xs.take n)
  | _, _, 0, _ => rfl
  | [], _, _ + 1, h => by cases h; rfl
  | _ :: _, _, n + 1, ⟨w, vs, h, h2, h3⟩ => by cases h; exact ⟨w, _, rfl, h2, Reps.take n h3⟩
theorem Reps.drop : ∀ {ds : List D} {xs : List V} (n : Nat), Reps K F ds xs → Reps K F (ds.drop n) (xs.drop n)
  | _, _, 0, h => h
  | [], _, _ + 1, h => by cases h; rfl
  | _ :: _, _, n + 1, ⟨w, vs, h, h2, h3⟩ => by cases h; exact Reps.drop n h3
theorem Reps.reverse : ∀ {ds : List D} {xs : List V}, Reps K F ds xs → Reps K F ds.reverse xs.reverse
  | [], _, h => by cases h; rfl
  | _ :: _, _, ⟨w, vs, h, h2, h3⟩ => by
    cases h
    rw [List.reverse_cons, List.reverse_cons]
    exact (Reps.reverse h3).append (.one h2)
theorem Reps.rep {ds : List D} {xs : List V} (h : Reps K F ds xs) : ∀ k : Nat, Reps K F (List.replicate k ds).flatten (List.replicate k xs).flatten
  | 0 => rfl
  | k + 1 => by
    rw [List.replicate_succ, List.replicate_succ, List.flatten_cons, List.flatten_cons]
    exact h.append (Reps.rep h k)
theorem Reps.erase : ∀ {ds : List D} {xs : List V} (i : Nat), Reps K F ds xs → Reps K F (ds.eraseIdx i) (xs.eraseIdx i)
  | [], _, _, h => by cases h; rfl
  | _ :: _, _, 0, ⟨_, vs, h, _, h3⟩ => by cases h; exact h3
  | _ :: _, _, i + 1, ⟨w, vs, h, h2, h3⟩ => by cases h; exact ⟨w, _, rfl, h2, Reps.erase i h3⟩
theorem Reps.dropLast : ∀ {ds : List D} {xs : List V}, Reps K F ds xs → Reps K F ds.dropLast xs.dropLast
  | [], _, h => by cases h; rfl
  | [_], _, ⟨_, _, h, _, h3⟩ => by cases h; cases h3; rfl
  | _ :: d :: ds, _, ⟨w, vs, h, h2, h3⟩ => by
    cases h
    obtain ⟨w', vs', rfl, h5, h6⟩ := id h3
    exact ⟨w, _, rfl, h2, Reps.dropLast h3⟩
theorem Reps.ints : ∀ {is : List Int} {xs : List V}, Reps K F (is.map D.int) xs → xs = is.map V.int
  | [], _, h => h
  | _ :: _, _, ⟨_, _, h, h2, h3⟩ => by cases h; cases h2; rw [Reps.ints h3]; rfl
theorem Reps.bls : ∀ {is : List Bool} {xs : List V}, Reps K F (is.map D.bl) xs → xs = is.map V.bl
  | [], _, h => h
  | _ :: _, _, ⟨_, _, h, h2, h3⟩ => by cases h; cases h2; rw [Reps.bls h3]; rfl
theorem Reps.strs : ∀ {is : List (List Nat)} {xs : List V}, Reps K F (is.map D.str) xs → xs = (is.map mk).map V.str
  | [], _, h => h
  | _ :: _, _, ⟨_, _, h, h2, h3⟩ => by cases h; cases h2; rw [Reps.strs h3]; rfl
theorem Reps.ofInts : ∀ (is : List Int), Reps K F (is.map D.int) (is.map V.int)
  | [] => rfl
  | _ :: is => ⟨_, _, rfl, rfl, Reps.ofInts is⟩
theorem Reps.ofStrs : ∀ (is : List (List Nat)), Reps K F (is.map D.str) ((is.map mk).map V.str)
  | [] => rfl
  | _ :: is => ⟨_, _, rfl, rfl, Reps.ofStrs is⟩
end

/-- owned trees: objects that may still change, apart from one another -/
inductive T where
  | fz (d : D)
  | fl (ds : List D)
  | lst (ts : List T)
  | dk (ks : List Key) (ts : List T)
  | dt (ks : List (List Key)) (ts : List T)
  | ins (C : Addr) (ns : List Str) (ts : List T)
  | ob (C : Addr) (ns : List Str) (ds : List D)

mutual
def Own (K : PySem.W.Frag) (H F : Hp) : T → V → List Addr → Prop
  | .fz d, v, as => Rep K F d v ∧ as = []
  | .fl ds, v, as => ∃ a xs, v = .ref a ∧ H a = some (.lst xs) ∧ Reps K F ds xs ∧ as = [a]
  | .lst ts, v, as => ∃ a xs bs, v = .ref a ∧ H a = some (.lst xs) ∧ Owns K H F ts xs bs ∧ as = a :: bs
  | .dk ks ts, v, as => ∃ a xs bs, v = .ref a ∧ H a = some (.dK (ks.zip xs)) ∧ ks.length = xs.length ∧ Owns K H F ts xs bs ∧ as = a :: bs
  | .dt ks ts, v, as => ∃ a xs bs, v = .ref a ∧ H a = some (.dT (ks.zip xs)) ∧ ks.length = xs.length ∧ Owns K H F ts xs bs ∧ as = a :: bs
  | .ins C ns ts, v, as => ∃ a dx xs bs, v = .ref a ∧ H a = some (.ins C dx (ns.zip xs)) ∧ ns.length = xs.length ∧ Owns K H F ts xs bs ∧ as = a :: bs
  | .ob C ns ds, v, as => ∃ a dx xs, v = .ref a ∧ H a = some (.ins C dx (ns.zip xs)) ∧ ns.length = xs.length ∧ Reps K F ds xs ∧ as = [a]
def Owns (K : PySem.W.Frag) (H F : Hp) : List T → List V → List Addr → Prop
  | [], vs, as => vs = [] ∧ as = []
  | t :: ts, vs, as => ∃ v ws bs cs, vs = v :: ws ∧ Own K H F t v bs ∧ Owns K H F ts ws cs ∧ as = bs ++ cs
end

mutual
theorem Own.there {K : PySem.W.Frag} {H F : Hp} : ∀ (t : T) (v : V) (as : List Addr), Own K H F t v as → ∀ a ∈ as, H a ≠ none
  | .fz _, _, _, ⟨_, e⟩, a, ha => by subst e; cases ha
  | .fl _, _, _, ⟨b, xs, _, h, _, e⟩, a, ha => by
    subst e
    simp at ha; subst ha
    rw [h]; exact fun z => nomatch z
  | .lst ts, _, _, ⟨b, xs, bs, _, h, h2, e⟩, a, ha => by
    subst e
    rcases List.mem_cons.mp ha with rfl | ha
    · rw [h]; exact fun z => nomatch z
    · exact Owns.there ts xs bs h2 a ha
  | .dk _ ts, _, _, ⟨b, xs, bs, _, h, _, h2, e⟩, a, ha => by
    subst e
    rcases List.mem_cons.mp ha with rfl | ha
    · rw [h]; exact fun z => nomatch z
    · exact Owns.there ts xs bs h2 a ha
  | .dt _ ts, _, _, ⟨b, xs, bs, _, h, _, h2, e⟩, a, ha => by
    subst e
    rcases List.mem_cons.mp ha with rfl | ha
    · rw [h]; exact fun z => nomatch z
    · exact Owns.there ts xs bs h2 a ha
  | .ins _ _ ts, _, _, ⟨b, _, xs, bs, _, h, _, h2, e⟩, a, ha => by
    subst e
    rcases List.mem_cons.mp ha with rfl | ha
    · rw [h]; exact fun z => nomatch z
    · exact Owns.there ts xs bs h2 a ha
  | .ob _ _ _, _, _, ⟨b, _, xs, _, h, _, _, e⟩, a, ha => by
    subst e
    simp at ha; subst ha
    rw [h]; exact fun z => nomatch z
theorem Owns.there {K : PySem.W.Frag} {H F : Hp} : ∀ (ts : List T) (vs : List V) (as : List Addr), Owns K H F ts vs as → ∀ a ∈ as, H a ≠ none
  | [], _, _, ⟨_, e⟩, a, ha => by subst e; cases ha
  | t :: ts, _, _, ⟨v, ws, bs, cs, _, h1, h2, e⟩, a, ha => by
    subst e
    rcases List.mem_append.mp ha with ha | ha
    · exact Own.there t v bs h1 a ha
    · exact Owns.there ts ws cs h2 a ha
end

mutual
/-- the owned objects are kept, what is frozen stays -/
theorem Own.keep {K : PySem.W.Frag} {H F H' F' : Hp} (e : Same F F') : ∀ (t : T) (v : V) (as : List Addr), (∀ a ∈ as, ∀ o, H a = some o → H' a = some o) → Own K H F t v as → Own K H' F' t v as
  | .fz d, v, _, _, ⟨h, h2⟩ => ⟨Rep.mono e d v h, h2⟩
  | .fl ds, _, _, k, ⟨b, xs, h1, h, h2, h3⟩ => ⟨b, xs, h1, k b (by rw [h3]; exact List.mem_cons_self) _ h, Reps.mono e ds xs h2, h3⟩
  | .lst ts, _, _, k, ⟨b, xs, bs, h1, h, h2, h3⟩ => ⟨b, xs, bs, h1, k b (by rw [h3]; exact List.mem_cons_self) _ h, Owns.keep e ts xs bs (fun a ha => k a (by rw [h3]; exact List.mem_cons_of_mem _ ha)) h2, h3⟩
  | .dk _ ts, _, _, k, ⟨b, xs, bs, h1, h, h4, h2, h3⟩ => ⟨b, xs, bs, h1, k b (by rw [h3]; exact List.mem_cons_self) _ h, h4, Owns.keep e ts xs bs (fun a ha => k a (by rw [h3]; exact List.mem_cons_of_mem _ ha)) h2, h3⟩
  | .dt _ ts, _, _, k, ⟨b, xs, bs, h1, h, h4, h2, h3⟩ => ⟨b, xs, bs, h1, k b (by rw [h3]; exact List.mem_cons_self) _ h, h4, Owns.keep e ts xs bs (fun a ha => k a (by rw [h3]; exact List.mem_cons_of_mem _ ha)) h2, h3⟩
  | .ins _ _ ts, _, _, k, ⟨b, dx, xs, bs, h1, h, h4, h2, h3⟩ => ⟨b, dx, xs, bs, h1, k b (by rw [h3]; exact List.mem_cons_self) _ h, h4, Owns.keep e ts xs bs (fun a ha => k a (by rw [h3]; exact List.mem_cons_of_mem _ ha)) h2, h3⟩
  | .ob _ _ ds, _, _, k, ⟨b, dx, xs, h1, h, h4, h2, h3⟩ => ⟨b, dx, xs, h1, k b (by rw [h3]; exact List.mem_cons_self) _ h, h4, Reps.mono e ds xs h2, h3⟩
theorem Owns.keep {K : PySem.W.Frag} {H F H' F' : Hp} (e : Same F F') : ∀ (ts : List T) (vs : List V) (as : List Addr), (∀ a ∈ as, ∀ o, H a = some o → H' a = some o) → Owns K H F ts vs as → Owns K H' F' ts vs as
  | [], _, _, _, h => h
  | t :: ts, _, _, k, ⟨v, ws, bs, cs, h1, h2, h3, h4⟩ => ⟨v, ws, bs, cs, h1, Own.keep e t v bs (fun a ha => k a (by rw [h4]; exact List.mem_append_left _ ha)) h2, Owns.keep e ts ws cs (fun a ha => k a (by rw [h4]; exact List.mem_append_right _ ha)) h3, h4⟩
end

mutual
/-- a tree as data, once it is frozen -/
def T.fr : T → D
  | .fz d => d
  | .fl ds => .lst ds
  | .lst ts => .lst (T.frs ts)
  | .dk _ _ => .non
  | .dt _ _ => .non
  | .ins C ns ts => .ins C ns (T.frs ts)
  | .ob C ns ds => .ins C ns ds
def T.frs : List T → List D
  | [] => []
  | t :: ts => t.fr :: T.frs ts
end
mutual
/-- it can be frozen: no dicts -/
def T.ok : T → Bool
  | .fz _ => true
  | .fl _ => true
  | .lst ts => T.oks ts
  | .dk _ _ => false
  | .dt _ _ => false
  | .ins _ _ ts => T.oks ts
  | .ob _ _ _ => true
def T.oks : List T → Bool
  | [] => true
  | t :: ts => t.ok && T.oks ts
end

mutual
theorem Own.fr {K : PySem.W.Frag} {H F G : Hp} (e : Same F G) : ∀ (t : T) (v : V) (as : List Addr), t.ok = true → (∀ a ∈ as, ∀ o, H a = some o → G a = some o) → Own K H F t v as → Rep K G t.fr v
  | .fz d, v, _, _, _, ⟨h, _⟩ => Rep.mono e d v h
  | .fl ds, _, _, _, k, ⟨b, xs, h1, h, h2, h3⟩ => ⟨b, xs, h1, k b (by rw [h3]; exact List.mem_cons_self) _ h, Reps.mono e ds xs h2⟩
  | .lst ts, _, _, o, k, ⟨b, xs, bs, h1, h, h2, h3⟩ => ⟨b, xs, h1, k b (by rw [h3]; exact List.mem_cons_self) _ h, Owns.fr e ts xs bs o (fun a ha => k a (by rw [h3]; exact List.mem_cons_of_mem _ ha)) h2⟩
  | .dk _ _, _, _, o, _, _ => nomatch o
  | .dt _ _, _, _, o, _, _ => nomatch o
  | .ins _ _ ts, _, _, o, k, ⟨b, dx, xs, bs, h1, h, h4, h2, h3⟩ => ⟨b, dx, xs, h1, k b (by rw [h3]; exact List.mem_cons_self) _ h, h4, Owns.fr e ts xs bs o (fun a ha => k a (by rw [h3]; exact List.mem_cons_of_mem _ ha)) h2⟩
  | .ob _ _ ds, _, _, _, k, ⟨b, dx, xs, h1, h, h4, h2, h3⟩ => ⟨b, dx, xs, h1, k b (by rw [h3]; exact List.mem_cons_self) _ h, h4, Reps.mono e ds xs h2⟩
theorem Owns.fr {K : PySem.W.Frag} {H F G : Hp} (e : Same F G) : ∀ (ts : List T) (vs : List V) (as : List Addr), T.oks ts = true → (∀ a ∈ as, ∀ o, H a = some o → G a = some o) → Owns K H F ts vs as → Reps K G (T.frs ts) vs
  | [], _, _, _, _, ⟨h, _⟩ => h
  | t :: ts, _, _, o, k, ⟨v, ws, bs, cs, h1, h2, h3, h4⟩ => by
    have o' : (t.ok && T.oks ts) = true := o
    rw [Bool.and_eq_true] at o'
    exact ⟨v, ws, h1, Own.fr e t v bs o'.1 (fun a ha => k a (by rw [h4]; exact List.mem_append_left _ ha)) h2, Owns.fr e ts ws cs o'.2 (fun a ha => k a (by rw [h4]; exact List.mem_append_right _ ha)) h3⟩
end
end Q
namespace Q
open PySem L2

/-- what a slot holds: nothing known, data, an owned object by its number -/
inductive Sl where
  | un | d (d : D) | o (k : Nat)
/-- a state: the slots, the owned objects -/
structure S where
  ρ : List Sl
  μ : List T

def SlOk (K : PySem.W.Frag) (F : Hp) (rs : List V) : Sl → Option V → Prop
  | .un, _ => True
  | .d d, x => ∃ v, x = some v ∧ Rep K F d v
  | .o k, x => ∃ v, x = some v ∧ rs[k]? = some v
def Slots (K : PySem.W.Frag) (F : Hp) (rs : List V) : List Sl → St → Prop
  | [], σ => σ = []
  | p :: ρ, σ => ∃ x σ', σ = x :: σ' ∧ SlOk K F rs p x ∧ Slots K F rs ρ σ'
section
variable {K : PySem.W.Frag} {F F' : Hp} {rs rs' : List V}
theorem SlOk.mono (e : Same F F') (hr : ∀ (k : Nat) v, rs[k]? = some v → rs'[k]? = some v) : ∀ {p : Sl} {x : Option V}, SlOk K F rs p x → SlOk K F' rs' p x
  | .un, _, _ => trivial
  | .d d, _, ⟨v, h, q⟩ => ⟨v, h, Rep.mono e d v q⟩
  | .o k, _, ⟨v, h, q⟩ => ⟨v, h, hr k v q⟩
theorem Slots.mono (e : Same F F') (hr : ∀ (k : Nat) v, rs[k]? = some v → rs'[k]? = some v) : ∀ {ρ : List Sl} {σ : St}, Slots K F rs ρ σ → Slots K F' rs' ρ σ
  | [], _, h => h
  | _ :: _, _, ⟨x, σ', h, h2, h3⟩ => ⟨x, σ', h, h2.mono e hr, Slots.mono e hr h3⟩
theorem Slots.len : ∀ {ρ : List Sl} {σ : St}, Slots K F rs ρ σ → σ.length = ρ.length
  | [], _, h => by cases h; rfl
  | _ :: _, _, ⟨x, σ', h, _, h3⟩ => by cases h; simp [Slots.len h3]
theorem Slots.get : ∀ {ρ : List Sl} {σ : St} {i : Nat} {p : Sl}, Slots K F rs ρ σ → ρ[i]? = some p → ∃ x, σ[i]? = some x ∧ SlOk K F rs p x
  | [], _, _, _, _, e => by simp at e
  | _ :: _, _, 0, _, ⟨x, σ', h, h2, _⟩, e => by cases h; simp at e; subst e; exact ⟨x, rfl, h2⟩
  | _ :: _, _, i + 1, _, ⟨x, σ', h, _, h3⟩, e => by
    cases h
    obtain ⟨y, h4, h5⟩ := Slots.get (i := i) h3 (by simpa using e)
    exact ⟨y, by simpa using h4, h5⟩
theorem Slots.set : ∀ {ρ : List Sl} {σ : St} {p : Sl} {x : Option V} (i : Nat), Slots K F rs ρ σ → SlOk K F rs p x → Slots K F rs (ρ.set i p) (σ.set i x)
  | [], _, _, _, _, h, _ => by cases h; rfl
  | _ :: _, _, _, _, 0, ⟨_, σ', h, _, h3⟩, q => by cases h; exact ⟨_, σ', rfl, q, h3⟩
  | _ :: _, _, _, _, i + 1, ⟨y, σ', h, h2, h3⟩, q => by cases h; exact ⟨y, _, rfl, h2, Slots.set i h3 q⟩
/-- slots forgotten -/
def Weak : List Sl → List Sl → Prop
  | [], ρ => ρ = []
  | p :: ρ, ρ' => ∃ p' r, ρ' = p' :: r ∧ (p' = .un ∨ p' = p) ∧ Weak ρ r
theorem Slots.weak : ∀ {ρ ρ' : List Sl} {σ : St}, Weak ρ ρ' → Slots K F rs ρ σ → Slots K F rs ρ' σ
  | [], _, _, w, h => by cases w; exact h
  | _ :: _, _, _, ⟨p', r, e, o, w⟩, ⟨x, σ', h, h2, h3⟩ => by
    cases e
    refine ⟨x, σ', h, ?_, Slots.weak w h3⟩
    rcases o with rfl | rfl
    · trivial
    · exact h2
end

/-- from one world to the next: as may have changed, as' are owned behind it -/
structure Go (as as' : List Addr) (F H F' H' : Hp) : Prop where
  fz : Same F F'
  new : ∀ a o, F' a = some o → F a = some o ∨ H a = none ∨ a ∈ as
  keep : ∀ a o, a ∉ as → H a = some o → H' a = some o
  there : ∀ a, H' a = none → H a = none
  aw : ∀ a ∈ as', a ∈ as ∨ H a = none
theorem Go.refl (as : List Addr) (F H : Hp) : Go as as F H F H := ⟨Same.refl F, fun _ _ h => .inl h, fun _ _ _ h => h, fun _ h => h, fun _ h => .inl h⟩
theorem Go.trans {as as1 as2 : List Addr} {F H F1 H1 F2 H2 : Hp} (g : Go as as1 F H F1 H1) (g' : Go as1 as2 F1 H1 F2 H2) : Go as as2 F H F2 H2 := by
  refine ⟨g.fz.trans g'.fz, fun a o h => ?_, fun a o hn h => ?_, fun a h => g.there a (g'.there a h), fun a h => ?_⟩
  · rcases g'.new a o h with h | h | h
    · exact g.new a o h
    · exact .inr (.inl (g.there a h))
    · rcases g.aw a h with h | h
      · exact .inr (.inr h)
      · exact .inr (.inl h)
  · refine g'.keep a o (fun z => ?_) (g.keep a o hn h)
    rcases g.aw a z with q | q
    · exact hn q
    · rw [q] at h; cases h
  · rcases g'.aw a h with h | h
    · exact g.aw a h
    · exact .inr (g.there a h)

/-- the owned objects, root by root: what each holds, its addresses apart from the others' -/
structure HdR (K : PySem.W.Frag) (H F : Hp) (ts : List T) (vs : List V) (ass : List (List Addr)) : Prop where
  sub : Same F H
  l1 : vs.length = ts.length
  l2 : ass.length = ts.length
  own : ∀ (i : Nat) t v l, ts[i]? = some t → vs[i]? = some v → ass[i]? = some l → Own K H F t v l
  n1 : ∀ (i : Nat) l, ass[i]? = some l → l.Nodup
  n2 : ∀ (i j : Nat) l m a, ass[i]? = some l → ass[j]? = some m → a ∈ l → a ∈ m → i = j
  af : ∀ (i : Nat) l a, ass[i]? = some l → a ∈ l → F a = none
structure Hd (K : PySem.W.Frag) (σ : St) (H F : Hp) (rs : List V) (as : List (List Addr)) (s : S) : Prop where
  r : HdR K H F s.μ rs as
  sl : Slots K F rs s.ρ σ

theorem mem_fl {ass : List (List Addr)} {a : Addr} (h : a ∈ ass.flatten) : ∃ (i : Nat) (l : List Addr), ass[i]? = some l ∧ a ∈ l := by
  obtain ⟨l, hl, ha⟩ := List.mem_flatten.mp h
  obtain ⟨i, hi⟩ := List.getElem?_of_mem hl
  exact ⟨i, l, hi, ha⟩
theorem fl_mem {ass : List (List Addr)} {a : Addr} {i : Nat} {l : List Addr} (h : ass[i]? = some l) (ha : a ∈ l) : a ∈ ass.flatten :=
  List.mem_flatten.mpr ⟨l, List.mem_of_getElem? h, ha⟩

section
variable {K : PySem.W.Frag} {σ : St} {H F H' F' : Hp} {rs vs : List V} {ts : List T} {as as' : List (List Addr)} {s s' : S}
theorem HdR.at (h : HdR K H F ts vs as) {i : Nat} {t : T} (e : ts[i]? = some t) : ∃ v l, vs[i]? = some v ∧ as[i]? = some l ∧ Own K H F t v l := by
  have hi := (List.getElem?_eq_some_iff.mp e).1
  have h1 : i < vs.length := by rw [h.l1]; exact hi
  have h2 : i < as.length := by rw [h.l2]; exact hi
  exact ⟨vs[i], as[i], List.getElem?_eq_getElem h1, List.getElem?_eq_getElem h2, h.own i t _ _ e (List.getElem?_eq_getElem h1) (List.getElem?_eq_getElem h2)⟩
theorem HdR.atA (h : HdR K H F ts vs as) {i : Nat} {l : List Addr} (e : as[i]? = some l) : ∃ t v, ts[i]? = some t ∧ vs[i]? = some v ∧ Own K H F t v l := by
  have hi := (List.getElem?_eq_some_iff.mp e).1
  have h1 : i < ts.length := by rw [← h.l2]; exact hi
  obtain ⟨v, l', h3, h4, h5⟩ := h.at (List.getElem?_eq_getElem h1)
  rw [e] at h4; cases h4
  exact ⟨_, v, List.getElem?_eq_getElem h1, h3, h5⟩
theorem HdR.there (h : HdR K H F ts vs as) : ∀ a ∈ as.flatten, H a ≠ none := fun a ha => by
  obtain ⟨i, l, hl, hm⟩ := mem_fl ha
  obtain ⟨t, v, _, _, o⟩ := h.atA hl
  exact Own.there t v l o a hm
theorem HdR.aff (h : HdR K H F ts vs as) : ∀ a ∈ as.flatten, F a = none := fun a ha => by
  obtain ⟨i, l, hl, hm⟩ := mem_fl ha
  exact h.af i l a hl hm
/-- new frozen things alone -/
theorem HdR.pure (h : HdR K H F ts vs as) (g : Go [] [] F H F' H') (sub : Same F' H') : HdR K H' F' ts vs as ∧ Go as.flatten as.flatten F H F' H' := by
  have kp : ∀ a o, H a = some o → H' a = some o := fun a o e => g.keep a o (fun z => nomatch z) e
  refine ⟨⟨sub, h.l1, h.l2, fun i t v l e1 e2 e3 => Own.keep g.fz _ _ _ (fun a _ o e => kp a o e) (h.own i t v l e1 e2 e3), h.n1, h.n2, fun i l a hl hm => ?_⟩, ⟨g.fz, fun a o e => ?_, fun a o _ e => kp a o e, g.there, fun _ q => .inl q⟩⟩
  · cases q : F' a with
    | none => rfl
    | some o =>
      rcases g.new a o q with z | z | z
      · rw [h.af i l a hl hm] at z; cases z
      · exact absurd z (h.there a (fl_mem hl hm))
      · cases z
  · rcases g.new a o e with z | z | z
    · exact .inl z
    · exact .inr (.inl z)
    · cases z
theorem Hd.pure (h : Hd K σ H F rs as s) (g : Go [] [] F H F' H') (sub : Same F' H') : Hd K σ H' F' rs as s ∧ Go as.flatten as.flatten F H F' H' :=
  ⟨⟨(h.r.pure g sub).1, h.sl.mono g.fz fun _ _ q => q⟩, (h.r.pure g sub).2⟩
theorem Hd.sub (h : Hd K σ H F rs as s) : Same F H := h.r.sub
/-- a new frozen object -/
theorem go_new {p : Addr} {o : HO} (hp : H p = none) (sub : Same F H) : Go [] [] F H (upd F p o) (upd H p o) ∧ Same (upd F p o) (upd H p o) := by
  have hF : F p = none := by
    cases q : F p with
    | none => rfl
    | some u => rw [sub p u q] at hp; cases hp
  refine ⟨⟨fun a u e => ?_, fun a u e => ?_, fun a u _ e => ?_, fun a e => ?_, fun a z => nomatch z⟩, fun a u e => ?_⟩
  · rw [upd_ne (ne_of_none e hF)]; exact e
  · by_cases ha : a = p
    · subst ha; exact .inr (.inl hp)
    · rw [upd_ne ha] at e; exact .inl e
  · rw [upd_ne (ne_of_none e hp)]; exact e
  · by_cases ha : a = p
    · subst ha; exact hp
    · rw [upd_ne ha] at e; exact e
  · by_cases ha : a = p
    · subst ha
      rw [upd_same] at e ⊢; exact e
    · rw [upd_ne ha] at e ⊢; exact sub _ _ e
end

/-! ### readings of the layer below, one for all -/
def WE (X : Cx) (e : Expr) : TE := fun σ H Q => ∀ (pins : List (Addr × Obj)) (s : Shared), Inv X pins σ H s → wpAny (model X.prog X.w) X.A (eval e X.env) (EP X pins σ Q) X.xe s
def WTt (X : Cx) (e : Expr) : TT := fun σ H Q => ∀ (pins : List (Addr × Obj)) (s : Shared), Inv X pins σ H s → wpAny (model X.prog X.w) X.A (isTrue e X.env (eval e X.env)) (TP X pins σ Q) X.xe s
def WPt (X : Cx) (e : Expr) : TT := fun σ H Q => ∀ (whole : Sem Value) (pins : List (Addr × Obj)) (s : Shared), Inv X pins σ H s → wpAny (model X.prog X.w) X.A (isTrue e X.env whole) (TP X pins σ Q) X.xe s
def WA (X : Cx) (es : List Expr) : TA := fun σ H Q => ∀ (pos : Pos) (pins : List (Addr × Obj)) (s : Shared), Inv X pins σ H s → wpAny (model X.prog X.w) X.A (spliced (backTo pos (starEach es X.env))) (AP X pins σ Q) X.xe s
def WSt (X : Cx) (st : Stmt) : TS := fun D σ H => ∀ (pins : List (Addr × Obj)) (s : Shared), Inv X pins σ H s → wpAny (model X.prog X.w) X.A (exec st X.env) (SP X pins D) X.xe s
def WSs (X : Cx) (st : List Stmt) : TS := fun D σ H => ∀ (pins : List (Addr × Obj)) (s : Shared), Inv X pins σ H s → wpAny (model X.prog X.w) X.A (execs st X.env) (SP X pins D) X.xe s
section
variable {X : Cx}
theorem pe_u {e : Expr} : PE X e (WE X e) := ⟨fun pins s σ H Q I h => h pins s I⟩
theorem pt_u {e : Expr} : PT X e (WTt X e) := ⟨fun pins s σ H Q I h => h pins s I⟩
theorem pw_u {e : Expr} : PW X e (WPt X e) := ⟨fun whole pins s σ H Q I h => h whole pins s I⟩
theorem pa_u {es : List Expr} : PA X es (WA X es) := ⟨fun pos pins s σ H Q I h => h pos pins s I⟩
theorem ps_u {st : Stmt} : PS X st (WSt X st) := ⟨fun pins s σ H D I h => h pins s I⟩
theorem pss_u {st : List Stmt} : PSs X st (WSs X st) := ⟨fun pins s σ H D I h => h pins s I⟩
theorem WE.of {e : Expr} {t : TE} {σ : St} {H : Hp} {Q : VK} (h : PE X e t) (q : t σ H Q) : WE X e σ H Q := fun pins s I => h.run pins s σ H Q I q
theorem WTt.of {e : Expr} {t : TT} {σ : St} {H : Hp} {Q : Bool → Hp → Prop} (h : PT X e t) (q : t σ H Q) : WTt X e σ H Q := fun pins s I => h.run pins s σ H Q I q
theorem WPt.of {e : Expr} {t : TT} {σ : St} {H : Hp} {Q : Bool → Hp → Prop} (h : PW X e t) (q : t σ H Q) : WPt X e σ H Q := fun whole pins s I => h.run whole pins s σ H Q I q
theorem WA.of {es : List Expr} {t : TA} {σ : St} {H : Hp} {Q : List V → Hp → Prop} (h : PA X es t) (q : t σ H Q) : WA X es σ H Q := fun pos pins s I => h.run pos pins s σ H Q I q
theorem WSt.of {st : Stmt} {t : TS} {D : Ends} {σ : St} {H : Hp} (h : PS X st t) (q : t D σ H) : WSt X st D σ H := fun pins s I => h.run pins s σ H D I q
theorem WSs.of {st : List Stmt} {t : TS} {D : Ends} {σ : St} {H : Hp} (h : PSs X st t) (q : t D σ H) : WSs X st D σ H := fun pins s I => h.run pins s σ H D I q
theorem WE.mono {e : Expr} {σ : St} {H : Hp} {Q Q' : VK} (h : WE X e σ H Q) (k : ∀ v H', Q v H' → Q' v H') : WE X e σ H Q' := fun pins s I => thn (h pins s I) fun _ _ ⟨v, H', I', r, q⟩ => ⟨v, H', I', r, k v H' q⟩
theorem WTt.mono {e : Expr} {σ : St} {H : Hp} {Q Q' : Bool → Hp → Prop} (h : WTt X e σ H Q) (k : ∀ v H', Q v H' → Q' v H') : WTt X e σ H Q' := fun pins s I => thn (h pins s I) fun _ _ ⟨H', I', q⟩ => ⟨H', I', k _ H' q⟩
theorem sp_mono {pins : List (Addr × Obj)} {D D' : Ends} {f : Flow} {s : Shared} (h : SP X pins D f s) (h1 : ∀ σ H, D.nx σ H → D'.nx σ H) (h2 : ∀ v H, D.rt v H → D'.rt v H) (h3 : ∀ σ H, D.bk σ H → D'.bk σ H) (h4 : ∀ σ H, D.ct σ H → D'.ct σ H) : SP X pins D' f s := by
  cases f with
  | next => obtain ⟨σ, H, I, q⟩ := h; exact ⟨σ, H, I, h1 _ _ q⟩
  | brk => obtain ⟨σ, H, I, q⟩ := h; exact ⟨σ, H, I, h3 _ _ q⟩
  | cont => obtain ⟨σ, H, I, q⟩ := h; exact ⟨σ, H, I, h4 _ _ q⟩
  | ret v => obtain ⟨x, σ, H, I, r, q⟩ := h; exact ⟨x, σ, H, I, r, h2 _ _ q⟩
theorem WSt.mono {st : Stmt} {D D' : Ends} {σ : St} {H : Hp} (h : WSt X st D σ H) (h1 : ∀ σ H, D.nx σ H → D'.nx σ H) (h2 : ∀ v H, D.rt v H → D'.rt v H) (h3 : ∀ σ H, D.bk σ H → D'.bk σ H) (h4 : ∀ σ H, D.ct σ H → D'.ct σ H) : WSt X st D' σ H :=
  fun pins s I => thn (h pins s I) fun _ _ q => sp_mono q h1 h2 h3 h4
theorem WSs.mono {st : List Stmt} {D D' : Ends} {σ : St} {H : Hp} (h : WSs X st D σ H) (h1 : ∀ σ H, D.nx σ H → D'.nx σ H) (h2 : ∀ v H, D.rt v H → D'.rt v H) (h3 : ∀ σ H, D.bk σ H → D'.bk σ H) (h4 : ∀ σ H, D.ct σ H → D'.ct σ H) : WSs X st D' σ H :=
  fun pins s I => thn (h pins s I) fun _ _ q => sp_mono q h1 h2 h3 h4
end

/-! ### the judgements -/
/-- what an operand came to: data, or an owned object by its number -/
inductive Ar where
  | d (d : D) | o (k : Nat)
def ArOk (K : PySem.W.Frag) (F : Hp) (rs : List V) : Ar → V → Prop
  | .d d, v => Rep K F d v
  | .o k, v => rs[k]? = some v
theorem pre_get {α : Type} {xs ys : List α} (p : xs <+: ys) (k : Nat) (v : α) (h : xs[k]? = some v) : ys[k]? = some v := by
  obtain ⟨zs, rfl⟩ := p
  rw [List.getElem?_append_left (List.getElem?_eq_some_iff.mp h).1]; exact h
theorem ArOk.mono {K : PySem.W.Frag} {F F' : Hp} {rs rs' : List V} (e : Same F F') (p : rs <+: rs') : ∀ {x : Ar} {v : V}, ArOk K F rs x v → ArOk K F' rs' x v
  | .d d, v, h => Rep.mono e d v h
  | .o k, v, h => pre_get p k v h

/-- e leads from s to s' and comes to x -/
def EA (X : Cx) (s : S) (e : Expr) (s' : S) (x : Ar) : Prop := ∀ σ H F rs as, Hd X.K σ H F rs as s → ∀ Q : VK,
  (∀ v H' F' rs' as', Hd X.K σ H' F' rs' as' s' → rs <+: rs' → Go as.flatten as'.flatten F H F' H' → ArOk X.K F' rs' x v → Q v H') → WE X e σ H Q
abbrev EE (X : Cx) (s : S) (e : Expr) (s' : S) (d : D) : Prop := EA X s e s' (.d d)
/-- a test -/
def ET (X : Cx) (s : S) (e : Expr) (s' : S) (b : Bool) : Prop := ∀ σ H F rs as, Hd X.K σ H F rs as s → ∀ Q : Bool → Hp → Prop,
  (∀ H' F' rs' as', Hd X.K σ H' F' rs' as' s' → rs <+: rs' → Go as.flatten as'.flatten F H F' H' → Q b H') → WTt X e σ H Q
def EW (X : Cx) (s : S) (e : Expr) (s' : S) (b : Bool) : Prop := ∀ σ H F rs as, Hd X.K σ H F rs as s → ∀ Q : Bool → Hp → Prop,
  (∀ H' F' rs' as', Hd X.K σ H' F' rs' as' s' → rs <+: rs' → Go as.flatten as'.flatten F H F' H' → Q b H') → WPt X e σ H Q
def ArsOk (K : PySem.W.Frag) (F : Hp) (rs : List V) : List Ar → List V → Prop
  | [], vs => vs = []
  | x :: xs, vs => ∃ v ws, vs = v :: ws ∧ ArOk K F rs x v ∧ ArsOk K F rs xs ws
theorem ArsOk.mono {K : PySem.W.Frag} {F F' : Hp} {rs rs' : List V} (e : Same F F') (p : rs <+: rs') : ∀ {xs : List Ar} {vs : List V}, ArsOk K F rs xs vs → ArsOk K F' rs' xs vs
  | [], _, h => h
  | _ :: _, _, ⟨v, ws, h, h2, h3⟩ => ⟨v, ws, h, h2.mono e p, ArsOk.mono e p h3⟩
def EAs (X : Cx) (s : S) (es : List Expr) (s' : S) (xs : List Ar) : Prop := ∀ σ H F rs as, Hd X.K σ H F rs as s → ∀ Q : List V → Hp → Prop,
  (∀ vs H' F' rs' as', Hd X.K σ H' F' rs' as' s' → rs <+: rs' → Go as.flatten as'.flatten F H F' H' → ArsOk X.K F' rs' xs vs → Q vs H') → WA X es σ H Q
/-- slots that refer to the first n owned objects alone -/
def low (n : Nat) : List Sl → Bool
  | [] => true
  | .o k :: ρ => decide (k < n) && low n ρ
  | _ :: ρ => low n ρ

structure Ds where
  nx : S → Prop
  rt : S → Ar → Prop
  bk : S → Prop := fun _ => False
  ct : S → Prop := fun _ => False
structure Wd where
  H : Hp
  F : Hp
  as : List Addr
  rs : List V
def At (K : PySem.W.Frag) (W : Wd) (Φ : S → Prop) : St → Hp → Prop := fun σ H => ∃ F rs as s, Hd K σ H F rs as s ∧ Go W.as as.flatten W.F W.H F H ∧ W.rs <+: rs ∧ Φ s
def AtR (K : PySem.W.Frag) (W : Wd) (Φ : S → Ar → Prop) : VK := fun v H => ∃ σ F rs as s x, Hd K σ H F rs as s ∧ Go W.as as.flatten W.F W.H F H ∧ W.rs <+: rs ∧ ArOk K F rs x v ∧ Φ s x
def Ds.raw (D : Ds) (K : PySem.W.Frag) (W : Wd) : Ends := ⟨At K W D.nx, AtR K W D.rt, At K W D.bk, At K W D.ct⟩
def W1 (X : Cx) (s : S) (st : Stmt) (D : Ds) : Prop := ∀ W σ H F rs as, Hd X.K σ H F rs as s → Go W.as as.flatten W.F W.H F H → W.rs <+: rs → WSt X st (D.raw X.K W) σ H
def WS (X : Cx) (s : S) (st : List Stmt) (D : Ds) : Prop := ∀ W σ H F rs as, Hd X.K σ H F rs as s → Go W.as as.flatten W.F W.H F H → W.rs <+: rs → WSs X st (D.raw X.K W) σ H
theorem At.mono {K : PySem.W.Frag} {W : Wd} {Φ Ψ : S → Prop} (h : ∀ s, Φ s → Ψ s) : ∀ σ H, At K W Φ σ H → At K W Ψ σ H := fun _ _ ⟨F, rs, as, s, h1, h2, h3, h4⟩ => ⟨F, rs, as, s, h1, h2, h3, h s h4⟩
theorem AtR.mono {K : PySem.W.Frag} {W : Wd} {Φ Ψ : S → Ar → Prop} (h : ∀ s x, Φ s x → Ψ s x) : ∀ v H, AtR K W Φ v H → AtR K W Ψ v H := fun _ _ ⟨σ, F, rs, as, s, x, h1, h2, h3, h4, h5⟩ => ⟨σ, F, rs, as, s, x, h1, h2, h3, h4, h s x h5⟩
section
variable {X : Cx} {s s' : S}
theorem W1.mono {st : Stmt} {D D' : Ds} (h : W1 X s st D) (h1 : ∀ s, D.nx s → D'.nx s) (h2 : ∀ s x, D.rt s x → D'.rt s x) (h3 : ∀ s, D.bk s → D'.bk s) (h4 : ∀ s, D.ct s → D'.ct s) : W1 X s st D' :=
  fun W σ H F rs as hd g p => (h W σ H F rs as hd g p).mono (At.mono h1) (AtR.mono h2) (At.mono h3) (At.mono h4)
theorem WS.mono {st : List Stmt} {D D' : Ds} (h : WS X s st D) (h1 : ∀ s, D.nx s → D'.nx s) (h2 : ∀ s x, D.rt s x → D'.rt s x) (h3 : ∀ s, D.bk s → D'.bk s) (h4 : ∀ s, D.ct s → D'.ct s) : WS X s st D' :=
  fun W σ H F rs as hd g p => (h W σ H F rs as hd g p).mono (At.mono h1) (AtR.mono h2) (At.mono h3) (At.mono h4)
theorem ws_nil {D : Ds} (h : D.nx s) : WS X s [] D := fun W σ H F rs as hd g p => WSs.of pss_nil ⟨F, rs, as, s, hd, g, p, h⟩
theorem ws_cons {st : Stmt} {rest : List Stmt} {D : Ds} (h : W1 X s st { D with nx := fun s1 => WS X s1 rest D }) : WS X s (st :: rest) D := fun W σ H F rs as hd g p =>
  WSs.of (pss_cons ps_u pss_u) ((h W σ H F rs as hd g p).mono (fun _ _ ⟨F1, rs1, as1, s1, a, b, c, d⟩ => d W _ _ F1 rs1 as1 a b c) (fun _ _ q => q) (fun _ _ q => q) (fun _ _ q => q))
end
end Q
namespace Q
open PySem L2

def setAll {α : Type} : List α → List Nat → List α → List α
  | xs, [], _ => xs
  | xs, _ :: _, [] => xs
  | xs, k :: ks, y :: ys => setAll (xs.set k y) ks ys
theorem setAll_len {α : Type} : ∀ (ks : List Nat) (xs ys : List α), (setAll xs ks ys).length = xs.length
  | [], xs, ys => by simp [setAll]
  | _ :: _, _, [] => rfl
  | k :: ks, xs, y :: ys => by
    show (setAll (xs.set k y) ks ys).length = _
    rw [setAll_len ks, List.length_set]
theorem setAll_not {α : Type} : ∀ (ks : List Nat) (xs ys : List α) (k : Nat), k ∉ ks → (setAll xs ks ys)[k]? = xs[k]?
  | [], _, _, _, _ => by simp [setAll]
  | _ :: _, _, [], _, _ => rfl
  | j :: ks, xs, y :: ys, k, h => by
    show (setAll (xs.set j y) ks ys)[k]? = _
    rw [setAll_not ks _ _ k (fun z => h (List.mem_cons_of_mem _ z)), List.getElem?_set_ne (fun z => h (by rw [z]; exact List.mem_cons_self))]
theorem setAll_mem {α : Type} : ∀ (ks : List Nat) (xs ys : List α) (i k : Nat), ks.Nodup → ks.length = ys.length → ks[i]? = some k → k < xs.length → (setAll xs ks ys)[k]? = ys[i]?
  | [], _, _, _, _, _, _, e, _ => by simp at e
  | _ :: _, _, [], _, _, _, h, _, _ => by simp at h
  | j :: ks, xs, y :: ys, 0, k, nd, hl, e, hk => by
    simp at e; subst e
    show (setAll (xs.set j y) ks ys)[j]? = _
    rw [setAll_not ks _ _ j (List.nodup_cons.mp nd).1, List.getElem?_set_self hk]
    rfl
  | j :: ks, xs, y :: ys, i + 1, k, nd, hl, e, hk => by
    show (setAll (xs.set j y) ks ys)[k]? = _
    rw [setAll_mem ks (xs.set j y) ys i k (List.nodup_cons.mp nd).2 (by simpa using hl) (by simpa using e) (by rw [List.length_set]; exact hk)]
    simp

/-- the items at ks -/
def pick {α : Type} (xs : List α) (ks : List Nat) (d : α) : List α := ks.map fun k => xs.getD k d
theorem pick_get {α : Type} {xs : List α} {ks : List Nat} {d : α} {i k : Nat} (e : ks[i]? = some k) (hk : k < xs.length) : (pick xs ks d)[i]? = xs[k]? := by
  unfold pick
  rw [List.getElem?_map, e]
  simp [List.getD, List.getElem?_eq_getElem hk]

section
variable {K : PySem.W.Frag} {σ : St} {H F H' F' : Hp} {rs evs : List V} {ts outs es : List T} {as as1 as2 : List (List Addr)} {ks : List Nat}
/-- some roots, taken apart -/
theorem HdR.part (h : HdR K H F ts rs as) (nd : ks.Nodup) (hk : ∀ k ∈ ks, k < ts.length) : HdR K H F (pick ts ks (.fz .non)) (pick rs ks .non) (pick as ks []) := by
  have get : ∀ {α : Type} {xs : List α} {d : α} {i : Nat} {x : α}, xs.length = ts.length → (pick xs ks d)[i]? = some x → ∃ k, ks[i]? = some k ∧ xs[k]? = some x := fun {α xs d i x} hl e => by
    unfold pick at e
    rw [List.getElem?_map] at e
    cases q : ks[i]? with
    | none => rw [q] at e; cases e
    | some k =>
      refine ⟨k, rfl, ?_⟩
      rw [q] at e
      have hk' : k < xs.length := by rw [hl]; exact hk k (List.mem_of_getElem? q)
      have e' : xs.getD k d = x := Option.some.inj e
      rw [← e']
      simp [List.getD, List.getElem?_eq_getElem hk']
  refine ⟨h.sub, by simp [pick], by simp [pick], fun i t v l e1 e2 e3 => ?_, fun i l e => ?_, fun i j l m a e1 e2 h1 h2 => ?_, fun i l a e ha => ?_⟩
  · obtain ⟨k, q1, q2⟩ := get rfl e1
    obtain ⟨k2, q3, q4⟩ := get h.l1 e2
    obtain ⟨k3, q5, q6⟩ := get h.l2 e3
    rw [q1] at q3 q5; cases q3; cases q5
    exact h.own _ _ _ _ q2 q4 q6
  · obtain ⟨k, _, q⟩ := get h.l2 e
    exact h.n1 _ _ q
  · obtain ⟨k, p1, q1⟩ := get h.l2 e1
    obtain ⟨k', p2, q2⟩ := get h.l2 e2
    have := h.n2 _ _ _ _ _ q1 q2 h1 h2
    subst this
    obtain ⟨b1, c1⟩ := List.getElem?_eq_some_iff.mp p1
    obtain ⟨b2, c2⟩ := List.getElem?_eq_some_iff.mp p2
    exact (List.getElem_inj nd).mp (c1.trans c2.symm)
  · obtain ⟨k, _, q⟩ := get h.l2 e
    exact h.af _ _ _ q ha

theorem app_get {α : Type} {xs ys : List α} {i : Nat} {x : α} (e : (xs ++ ys)[i]? = some x) : xs[i]? = some x ∨ (xs.length ≤ i ∧ ys[i - xs.length]? = some x) := by
  by_cases h : i < xs.length
  · rw [List.getElem?_append_left h] at e; exact .inl e
  · rw [List.getElem?_append_right (by omega)] at e; exact .inr ⟨by omega, e⟩

/-- what was done to some roots, put back into the whole -/
theorem HdR.merge (h : HdR K H F ts rs as) (nd : ks.Nodup) (hk : ∀ k ∈ ks, k < ts.length) (ho : outs.length = ks.length) (h1 : as1.length = ks.length)
    (h' : HdR K H' F' (outs ++ es) (pick rs ks .non ++ evs) (as1 ++ as2)) (g : Go (pick as ks []).flatten (as1 ++ as2).flatten F H F' H') :
    HdR K H' F' (setAll ts ks outs ++ es) (rs ++ evs) (setAll as ks as1 ++ as2) ∧ Go as.flatten (setAll as ks as1 ++ as2).flatten F H F' H' := by
  have lp : (pick rs ks V.non).length = ks.length := by simp [pick]
  have le : evs.length = es.length := by have := h'.l1; rw [List.length_append, List.length_append, lp, ho] at this; omega
  have le2 : as2.length = es.length := by have := h'.l2; rw [List.length_append, List.length_append, h1, ho] at this; omega
  have hka : ∀ k ∈ ks, k < as.length := fun k q => by rw [h.l2]; exact hk k q
  have hkr : ∀ k ∈ ks, k < rs.length := fun k q => by rw [h.l1]; exact hk k q
  have picked : ∀ a, a ∈ (pick as ks []).flatten → ∃ (k : Nat) (l : List Addr), k ∈ ks ∧ as[k]? = some l ∧ a ∈ l := fun a ha => by
    obtain ⟨i, l, e, hm⟩ := mem_fl ha
    have hi : i < ks.length := by have := (List.getElem?_eq_some_iff.mp e).1; simpa [pick] using this
    have e0 : ks[i]? = some ks[i] := List.getElem?_eq_getElem hi
    rw [pick_get e0 (hka _ (List.getElem_mem hi))] at e
    exact ⟨ks[i], l, List.getElem_mem hi, e, hm⟩
  -- an address of a root that isn't among ks is kept
  have other : ∀ (k : Nat) (l : List Addr) a, k ∉ ks → as[k]? = some l → a ∈ l → a ∉ (pick as ks []).flatten := fun k l a hn e ha hm => by
    obtain ⟨k', l', hk', e', ha'⟩ := picked a hm
    have := h.n2 _ _ _ _ _ e e' ha ha'
    subst this
    exact hn hk'
  have kp : ∀ a, a ∉ (pick as ks []).flatten → ∀ o, H a = some o → H' a = some o := fun a hn o e => g.keep a o hn e
  have inH : ∀ (k : Nat) (l : List Addr) a, as[k]? = some l → a ∈ l → H a ≠ none := fun k l a e ha => h.there a (fl_mem e ha)
  -- a new address is either of ks's roots or fresh
  have newA : ∀ (i : Nat) (l : List Addr) a, (as1 ++ as2)[i]? = some l → a ∈ l → a ∈ (pick as ks []).flatten ∨ H a = none := fun i l a e ha => g.aw a (fl_mem e ha)
  have apart : ∀ (k : Nat) (l : List Addr) (i : Nat) (m : List Addr) a, k ∉ ks → as[k]? = some l → (as1 ++ as2)[i]? = some m → a ∈ l → a ∈ m → False := fun k l i m a hn e e2 ha hm => by
    rcases newA i m a e2 hm with q | q
    · exact other k l a hn e ha q
    · exact inH k l a e ha q
  -- the address lists behind it, by their place
  have shape : ∀ (i : Nat) (l : List Addr), (setAll as ks as1 ++ as2)[i]? = some l → (i ∉ ks ∧ i < as.length ∧ as[i]? = some l) ∨ (∃ j, (as1 ++ as2)[j]? = some l ∧ ((j < ks.length ∧ ks[j]? = some i) ∨ (as.length ≤ i ∧ j = ks.length + (i - as.length)))) := fun i l e => by
    rcases app_get e with q | ⟨q0, q⟩
    · by_cases hi : i ∈ ks
      · obtain ⟨j, hj⟩ := List.getElem?_of_mem hi
        have hjl := (List.getElem?_eq_some_iff.mp hj).1
        rw [setAll_mem ks as as1 j i nd h1.symm hj (hka i hi)] at q
        exact .inr ⟨j, by rw [List.getElem?_append_left (by omega)]; exact q, .inl ⟨hjl, hj⟩⟩
      · rw [setAll_not ks as as1 i hi] at q
        exact .inl ⟨hi, (List.getElem?_eq_some_iff.mp q).1, q⟩
    · rw [setAll_len] at q0 q
      refine .inr ⟨ks.length + (i - as.length), ?_, .inr ⟨q0, rfl⟩⟩
      rw [List.getElem?_append_right (by omega)]
      rw [show ks.length + (i - as.length) - as1.length = i - as.length by omega]
      exact q
  refine ⟨⟨h'.sub, by simp [setAll_len, h.l1, le], by simp [setAll_len, h.l2, le2], fun i t v l e1 e2 e3 => ?_, fun i l e => ?_, fun i j l m a e1 e2 ha hm => ?_, fun i l a e ha => ?_⟩, ⟨g.fz, fun a o e => ?_, fun a o hn e => ?_, g.there, fun a ha => ?_⟩⟩
  · rcases app_get e1 with q | ⟨q0, q⟩
    · have hi : i < ts.length := by have := (List.getElem?_eq_some_iff.mp q).1; rwa [setAll_len] at this
      rw [List.getElem?_append_left (by rw [h.l1]; exact hi)] at e2
      rw [List.getElem?_append_left (by rw [setAll_len, h.l2]; exact hi)] at e3
      by_cases hik : i ∈ ks
      · obtain ⟨j, hj⟩ := List.getElem?_of_mem hik
        have hjl := (List.getElem?_eq_some_iff.mp hj).1
        rw [setAll_mem ks ts outs j i nd ho.symm hj hi] at q
        rw [setAll_mem ks as as1 j i nd h1.symm hj (hka i hik)] at e3
        refine h'.own j t v l (by rw [List.getElem?_append_left (by omega)]; exact q) ?_ (by rw [List.getElem?_append_left (by omega)]; exact e3)
        rw [List.getElem?_append_left (by omega), pick_get hj (hkr i hik)]
        exact e2
      · rw [setAll_not ks ts outs i hik] at q
        rw [setAll_not ks as as1 i hik] at e3
        exact Own.keep g.fz _ _ _ (fun a ha => kp a (other i l a hik e3 ha)) (h.own i t v l q e2 e3)
    · rw [setAll_len] at q0 q
      rw [List.getElem?_append_right (by rw [h.l1]; exact q0), h.l1] at e2
      rw [List.getElem?_append_right (by rw [setAll_len, h.l2]; exact q0), setAll_len, h.l2] at e3
      refine h'.own (ks.length + (i - ts.length)) t v l ?_ ?_ ?_
      · rw [List.getElem?_append_right (by omega), show ks.length + (i - ts.length) - outs.length = i - ts.length by omega]; exact q
      · rw [List.getElem?_append_right (by omega), show ks.length + (i - ts.length) - (pick rs ks V.non).length = i - ts.length by omega]; exact e2
      · rw [List.getElem?_append_right (by omega), show ks.length + (i - ts.length) - as1.length = i - ts.length by omega]; exact e3
  · rcases shape i l e with ⟨_, _, q⟩ | ⟨j, q, _⟩
    · exact h.n1 _ _ q
    · exact h'.n1 _ _ q
  · rcases shape i l e1 with ⟨p0, p1, p⟩ | ⟨i', p, pi⟩
    · rcases shape j m e2 with ⟨q0, q1, q⟩ | ⟨j', q, _⟩
      · exact h.n2 _ _ _ _ _ p q ha hm
      · exact (apart i l j' m a p0 p q ha hm).elim
    · rcases shape j m e2 with ⟨q0, q1, q⟩ | ⟨j', q, qj⟩
      · exact (apart j m i' l a q0 q p hm ha).elim
      · have e := h'.n2 _ _ _ _ _ p q ha hm
        subst e
        rcases pi with ⟨a1, a2⟩ | ⟨a1, a2⟩
        · rcases qj with ⟨b1, b2⟩ | ⟨b1, b2⟩
          · rw [a2] at b2; exact Option.some.inj b2
          · omega
        · rcases qj with ⟨b1, b2⟩ | ⟨b1, b2⟩
          · omega
          · omega
  · rcases shape i l e with ⟨p0, p1, p⟩ | ⟨i', p, _⟩
    · cases q : F' a with
      | none => rfl
      | some o =>
        rcases g.new a o q with z | z | z
        · rw [h.af _ _ _ p ha] at z; cases z
        · exact absurd z (inH i l a p ha)
        · exact absurd z (other i l a p0 p ha)
    · exact h'.af _ _ _ p ha
  · rcases g.new a o e with z | z | z
    · exact .inl z
    · exact .inr (.inl z)
    · obtain ⟨k, l, _, q, hm⟩ := picked a z
      exact .inr (.inr (fl_mem q hm))
  · refine g.keep a o (fun z => hn ?_) e
    obtain ⟨k, l, _, q, hm⟩ := picked a z
    exact fl_mem q hm
  · obtain ⟨i, l, e, hm⟩ := mem_fl ha
    rcases shape i l e with ⟨_, _, q⟩ | ⟨j, q, _⟩
    · exact .inl (fl_mem q hm)
    · rcases newA j l a q hm with z | z
      · obtain ⟨k, l', _, q', hm'⟩ := picked a z
        exact .inl (fl_mem q' hm')
      · exact .inr z
/-- the last one frozen -/
theorem HdR.freeze {t : T} {v : V} (ok : t.ok = true) (h : HdR K H F (ts ++ [t]) (rs ++ [v]) as) (hl : rs.length = ts.length) : ∃ F' as', HdR K H F' ts rs as' ∧ Go as.flatten as'.flatten F H F' H ∧ Rep K F' t.fr v := by
  classical
  have ht : (ts ++ [t])[ts.length]? = some t := by simp
  obtain ⟨v', l, e1, e2, o⟩ := h.at ht
  have e1' : (rs ++ [v])[ts.length]? = some v := by rw [← hl]; simp
  rw [e1'] at e1; cases e1
  have lenA : as.length = ts.length + 1 := by rw [h.l2]; simp
  let F' : Hp := fun a => if a ∈ l then H a else F a
  have inl : ∀ a, a ∈ l → F' a = H a := fun a ha => by show (if a ∈ l then H a else F a) = _; rw [if_pos ha]
  have nil : ∀ a, a ∉ l → F' a = F a := fun a ha => by show (if a ∈ l then H a else F a) = _; rw [if_neg ha]
  have fz : Same F F' := fun a o e => by
    by_cases ha : a ∈ l
    · rw [h.af _ _ _ e2 ha] at e; cases e
    · rw [nil a ha]; exact e
  have sub' : Same F' H := fun a o e => by
    by_cases ha : a ∈ l
    · rw [inl a ha] at e; exact e
    · rw [nil a ha] at e; exact h.sub a o e
  have tk : ∀ {i : Nat} {m : List Addr}, (as.take ts.length)[i]? = some m → i < ts.length ∧ as[i]? = some m := fun {i m} e => by
    have hi := (List.getElem?_eq_some_iff.mp e).1
    rw [List.length_take] at hi
    have hi : i < ts.length := by omega
    rw [List.getElem?_take_of_lt hi] at e
    exact ⟨hi, e⟩
  refine ⟨F', as.take ts.length, ⟨sub', hl, by rw [List.length_take]; omega, fun i t' v' m q1 q2 q3 => ?_, fun i m q => h.n1 _ _ (tk q).2, fun i j m m' a q1 q2 h1 h2 => h.n2 _ _ _ _ _ (tk q1).2 (tk q2).2 h1 h2, fun i m a q ha => ?_⟩, ⟨fz, fun a o e => ?_, fun a o _ e => e, fun a e => e, fun a ha => ?_⟩, ?_⟩
  · obtain ⟨hi, q3⟩ := tk q3
    refine Own.keep fz _ _ _ (fun a _ o e => e) (h.own i t' v' m ?_ ?_ q3)
    · rw [List.getElem?_append_left hi]; exact q1
    · rw [List.getElem?_append_left (by omega)]; exact q2
  · obtain ⟨hi, q⟩ := tk q
    rw [nil a fun z => ?_]
    · exact h.af _ _ _ q ha
    · have := h.n2 _ _ _ _ _ q e2 ha z
      omega
  · by_cases ha : a ∈ l
    · exact .inr (.inr (fl_mem e2 ha))
    · rw [nil a ha] at e; exact .inl e
  · obtain ⟨i, m, q, hm⟩ := mem_fl ha
    exact .inl (fl_mem (tk q).2 hm)
  · exact Own.fr fz t v l ok (fun a ha o e => by rw [inl a ha]; exact e) o
end
/-- a new owned object, made of data -/
theorem HdR.snoc {K : PySem.W.Frag} {H F : Hp} {ts : List T} {rs : List V} {as : List (List Addr)} {t : T} {v : V} {p : Addr} {o : HO} (h : HdR K H F ts rs as) (hp : H p = none)
    (ht : Own K (upd H p o) F t v [p]) : HdR K (upd H p o) F (ts ++ [t]) (rs ++ [v]) (as ++ [[p]]) ∧ Go as.flatten (as ++ [[p]]).flatten F H F (upd H p o) := by
  have hF : F p = none := by
    cases q : F p with
    | none => rfl
    | some u => rw [h.sub p u q] at hp; cases hp
  have kp : ∀ a u, H a = some u → upd H p o a = some u := fun a u e => by rw [upd_ne (ne_of_none e hp)]; exact e
  have nin : ∀ (i : Nat) l, as[i]? = some l → p ∉ l := fun i l e ha => h.there p (fl_mem e ha) hp
  have sh : ∀ (i : Nat) l, (as ++ [[p]])[i]? = some l → as[i]? = some l ∨ (i = as.length ∧ l = [p]) := fun i l e => by
    rcases app_get e with q | ⟨q0, q⟩
    · exact .inl q
    · have : i - as.length = 0 := by have := (List.getElem?_eq_some_iff.mp q).1; simp at this; omega
      rw [this] at q; simp at q
      exact .inr ⟨by omega, q.symm⟩
  refine ⟨⟨fun a u e => kp a u (h.sub a u e), by simp [h.l1], by simp [h.l2], fun i t' v' l e1 e2 e3 => ?_, fun i l e => ?_, fun i j l m a e1 e2 h1 h2 => ?_, fun i l a e ha => ?_⟩, ⟨Same.refl F, fun _ _ e => .inl e, fun a u _ e => kp a u e, fun a e => ?_, fun a ha => ?_⟩⟩
  · rcases app_get e1 with q | ⟨q0, q⟩
    · have hi := (List.getElem?_eq_some_iff.mp q).1
      rw [List.getElem?_append_left (by rw [h.l1]; exact hi)] at e2
      rw [List.getElem?_append_left (by rw [h.l2]; exact hi)] at e3
      exact Own.keep (Same.refl F) _ _ _ (fun a _ u e => kp a u e) (h.own i t' v' l q e2 e3)
    · have i0 : i = ts.length := by have := (List.getElem?_eq_some_iff.mp q).1; simp at this; omega
      subst i0
      simp at q; subst q
      rw [← h.l1] at e2; simp at e2; subst e2
      rw [← h.l2] at e3; simp at e3; subst e3
      exact ht
  · rcases sh i l e with q | ⟨_, rfl⟩
    · exact h.n1 _ _ q
    · simp
  · rcases sh i l e1 with q | ⟨i0, rfl⟩
    · rcases sh j m e2 with z | ⟨j0, rfl⟩
      · exact h.n2 _ _ _ _ _ q z h1 h2
      · simp at h2; subst h2; exact absurd h1 (nin i l q)
    · rcases sh j m e2 with z | ⟨j0, rfl⟩
      · simp at h1; subst h1; exact absurd h2 (nin j m z)
      · omega
  · rcases sh i l e with q | ⟨_, rfl⟩
    · exact h.af _ _ _ q ha
    · simp at ha; subst ha; exact hF
  · by_cases ha : a = p
    · subst ha; exact hp
    · rw [upd_ne ha] at e; exact e
  · obtain ⟨i, l, e, hm⟩ := mem_fl ha
    rcases sh i l e with q | ⟨_, rfl⟩
    · exact .inl (fl_mem q hm)
    · simp at hm; subst hm; exact .inr hp
/-- one root changed -/
theorem HdR.set1 {K : PySem.W.Frag} {H F H' : Hp} {ts : List T} {rs : List V} {as : List (List Addr)} {t : T} {v : V} {k : Nat} {l : List Addr} (h : HdR K H F ts rs as) (hv : rs[k]? = some v) (hl : as[k]? = some l)
    (kp : ∀ a o, a ∉ l → H a = some o → H' a = some o) (th : ∀ a, H' a = none → H a = none) (ht : Own K H' F t v l) : HdR K H' F (ts.set k t) rs as ∧ Go as.flatten as.flatten F H F H' := by
  have nin : ∀ (i : Nat) m a, i ≠ k → as[i]? = some m → a ∈ m → a ∉ l := fun i m a hn e ha z => hn (h.n2 _ _ _ _ _ e hl ha z)
  have nF : ∀ a, a ∈ l → F a = none := fun a ha => h.af _ _ _ hl ha
  refine ⟨⟨fun a o e => kp a o (fun z => by rw [nF a z] at e; cases e) (h.sub a o e), by simp [h.l1], by simp [h.l2], fun i t' v' m e1 e2 e3 => ?_, h.n1, h.n2, h.af⟩, ⟨Same.refl F, fun _ _ e => .inl e, fun a o hn e => kp a o (fun z => hn (fl_mem hl z)) e, th, fun _ ha => .inl ha⟩⟩
  by_cases hi : i = k
  · subst hi
    have hk : i < ts.length := by have := (List.getElem?_eq_some_iff.mp e1).1; rwa [List.length_set] at this
    rw [List.getElem?_set_self hk] at e1; cases e1
    rw [hv] at e2; cases e2
    rw [hl] at e3; cases e3
    exact ht
  · rw [List.getElem?_set_ne (fun z => hi z.symm)] at e1
    exact Own.keep (Same.refl F) _ _ _ (fun a ha o e => kp a o (nin i m a hi e3 ha) e) (h.own i t' v' m e1 e2 e3)
end Q
namespace Q
open PySem L2

def S.add (s : S) (t : T) : S := ⟨s.ρ, s.μ ++ [t]⟩
theorem refl_pre {α : Type} (xs : List α) : xs <+: xs := ⟨[], List.append_nil xs⟩

section
variable {K : PySem.W.Frag} {σ : St} {H F : Hp} {rs : List V} {as : List (List Addr)} {s : S}
/-- the end of a step that adds frozen things alone -/
theorem Hd.fin {X : Cx} {d : D} {Q : VK} (hd : Hd X.K σ H F rs as s)
    (k : ∀ v H' F' rs' as', Hd X.K σ H' F' rs' as' s → rs <+: rs' → Go as.flatten as'.flatten F H F' H' → ArOk X.K F' rs' (.d d) v → Q v H') :
    ∀ v H' F', Go [] [] F H F' H' → Same F' H' → Rep X.K F' d v → Q v H' := fun v H' F' g sb r =>
  let ⟨h, g'⟩ := hd.pure g sb
  k v H' F' rs as h (refl_pre rs) g' r
/-- a list of data that stands at x -/
def Ls (s : S) : Ar → List D → Prop
  | .d (.lst es), ds => es = ds
  | .o k, ds => s.μ[k]? = some (.fl ds)
  | _, _ => False
/-- a list or tuple of data -/
def Sq (s : S) : Ar → List D → Prop
  | .d (.lst es), ds => es = ds
  | .d (.rl es), ds => es = ds
  | .d (.tup es), ds => es = ds
  | .o k, ds => s.μ[k]? = some (.fl ds)
  | _, _ => False
/-- data, frozen or not -/
def Dt (s : S) : Ar → D → Prop
  | .d e, d => e = d
  | .o k, d => ∃ t, s.μ[k]? = some t ∧ t.ok = true ∧ t.fr = d
theorem Ls.get {x : Ar} {v : V} {ds : List D} (hd : Hd K σ H F rs as s) (a : ArOk K F rs x v) (h : Ls s x ds) : ∃ p xs, v = .ref p ∧ H p = some (.lst xs) ∧ Reps K F ds xs := by
  cases x with
  | d d =>
    cases d <;> try exact h.elim
    obtain ⟨p, xs, e, hp, r⟩ := a
    cases h
    exact ⟨p, xs, e, hd.sub p _ hp, r⟩
  | o k =>
    obtain ⟨v', l, h1, h2, p, xs, e, hp, r, _⟩ := hd.r.at h
    have a' : rs[k]? = some v := a
    rw [h1] at a'; cases a'
    exact ⟨p, xs, e, hp, r⟩
theorem Sq.get {x : Ar} {v : V} {ds : List D} (hd : Hd K σ H F rs as s) (a : ArOk K F rs x v) (h : Sq s x ds) : ∃ p xs, v = .ref p ∧ (SqL K H p xs ∨ SqT K H p xs) ∧ Reps K F ds xs := by
  cases x with
  | d d =>
    cases d <;> try exact h.elim
    · obtain ⟨p, xs, e, hp, r⟩ := a
      cases h
      exact ⟨p, xs, e, .inl (.of (hd.sub p _ hp)), r⟩
    · obtain ⟨p, xs, e, hp, r⟩ := a
      cases h
      exact ⟨p, xs, e, .inr (same_t hd.sub hp), r⟩
    · obtain ⟨p, xs, e, hp, r⟩ := a
      cases h
      exact ⟨p, xs, e, .inl (hd.sub.seq hp), r⟩
  | o k =>
    obtain ⟨v', l, h1, h2, p, xs, e, hp, r, _⟩ := hd.r.at h
    have a' : rs[k]? = some v := a
    rw [h1] at a'; cases a'
    exact ⟨p, xs, e, .inl (.of hp), r⟩
theorem Dt.get {x : Ar} {v : V} {d : D} (hd : Hd K σ H F rs as s) (a : ArOk K F rs x v) (h : Dt s x d) : Rep K H d v := by
  cases x with
  | d e =>
    cases h
    exact Rep.mono hd.sub d v a
  | o k =>
    obtain ⟨t, h1, ok, e⟩ := h
    subst e
    obtain ⟨v', l, h2, h3, o⟩ := hd.r.at h1
    have a' : rs[k]? = some v := a
    rw [h2] at a'; cases a'
    exact Own.fr hd.sub t v l ok (fun _ _ _ e => e) o
end

/-! ### what an operation on values comes to -/
def OpV (X : Cx) (s : S) (r : R2) (x y : Ar) (d : D) : Prop := ∀ σ H F rs as v w, Hd X.K σ H F rs as s → ArOk X.K F rs x v → ArOk X.K F rs y w → ∀ Q : VK,
  (∀ u H' F', Go [] [] F H F' H' → Same F' H' → Rep X.K F' d u → Q u H') → r v w H Q
/-- it makes a new list -/
def OpL (X : Cx) (s : S) (r : R2) (x y : Ar) (ds : List D) : Prop := ∀ σ H F rs as v w, Hd X.K σ H F rs as s → ArOk X.K F rs x v → ArOk X.K F rs y w → ∃ ys, Reps X.K F ds ys ∧ ∀ Q : VK,
  (∀ p, H p = none → Q (.ref p) (upd H p (.lst ys))) → r v w H Q
def CaV (X : Cx) (s : S) (r : List V → Hp → VK → Prop) (xs : List Ar) (d : D) : Prop := ∀ σ H F rs as vs, Hd X.K σ H F rs as s → ArsOk X.K F rs xs vs → ∀ Q : VK,
  (∀ u H' F', Go [] [] F H F' H' → Same F' H' → Rep X.K F' d u → Q u H') → r vs H Q
def CaL (X : Cx) (s : S) (r : List V → Hp → VK → Prop) (xs : List Ar) (ds : List D) : Prop := ∀ σ H F rs as vs, Hd X.K σ H F rs as s → ArsOk X.K F rs xs vs → ∃ ys, Reps X.K F ds ys ∧ ∀ Q : VK,
  (∀ p, H p = none → Q (.ref p) (upd H p (.lst ys))) → r vs H Q
def UnV (X : Cx) (s : S) (r : V → Hp → VK → Prop) (x : Ar) (d : D) : Prop := ∀ σ H F rs as v, Hd X.K σ H F rs as s → ArOk X.K F rs x v → ∀ Q : VK,
  (∀ u H' F', Go [] [] F H F' H' → Same F' H' → Rep X.K F' d u → Q u H') → r v H Q

section
variable {X : Cx} {s s0 s1 s2 s3 : S} {e a b c : Expr} {es : List Expr} {x y z : Ar} {xs : List Ar} {d : D} {ds : List D} {pos p : Pos} {nm : Str} {σ : St} {H F : Hp} {rs : List V} {as : List (List Addr)}

/-! ### names, constants -/
theorem ea_d (i : Nat) (h : s.ρ[i]? = some (.d d) := by rfl) (hN : X.N[i]? = some nm := by rfl) (hv : Vis X.env.scope nm := by first | exact Or.inl rfl | exact Or.inr (Or.inl rfl) | exact Or.inr (Or.inr rfl))
    (h1 : (nm == ("__debug__" : Str)) = false := by decide) (h2 : (nm == ("__classdict__" : Str)) = false := by decide) : EA X s (.Name nm pos) s (.d d) := fun σ H F rs as hd Q k => by
  obtain ⟨o, e1, v, rfl, r⟩ := hd.sl.get h
  exact WE.of (pe_var hN hv h1 h2) ⟨v, e1, k v H F rs as hd (refl_pre _) (Go.refl _ _ _) r⟩
theorem ea_o (i : Nat) {k : Nat} (h : s.ρ[i]? = some (.o k) := by rfl) (hN : X.N[i]? = some nm := by rfl) (hv : Vis X.env.scope nm := by first | exact Or.inl rfl | exact Or.inr (Or.inl rfl) | exact Or.inr (Or.inr rfl))
    (h1 : (nm == ("__debug__" : Str)) = false := by decide) (h2 : (nm == ("__classdict__" : Str)) = false := by decide) : EA X s (.Name nm pos) s (.o k) := fun σ H F rs as hd Q q => by
  obtain ⟨o, e1, v, rfl, r⟩ := hd.sl.get h
  exact WE.of (pe_var hN hv h1 h2) ⟨v, e1, q v H F rs as hd (refl_pre _) (Go.refl _ _ _) r⟩
theorem ea_tC {t : V} (hp : PE X e (tC t)) (h : ∀ F, Rep X.K F d t) : EA X s e s (.d d) := fun σ H F rs as hd Q k => WE.of hp (k t H F rs as hd (refl_pre _) (Go.refl _ _ _) (h F))
theorem ee_int {i : Int} {j} : EA X s (.Constant (.int i) j pos) s (.d (.int i)) := ea_tC pe_int fun _ => rfl
theorem ee_bl {i : Bool} {j} : EA X s (.Constant (.bool i) j pos) s (.d (.bl i)) := ea_tC pe_bl fun _ => rfl
theorem ee_non {j} : EA X s (.Constant .none j pos) s (.d .non) := ea_tC pe_non fun _ => rfl
theorem ee_str {z : Str} {j} (l : List Nat) (h : z = mk l := by decide +kernel) : EA X s (.Constant (.str z) j pos) s (.d (.str l)) := ea_tC pe_str fun _ => by subst h; rfl
theorem ee_glob {v : V} {u : Value} (hg : Gl X nm) (hm : X.mg nm = some u) (r : RelV v u) (h : ∀ F, Rep X.K F d v) (hd : (nm == ("__debug__" : Str)) = false := by decide) : EA X s (.Name nm pos) s (.d d) := ea_tC (pe_glob hg hm r hd) h
/-- a built-in class as a value -/
theorem ee_ty {n : String} (hg : Gl X nm) (hm : X.mg nm = none) (hv : bootBuiltins nm = some (.type n)) (hn : nm ≠ "__name__" := by decide) (hd : (nm == ("__debug__" : Str)) = false := by decide) : EA X s (.Name nm pos) s (.d (.val (.ty n))) := ea_tC (t := .ty n) (pe_bltn (v := .ty n) hg hm hv rfl hn hd) fun _ => rfl

/-! ### freezing -/
theorem low_slots {K : PySem.W.Frag} {v : V} : ∀ {ρ : List Sl} {σ : St}, low rs.length ρ = true → Slots K F (rs ++ [v]) ρ σ → Slots K F rs ρ σ
  | [], _, _, h => h
  | p :: ρ, _, l, ⟨x, σ', h, h2, h3⟩ => by
    cases p with
    | un => exact ⟨x, σ', h, trivial, low_slots l h3⟩
    | d d => exact ⟨x, σ', h, h2, low_slots l h3⟩
    | o k =>
      have l' : (decide (k < rs.length) && low rs.length ρ) = true := l
      rw [Bool.and_eq_true] at l'
      obtain ⟨w, e1, e2⟩ := h2
      refine ⟨x, σ', h, ⟨w, e1, ?_⟩, low_slots l'.2 h3⟩
      rw [List.getElem?_append_left (of_decide_eq_true l'.1)] at e2
      exact e2
theorem Hd.freeze {K : PySem.W.Frag} {t : T} (hd : Hd K σ H F rs as (s.add t)) (ok : t.ok = true) (lw : low s.μ.length s.ρ = true) : ∃ rs0 v F' as', rs = rs0 ++ [v] ∧ Hd K σ H F' rs0 as' s ∧ Go as.flatten as'.flatten F H F' H ∧ Rep K F' t.fr v := by
  have hl : rs.length = s.μ.length + 1 := by rw [hd.r.l1]; show (s.μ ++ [t]).length = _; simp
  obtain ⟨rs0, v, e⟩ : ∃ rs0 v, rs = rs0 ++ [v] := by
    refine ⟨rs.dropLast, rs.getLast (fun z => by rw [z] at hl; simp at hl), (List.dropLast_concat_getLast _).symm⟩
  subst e
  have hl0 : rs0.length = s.μ.length := by simpa using hl
  obtain ⟨F', as', h1, h2, h3⟩ := HdR.freeze ok hd.r hl0
  exact ⟨rs0, v, F', as', rfl, ⟨h1, (low_slots (by rw [hl0]; exact lw) hd.sl).mono h2.fz fun _ _ q => q⟩, h2, h3⟩
theorem ee_fz {t : T} (h : EA X s e (s1.add t) (.o s1.μ.length)) (ok : t.ok = true := by rfl) (lw : low s1.μ.length s1.ρ = true := by rfl) (hlen : s.μ.length ≤ s1.μ.length := by exact Nat.le_refl _) : EA X s e s1 (.d t.fr) := fun σ H F rs as hd Q k =>
  h σ H F rs as hd Q fun v H1 F1 rs1 as1 hd1 p1 g1 r1 => by
    obtain ⟨rs0, w, F', as', e, h1, h2, h3⟩ := hd1.freeze ok lw
    subst e
    have hl0 : rs0.length = s1.μ.length := h1.r.l1
    have ev : v = w := by
      have r' : (rs0 ++ [w])[s1.μ.length]? = some v := r1
      rw [← hl0] at r'
      simpa using r'.symm
    subst ev
    have hlr : rs.length ≤ rs0.length := by rw [hd.r.l1, hl0]; exact hlen
    have p0 : rs <+: rs0 := List.prefix_of_prefix_length_le p1 ⟨_, rfl⟩ hlr
    exact k v H1 F' rs0 as' h1 p0 (g1.trans h2) h3
theorem ee_fl (h : EA X s e (s1.add (.fl ds)) (.o s1.μ.length)) (lw : low s1.μ.length s1.ρ = true := by rfl) (hlen : s.μ.length ≤ s1.μ.length := by exact Nat.le_refl _) : EA X s e s1 (.d (.lst ds)) := ee_fz h rfl lw hlen
/-- a new owned list -/
theorem Hd.newL {K : PySem.W.Frag} {ys : List V} {p : Addr} (hd : Hd K σ H F rs as s) (hp : H p = none) (r : Reps K F ds ys) : Hd K σ (upd H p (.lst ys)) F (rs ++ [.ref p]) (as ++ [[p]]) (s.add (.fl ds)) ∧ Go as.flatten (as ++ [[p]]).flatten F H F (upd H p (.lst ys)) := by
  obtain ⟨h1, h2⟩ := hd.r.snoc (t := .fl ds) (v := .ref p) hp ⟨p, ys, rfl, upd_same, r, rfl⟩
  exact ⟨⟨h1, hd.sl.mono (Same.refl F) fun k v q => pre_get ⟨_, rfl⟩ k v q⟩, h2⟩
theorem Hd.newK {ys : List V} {Q : VK} (hd : Hd X.K σ H F rs as s) (r : Reps X.K F ds ys)
    (k : ∀ v H' F' rs' as', Hd X.K σ H' F' rs' as' (s.add (.fl ds)) → rs <+: rs' → Go as.flatten as'.flatten F H F' H' → ArOk X.K F' rs' (.o s.μ.length) v → Q v H') :
    ∀ p, H p = none → Q (.ref p) (upd H p (.lst ys)) := fun p hp => by
  obtain ⟨h1, h2⟩ := hd.newL hp r
  refine k _ _ F _ _ h1 ⟨_, rfl⟩ h2 ?_
  show (rs ++ [V.ref p])[s.μ.length]? = _
  rw [← hd.r.l1]; simp

/-! ### operators, calls -/
theorem ea_op {op : Operator} {r : R2} (ho : OpR X (binaryOp op) r) (ha : EA X s a s1 x) (hb : EA X s1 b s2 y) (hr : OpV X s2 r x y d) : EA X s (.BinOp a op b pos) s2 (.d d) := fun σ H F rs as hd Q k =>
  WE.of (pe_op ho pe_u pe_u) (ha σ H F rs as hd _ fun v H1 F1 rs1 as1 h1 p1 g1 r1 => hb σ H1 F1 rs1 as1 h1 _ fun w H2 F2 rs2 as2 h2 p2 g2 r2 => hr σ H2 F2 rs2 as2 v w h2 (r1.mono g2.fz p2) r2 Q
    (h2.fin fun u H' F' rs' as' h' p' g' q => k u H' F' rs' as' h' ((p1.trans p2).trans p') ((g1.trans g2).trans g') q))
theorem ea_opL {op : Operator} {r : R2} (ho : OpR X (binaryOp op) r) (ha : EA X s a s1 x) (hb : EA X s1 b s2 y) (hr : OpL X s2 r x y ds) : EA X s (.BinOp a op b pos) (s2.add (.fl ds)) (.o s2.μ.length) := fun σ H F rs as hd Q k =>
  WE.of (pe_op ho pe_u pe_u) (ha σ H F rs as hd _ fun v H1 F1 rs1 as1 h1 p1 g1 r1 => hb σ H1 F1 rs1 as1 h1 _ fun w H2 F2 rs2 as2 h2 p2 g2 r2 => by
    obtain ⟨ys, ry, q⟩ := hr σ H2 F2 rs2 as2 v w h2 (r1.mono g2.fz p2) r2
    exact q Q (h2.newK ry fun u H' F' rs' as' h' p' g' q => k u H' F' rs' as' h' ((p1.trans p2).trans p') ((g1.trans g2).trans g') q))
theorem ea_cmp {op : CmpOp} {r : R2} (ho : OpR X (compareOp op) r) (ha : EA X s a s1 x) (hb : EA X s1 b s2 y) (hr : OpV X s2 r x y d) (hm : behindInMarks op b = false := by first | exact nomark _ | rfl) : EA X s (.Compare a [op] [b] pos) s2 (.d d) := fun σ H F rs as hd Q k =>
  WE.of (pe_cmpR ho pe_u pe_u hm) (ha σ H F rs as hd _ fun v H1 F1 rs1 as1 h1 p1 g1 r1 => hb σ H1 F1 rs1 as1 h1 _ fun w H2 F2 rs2 as2 h2 p2 g2 r2 => hr σ H2 F2 rs2 as2 v w h2 (r1.mono g2.fz p2) r2 Q
    (h2.fin fun u H' F' rs' as' h' p' g' q => k u H' F' rs' as' h' ((p1.trans p2).trans p') ((g1.trans g2).trans g') q))
theorem et_cmp {op : CmpOp} {r : R2} {t : Bool} (ho : OpR X (compareOp op) r) (ha : EA X s a s1 x) (hb : EA X s1 b s2 y) (hr : OpV X s2 r x y (.bl t)) (hm : behindInMarks op b = false := by first | exact nomark _ | rfl) : ET X s (.Compare a [op] [b] pos) s2 t := fun σ H F rs as hd Q k =>
  WTt.of (pt_cmpR ho pe_u pe_u hm) (ha σ H F rs as hd _ fun v H1 F1 rs1 as1 h1 p1 g1 r1 => hb σ H1 F1 rs1 as1 h1 _ fun w H2 F2 rs2 as2 h2 p2 g2 r2 => hr σ H2 F2 rs2 as2 v w h2 (r1.mono g2.fz p2) r2 _
    (h2.fin fun u H' F' rs' as' h' p' g' q => ⟨t, q, k H' F' rs' as' h' ((p1.trans p2).trans p') ((g1.trans g2).trans g')⟩))
theorem et_val {t : Bool} (h : EA X s e s1 (.d (.bl t))) (he : ∀ whole, isTrue e X.env whole = (do let v ← whole; standAt e.pos; holding [v] (truthy v)) := by intro _; rfl) : ET X s e s1 t := fun σ H F rs as hd Q k =>
  WTt.of (pt_val pe_u he) (h σ H F rs as hd _ fun v H1 F1 rs1 as1 h1 p1 g1 r1 => ⟨t, r1, k H1 F1 rs1 as1 h1 p1 g1⟩)
theorem et_not {t : Bool} (h : ET X s e s1 t) : ET X s (.UnaryOp .Not e pos) s1 (!t) := fun σ H F rs as hd Q k =>
  WTt.of (pt_not pt_u) (h σ H F rs as hd _ fun H1 F1 rs1 as1 h1 p1 g1 => k H1 F1 rs1 as1 h1 p1 g1)
theorem ee_not {t : Bool} (h : EA X s e s1 (.d (.bl t))) : EA X s (.UnaryOp .Not e pos) s1 (.d (.bl (!t))) := fun σ H F rs as hd Q k =>
  WE.of (pe_not pe_u) (h σ H F rs as hd _ fun v H1 F1 rs1 as1 h1 p1 g1 r1 => ⟨t, r1, k _ H1 F1 rs1 as1 h1 p1 g1 rfl⟩)
/-! and, or: the second is asked only where the first leaves it open; then it must leave the state as it is -/
theorem ee_and {t u : Bool} {rest : List Expr} (h : EA X s a s1 (.d (.bl t))) (h2 : t = true → EA X s1 (.BoolOp .And (b :: rest) pos) s1 (.d (.bl u))) : EA X s (.BoolOp .And (a :: b :: rest) pos) s1 (.d (.bl (t && u))) := fun σ H F rs as hd Q k =>
  WE.of (pe_and pe_u pe_u) (h σ H F rs as hd _ fun v H1 F1 rs1 as1 h1 p1 g1 r1 => ⟨t, r1, by
    cases t with
    | true => exact iteT (h2 rfl σ H1 F1 rs1 as1 h1 _ fun w H2 F2 rs2 as2 q2 p2 g2 r2 => k w H2 F2 rs2 as2 q2 (p1.trans p2) (g1.trans g2) r2)
    | false => exact iteF (k _ H1 F1 rs1 as1 h1 p1 g1 rfl)⟩)
theorem ee_or {t u : Bool} {rest : List Expr} (h : EA X s a s1 (.d (.bl t))) (h2 : t = false → EA X s1 (.BoolOp .Or (b :: rest) pos) s1 (.d (.bl u))) : EA X s (.BoolOp .Or (a :: b :: rest) pos) s1 (.d (.bl (t || u))) := fun σ H F rs as hd Q k =>
  WE.of (pe_or pe_u pe_u) (h σ H F rs as hd _ fun v H1 F1 rs1 as1 h1 p1 g1 r1 => ⟨t, r1, by
    cases t with
    | false => exact iteF (h2 rfl σ H1 F1 rs1 as1 h1 _ fun w H2 F2 rs2 as2 q2 p2 g2 r2 => k w H2 F2 rs2 as2 q2 (p1.trans p2) (g1.trans g2) r2)
    | true => exact iteT (k _ H1 F1 rs1 as1 h1 p1 g1 rfl)⟩)
theorem ee_one {op} (h : EA X s a s1 x) : EA X s (.BoolOp op [a] pos) s1 x := fun σ H F rs as hd Q k => WE.of (pe_one pe_u) (h σ H F rs as hd Q k)
/-- and with an effect behind: the state of the end by cases -/
theorem ee_andS {t u : Bool} {rest : List Expr} (h : EA X s a s1 (.d (.bl t))) (h2 : t = true → EA X s1 (.BoolOp .And (b :: rest) pos) s2 (.d (.bl u))) (h3 : t = false → s2 = s1) : EA X s (.BoolOp .And (a :: b :: rest) pos) s2 (.d (.bl (t && u))) := fun σ H F rs as hd Q k =>
  WE.of (pe_and pe_u pe_u) (h σ H F rs as hd _ fun v H1 F1 rs1 as1 h1 p1 g1 r1 => ⟨t, r1, by
    cases t with
    | true => exact iteT (h2 rfl σ H1 F1 rs1 as1 h1 _ fun w H2 F2 rs2 as2 q2 p2 g2 r2 => k w H2 F2 rs2 as2 q2 (p1.trans p2) (g1.trans g2) r2)
    | false => cases h3 rfl; exact iteF (k _ H1 F1 rs1 as1 h1 p1 g1 rfl)⟩)
theorem et_of_w {t : Bool} (h : EW X s e s1 t) : ET X s e s1 t := fun σ H F rs as hd Q k => WTt.of pw_u.pt (h σ H F rs as hd Q k)
theorem ew_and1 {t : Bool} (h : ET X s a s1 t) : EW X s (.BoolOp .And [a] pos) s1 t := fun σ H F rs as hd Q k => WPt.of (pw_and1 pt_u) (h σ H F rs as hd Q k)
theorem ew_or1 {t : Bool} (h : ET X s a s1 t) : EW X s (.BoolOp .Or [a] pos) s1 t := fun σ H F rs as hd Q k => WPt.of (pw_or1 pt_u) (h σ H F rs as hd Q k)
theorem ew_and {t u : Bool} {rest : List Expr} (h : ET X s a s1 t) (h2 : t = true → EW X s1 (.BoolOp .And (b :: rest) pos) s2 u) (h3 : t = false → s2 = s1 := by intro _; rfl) : EW X s (.BoolOp .And (a :: b :: rest) pos) s2 (t && u) := fun σ H F rs as hd Q k =>
  WPt.of (pw_and pt_u pw_u) (h σ H F rs as hd _ fun H1 F1 rs1 as1 h1 p1 g1 => by
    cases t with
    | true => exact iteT (h2 rfl σ H1 F1 rs1 as1 h1 _ fun H2 F2 rs2 as2 q2 p2 g2 => k H2 F2 rs2 as2 q2 (p1.trans p2) (g1.trans g2))
    | false => cases h3 rfl; exact iteF (k H1 F1 rs1 as1 h1 p1 g1))
theorem ew_or {t u : Bool} {rest : List Expr} (h : ET X s a s1 t) (h2 : t = false → EW X s1 (.BoolOp .Or (b :: rest) pos) s2 u) (h3 : t = true → s2 = s1 := by intro _; rfl) : EW X s (.BoolOp .Or (a :: b :: rest) pos) s2 (t || u) := fun σ H F rs as hd Q k =>
  WPt.of (pw_or pt_u pw_u) (h σ H F rs as hd _ fun H1 F1 rs1 as1 h1 p1 g1 => by
    cases t with
    | false => exact iteF (h2 rfl σ H1 F1 rs1 as1 h1 _ fun H2 F2 rs2 as2 q2 p2 g2 => k H2 F2 rs2 as2 q2 (p1.trans p2) (g1.trans g2))
    | true => cases h3 rfl; exact iteT (k H1 F1 rs1 as1 h1 p1 g1))
theorem ee_if {t : Bool} (h : ET X s c s1 t) (h1 : t = true → EA X s1 a s2 x) (h2 : t = false → EA X s1 b s2 x) : EA X s (.IfExp c a b pos) s2 x := fun σ H F rs as hd Q k =>
  WE.of (pe_ifExp pt_u pe_u pe_u) (h σ H F rs as hd _ fun H1 F1 rs1 as1 q1 p1 g1 => by
    cases t with
    | true => exact iteT (h1 rfl σ H1 F1 rs1 as1 q1 _ fun w H2 F2 rs2 as2 q2 p2 g2 r2 => k w H2 F2 rs2 as2 q2 (p1.trans p2) (g1.trans g2) r2)
    | false => exact iteF (h2 rfl σ H1 F1 rs1 as1 q1 _ fun w H2 F2 rs2 as2 q2 p2 g2 r2 => k w H2 F2 rs2 as2 q2 (p1.trans p2) (g1.trans g2) r2))
theorem ee_chain {op op' : CmpOp} {r r' : R2} {t u : Bool} (ho : OpR X (compareOp op) r) (ho' : OpR X (compareOp op') r') (ha : EA X s a s1 x) (hb : EA X s1 b s2 y) (hr : OpV X s2 r x y (.bl t)) (hc : EA X s2 c s2 z) (hr' : OpV X s2 r' y z (.bl u))
    (hm : lastMarks [op, op'] [b, c] = false := by with_unfolding_all rfl) : EA X s (.Compare a [op, op'] [b, c] pos) s2 (.d (.bl (t && u))) := fun σ H F rs as hd Q k =>
  WE.of (pe_chain ho ho' pe_u pe_u pe_u hm) (ha σ H F rs as hd _ fun v H1 F1 rs1 as1 h1 p1 g1 r1 => hb σ H1 F1 rs1 as1 h1 _ fun w H2 F2 rs2 as2 h2 p2 g2 r2 => hr σ H2 F2 rs2 as2 v w h2 (r1.mono g2.fz p2) r2 _
    fun u' H' F' g sb q => ⟨t, q, by
      obtain ⟨h', g'⟩ := h2.pure g sb
      cases t with
      | true => exact iteT (hc σ H' F' rs2 as2 h' _ fun w' H4 F4 rs4 as4 h4 p4 g4 r4 => hr' σ H4 F4 rs4 as4 w w' h4 ((r2.mono g.fz (refl_pre _)).mono g4.fz p4) r4 Q
          (h4.fin fun u2 H5 F5 rs5 as5 h5 p5 g5 q5 => k u2 H5 F5 rs5 as5 h5 (((p1.trans p2).trans p4).trans p5) ((((g1.trans g2).trans g').trans g4).trans g5) q5))
      | false => exact iteF (k _ H' F' rs2 as2 h' (p1.trans p2) ((g1.trans g2).trans g') rfl)⟩)
theorem et_chain {op op' : CmpOp} {r r' : R2} {t u : Bool} (ho : OpR X (compareOp op) r) (ho' : OpR X (compareOp op') r') (ha : EA X s a s1 x) (hb : EA X s1 b s2 y) (hr : OpV X s2 r x y (.bl t)) (hc : EA X s2 c s2 z) (hr' : OpV X s2 r' y z (.bl u))
    (hm : lastMarks [op, op'] [b, c] = false := by with_unfolding_all rfl) : ET X s (.Compare a [op, op'] [b, c] pos) s2 (t && u) := fun σ H F rs as hd Q k =>
  WTt.of (pt_chain ho ho' pe_u pe_u pe_u hm) (ha σ H F rs as hd _ fun v H1 F1 rs1 as1 h1 p1 g1 r1 => hb σ H1 F1 rs1 as1 h1 _ fun w H2 F2 rs2 as2 h2 p2 g2 r2 => hr σ H2 F2 rs2 as2 v w h2 (r1.mono g2.fz p2) r2 _
    fun u' H' F' g sb q => ⟨t, q, by
      obtain ⟨h', g'⟩ := h2.pure g sb
      cases t with
      | true => exact iteT (hc σ H' F' rs2 as2 h' _ fun w' H4 F4 rs4 as4 h4 p4 g4 r4 => hr' σ H4 F4 rs4 as4 w w' h4 ((r2.mono g.fz (refl_pre _)).mono g4.fz p4) r4 _
          (h4.fin fun u2 H5 F5 rs5 as5 h5 p5 g5 q5 => ⟨u, q5, k H5 F5 rs5 as5 h5 (((p1.trans p2).trans p4).trans p5) ((((g1.trans g2).trans g').trans g4).trans g5)⟩))
      | false => exact iteF ⟨false, rfl, k H' F' rs2 as2 h' (p1.trans p2) ((g1.trans g2).trans g')⟩⟩)
theorem ee_un {op : UnaryOp} {r : V → Hp → VK → Prop} (ho : UnR X (unaryOp op) r) (ha : EA X s a s1 x) (hr : UnV X s1 r x d) : EA X s (.UnaryOp op a pos) s1 (.d d) := fun σ H F rs as hd Q k =>
  WE.of (pe_un ho pe_u) (ha σ H F rs as hd _ fun v H1 F1 rs1 as1 h1 p1 g1 r1 => hr σ H1 F1 rs1 as1 v h1 r1 Q
    (h1.fin fun u H' F' rs' as' h' p' g' q => k u H' F' rs' as' h' (p1.trans p') (g1.trans g') q))
/-! arguments -/
theorem es_nil : EAs X s [] s [] := fun σ H F rs as hd Q k => WA.of pa_nil (k [] H F rs as hd (refl_pre _) (Go.refl _ _ _) rfl)
theorem es_cons (h : EA X s e s1 x) (h2 : EAs X s1 es s2 xs) (hs : starEach (e :: es) X.env = (false, eval e X.env) :: starEach es X.env := by rfl) : EAs X s (e :: es) s2 (x :: xs) := fun σ H F rs as hd Q k =>
  WA.of (pa_cons pe_u pa_u hs) (h σ H F rs as hd _ fun v H1 F1 rs1 as1 h1 p1 g1 r1 => h2 σ H1 F1 rs1 as1 h1 _ fun vs H2 F2 rs2 as2 q2 p2 g2 r2 => k _ H2 F2 rs2 as2 q2 (p1.trans p2) (g1.trans g2) ⟨v, vs, rfl, r1.mono g2.fz p2, r2⟩)
def allD : List Ar → Option (List D)
  | [] => some []
  | .d d :: xs => (allD xs).map (d :: ·)
  | .o _ :: _ => none
theorem allD_reps {K : PySem.W.Frag} : ∀ {xs : List Ar} {ds : List D} {vs : List V}, allD xs = some ds → ArsOk K F rs xs vs → Reps K F ds vs
  | [], _, _, h, a => by cases h; exact a
  | .d d :: xs, _, _, h, ⟨v, ws, e, r, rr⟩ => by
    have h' : (allD xs).map (d :: ·) = some _ := h
    cases q : allD xs with
    | none => rw [q] at h'; cases h'
    | some es => rw [q] at h'; cases h'; exact ⟨v, ws, e, r, allD_reps q rr⟩
  | .o _ :: _, _, _, h, _ => by cases h
theorem ee_tup {x1} (h : EAs X s es s1 xs) (hd : allD xs = some ds := by rfl) (hl : ds.length ≤ 100000 := by first | decide | exact Nat.le_of_ble_eq_true rfl) : EA X s (.Tuple es x1 pos) s1 (.d (.tup ds)) := fun σ H F rs as hd' Q k =>
  WE.of (pe_tup pa_u) (h σ H F rs as hd' _ fun vs H1 F1 rs1 as1 h1 p1 g1 r1 => by
    have rr := allD_reps hd r1
    refine ⟨by rw [rr.len]; exact Nat.le_trans hl (by decide), fun p hp => ?_⟩
    obtain ⟨g, sb⟩ := go_new (o := .tup vs) hp h1.sub
    exact h1.fin (fun u H' F' rs' as' h' p' g' q => k u H' F' rs' as' h' (p1.trans p') (g1.trans g') q) _ _ _ g sb ⟨p, vs, rfl, .inl (.inl upd_same), Reps.mono g.fz _ _ rr⟩)
theorem ea_lst (h : EAs X s es s1 xs) (hd : allD xs = some ds := by rfl) (hl : ds.length ≤ 100000 := by first | decide | exact Nat.le_of_ble_eq_true rfl) : EA X s (.List es pos) (s1.add (.fl ds)) (.o s1.μ.length) := fun σ H F rs as hd' Q k =>
  WE.of (pe_lst pa_u) (h σ H F rs as hd' _ fun vs H1 F1 rs1 as1 h1 p1 g1 r1 => by
    have rr := allD_reps hd r1
    exact ⟨by rw [rr.len]; exact Nat.le_trans hl (by decide), h1.newK rr fun u H' F' rs' as' h' p' g' q => k u H' F' rs' as' h' (p1.trans p') (g1.trans g') q⟩)
theorem ea_callB {id : String} {r : List V → Hp → VK → Prop} (hc : CallR X (.builtin id) r) (hg : Gl X nm) (hm : X.mg nm = none) (hv : bootBuiltins nm = some (.builtin id)) (ha : EAs X s (e :: es) s1 xs) (hr : CaV X s1 r xs d)
    (hn : nm ≠ "__name__" := by decide) (hdb : (nm == ("__debug__" : Str)) = false := by decide) (he : starEach (e :: es) X.env = (false, eval e X.env) :: starEach es X.env := by rfl) (hpl : (backTo pos (starEach es X.env)).any (·.1) = false := by rfl) :
    EA X s (.Call (.Name nm p) (e :: es) [] pos) s1 (.d d) := fun σ H F rs as hd Q k =>
  WE.of (pe_callB hc hg hm hv pa_u hn hdb he hpl) (ha σ H F rs as hd _ fun vs H1 F1 rs1 as1 h1 p1 g1 r1 => hr σ H1 F1 rs1 as1 vs h1 r1 Q
    (h1.fin fun u H' F' rs' as' h' p' g' q => k u H' F' rs' as' h' (p1.trans p') (g1.trans g') q))
theorem ea_callT {T' : String} {r : List V → Hp → VK → Prop} (hc : CallR X (.type T') r) (hg : Gl X nm) (hm : X.mg nm = none) (hv : bootBuiltins nm = some (.type T')) (ha : EAs X s (e :: es) s1 xs) (hr : CaV X s1 r xs d)
    (hn : nm ≠ "__name__" := by decide) (hdb : (nm == ("__debug__" : Str)) = false := by decide) (he : starEach (e :: es) X.env = (false, eval e X.env) :: starEach es X.env := by rfl) (hpl : (backTo pos (starEach es X.env)).any (·.1) = false := by rfl) :
    EA X s (.Call (.Name nm p) (e :: es) [] pos) s1 (.d d) := fun σ H F rs as hd Q k =>
  WE.of (pe_callTy hc hg hm hv pa_u hn hdb he hpl) (ha σ H F rs as hd _ fun vs H1 F1 rs1 as1 h1 p1 g1 r1 => hr σ H1 F1 rs1 as1 vs h1 r1 Q
    (h1.fin fun u H' F' rs' as' h' p' g' q => k u H' F' rs' as' h' (p1.trans p') (g1.trans g') q))
theorem ea_callTL {T' : String} {r : List V → Hp → VK → Prop} (hc : CallR X (.type T') r) (hg : Gl X nm) (hm : X.mg nm = none) (hv : bootBuiltins nm = some (.type T')) (ha : EAs X s (e :: es) s1 xs) (hr : CaL X s1 r xs ds)
    (hn : nm ≠ "__name__" := by decide) (hdb : (nm == ("__debug__" : Str)) = false := by decide) (he : starEach (e :: es) X.env = (false, eval e X.env) :: starEach es X.env := by rfl) (hpl : (backTo pos (starEach es X.env)).any (·.1) = false := by rfl) :
    EA X s (.Call (.Name nm p) (e :: es) [] pos) (s1.add (.fl ds)) (.o s1.μ.length) := fun σ H F rs as hd Q k =>
  WE.of (pe_callTy hc hg hm hv pa_u hn hdb he hpl) (ha σ H F rs as hd _ fun vs H1 F1 rs1 as1 h1 p1 g1 r1 => by
    obtain ⟨ys, ry, q⟩ := hr σ H1 F1 rs1 as1 vs h1 r1
    exact q Q (h1.newK ry fun u H' F' rs' as' h' p' g' q => k u H' F' rs' as' h' (p1.trans p') (g1.trans g') q))
theorem ea_callBL {id : String} {r : List V → Hp → VK → Prop} (hc : CallR X (.builtin id) r) (hg : Gl X nm) (hm : X.mg nm = none) (hv : bootBuiltins nm = some (.builtin id)) (ha : EAs X s (e :: es) s1 xs) (hr : CaL X s1 r xs ds)
    (hn : nm ≠ "__name__" := by decide) (hdb : (nm == ("__debug__" : Str)) = false := by decide) (he : starEach (e :: es) X.env = (false, eval e X.env) :: starEach es X.env := by rfl) (hpl : (backTo pos (starEach es X.env)).any (·.1) = false := by rfl) :
    EA X s (.Call (.Name nm p) (e :: es) [] pos) (s1.add (.fl ds)) (.o s1.μ.length) := fun σ H F rs as hd Q k =>
  WE.of (pe_callB hc hg hm hv pa_u hn hdb he hpl) (ha σ H F rs as hd _ fun vs H1 F1 rs1 as1 h1 p1 g1 r1 => by
    obtain ⟨ys, ry, q⟩ := hr σ H1 F1 rs1 as1 vs h1 r1
    exact q Q (h1.newK ry fun u H' F' rs' as' h' p' g' q => k u H' F' rs' as' h' (p1.trans p') (g1.trans g') q))
/-! subscripts, slices -/
theorem ee_ix {r : R2} (hr0 : IxR X r) (ha : EA X s a s1 x) (hb : EA X s1 b s2 y) (hr : OpV X s2 r x y d) (hs : PlainIx b := by exact fun _ _ => rfl) : EA X s (.Subscript a b pos) s2 (.d d) := fun σ H F rs as hd Q k =>
  WE.of (pe_ix hr0 pe_u pe_u hs) (ha σ H F rs as hd _ fun v H1 F1 rs1 as1 h1 p1 g1 r1 => hb σ H1 F1 rs1 as1 h1 _ fun w H2 F2 rs2 as2 h2 p2 g2 r2 => hr σ H2 F2 rs2 as2 v w h2 (r1.mono g2.fz p2) r2 Q
    (h2.fin fun u H' F' rs' as' h' p' g' q => k u H' F' rs' as' h' ((p1.trans p2).trans p') ((g1.trans g2).trans g') q))
def WO (X : Cx) (o : Option Expr) : TO := fun σ H Q => ∀ t : TO, (∀ (e : Expr), o = some e → ∀ σ H Q, (WE X e σ H fun v H1 => ∃ i, v = .int i ∧ Q (some i) H1) → t σ H Q) → (o = none → ∀ σ H Q, Q none H → t σ H Q) → t σ H Q
/-- a part of a slice -/
def EP (X : Cx) (s : S) (o : Option Expr) (s' : S) (i : Option Int) : Prop := ∃ t : TO, PO X o t ∧ ∀ σ H F rs as, Hd X.K σ H F rs as s → ∀ Q : Option Int → Hp → Prop,
  (∀ H' F' rs' as', Hd X.K σ H' F' rs' as' s' → rs <+: rs' → Go as.flatten as'.flatten F H F' H' → Q i H') → t σ H Q
theorem ep_none : EP X s none s none := ⟨_, po_none, fun σ H F rs as hd Q k => k H F rs as hd (refl_pre _) (Go.refl _ _ _)⟩
theorem ep_some {i : Int} (h : EA X s e s1 (.d (.int i))) : EP X s (some e) s1 (some i) := ⟨_, po_some pe_u, fun σ H F rs as hd Q k => h σ H F rs as hd _ fun v H1 F1 rs1 as1 h1 p1 g1 r1 => ⟨i, r1, k H1 F1 rs1 as1 h1 p1 g1⟩⟩
def SlV (X : Cx) (s : S) (r : V → Option Int → Option Int → Hp → VK → Prop) (x : Ar) (lo hi : Option Int) (d : D) : Prop := ∀ σ H F rs as v, Hd X.K σ H F rs as s → ArOk X.K F rs x v → ∀ Q : VK,
  (∀ u H' F', Go [] [] F H F' H' → Same F' H' → Rep X.K F' d u → Q u H') → r v lo hi H Q
def SlL (X : Cx) (s : S) (r : V → Option Int → Option Int → Hp → VK → Prop) (x : Ar) (lo hi : Option Int) (ds : List D) : Prop := ∀ σ H F rs as v, Hd X.K σ H F rs as s → ArOk X.K F rs x v → ∃ ys, Reps X.K F ds ys ∧ ∀ Q : VK,
  (∀ p, H p = none → Q (.ref p) (upd H p (.lst ys))) → r v lo hi H Q
theorem ee_sl {r : V → Option Int → Option Int → Hp → VK → Prop} {lo hi : Option Expr} {i j : Option Int} {p2 : Pos} (hr0 : SlR X r) (ha : EA X s a s1 x) (hl : EP X s1 lo s2 i) (hu : EP X s2 hi s3 j) (hr : SlV X s3 r x i j d) :
    EA X s (.Subscript a (.Slice lo hi none p2) pos) s3 (.d d) := fun σ H F rs as hd Q k => by
  obtain ⟨tl, pl, ql⟩ := hl
  obtain ⟨tu, pu, qu⟩ := hu
  exact WE.of (pe_slice hr0 pe_u pl pu) (ha σ H F rs as hd _ fun v H1 F1 rs1 as1 h1 p1 g1 r1 => ql σ H1 F1 rs1 as1 h1 _ fun H2 F2 rs2 as2 h2 p2 g2 => qu σ H2 F2 rs2 as2 h2 _ fun H3 F3 rs3 as3 h3 p3 g3 => hr σ H3 F3 rs3 as3 v h3 ((r1.mono g2.fz p2).mono g3.fz p3) Q
    (h3.fin fun u H' F' rs' as' h' p' g' q => k u H' F' rs' as' h' (((p1.trans p2).trans p3).trans p') (((g1.trans g2).trans g3).trans g') q))
theorem ea_slL {r : V → Option Int → Option Int → Hp → VK → Prop} {lo hi : Option Expr} {i j : Option Int} {p2 : Pos} (hr0 : SlR X r) (ha : EA X s a s1 x) (hl : EP X s1 lo s2 i) (hu : EP X s2 hi s3 j) (hr : SlL X s3 r x i j ds) :
    EA X s (.Subscript a (.Slice lo hi none p2) pos) (s3.add (.fl ds)) (.o s3.μ.length) := fun σ H F rs as hd Q k => by
  obtain ⟨tl, pl, ql⟩ := hl
  obtain ⟨tu, pu, qu⟩ := hu
  exact WE.of (pe_slice hr0 pe_u pl pu) (ha σ H F rs as hd _ fun v H1 F1 rs1 as1 h1 p1 g1 r1 => ql σ H1 F1 rs1 as1 h1 _ fun H2 F2 rs2 as2 h2 p2 g2 => qu σ H2 F2 rs2 as2 h2 _ fun H3 F3 rs3 as3 h3 p3 g3 => by
    obtain ⟨ys, ry, q⟩ := hr σ H3 F3 rs3 as3 v h3 ((r1.mono g2.fz p2).mono g3.fz p3)
    exact q Q (h3.newK ry fun u H' F' rs' as' h' p' g' q => k u H' F' rs' as' h' (((p1.trans p2).trans p3).trans p') (((g1.trans g2).trans g3).trans g') q))
end
end Q
namespace Q
open PySem L2

/-! ### data that can be compared -/
mutual
def D.py : D → PyData
  | .non => .none
  | .bl b => .bool b
  | .int i => .int i
  | .str l => .str (mk l)
  | .lst ds => .list (D.pys ds)
  | .tup ds => .tuple (D.pys ds)
  | .rl ds => .list (D.pys ds)
  | .ins _ _ _ => .none
  | .val _ => .none
def D.pys : List D → List PyData
  | [] => []
  | d :: ds => d.py :: D.pys ds
end
/-- no instances, no truths; nested to n at most -/
def Dk : Nat → D → Prop
  | _, .non => True
  | _, .int _ => True
  | _, .str l => ∀ c ∈ l, c < 0x110000
  | n + 1, .lst ds => ∀ d ∈ ds, Dk n d
  | n + 1, .tup ds => ∀ d ∈ ds, Dk n d
  | _, _ => False
theorem pys_map : ∀ ds : List D, D.pys ds = ds.map D.py
  | [] => rfl
  | d :: ds => by show d.py :: D.pys ds = _; rw [pys_map ds]; rfl
section
variable {K : PySem.W.Frag} {F : Hp}
theorem dk_all {n : Nat} (ih : ∀ (d : D), Dk n d → d.py.canLay0 = true ∧ d.py.depth ≤ n) : ∀ ds : List D, (∀ d ∈ ds, Dk n d) → PyData.canLayAll0 (D.pys ds) = true ∧ PyData.depthAll (D.pys ds) ≤ n
  | [], _ => ⟨rfl, Nat.zero_le _⟩
  | d :: ds, h => by
    obtain ⟨a, b⟩ := ih d (h d List.mem_cons_self)
    obtain ⟨a', b'⟩ := dk_all ih ds fun e he => h e (List.mem_cons_of_mem _ he)
    refine ⟨?_, ?_⟩
    · show (d.py.canLay0 && PyData.canLayAll0 (D.pys ds)) = true
      rw [a, a']; rfl
    · show max d.py.depth (PyData.depthAll (D.pys ds)) ≤ n
      omega
theorem strOk_mk {l : List Nat} (h : ∀ c ∈ l, c < 0x110000) : PyData.canLay0 (.str (mk l)) = true := by
  show ((mk l).cps.all fun c => decide (c < 0x110000)) = true
  rw [← Array.all_toList, mk_cps, List.all_eq_true]
  exact fun c hc => decide_eq_true (h c hc)
theorem Dk.shape : ∀ (n : Nat) (d : D), Dk n d → d.py.canLay0 = true ∧ d.py.depth ≤ n
  | n, .non, _ => ⟨rfl, Nat.zero_le _⟩
  | n, .int _, _ => ⟨rfl, Nat.zero_le _⟩
  | n, .str l, h => ⟨strOk_mk (by cases n <;> exact h), Nat.zero_le _⟩
  | n + 1, .lst ds, h => by
    obtain ⟨a, b⟩ := dk_all (Dk.shape n) ds h
    exact ⟨a, Nat.succ_le_succ b⟩
  | n + 1, .tup ds, h => by
    obtain ⟨a, b⟩ := dk_all (Dk.shape n) ds h
    exact ⟨a, Nat.succ_le_succ b⟩
  | n, .bl _, h => by cases n <;> exact h.elim
  | 0, .lst _, h => h.elim
  | 0, .tup _, h => h.elim
  | n, .rl _, h => by cases n <;> exact h.elim
  | n, .ins _ _ _, h => by cases n <;> exact h.elim
  | n, .val _, h => by cases n <;> exact h.elim
theorem Dk.shaped {n : Nat} {d : D} (h : Dk n d) (hn : n ≤ 64) : SeqAt.shaped d.py = true := by
  obtain ⟨a, b⟩ := Dk.shape n d h
  show (_ && decide _) = true
  rw [a, decide_eq_true (Nat.le_trans b hn)]; rfl
theorem dk_reps {n : Nat} (ih : ∀ (d : D) (v : V), Dk n d → Rep K F d v → Dp K F v d.py) : ∀ (ds : List D) (vs : List V), (∀ d ∈ ds, Dk n d) → Reps K F ds vs → DpAll K F vs (D.pys ds)
  | [], _, _, h => by cases h; exact .nil
  | d :: ds, _, hk, ⟨v, ws, e, h1, h2⟩ => by
    cases e
    exact .cons (ih d v (hk d List.mem_cons_self) h1) (dk_reps ih ds ws (fun e he => hk e (List.mem_cons_of_mem _ he)) h2)
theorem Dk.dp : ∀ (n : Nat) (d : D) (v : V), Dk n d → Rep K F d v → Dp K F v d.py
  | n, .non, _, _, h => by cases h; exact .non
  | n, .int _, _, _, h => by cases h; exact .int _
  | n, .str l, _, _, h => by cases h; exact .str _
  | n + 1, .lst ds, _, hk, ⟨a, xs, e, h, r⟩ => by cases e; exact .lst (.of h) (dk_reps (Dk.dp n) ds xs hk r)
  | n + 1, .tup ds, _, hk, ⟨a, xs, e, h, r⟩ => by cases e; exact .tup h (dk_reps (Dk.dp n) ds xs hk r)
  | n, .bl _, _, h, _ => by cases n <;> exact h.elim
  | 0, .lst _, _, h, _ => h.elim
  | 0, .tup _, _, h, _ => h.elim
  | n, .rl _, _, h, _ => by cases n <;> exact h.elim
  | n, .ins _ _ _, _, h, _ => by cases n <;> exact h.elim
  | n, .val _, _, h, _ => by cases n <;> exact h.elim
theorem eqv_alls {n : Nat} (ih : ∀ (d e : D), Dk n d → Dk n e → (PyData.eqv d.py e.py = true ↔ d = e)) : ∀ (ds es : List D), (∀ d ∈ ds, Dk n d) → (∀ d ∈ es, Dk n d) → (PyData.eqvAll (D.pys ds) (D.pys es) = true ↔ ds = es)
  | [], [], _, _ => ⟨fun _ => rfl, fun _ => rfl⟩
  | [], _ :: _, _, _ => ⟨fun h => (by cases h), fun h => (by cases h)⟩
  | _ :: _, [], _, _ => ⟨fun h => (by cases h), fun h => (by cases h)⟩
  | d :: ds, e :: es, h1, h2 => by
    show (PyData.eqv d.py e.py && PyData.eqvAll (D.pys ds) (D.pys es)) = true ↔ _
    rw [Bool.and_eq_true, ih d e (h1 d List.mem_cons_self) (h2 e List.mem_cons_self), eqv_alls ih ds es (fun x hx => h1 x (List.mem_cons_of_mem _ hx)) (fun x hx => h2 x (List.mem_cons_of_mem _ hx)), List.cons.injEq]
theorem Dk.eqv : ∀ (n : Nat) (d e : D), Dk n d → Dk n e → (PyData.eqv d.py e.py = true ↔ d = e)
  | n, .non, e, _, h => by
    cases e with
    | non => exact ⟨fun _ => rfl, fun _ => rfl⟩
    | _ => exact ⟨fun z => (by first | (cases n <;> exact h.elim) | (cases z)), fun z => (by cases z)⟩
  | n, .int i, e, _, h => by
    cases e with
    | int j => exact ⟨fun z => by rw [eq_of_beq (show (i == j) = true from z)], fun z => by cases z; show (i == i) = true; exact beq_self_eq_true i⟩
    | _ => exact ⟨fun z => (by first | (cases n <;> exact h.elim) | (cases z)), fun z => (by cases z)⟩
  | n, .str l, e, _, h => by
    cases e with
    | str m => exact ⟨fun z => by rw [mk_inj (eq_of_beq (show (mk l == mk m) = true from z))], fun z => by cases z; show (mk l == mk l) = true; exact beq_self_eq_true _⟩
    | _ => exact ⟨fun z => (by first | (cases n <;> exact h.elim) | (cases z)), fun z => (by cases z)⟩
  | n + 1, .lst ds, e, hd, h => by
    cases e with
    | lst es =>
      have q := eqv_alls (Dk.eqv n) ds es hd h
      exact ⟨fun z => by rw [q.mp z], fun z => by cases z; exact q.mpr rfl⟩
    | _ => exact ⟨fun z => (by first | exact h.elim | (cases z)), fun z => (by cases z)⟩
  | n + 1, .tup ds, e, hd, h => by
    cases e with
    | tup es =>
      have q := eqv_alls (Dk.eqv n) ds es hd h
      exact ⟨fun z => by rw [q.mp z], fun z => by cases z; exact q.mpr rfl⟩
    | _ => exact ⟨fun z => (by first | exact h.elim | (cases z)), fun z => (by cases z)⟩
  | n, .bl _, _, h, _ => by cases n <;> exact h.elim
  | 0, .lst _, _, h, _ => h.elim
  | 0, .tup _, _, h, _ => h.elim
  | n, .rl _, _, h, _ => by cases n <;> exact h.elim
  | n, .ins _ _ _, _, h, _ => by cases n <;> exact h.elim
  | n, .val _, _, h, _ => by cases n <;> exact h.elim
end

theorem go0 {F H : Hp} : Go [] [] F H F H := Go.refl [] F H
section
variable {X : Cx} {s : S} {x y : Ar} {d e : D} {ds es : List D} {i j : Int} {l m : List Nat} {t : Bool}
/-! ### numbers -/
theorem ov_I {C : Int → Int → Prop} {g : Int → Int → V} (hc : C i j) (hg : ∀ F, Rep X.K F d (g i j)) : OpV X s (rI C g) (.d (.int i)) (.d (.int j)) d := fun σ H F rs as v w hd a b Q k => by
  cases a; cases b
  exact ⟨i, j, rfl, rfl, hc, k _ H F go0 hd.sub (hg F)⟩
theorem ov_I0 {g : Int → Int → V} (hg : ∀ F, Rep X.K F d (g i j)) : OpV X s (rI0 g) (.d (.int i)) (.d (.int j)) d := fun σ H F rs as v w hd a b Q k => by
  cases a; cases b
  exact ⟨i, j, rfl, rfl, k _ H F go0 hd.sub (hg F)⟩
theorem ov_add : OpV X s (rI0 fun i j => .int (i + j)) (.d (.int i)) (.d (.int j)) (.int (i + j)) := ov_I0 fun _ => rfl
theorem ov_sub : OpV X s (rI0 fun i j => .int (i - j)) (.d (.int i)) (.d (.int j)) (.int (i - j)) := ov_I0 fun _ => rfl
theorem ov_mod (h : 0 < j) : OpV X s (rI (fun _ j => 0 < j) fun i j => .int (i % j)) (.d (.int i)) (.d (.int j)) (.int (i % j)) := ov_I h fun _ => rfl
theorem ov_div (h : 0 < j ∧ j < 1073741824) : OpV X s (rI CDiv fun i j => .int (i / j)) (.d (.int i)) (.d (.int j)) (.int (i / j)) := ov_I h fun _ => rfl
theorem ov_mul (h : (-(2 ^ 64) < i ∧ i < 2 ^ 64) ∨ (-(2 ^ 64) < j ∧ j < 2 ^ 64)) : OpV X s (rI CMul fun i j => .int (i * j)) (.d (.int i)) (.d (.int j)) (.int (i * j)) := ov_I h fun _ => rfl
theorem ov_lt : OpV X s (rI0 fun i j => .bl (decide (i < j))) (.d (.int i)) (.d (.int j)) (.bl (decide (i < j))) := ov_I0 fun _ => rfl
theorem ov_le : OpV X s (rI0 fun i j => .bl (decide (i ≤ j))) (.d (.int i)) (.d (.int j)) (.bl (decide (i ≤ j))) := ov_I0 fun _ => rfl
theorem ov_gt : OpV X s (rI0 fun i j => .bl (decide (j < i))) (.d (.int i)) (.d (.int j)) (.bl (decide (j < i))) := ov_I0 fun _ => rfl
theorem ov_ge : OpV X s (rI0 fun i j => .bl (decide (j ≤ i))) (.d (.int i)) (.d (.int j)) (.bl (decide (j ≤ i))) := ov_I0 fun _ => rfl
theorem op_powW : OpR X (binaryOp .Pow) (rI (fun i j => 0 ≤ j ∧ (Builtin.Int.intBits i : Int) * j ≤ 2 ^ 27) fun i j => .int (i ^ j.toNat)) := opI fun _ _ _ _ _ _ _ hc q => PyProof.Rows.pow_int hc.1 hc.2 q
theorem uv_neg : UnV X s (rU fun i => .int (-i)) (.d (.int i)) (.int (-i)) := fun σ H F rs as v hd a Q k => by
  cases a
  exact ⟨i, rfl, k _ H F go0 hd.sub rfl⟩
/-! ### == of flat things -/
theorem ov_eqI : OpV X s rEq (.d (.int i)) (.d (.int j)) (.bl (decide (i = j))) := fun σ H F rs as v w hd a b Q k => by
  cases a; cases b
  refine ⟨rfl, k _ H F go0 hd.sub ?_⟩
  show V.bl _ = V.bl _
  congr 1
  exact decide_eq_decide.mpr ⟨fun z => V.int.inj z, fun z => by rw [z]⟩
theorem ov_neI : OpV X s rNe (.d (.int i)) (.d (.int j)) (.bl (!decide (i = j))) := fun σ H F rs as v w hd a b Q k => by
  cases a; cases b
  refine ⟨rfl, k _ H F go0 hd.sub ?_⟩
  show V.bl _ = V.bl _
  congr 2
  exact decide_eq_decide.mpr ⟨fun z => V.int.inj z, fun z => by rw [z]⟩
theorem ov_eqS : OpV X s rEq (.d (.str l)) (.d (.str m)) (.bl (decide (l = m))) := fun σ H F rs as v w hd a b Q k => by
  cases a; cases b
  refine ⟨rfl, k _ H F go0 hd.sub ?_⟩
  show V.bl _ = V.bl _
  congr 1
  exact decide_eq_decide.mpr ⟨fun z => mk_inj (V.str.inj z), fun z => by rw [z]⟩
theorem ov_neS : OpV X s rNe (.d (.str l)) (.d (.str m)) (.bl (!decide (l = m))) := fun σ H F rs as v w hd a b Q k => by
  cases a; cases b
  refine ⟨rfl, k _ H F go0 hd.sub ?_⟩
  show V.bl _ = V.bl _
  congr 2
  exact decide_eq_decide.mpr ⟨fun z => mk_inj (V.str.inj z), fun z => by rw [z]⟩
/-! ### == of any data -/
theorem ov_eqD {n : Nat} (hx : Dt s x d) (hy : Dt s y e) (kd : Dk n d) (ke : Dk n e) (hn : n ≤ 64 := by decide) (ht : t = true ↔ d = e) : OpV X s (rEqD X.K) x y (.bl t) := fun σ H F rs as v w hd a b Q k => by
  refine ⟨d.py, e.py, Dk.dp n d v kd (hx.get hd a), Dk.dp n e w ke (hy.get hd b), kd.shaped hn, ke.shaped hn, k _ H F go0 hd.sub ?_⟩
  show V.bl _ = V.bl _
  congr 1
  have q := Dk.eqv n d e kd ke
  rw [← ht] at q
  cases t with
  | true => exact q.mpr rfl
  | false => exact Bool.eq_false_iff.mpr fun z => nomatch q.mp z
theorem ov_neD {n : Nat} (hx : Dt s x d) (hy : Dt s y e) (kd : Dk n d) (ke : Dk n e) (hn : n ≤ 64 := by decide) (ht : t = true ↔ d = e) : OpV X s (rNeD X.K) x y (.bl (!t)) := fun σ H F rs as v w hd a b Q k => by
  refine ⟨d.py, e.py, Dk.dp n d v kd (hx.get hd a), Dk.dp n e w ke (hy.get hd b), kd.shaped hn, ke.shaped hn, k _ H F go0 hd.sub ?_⟩
  show V.bl _ = V.bl _
  congr 2
  have q := Dk.eqv n d e kd ke
  rw [← ht] at q
  cases t with
  | true => exact q.mpr rfl
  | false => exact Bool.eq_false_iff.mpr fun z => nomatch q.mp z
theorem any_eqv {n : Nat} (kd : Dk n d) : ∀ ds : List D, (∀ z ∈ ds, Dk n z) → ((D.pys ds).any (fun z => PyData.eqv z d.py) = true ↔ d ∈ ds)
  | [], _ => ⟨fun h => (Bool.false_ne_true h).elim, fun h => nomatch h⟩
  | z :: ds, h => by
    show (PyData.eqv z.py d.py || (D.pys ds).any _) = true ↔ _
    rw [Bool.or_eq_true, Dk.eqv n z d (h z List.mem_cons_self) kd, any_eqv kd ds fun y hy => h y (List.mem_cons_of_mem _ hy), List.mem_cons]
    exact or_congr ⟨Eq.symm, Eq.symm⟩ Iff.rfl
theorem ov_inD {n : Nat} (hx : Dt s x d) (hy : Dt s y (.lst ds)) (kd : Dk n d) (ke : ∀ z ∈ ds, Dk n z) (hn : n ≤ 60 := by decide) (ht : t = true ↔ d ∈ ds) : OpV X s (rInD X.K) x y (.bl t) := fun σ H F rs as v w hd a b Q k => by
  have kl : Dk (n + 1) (.lst ds) := ke
  refine ⟨d.py, D.pys ds, Dk.dp n d v kd (hx.get hd a), Dk.dp (n + 1) _ w kl (hy.get hd b), kd.shaped (by omega), kl.shaped (by omega), k _ H F go0 hd.sub ?_⟩
  show V.bl _ = V.bl _
  congr 1
  have q := any_eqv kd ds ke
  rw [← ht] at q
  cases t with
  | true => exact q.mpr rfl
  | false => exact Bool.eq_false_iff.mpr fun z => nomatch q.mp z
theorem ov_niD {n : Nat} (hx : Dt s x d) (hy : Dt s y (.lst ds)) (kd : Dk n d) (ke : ∀ z ∈ ds, Dk n z) (hn : n ≤ 60 := by decide) (ht : t = true ↔ d ∈ ds) : OpV X s (rNotInD X.K) x y (.bl (!t)) := fun σ H F rs as v w hd a b Q k => by
  have kl : Dk (n + 1) (.lst ds) := ke
  refine ⟨d.py, D.pys ds, Dk.dp n d v kd (hx.get hd a), Dk.dp (n + 1) _ w kl (hy.get hd b), kd.shaped (by omega), kl.shaped (by omega), k _ H F go0 hd.sub ?_⟩
  show V.bl _ = V.bl _
  congr 2
  have q := any_eqv kd ds ke
  rw [← ht] at q
  cases t with
  | true => exact q.mpr rfl
  | false => exact Bool.eq_false_iff.mpr fun z => nomatch q.mp z
/-! ### is None -/
theorem ov_isN (h : t = true ↔ d = .non) (hv : ∀ w, d ≠ .val w := by intro _ z; cases z) : OpV X s (fun x y H Q => y = .non ∧ Q (.bl (decide (x = .non))) H) (.d d) (.d .non) (.bl t) := fun σ H F rs as v w hd a b Q k => by
  cases b
  refine ⟨rfl, k _ H F go0 hd.sub ?_⟩
  show V.bl _ = V.bl _
  congr 1
  have a : Rep X.K F d v := a
  cases t with
  | true => have e := h.mp rfl; subst e; cases a; rfl
  | false =>
    refine decide_eq_false fun z => ?_
    subst z
    cases d with
    | non => exact absurd (h.mpr rfl) Bool.false_ne_true
    | bl _ => cases a
    | int _ => cases a
    | str _ => cases a
    | lst _ => obtain ⟨_, _, e, _⟩ := a; cases e
    | tup _ => obtain ⟨_, _, e, _⟩ := a; cases e
    | rl _ => obtain ⟨_, _, e, _⟩ := a; cases e
    | ins _ _ _ => obtain ⟨_, _, _, e, _⟩ := a; cases e
    | val w => exact absurd rfl (hv w)
/-! ### texts -/
theorem ov_cat (h : l.length + m.length ≤ 16777216) : OpV X s (fun x y H Q => ∃ i j, x = .str i ∧ y = .str j ∧ i.length + j.length ≤ sizeLine ∧ Q (.str (i ++ j)) H) (.d (.str l)) (.d (.str m)) (.str (l ++ m)) := fun σ H F rs as v w hd a b Q k => by
  cases a; cases b
  refine ⟨_, _, rfl, rfl, ?_, k _ H F go0 hd.sub ?_⟩
  · rw [mk_len, mk_len]; exact h
  · show V.str _ = V.str _
    congr 1
    show (⟨(mk l).cps ++ (mk m).cps⟩ : Str) = ⟨(l ++ m).toArray⟩
    simp [mk]
theorem ov_inC {c : Nat} : OpV X s (fun x y H Q => ∃ (c : Nat) (z : Str), x = .str ⟨#[c]⟩ ∧ y = .str z ∧ Q (.bl (decide (c ∈ z.cps.toList))) H) (.d (.str [c])) (.d (.str l)) (.bl (decide (c ∈ l))) := fun σ H F rs as v w hd a b Q k => by
  cases a; cases b
  refine ⟨c, _, rfl, rfl, k _ H F go0 hd.sub ?_⟩
  show V.bl _ = V.bl _
  rw [mk_cps]
theorem ov_niC {c : Nat} : OpV X s (fun x y H Q => ∃ (c : Nat) (z : Str), x = .str ⟨#[c]⟩ ∧ y = .str z ∧ Q (.bl (!decide (c ∈ z.cps.toList))) H) (.d (.str [c])) (.d (.str l)) (.bl (!decide (c ∈ l))) := fun σ H F rs as v w hd a b Q k => by
  cases a; cases b
  refine ⟨c, _, rfl, rfl, k _ H F go0 hd.sub ?_⟩
  show V.bl _ = V.bl _
  rw [mk_cps]
theorem ov_leS : OpV X s (fun x y H Q => ∃ i j, x = .str i ∧ y = .str j ∧ Q (.bl (!decide (j.cps.toList < i.cps.toList))) H) (.d (.str l)) (.d (.str m)) (.bl (!decide (m < l))) := fun σ H F rs as v w hd a b Q k => by
  cases a; cases b
  refine ⟨_, _, rfl, rfl, k _ H F go0 hd.sub ?_⟩
  show V.bl _ = V.bl _
  rw [mk_cps, mk_cps]
theorem flat_strs : ∀ ls : List (List Nat), ((ls.map mk).map V.str).all flatV = true
  | [] => rfl
  | _ :: ls => flat_strs ls
theorem inV_strs : ∀ ls : List (List Nat), inV (.str (mk l)) ((ls.map mk).map V.str) = decide (l ∈ ls)
  | [] => by simp [inV]
  | z :: ls => by
    show (eqV (.str (mk z)) (.str (mk l)) || inV (.str (mk l)) ((ls.map mk).map V.str)) = _
    rw [inV_strs ls]
    show ((mk z == mk l) || _) = _
    by_cases h : l = z
    · subst h; simp
    · have h2 : mk z ≠ mk l := fun q => h (mk_inj q).symm
      simp [h, h2]
theorem ov_inS {ls : List (List Nat)} (h : Sq s y ds) (e : ds = ls.map D.str := by rfl) : OpV X s (rIn X.K false) (.d (.str l)) y (.bl (decide (l ∈ ls))) := fun σ H F rs as v w hd a b Q k => by
  cases a
  obtain ⟨p, xs, rfl, q, r⟩ := h.get hd b
  subst e
  cases r.strs
  refine ⟨p, _, rfl, q, rfl, flat_strs ls, ?_⟩
  rw [if_neg Bool.false_ne_true, inV_strs]
  exact k _ H F go0 hd.sub rfl
theorem mul_strR : OpR X (binaryOp .Mult) (fun x y H Q => ∃ z i, x = .str z ∧ y = .int i ∧ 0 ≤ i ∧ z.length * i.toNat ≤ 16777216 ∧ i < 2 ^ 30 ∧ Q (.str (mk (List.replicate i.toNat z.cps.toList).flatten)) H) := by
  intro pins s σ H x y v u Q I rx ry h
  obtain ⟨z, i, rfl, rfl, h0, hz, hi, q⟩ := h
  obtain ⟨t, rfl⟩ := rx
  obtain ⟨t2, rfl⟩ := ry
  have fold : ∀ k : Nat, ((List.replicate k z.cps).foldl (· ++ ·) #[]) = (List.replicate k z.cps.toList).flatten.toArray := by
    intro k
    have gen : ∀ (k : Nat) (acc : Array Nat), ((List.replicate k z.cps).foldl (· ++ ·) acc) = acc ++ (List.replicate k z.cps.toList).flatten.toArray := by
      intro k
      induction k with
      | zero => intro acc; simp
      | succ k ih =>
        intro acc
        rw [List.replicate_succ, List.foldl_cons, ih, List.replicate_succ, List.flatten_cons]
        apply Array.ext'
        simp
    rw [gen]; simp
  refine PySem.P.mul_str ?_ (fun h1 _ => ?_) (fun h1 _ => ?_) ?_
  · rw [decide_eq_false (by omega), decide_eq_false (by omega)]; rfl
  · have hpos : 0 < i := by omega
    have h2 : (z.length : Int) ≤ 16777216 := by
      have h3 : z.length * 1 ≤ z.length * i.toNat := Nat.mul_le_mul_left _ (by omega)
      omega
    have h4 : (16777216 : Int) ≤ (2 ^ 63 - 1) / i := by
      rw [Int.le_ediv_iff_mul_le hpos]
      omega
    omega
  · show decide _ = false
    exact decide_eq_false (Nat.not_lt.mpr hz)
  · by_cases h1 : i < 1
    · have : i = 0 := by omega
      subst this
      rw [if_pos (by decide)]
      exact ⟨by decide, ⟨.str _, _, I.tok _, ⟨_, rfl⟩, q⟩⟩
    · rw [if_neg h1]
      by_cases hc : (i == 1 || z.length == 0) = true
      · rw [if_pos hc]
        refine ⟨.str _, H, I, ⟨t, ?_⟩, q⟩
        rcases (Bool.or_eq_true _ _).mp hc with e | e
        · have e1 : i = 1 := eq_of_beq e
          subst e1
          show Value.str z t = _
          congr 1
          rw [show (1 : Int).toNat = 1 from rfl]
          simp [mk]
        · have e1 : z.length = 0 := eq_of_beq e
          have e2 : z.cps = #[] := Array.eq_empty_of_size_eq_zero e1
          show Value.str z t = _
          congr 1
          cases z with
          | mk cps =>
            simp only at e2
            subst e2
            simp [mk]
      · rw [if_neg hc, fold]
        have hl : (List.replicate i.toNat z.cps.toList).flatten.length ≤ sizeLine := by
          simp only [List.length_flatten, List.map_replicate, List.sum_replicate_nat, Array.length_toList]
          have : i.toNat * z.cps.size = z.length * i.toNat := Nat.mul_comm _ _
          rw [this]; exact hz
        exact ⟨by show (List.replicate i.toNat z.cps.toList).flatten.toArray.size ≤ _; rw [List.size_toArray]; exact hl, ⟨.str _, _, I.tok _, ⟨_, rfl⟩, q⟩⟩
theorem ov_repS {k : Nat} (hk : i = (k : Int)) (hz : l.length * k ≤ 16777216) (h2 : k < 1073741824) : OpV X s (fun x y H Q => ∃ z i, x = .str z ∧ y = .int i ∧ 0 ≤ i ∧ z.length * i.toNat ≤ 16777216 ∧ i < 2 ^ 30 ∧ Q (.str (mk (List.replicate i.toNat z.cps.toList).flatten)) H) (.d (.str l)) (.d (.int i)) (.str (List.replicate k l).flatten) := fun σ H F rs as v w hd a b Q q => by
  cases a; cases b
  subst hk
  refine ⟨_, _, rfl, rfl, by omega, by rw [mk_len]; exact hz, by omega, q _ H F go0 hd.sub ?_⟩
  rw [mk_cps]; rfl
/-! ### len and its like -/
theorem ca_len (h : Sq s x ds) : CaV X s (fun xs H Q => ∃ p ys, xs = [.ref p] ∧ (SqL X.K H p ys ∨ SqT X.K H p ys) ∧ Q (.int ys.length) H) [x] (.int (ds.length : Int)) := fun σ H F rs as vs hd ⟨v, ws, e, a, e2⟩ Q k => by
  subst e2 e
  obtain ⟨p, xs, rfl, q, r⟩ := h.get hd a
  exact ⟨p, xs, rfl, q, k _ H F go0 hd.sub (by show V.int _ = V.int _; rw [r.len])⟩
theorem ca_lenS (h : l.length ≤ 16777216) : CaV X s (fun xs H Q => ∃ z, xs = [.str z] ∧ z.length ≤ sizeLine ∧ Q (.int z.length) H) [.d (.str l)] (.int (l.length : Int)) := fun σ H F rs as vs hd ⟨v, ws, e, a, e2⟩ Q k => by
  subst e2 e
  cases a
  exact ⟨_, rfl, by rw [mk_len]; exact h, k _ H F go0 hd.sub (by show V.int _ = V.int _; rw [mk_len])⟩
theorem ca_intB {b : Bool} : CaV X s (fun xs H Q => (∃ i, xs = [.int i] ∧ Q (.int i) H) ∨ ∃ k, xs = [.bl k] ∧ Q (.int (if k then 1 else 0)) H) [.d (.bl b)] (.int (if b then 1 else 0)) := fun σ H F rs as vs hd ⟨v, ws, e, a, e2⟩ Q k => by
  subst e2 e
  cases a
  exact .inr ⟨b, rfl, k _ H F go0 hd.sub rfl⟩
theorem ca_max : CaV X s (fun xs H Q => ∃ i j, xs = [.int i, .int j] ∧ Q (.int (if j > i then j else i)) H) [.d (.int i), .d (.int j)] (.int (max i j)) := fun σ H F rs as vs hd ⟨v, ws, e, a, v2, ws2, e3, a2, e2⟩ Q k => by
  subst e2 e3 e
  cases a; cases a2
  refine ⟨i, j, rfl, k _ H F go0 hd.sub ?_⟩
  show V.int _ = V.int _
  congr 1
  split <;> omega
theorem ca_min : CaV X s (fun xs H Q => ∃ i j, xs = [.int i, .int j] ∧ Q (.int (if j < i then j else i)) H) [.d (.int i), .d (.int j)] (.int (min i j)) := fun σ H F rs as vs hd ⟨v, ws, e, a, v2, ws2, e3, a2, e2⟩ Q k => by
  subst e2 e3 e
  cases a; cases a2
  refine ⟨i, j, rfl, k _ H F go0 hd.sub ?_⟩
  show V.int _ = V.int _
  congr 1
  split <;> omega
theorem ca_sum {is : List Int} (h : Ls s x ds) (e : ds = is.map D.int := by rfl) : CaV X s (rSum X.K) [x] (.int is.sum) := fun σ H F rs as vs hd ⟨v, ws, e1, a, e2⟩ Q k => by
  subst e2 e1 e
  obtain ⟨p, xs, rfl, q, r⟩ := h.get hd a
  cases r.ints
  exact ⟨p, is, rfl, .of q, k _ H F go0 hd.sub rfl⟩
theorem ca_all {bs : List Bool} (h : Ls s x ds) (e : ds = bs.map D.bl := by rfl) : CaV X s (rAll X.K) [x] (.bl (bs.all id)) := fun σ H F rs as vs hd ⟨v, ws, e1, a, e2⟩ Q k => by
  subst e2 e1 e
  obtain ⟨p, xs, rfl, q, r⟩ := h.get hd a
  cases r.bls
  exact ⟨p, bs, rfl, .of q, k _ H F go0 hd.sub rfl⟩
theorem ca_any {bs : List Bool} (h : Ls s x ds) (e : ds = bs.map D.bl := by rfl) : CaV X s (rAny X.K) [x] (.bl (bs.any id)) := fun σ H F rs as vs hd ⟨v, ws, e1, a, e2⟩ Q k => by
  subst e2 e1 e
  obtain ⟨p, xs, rfl, q, r⟩ := h.get hd a
  cases r.bls
  exact ⟨p, bs, rfl, .of q, k _ H F go0 hd.sub rfl⟩
theorem cl_list (h : Sq s x ds) : CaL X s (fun xs H Q => ∃ p ys, xs = [.ref p] ∧ (SqL X.K H p ys ∨ SqT X.K H p ys) ∧ ∀ l, H l = none → Q (.ref l) (upd H l (.lst ys))) [x] ds := fun σ H F rs as vs hd ⟨v, ws, e1, a, e2⟩ => by
  subst e2 e1
  obtain ⟨p, xs, rfl, q, r⟩ := h.get hd a
  exact ⟨xs, r, fun Q k => ⟨p, xs, rfl, q, k⟩⟩
theorem ca_tuple (h : Ls s x ds) : CaV X s (fun xs H Q => ∃ p ys, xs = [.ref p] ∧ ((SqL X.K H p ys ∧ ∀ l, H l = none → Q (.ref l) (upd H l (.tup ys))) ∨ (SqT X.K H p ys ∧ Q (.ref p) H))) [x] (.tup ds) := fun σ H F rs as vs hd ⟨v, ws, e1, a, e2⟩ Q k => by
  subst e2 e1
  obtain ⟨p, xs, rfl, q, r⟩ := h.get hd a
  refine ⟨p, xs, rfl, .inl ⟨.of q, fun l hl => ?_⟩⟩
  obtain ⟨g, sb⟩ := go_new (o := .tup xs) hl hd.sub
  exact k _ _ _ g sb ⟨l, xs, rfl, .inl (.inl upd_same), Reps.mono g.fz _ _ r⟩
/-! ### items, slices -/
theorem at_map {α : Type} {xs : List α} {i : Int} {a : α} (h : atI xs i = some a) : ∃ j : Nat, ixN xs.length i = some j ∧ xs[j]? = some a := by
  unfold atI at h
  cases q : ixN xs.length i with
  | none => rw [q] at h; cases h
  | some j => rw [q] at h; exact ⟨j, rfl, h⟩
theorem at_reps {K : PySem.W.Frag} {F : Hp} {ds : List D} {xs : List V} {i : Int} {d : D} (r : Reps K F ds xs) (h : atI ds i = some d) : ∃ v, atI xs i = some v ∧ Rep K F d v := by
  obtain ⟨j, h1, h2⟩ := at_map h
  obtain ⟨v, h3, h4⟩ := r.get h2
  refine ⟨v, ?_, h4⟩
  unfold atI
  rw [r.len, h1]
  exact h3
theorem ov_ixL (h : Ls s x ds) (hi : atI ds i = some d) : OpV X s (rIxL X.K) x (.d (.int i)) d := fun σ H F rs as v w hd a b Q k => by
  cases b
  obtain ⟨p, xs, rfl, q, r⟩ := h.get hd a
  obtain ⟨v, h1, h2⟩ := at_reps r hi
  exact ⟨p, xs, i, v, rfl, rfl, .of q, h1, k _ H F go0 hd.sub h2⟩
theorem ov_ixR (hi : atI ds i = some d) : OpV X s (rIxL X.K) (.d (.rl ds)) (.d (.int i)) d := fun σ H F rs as v w hd a b Q k => by
  cases b
  obtain ⟨p, xs, rfl, q, r⟩ := a
  obtain ⟨v, h1, h2⟩ := at_reps r hi
  exact ⟨p, xs, i, v, rfl, rfl, hd.sub.seq q, h1, k _ H F go0 hd.sub h2⟩
theorem ov_ixT (hi : atI ds i = some d) : OpV X s (rIxT X.K) (.d (.tup ds)) (.d (.int i)) d := fun σ H F rs as v w hd a b Q k => by
  cases b
  obtain ⟨p, xs, rfl, q, r⟩ := a
  obtain ⟨v, h1, h2⟩ := at_reps r hi
  exact ⟨p, xs, i, v, rfl, rfl, same_t hd.sub q, h1, k _ H F go0 hd.sub h2⟩
theorem ov_ixS {c : Nat} (hz : l.length ≤ 16777216) (hi : atI l i = some c) : OpV X s rIxS (.d (.str l)) (.d (.int i)) (.str [c]) := fun σ H F rs as v w hd a b Q k => by
  cases a; cases b
  exact ⟨_, i, c, rfl, rfl, by rw [mk_len]; exact hz, by rw [mk_cps]; exact hi, k _ H F go0 hd.sub rfl⟩
/-- xs[lo:hi] -/
def cut {α : Type} (xs : List α) (lo hi : Option Int) : List α := (xs.drop (HT.sIx xs.length 0 lo)).take (HT.sIx xs.length xs.length hi - HT.sIx xs.length 0 lo)
theorem cut_reps {K : PySem.W.Frag} {F : Hp} {xs : List V} {lo hi : Option Int} (r : Reps K F ds xs) : Reps K F (cut ds lo hi) (cutV xs lo hi) := by
  unfold cut cutV
  rw [r.len]
  exact (r.drop _).take _
theorem sv_str {lo hi : Option Int} (hz : l.length ≤ 16777216) : SlV X s rSlS (.d (.str l)) lo hi (.str (cut l lo hi)) := fun σ H F rs as v hd a Q k => by
  cases a
  refine ⟨_, rfl, by rw [mk_len]; exact hz, k _ H F go0 hd.sub ?_⟩
  show V.str (cutS (mk l) lo hi) = V.str (mk (cut l lo hi))
  have e : cutS (mk l) lo hi = mk (cut l lo hi) := by
    unfold cutS cut
    rw [mk_cps, mk_len]
    try rfl
  rw [e]
theorem sl_lst {lo hi : Option Int} (h : Ls s x ds) : SlL X s (rSlL X.K) x lo hi (cut ds lo hi) := fun σ H F rs as v hd a => by
  obtain ⟨p, xs, rfl, q, r⟩ := h.get hd a
  exact ⟨cutV xs lo hi, cut_reps r, fun Q k => ⟨p, xs, rfl, .of q, k⟩⟩
theorem sl_rl {lo hi : Option Int} : SlL X s (rSlL X.K) (.d (.rl ds)) lo hi (cut ds lo hi) := fun σ H F rs as v hd a => by
  obtain ⟨p, xs, rfl, q, r⟩ := a
  exact ⟨cutV xs lo hi, cut_reps r, fun Q k => ⟨p, xs, rfl, hd.sub.seq q, k⟩⟩
theorem sv_tup {lo hi : Option Int} : SlV X s (rSlA X.K) (.d (.tup ds)) lo hi (.tup (cut ds lo hi)) := fun σ H F rs as v hd a Q k => by
  obtain ⟨p, xs, rfl, q, r⟩ := a
  refine ⟨p, xs, rfl, same_t hd.sub q, fun hw => k _ H F go0 hd.sub ?_, fun hw l hl => ?_⟩
  · refine ⟨p, xs, rfl, q, ?_⟩
    have e : cut ds lo hi = ds := by
      unfold cut
      rw [← r.len, hw.1, hw.2, r.len]
      simp
    rw [e]; exact r
  · obtain ⟨g, sb⟩ := go_new (o := .tup (cutV xs lo hi)) hl hd.sub
    exact k _ _ _ g sb ⟨l, _, rfl, .inl (.inl upd_same), Reps.mono g.fz _ _ (cut_reps r)⟩
theorem ov_catT (hz : ds.length + es.length ≤ 16777216) : OpV X s (rCatA X.K) (.d (.tup ds)) (.d (.tup es)) (.tup (ds ++ es)) := fun σ H F rs as v w hd a b Q k => by
  obtain ⟨p, xs, rfl, q, r⟩ := a
  obtain ⟨p', ys, rfl, q', r'⟩ := b
  refine ⟨p, p', xs, ys, rfl, rfl, same_t hd.sub q, same_t hd.sub q', by rw [r.len, r'.len]; exact hz, fun e => k _ H F go0 hd.sub ?_, fun _ e => k _ H F go0 hd.sub ?_, fun _ _ l hl => ?_⟩
  · have e2 : ds = [] := by have := r.len; rw [e] at this; exact List.eq_nil_of_length_eq_zero this.symm
    subst e2
    exact ⟨p', ys, rfl, q', r'⟩
  · have e2 : es = [] := by have := r'.len; rw [e] at this; exact List.eq_nil_of_length_eq_zero this.symm
    subst e2
    rw [List.append_nil]
    exact ⟨p, xs, rfl, q, r⟩
  · obtain ⟨g, sb⟩ := go_new (o := .tup (xs ++ ys)) hl hd.sub
    exact k _ _ _ g sb ⟨l, _, rfl, .inl (.inl upd_same), Reps.mono g.fz _ _ (r.append r')⟩
theorem ol_cat (h : Ls s x ds) (h' : Ls s y es) (hz : ds.length + es.length ≤ 16777216) : OpL X s rCat x y (ds ++ es) := fun σ H F rs as v w hd a b => by
  obtain ⟨p, xs, rfl, q, r⟩ := h.get hd a
  obtain ⟨p', ys, rfl, q', r'⟩ := h'.get hd b
  exact ⟨xs ++ ys, r.append r', fun Q k => ⟨p, p', xs, ys, rfl, rfl, q, q', by rw [r.len, r'.len]; exact hz, k⟩⟩
theorem ol_rep {k : Nat} (h : Ls s x ds) (hz : ds.length * k ≤ 16777216) (hk : i = (k : Int)) (h2 : k < 1073741824) : OpL X s rRep x (.d (.int i)) (List.replicate k ds).flatten := fun σ H F rs as v w hd a b => by
  obtain ⟨p, xs, rfl, q, r⟩ := h.get hd a
  cases b
  subst hk
  exact ⟨(List.replicate k xs).flatten, r.rep k, fun Q c => ⟨p, _, xs, rfl, rfl, q, by omega, by omega, by rw [r.len]; exact hz, c⟩⟩
theorem ov_repT {k : Nat} (hk : i = (k : Int)) (h0 : ds ≠ []) (h1 : 2 ≤ k) (h2 : k ≤ 1000) (h3 : ds.length ≤ 1000) : OpV X s (rRepT X.K) (.d (.tup ds)) (.d (.int i)) (.tup (List.replicate k ds).flatten) := fun σ H F rs as v w hd a b Q c => by
  obtain ⟨p, xs, rfl, q, r⟩ := a
  cases b
  subst hk
  refine ⟨p, _, xs, rfl, rfl, same_t hd.sub q, fun e => h0 ?_, by omega, by omega, by rw [r.len]; exact h3, fun l hl => ?_⟩
  · have := r.len; rw [e] at this; exact List.eq_nil_of_length_eq_zero this.symm
  · obtain ⟨g, sb⟩ := go_new (o := .tup (List.replicate ((k : Int).toNat) xs).flatten) hl hd.sub
    exact c _ _ _ g sb ⟨l, _, rfl, .inl (.inl upd_same), Reps.mono g.fz _ _ (r.rep k)⟩
end
/-- sep.join(texts) -/
theorem ee_join {X : Cx} {s s1 s2 : S} {o e : Expr} {x : Ar} {ds : List D} {l : List Nat} {ls : List (List Nat)} {apos pos : Pos} (ho : EA X s o s1 (.d (.str l))) (he : EA X s1 e s2 x) (h : Sq s2 x ds) (hz : (ls.map List.length).sum + ls.length * l.length ≤ 16777216) (e1 : ds = ls.map D.str := by rfl)
    (hs : starEach [e] X.env = [(false, eval e X.env)] := by rfl) (hbase : attributeBase o "join" X.env (eval o X.env) = eval o X.env := by rfl) (hline : (apos.endLine == pos.line) = true := by rfl) :
    EA X s (.Call (.Attribute o "join" apos) [e] [] pos) s2 (.d (.str (TL.joinL l ls))) := fun σ H F rs as hd Q k =>
  WE.of (pe_join pe_u pe_u hs hbase hline) (ho σ H F rs as hd _ fun v H1 F1 rs1 as1 h1 p1 g1 r1 => ⟨⟨_, r1⟩, he σ H1 F1 rs1 as1 h1 _ fun w H2 F2 rs2 as2 h2 p2 g2 r2 => by
    obtain ⟨p, xs, rfl, q, r⟩ := h.get h2 r2
    subst e1
    cases r.strs
    have hm : (List.map (fun x => x.length) (List.map mk ls)) = ls.map List.length := by rw [List.map_map]; exact List.map_congr_left fun a _ => mk_len a
    refine ⟨mk l, p, ls.map mk, r1, rfl, q, by rw [hm, List.length_map, mk_len]; exact hz, h2.fin (fun u H' F' rs' as' h' p' g' q => k u H' F' rs' as' h' ((p1.trans p2).trans p') ((g1.trans g2).trans g') q) _ H2 F2 go0 h2.sub ?_⟩
    show V.str _ = V.str _
    congr 1
    rw [TL.join_eq]
    have := TL.tl_join (mk l) (ls.map mk)
    rw [mk_of (Str.join (mk l) (ls.map mk))]
    show mk (TL.tl _) = _
    rw [this]
    congr 1
    show TL.joinL (mk l).cps.toList _ = _
    rw [mk_cps, List.map_map]
    congr 1
    conv => rhs; rw [← List.map_id ls]
    exact List.map_congr_left fun a _ => mk_cps a⟩)
theorem joinL_nil : ∀ ls : List (List Nat), TL.joinL [] ls = ls.flatten
  | [] => rfl
  | [p] => by simp [TL.joinL]
  | p :: q :: r => by show p ++ ([] ++ TL.joinL [] (q :: r)) = _; rw [joinL_nil (q :: r)]; simp
end Q
namespace Q
open PySem L2

/-! ### targets -/
def Ar.sl : Ar → Sl
  | .d z => .d z
  | .o k => .o k
/-- G stores data as g says; it touches the slots is alone -/
def GS (K : PySem.W.Frag) (G : TG) (is : List Nat) (g : D → List Sl → Option (List Sl)) : Prop := ∀ σ H F rs as s d v ρ', Hd K σ H F rs as s → Rep K F d v → g d s.ρ = some ρ' → ∀ Q : St → Hp → Prop,
  (∀ σ', Hd K σ' H F rs as ⟨ρ', s.μ⟩ → (∀ vs : List Nat, (∀ i ∈ is, i ∈ vs) → wipe σ' vs = wipe σ vs) → Q σ' H) → G v σ H Q
def GSs (K : PySem.W.Frag) (G : TGs) (is : List Nat) (g : List D → List Sl → Option (List Sl)) : Prop := ∀ σ H F rs as s ds vs ρ', Hd K σ H F rs as s → Reps K F ds vs → g ds s.ρ = some ρ' → ∀ Q : St → Hp → Prop,
  (∀ σ', Hd K σ' H F rs as ⟨ρ', s.μ⟩ → (∀ vs : List Nat, (∀ i ∈ is, i ∈ vs) → wipe σ' vs = wipe σ vs) → Q σ' H) → G vs σ H Q
def tn (i : Nat) : D → List Sl → Option (List Sl) := fun d ρ => some (ρ.set i (.d d))
def tnil : List D → List Sl → Option (List Sl)
  | [], ρ => some ρ
  | _ :: _, _ => none
def tcons (g : D → List Sl → Option (List Sl)) (h : List D → List Sl → Option (List Sl)) : List D → List Sl → Option (List Sl)
  | d :: ds, ρ => (g d ρ).bind (h ds)
  | [], _ => none
def tt (g : List D → List Sl → Option (List Sl)) : D → List Sl → Option (List Sl)
  | .tup ds, ρ => g ds ρ
  | _, _ => none
theorem wipe_set {σ : St} {x : Option V} {i : Nat} : ∀ {vs : List Nat}, i ∈ vs → wipe (σ.set i x) vs = wipe σ vs := by
  have far : ∀ (vs : List Nat) (j : Nat), j ≠ i → (wipe (σ.set i x) vs)[j]? = (wipe σ vs)[j]? := by
    intro vs
    induction vs with
    | nil => intro j hj; show (σ.set i x)[j]? = σ[j]?; rw [List.getElem?_set_ne (fun z => hj z.symm)]
    | cons v vs ih =>
      intro j hj
      show ((wipe (σ.set i x) vs).set v none)[j]? = ((wipe σ vs).set v none)[j]?
      by_cases hv : v = j
      · subst hv
        rw [List.getElem?_set_self', List.getElem?_set_self', ih v hj]
      · rw [List.getElem?_set_ne hv, List.getElem?_set_ne hv, ih j hj]
  intro vs h
  refine List.ext_getElem? fun j => ?_
  by_cases hj : j = i
  · subst hj
    have at' : ∀ (σ : St) (vs : List Nat), j ∈ vs → (wipe σ vs)[j]? = σ[j]?.map fun _ => none := by
      intro σ vs
      induction vs with
      | nil => intro z; cases z
      | cons v vs ih =>
        intro z
        show ((wipe σ vs).set v none)[j]? = _
        by_cases hv : v = j
        · subst hv
          rw [List.getElem?_set_self']
          by_cases hl : v < σ.length
          · rw [List.getElem?_eq_getElem hl, List.getElem?_eq_getElem (by rw [wipe_length]; exact hl)]; rfl
          · have hl2 : σ.length ≤ v := by omega
            have hl3 : (wipe σ vs).length ≤ v := by rw [wipe_length]; exact hl2
            rw [List.getElem?_eq_none hl2, List.getElem?_eq_none hl3]; rfl
        · rw [List.getElem?_set_ne hv]
          exact ih ((List.mem_cons.mp z).resolve_left fun q => hv q.symm)
    rw [at' _ _ h, at' _ _ h]
    by_cases hl : j < σ.length
    · rw [List.getElem?_set_self hl, List.getElem?_eq_getElem hl]; try rfl
    · rw [List.getElem?_eq_none (by rw [List.length_set]; omega), List.getElem?_eq_none (by omega)]; try rfl
  · exact far vs j hj
theorem gs_name {K : PySem.W.Frag} (i : Nat) : GS K (gName i) [i] (tn i) := fun σ H F rs as s d v ρ' hd r e Q k => by
  cases e
  exact k _ ⟨hd.r, hd.sl.set i ⟨v, rfl, r⟩⟩ fun vs h => wipe_set (h i (by simp))
theorem gss_nil {K : PySem.W.Frag} : GSs K gNil [] tnil := fun σ H F rs as s ds vs ρ' hd r e Q k => by
  cases ds with
  | nil => cases e; exact ⟨r, k _ hd fun _ _ => rfl⟩
  | cons _ _ => cases e
theorem gss_cons {K : PySem.W.Frag} {G : TG} {Gs : TGs} {is js : List Nat} {g : D → List Sl → Option (List Sl)} {h : List D → List Sl → Option (List Sl)} (h1 : GS K G is g) (h2 : GSs K Gs js h) : GSs K (gCons G Gs) (is ++ js) (tcons g h) := fun σ H F rs as s ds vs ρ' hd r e Q k => by
  cases ds with
  | nil => cases e
  | cons d ds =>
    obtain ⟨v, ws, rfl, r1, r2⟩ := r
    have e' : (g d s.ρ).bind (h ds) = some ρ' := e
    cases q : g d s.ρ with
    | none => rw [q] at e'; cases e'
    | some ρ1 =>
      rw [q] at e'
      refine ⟨v, ws, rfl, h1 σ H F rs as s d v ρ1 hd r1 q _ fun σ1 hd1 w1 => h2 σ1 H F rs as _ ds ws ρ' hd1 r2 e' _ fun σ2 hd2 w2 => k σ2 hd2 fun vs hv => ?_⟩
      rw [w2 vs fun i hi => hv i (List.mem_append_right _ hi), w1 vs fun i hi => hv i (List.mem_append_left _ hi)]
theorem gs_tup {K : PySem.W.Frag} {Gs : TGs} {is : List Nat} {g : List D → List Sl → Option (List Sl)} {n : Nat} (h : GSs K Gs is g) (hn : ∀ ds ρ ρ', g ds ρ = some ρ' → ds.length = n) : GS K (gTup K n Gs) is (tt g) := fun σ H F rs as s d v ρ' hd r e Q k => by
  cases d with
  | tup ds =>
    obtain ⟨a, xs, rfl, q, rr⟩ := r
    exact ⟨a, xs, rfl, same_t hd.sub q, by rw [rr.len]; exact hn _ _ _ e, h σ H F rs as s ds xs ρ' hd rr e Q k⟩
  | _ => cases e
theorem tcons_len {g : D → List Sl → Option (List Sl)} {h : List D → List Sl → Option (List Sl)} {n : Nat} (hn : ∀ ds ρ ρ', h ds ρ = some ρ' → ds.length = n) : ∀ ds ρ ρ', tcons g h ds ρ = some ρ' → ds.length = n + 1 := fun ds ρ ρ' e => by
  cases ds with
  | nil => cases e
  | cons d ds =>
    have e' : (g d ρ).bind (h ds) = some ρ' := e
    cases q : g d ρ with
    | none => rw [q] at e'; cases e'
    | some ρ1 => rw [q] at e'; simp [hn _ _ _ e']
theorem tnil_len : ∀ ds ρ ρ', tnil ds ρ = some ρ' → ds.length = 0 := fun ds ρ ρ' e => by
  cases ds with
  | nil => rfl
  | cons _ _ => cases e

/-! ### what is walked -/
/-- J gives the n data it 0, it 1, .. as long as what was frozen at F stays -/
def Gives (K : PySem.W.Frag) (J : It) (n : Nat) (it : Nat → D) (F : Hp) : Prop := ∀ H2 F2, Same F F2 → Same F2 H2 → (∀ i, i < n → J.go i H2) ∧ J.stop n H2 ∧
  ∀ i x H3, i < n → J.yld i H2 x H3 → ∃ F3, Go [] [] F2 H2 F3 H3 ∧ Same F3 H3 ∧ Rep K F3 (it i) x
def IT (X : Cx) (s : S) (tg e : Expr) (s' : S) (n : Nat) (it : Nat → D) : Prop := ∃ W : TI, PI X tg e W ∧ ∀ σ H F rs as, Hd X.K σ H F rs as s → ∀ R : It → Hp → Prop,
  (∀ J H' F' rs' as', Hd X.K σ H' F' rs' as' s' → rs <+: rs' → Go as.flatten as'.flatten F H F' H' → Gives X.K J n it F' → R J H') → W σ H R
theorem getD_of {ds : List D} {i : Nat} (h : i < ds.length) : ds[i]? = some (ds.getD i .non) := by
  rw [List.getElem?_eq_getElem h]; simp [List.getD, List.getElem?_eq_getElem h]
theorem gives_list {K : PySem.W.Frag} {a : Addr} {xs : List V} {ds : List D} {F : Hp} (q : SqL K F a xs) (r : Reps K F ds xs) : Gives K (Itl K a) ds.length (fun i => ds.getD i .non) F := fun H2 F2 e1 e2 => by
  have q2 : SqL K H2 a xs := e2.seq (e1.seq q)
  have w := walk_list (K := K) (a := a) (xs := xs)
  refine ⟨fun i hi => w.goes i H2 (by rw [r.len]; exact hi) q2, by have := w.stops H2 q2; rwa [r.len] at this, fun i x H3 hi y => ?_⟩
  obtain ⟨rfl, hx⟩ := w.yields i H2 x H3 (by rw [r.len]; exact hi) q2 y
  obtain ⟨v, h1, h2⟩ := r.get (getD_of hi)
  rw [hx] at h1; cases h1
  exact ⟨F2, go0, e2, Rep.mono e1 _ _ h2⟩
theorem gives_tup {K : PySem.W.Frag} {a : Addr} {xs : List V} {ds : List D} {F : Hp} (q : SqT K F a xs) (r : Reps K F ds xs) : Gives K (Itt K a) ds.length (fun i => ds.getD i .non) F := fun H2 F2 e1 e2 => by
  have q2 : SqT K H2 a xs := same_t e2 (same_t e1 q)
  have w := walk_tup (K := K) (a := a) (xs := xs)
  refine ⟨fun i hi => w.goes i H2 (by rw [r.len]; exact hi) q2, by have := w.stops H2 q2; rwa [r.len] at this, fun i x H3 hi y => ?_⟩
  obtain ⟨rfl, hx⟩ := w.yields i H2 x H3 (by rw [r.len]; exact hi) q2 y
  obtain ⟨v, h1, h2⟩ := r.get (getD_of hi)
  rw [hx] at h1; cases h1
  exact ⟨F2, go0, e2, Rep.mono e1 _ _ h2⟩
theorem gives_range {K : PySem.W.Frag} {lo : Int} {n : Nat} {F : Hp} : Gives K (Itr lo n) n (fun i => .int (lo + i)) F := fun H2 F2 e1 e2 => by
  refine ⟨fun i hi => hi, Nat.le_refl _, fun i x H3 hi y => ?_⟩
  obtain ⟨rfl, rfl⟩ := y
  exact ⟨F2, go0, e2, rfl⟩
theorem gives_rangeC {K : PySem.W.Frag} {lo c : Int} {n : Nat} {F : Hp} : Gives K (Itc lo c n) n (fun i => .int (lo + (i : Nat) * c)) F := fun H2 F2 e1 e2 => by
  refine ⟨fun i hi => hi, Nat.le_refl _, fun i x H3 hi y => ?_⟩
  obtain ⟨rfl, rfl⟩ := y
  exact ⟨F2, go0, e2, rfl⟩
theorem gives_str {K : PySem.W.Frag} {l : List Nat} {F : Hp} : Gives K (Its (mk l)) l.length (fun i => .str [l.getD i 0]) F := fun H2 F2 e1 e2 => by
  have sz : (mk l).cps.size = l.length := mk_len l
  refine ⟨fun i hi => by show i < (mk l).cps.size; rw [sz]; exact hi, by show (mk l).cps.size ≤ _; rw [sz]; exact Nat.le_refl _, fun i x H3 hi y => ?_⟩
  obtain ⟨rfl, c, hc, rfl⟩ := y
  refine ⟨F2, go0, e2, ?_⟩
  show V.str _ = V.str _
  rw [← Array.getElem?_toList, mk_cps] at hc
  simp [List.getD, hc, mk]
section
variable {X : Cx} {s s1 s2 s3 : S} {tg e : Expr} {es : List Expr} {ds : List D} {pos p : Pos} {i j : Int}
theorem it_list (h : EA X s e s1 (.d (.lst ds))) : IT X s tg e s1 ds.length (fun i => ds.getD i .non) := ⟨_, pi_list pe_u, fun σ H F rs as hd R k => h σ H F rs as hd _ fun v H1 F1 rs1 as1 h1 p1 g1 ⟨a, xs, ev, q, r⟩ =>
  ⟨a, ev, ⟨xs, .of (h1.sub _ _ q)⟩, k _ H1 F1 rs1 as1 h1 p1 g1 (gives_list (.of q) r)⟩⟩
theorem it_rl (h : EA X s e s1 (.d (.rl ds))) : IT X s tg e s1 ds.length (fun i => ds.getD i .non) := ⟨_, pi_list pe_u, fun σ H F rs as hd R k => h σ H F rs as hd _ fun v H1 F1 rs1 as1 h1 p1 g1 ⟨a, xs, ev, q, r⟩ =>
  ⟨a, ev, ⟨xs, h1.sub.seq q⟩, k _ H1 F1 rs1 as1 h1 p1 g1 (gives_list q r)⟩⟩
theorem it_tup (h : EA X s e s1 (.d (.tup ds))) : IT X s tg e s1 ds.length (fun i => ds.getD i .non) := ⟨_, pi_tup pe_u, fun σ H F rs as hd R k => h σ H F rs as hd _ fun v H1 F1 rs1 as1 h1 p1 g1 ⟨a, xs, ev, q, r⟩ =>
  ⟨a, ev, ⟨xs, same_t h1.sub q⟩, k _ H1 F1 rs1 as1 h1 p1 g1 (gives_tup q r)⟩⟩
theorem it_str {l : List Nat} (h : EA X s e s1 (.d (.str l))) : IT X s tg e s1 l.length (fun i => .str [l.getD i 0]) := ⟨_, pi_str pe_u, fun σ H F rs as hd R k => h σ H F rs as hd _ fun v H1 F1 rs1 as1 h1 p1 g1 r =>
  ⟨_, r, k _ H1 F1 rs1 as1 h1 p1 g1 gives_str⟩⟩
theorem it_range1 {a : Expr} (hg : Gl X "range") (hm : X.mg "range" = none) (ha : EA X s a s1 (.d (.int j))) (h1 : -(2 ^ 62) ≤ j) (h2 : j < 2 ^ 62) (hs : starEach [a] X.env = [(false, eval a X.env)] := by rfl) :
    IT X s tg (.Call (.Name "range" p) [a] [] pos) s1 j.toNat (fun i => .int (0 + (i : Nat))) := ⟨_, pi_range1 hg hm pa_u hs, fun σ H F rs as hd R k => (es_cons ha es_nil (hs := hs)) σ H F rs as hd _ fun vs H1 F1 rs1 as1 q1 p1 g1 ⟨v, ws, e, r, e2⟩ => by
  cases e2; cases e; cases r
  exact ⟨j, rfl, h1, h2, k _ H1 F1 rs1 as1 q1 p1 g1 gives_range⟩⟩
theorem it_range2 {a b : Expr} (hg : Gl X "range") (hm : X.mg "range" = none) (ha : EA X s a s1 (.d (.int i))) (hb : EA X s1 b s2 (.d (.int j))) (h1 : -(2 ^ 62) ≤ i ∧ i < 2 ^ 62 ∧ -(2 ^ 62) ≤ j ∧ j < 2 ^ 62)
    (hs : starEach [a, b] X.env = [(false, eval a X.env), (false, eval b X.env)] := by rfl) (hs2 : starEach [b] X.env = [(false, eval b X.env)] := by rfl) :
    IT X s tg (.Call (.Name "range" p) [a, b] [] pos) s2 (j - i).toNat (fun k => .int (i + (k : Nat))) := ⟨_, pi_range2 hg hm pa_u hs hs2, fun σ H F rs as hd R k => (es_cons ha (es_cons hb es_nil (hs := hs2)) (hs := by rw [hs, hs2])) σ H F rs as hd _ fun vs H1 F1 rs1 as1 q1 p1 g1 ⟨v, ws, e, r, v2, ws2, e3, r2, e2⟩ => by
  cases e2; cases e3; cases e; cases r; cases r2
  exact ⟨i, j, rfl, h1, k _ H1 F1 rs1 as1 q1 p1 g1 gives_range⟩⟩
end

/-! ### statements -/
theorem At.join {K : PySem.W.Frag} {W : Wd} {H F : Hp} {as : List Addr} {rs : List V} {Φ : S → Prop} (g : Go W.as as W.F W.H F H) (p : W.rs <+: rs) : ∀ σ' H', At K ⟨H, F, as, rs⟩ Φ σ' H' → At K W Φ σ' H' :=
  fun _ _ ⟨F', rs', as', s', h1, h2, h3, h4⟩ => ⟨F', rs', as', s', h1, g.trans h2, p.trans h3, h4⟩
theorem AtR.join {K : PySem.W.Frag} {W : Wd} {H F : Hp} {as : List Addr} {rs : List V} {Φ : S → Ar → Prop} (g : Go W.as as W.F W.H F H) (p : W.rs <+: rs) : ∀ v H', AtR K ⟨H, F, as, rs⟩ Φ v H' → AtR K W Φ v H' :=
  fun _ _ ⟨σ', F', rs', as', s', x, h1, h2, h3, h4, h5⟩ => ⟨σ', F', rs', as', s', x, h1, g.trans h2, p.trans h3, h4, h5⟩
section
variable {X : Cx} {s s1 s2 s3 : S} {e tg iter c : Expr} {body orelse : List Stmt} {x y : Ar} {d : D} {D' : Ds} {pos : Pos} {nm nm2 : Str}
theorem w1_set (i : Nat) {pos' : Pos} (h : EA X s e s1 x) (k : D'.nx ⟨s1.ρ.set i x.sl, s1.μ⟩) (hN : X.N.Nodup) (hi : X.N[i]? = some nm := by rfl) (hx : Loc X.env.scope nm := by first | exact Or.inl rfl | exact Or.inr rfl)
    (hs : swapsWith e (some (.Name nm pos')) pos.line X.env = pure false := by rfl) (hf : X.fn nm = true ∨ X.env.scope.names.lookup nm = some .local := by first | exact .inl rfl | exact .inr rfl | assumption) :
    W1 X s (.Assign [.Name nm pos'] e pos) D' := fun W σ H F rs as hd g p =>
  WSt.of (ps_set hN hi hx pe_u hs hf) (h σ H F rs as hd _ fun v H1 F1 rs1 as1 h1 p1 g1 r1 => ⟨F1, rs1, as1, ⟨s1.ρ.set i x.sl, s1.μ⟩, ⟨h1.r, h1.sl.set i (by
    cases x with
    | d d => exact ⟨v, rfl, r1⟩
    | o k => exact ⟨v, rfl, r1⟩)⟩, g.trans g1, p.trans p1, k⟩)
theorem w1_par (i j : Nat) {a b : Expr} {px py pt pt2 : Pos} {kt k2} (h : EAs X s [a, b] s1 [x, y]) (k : D'.nx ⟨(s1.ρ.set i x.sl).set j y.sl, s1.μ⟩) (hN : X.N.Nodup) (hi : X.N[i]? = some nm := by rfl) (hj : X.N[j]? = some nm2 := by rfl) (hij : i ≠ j := by decide)
    (hc : X.calm = true := by rfl) (hx : X.env.scope.names.lookup nm = some .local := by rfl) (hy : X.env.scope.names.lookup nm2 = some .local := by rfl)
    (hw : swappedStores [.Tuple [.Name nm px, .Name nm2 py] kt pt] (.Tuple [a, b] k2 pt2) X.env = pure (some [nm, nm2]) := by rfl)
    (hs : swapsWithSole [.Tuple [.Name nm px, .Name nm2 py] kt pt] (.Tuple [a, b] k2 pt2) pos.line X.env = pure false := by rfl) :
    W1 X s (.Assign [.Tuple [.Name nm px, .Name nm2 py] kt pt] (.Tuple [a, b] k2 pt2) pos) D' := fun W σ H F rs as hd g p =>
  WSt.of (ps_par hc hN hi hj hij hx hy pa_u hw hs) (h σ H F rs as hd _ fun vs H1 F1 rs1 as1 h1 p1 g1 ⟨v, ws, e1, r1, w, ws2, e2, r2, e3⟩ => by
    cases e3; cases e2; cases e1
    refine ⟨v, w, rfl, F1, rs1, as1, ⟨(s1.ρ.set i x.sl).set j y.sl, s1.μ⟩, ⟨h1.r, (h1.sl.set i ?_).set j ?_⟩, g.trans g1, p.trans p1, k⟩
    · cases x with
      | d d => exact ⟨v, rfl, r1⟩
      | o k => exact ⟨v, rfl, r1⟩
    · cases y with
      | d d => exact ⟨w, rfl, r2⟩
      | o k => exact ⟨w, rfl, r2⟩)
theorem w1_asg {G : TG} {is : List Nat} {g : D → List Sl → Option (List Sl)} {ρ' : List Sl} (h : EA X s e s1 (.d d)) (hG : PG X tg G) (hS : GS X.K G is g) (hr : g d s1.ρ = some ρ') (k : D'.nx ⟨ρ', s1.μ⟩)
    (hs : swapsWithSole [tg] e pos.line X.env = pure false := by rfl) (hw : swappedStores [tg] e X.env = pure none := by rfl) (h1 : (assignEach [tg] X.env).map (·.2) = [assign tg X.env] := by rfl) : W1 X s (.Assign [tg] e pos) D' := fun W σ H F rs as hd g0 p =>
  WSt.of (ps_asg pe_u hG hs hw h1) (h σ H F rs as hd _ fun v H1 F1 rs1 as1 h1 p1 g1 r1 => hS σ H1 F1 rs1 as1 s1 d v ρ' h1 r1 hr _ fun σ' h' _ => ⟨F1, rs1, as1, _, h', g0.trans g1, p.trans p1, k⟩)
theorem w1_if {b : Bool} (hc : ET X s c s1 b) (h1 : b = true → WS X s1 body D') (h2 : b = false → WS X s1 orelse D') : W1 X s (.If c body orelse pos) D' := fun W σ H F rs as hd g p =>
  WSt.of (ps_if pt_u pss_u pss_u) (hc σ H F rs as hd _ fun H1 F1 rs1 as1 q1 p1 g1 => by
    cases b with
    | true => exact iteT (h1 rfl W σ H1 F1 rs1 as1 q1 (g.trans g1) (p.trans p1))
    | false => exact iteF (h2 rfl W σ H1 F1 rs1 as1 q1 (g.trans g1) (p.trans p1)))
theorem w1_ret (h : EA X s e s1 x) (k : D'.rt s1 x) : W1 X s (.Return (some e) pos) D' := fun W σ H F rs as hd g p =>
  WSt.of (ps_ret pe_u) (h σ H F rs as hd _ fun v H1 F1 rs1 as1 h1 p1 g1 r1 => ⟨σ, F1, rs1, as1, s1, x, h1, g.trans g1, p.trans p1, r1, k⟩)
theorem w1_retN (k : D'.rt s (.d .non)) : W1 X s (.Return none pos) D' := fun W σ H F rs as hd g p => WSt.of ps_retN ⟨σ, F, rs, as, s, .d .non, hd, g, p, rfl, k⟩
theorem w1_expr (h : EA X s e s1 x) (k : D'.nx s1) (hs : swapsWith e none pos.line X.env = pure false := by rfl) : W1 X s (.Expr e pos) D' := fun W σ H F rs as hd g p =>
  WSt.of (ps_expr pe_u hs) (h σ H F rs as hd _ fun v H1 F1 rs1 as1 h1 p1 g1 r1 => ⟨F1, rs1, as1, s1, h1, g.trans g1, p.trans p1, k⟩)
theorem w1_pass (k : D'.nx s) : W1 X s (.Pass pos) D' := fun W σ H F rs as hd g p => WSt.of ps_pass ⟨F, rs, as, s, hd, g, p, k⟩
theorem w1_break (k : D'.bk s) : W1 X s (.Break pos) D' := fun W σ H F rs as hd g p => WSt.of ps_break ⟨F, rs, as, s, hd, g, p, k⟩
theorem w1_cont (k : D'.ct s) : W1 X s (.Continue pos) D' := fun W σ H F rs as hd g p => WSt.of ps_continue ⟨F, rs, as, s, hd, g, p, k⟩
/-- for: I says what holds ahead of the i-th turn -/
theorem w1_for {n : Nat} {it : Nat → D} {G : TG} {is : List Nat} {g : D → List Sl → Option (List Sl)} (I : Nat → S → Prop) (hi : IT X s tg iter s1 n it) (hG : PG X tg G) (hS : GS X.K G is g) (h0 : I 0 s1)
    (hs : ∀ i s2, i < n → I i s2 → ∃ ρ', g (it i) s2.ρ = some ρ' ∧ WS X ⟨ρ', s2.μ⟩ body { nx := I (i + 1), rt := D'.rt, bk := D'.nx, ct := I (i + 1) }) (he : ∀ s2, I n s2 → D'.nx s2)
    (hp : PassesOwn (model X.prog X.w) X.A X.env X.xe := by exact PassesOwn.never) (hc : X.calm = true := by rfl) (hf : ∀ x, foldedSetIterable iter X.env x = pure x := by intro _; rfl) : W1 X s (.For tg iter body [] pos) D' := fun W σ H F rs as hd g0 p => by
  obtain ⟨wi, pi, hi⟩ := hi
  refine WSt.of (ps_for hp hc pi hG pss_u hf) (hi σ H F rs as hd _ fun J H1 F1 rs1 as1 h1 p1 g1 gv => ?_)
  refine ⟨fun i m σ2 H2 => m = n - i ∧ i ≤ n ∧ At X.K ⟨H1, F1, as1.flatten, rs1⟩ (I i) σ2 H2, ⟨n, by simp, Nat.zero_le _, F1, rs1, as1, s1, h1, Go.refl _ _ _, refl_pre _, h0⟩, ?_⟩
  rintro i m σ2 H2 ⟨rfl, hin, F2, rs2, as2, s2, h2, g2, p2, inv⟩
  obtain ⟨go, stop, yld⟩ := gv H2 F2 g2.fz h2.sub
  by_cases hlt : i < n
  · refine .inr ⟨go i hlt, At X.K ⟨H1, F1, as1.flatten, rs1⟩ (I (i + 1)), fun σ' H' a => ⟨n - (i + 1), by omega, rfl, hlt, a⟩, fun v H3 y => ?_⟩
    obtain ⟨F3, g3, sb3, r3⟩ := yld i v H3 hlt y
    obtain ⟨ρ', e1, w⟩ := hs i s2 hlt inv
    obtain ⟨h3, g3'⟩ := h2.pure g3 sb3
    refine hS σ2 H3 F3 rs2 as2 s2 (it i) v ρ' h3 r3 e1 _ fun σ4 h4 _ => ?_
    have gg := g2.trans g3'
    refine (w ⟨H1, F1, as1.flatten, rs1⟩ σ4 H3 F3 rs2 as2 h4 gg p2).mono (fun _ _ q => q) ?_ ?_ (fun _ _ q => q)
    · exact AtR.join (g0.trans g1) (p.trans p1)
    · exact At.join (g0.trans g1) (p.trans p1)
  · have e : i = n := by omega
    subst e
    exact .inl ⟨stop, At.join (g0.trans g1) (p.trans p1) _ _ ⟨F2, rs2, as2, s2, h2, g2, p2, he s2 inv⟩⟩
theorem w1_while (I : S → Prop) (m : S → Nat) (h0 : I s)
    (hs : ∀ s2, I s2 → ∃ b s3, ET X s2 c s3 b ∧ (b = true → WS X s3 body { nx := fun s4 => I s4 ∧ m s4 < m s2, rt := D'.rt, bk := D'.nx, ct := fun s4 => I s4 ∧ m s4 < m s2 }) ∧ (b = false → D'.nx s3))
    (hp : PassesOwn (model X.prog X.w) X.A X.env X.xe := by exact PassesOwn.never) : W1 X s (.While c body [] pos) D' := fun W σ H F rs as hd g p => by
  refine WSt.of (ps_while hp pt_u pss_u) ⟨fun k σ2 H2 => At X.K W (fun s2 => I s2 ∧ m s2 = k) σ2 H2, ⟨m s, F, rs, as, s, hd, g, p, h0, rfl⟩, ?_⟩
  rintro k σ2 H2 ⟨F2, rs2, as2, s2, h2, g2, p2, inv, rfl⟩
  obtain ⟨b, s3, et, q1, q2⟩ := hs s2 inv
  refine et σ2 H2 F2 rs2 as2 h2 _ fun H3 F3 rs3 as3 h3 p3 g3 => ?_
  cases b with
  | true =>
    refine ⟨fun σ4 H4 => At X.K W (fun s4 => I s4 ∧ m s4 < m s2) σ4 H4, ?_, ?_⟩
    · rintro σ4 H4 ⟨F4, rs4, as4, s4, h4, g4, p4, i4, l4⟩
      exact ⟨m s4, l4, F4, rs4, as4, s4, h4, g4, p4, i4, rfl⟩
    · exact q1 rfl W σ2 H3 F3 rs3 as3 h3 (g2.trans g3) (p2.trans p3)
  | false => exact ⟨F3, rs3, as3, s3, h3, g2.trans g3, p2.trans p3, q2 rfl⟩
end
end Q
namespace Q
open PySem L2

section
variable {K : PySem.W.Frag} {H F H' F' : Hp} {ts ts' : List T} {vs vs' : List V} {as as' : List (List Addr)} {t : T} {v : V} {l : List Addr}
theorem HdR.init (h : HdR K H F (ts ++ [t]) (vs ++ [v]) (as ++ [l])) (hl : vs.length = ts.length) : HdR K H F ts vs as := by
  have hA : as.length = ts.length := by have := h.l2; simp at this; exact this
  have tk : ∀ {α : Type} {xs : List α} {x y : α} {i : Nat}, xs[i]? = some x → (xs ++ [y])[i]? = some x := fun {α xs x y i} e => by
    rw [List.getElem?_append_left (List.getElem?_eq_some_iff.mp e).1]; exact e
  exact ⟨h.sub, hl, hA, fun i t' v' m e1 e2 e3 => h.own i t' v' m (tk e1) (tk e2) (tk e3), fun i m e => h.n1 i m (tk e), fun i j m m' a e1 e2 h1 h2 => h.n2 i j m m' a (tk e1) (tk e2) h1 h2, fun i m a e ha => h.af i m a (tk e) ha⟩
/-- a root that stands apart from what is done to the others -/
theorem HdR.frame (h : HdR K H F (ts ++ [t]) (vs ++ [v]) (as ++ [l])) (hl : vs.length = ts.length) (h' : HdR K H' F' ts' vs' as') (g : Go as.flatten as'.flatten F H F' H') :
    HdR K H' F' (ts' ++ [t]) (vs' ++ [v]) (as' ++ [l]) ∧ Go (as ++ [l]).flatten (as' ++ [l]).flatten F H F' H' := by
  have hA : as.length = ts.length := by have := h.l2; simp at this; exact this
  have lastT : (ts ++ [t])[ts.length]? = some t := by simp
  have lastV : (vs ++ [v])[ts.length]? = some v := by rw [← hl]; simp
  have lastA : (as ++ [l])[ts.length]? = some l := by rw [← hA]; simp
  have own := h.own _ _ _ _ lastT lastV lastA
  have inl : ∀ a, a ∈ l → a ∉ as.flatten := fun a ha z => by
    obtain ⟨i, m, e, hm⟩ := mem_fl z
    have hi := (List.getElem?_eq_some_iff.mp e).1
    have := h.n2 i ts.length m l a (by rw [List.getElem?_append_left hi]; exact e) lastA hm ha
    omega
  have kp : ∀ a, a ∈ l → ∀ o, H a = some o → H' a = some o := fun a ha o e => g.keep a o (inl a ha) e
  have inH : ∀ a, a ∈ l → H a ≠ none := Own.there _ _ _ own
  have fresh : ∀ (i : Nat) m a, as'[i]? = some m → a ∈ m → a ∉ l := fun i m a e ha z => by
    rcases g.aw a (fl_mem e ha) with q | q
    · exact inl a z q
    · exact inH a z q
  have sh : ∀ (i : Nat) m, (as' ++ [l])[i]? = some m → as'[i]? = some m ∨ (i = as'.length ∧ m = l) := fun i m e => by
    rcases app_get e with q | ⟨q0, q⟩
    · exact .inl q
    · have : i - as'.length = 0 := by have := (List.getElem?_eq_some_iff.mp q).1; simp at this; omega
      rw [this] at q; simp at q
      exact .inr ⟨by omega, q.symm⟩
  have afl : ∀ a, a ∈ l → F' a = none := fun a ha => by
    cases q : F' a with
    | none => rfl
    | some o =>
      rcases g.new a o q with z | z | z
      · rw [h.af _ _ _ lastA ha] at z; cases z
      · exact absurd z (inH a ha)
      · exact absurd z (inl a ha)
  refine ⟨⟨h'.sub, by simp [h'.l1], by simp [h'.l2], fun i t' v' m e1 e2 e3 => ?_, fun i m e => ?_, fun i j m m' a e1 e2 h1 h2 => ?_, fun i m a e ha => ?_⟩, ⟨g.fz, fun a o e => ?_, fun a o hn e => ?_, g.there, fun a ha => ?_⟩⟩
  · rcases app_get e1 with q | ⟨q0, q⟩
    · have hi := (List.getElem?_eq_some_iff.mp q).1
      rw [List.getElem?_append_left (by rw [h'.l1]; exact hi)] at e2
      rw [List.getElem?_append_left (by rw [h'.l2]; exact hi)] at e3
      exact h'.own i t' v' m q e2 e3
    · have i0 : i = ts'.length := by have := (List.getElem?_eq_some_iff.mp q).1; simp at this; omega
      subst i0
      simp at q; subst q
      rw [← h'.l1] at e2; simp at e2; subst e2
      rw [← h'.l2] at e3; simp at e3; subst e3
      exact Own.keep g.fz _ _ _ kp own
  · rcases sh i m e with q | ⟨_, rfl⟩
    · exact h'.n1 _ _ q
    · exact h.n1 _ _ lastA
  · rcases sh i m e1 with q | ⟨i0, rfl⟩
    · rcases sh j m' e2 with z | ⟨j0, rfl⟩
      · exact h'.n2 _ _ _ _ _ q z h1 h2
      · exact absurd h2 (fresh i m a q h1)
    · rcases sh j m' e2 with z | ⟨j0, rfl⟩
      · exact absurd h1 (fresh j m' a z h2)
      · omega
  · rcases sh i m e with q | ⟨_, rfl⟩
    · exact h'.af _ _ _ q ha
    · exact afl a ha
  · rcases g.new a o e with z | z | z
    · exact .inl z
    · exact .inr (.inl z)
    · exact .inr (.inr (by simp only [List.flatten_append, List.mem_append]; exact .inl z))
  · refine g.keep a o (fun z => hn ?_) e
    simp only [List.flatten_append, List.mem_append]; exact .inl z
  · simp only [List.flatten_append, List.mem_append] at ha ⊢
    rcases ha with ha | ha
    · rcases g.aw a ha with z | z
      · exact .inl (.inl z)
      · exact .inr z
    · exact .inl (.inr ha)
end
/-! ### list comprehensions -/
def wipeS (ρ : List Sl) : List Nat → List Sl
  | [] => ρ
  | v :: vs => (wipeS ρ vs).set v .un
theorem Slots.wipe {K : PySem.W.Frag} {F : Hp} {rs : List V} {ρ : List Sl} {σ : St} (h : Slots K F rs ρ σ) : ∀ vs : List Nat, Slots K F rs (wipeS ρ vs) (L2.wipe σ vs)
  | [] => h
  | v :: vs => (Slots.wipe h vs).set v trivial
def TTs (K : PySem.W.Frag) (t : TT) (s s' : S) (b : Bool) : Prop := ∀ σ H F rs as, Hd K σ H F rs as s → ∀ Q : Bool → Hp → Prop, (∀ H' F' rs' as', Hd K σ H' F' rs' as' s' → rs <+: rs' → Go as.flatten as'.flatten F H F' H' → Q b H') → t σ H Q
def TEs (K : PySem.W.Frag) (t : TE) (s s' : S) (x : Ar) : Prop := ∀ σ H F rs as, Hd K σ H F rs as s → ∀ Q : VK, (∀ v H' F' rs' as', Hd K σ H' F' rs' as' s' → rs <+: rs' → Go as.flatten as'.flatten F H F' H' → ArOk K F' rs' x v → Q v H') → t σ H Q
theorem tts_yes {K : PySem.W.Frag} {s : S} : TTs K tYes s s true := fun σ H F rs as hd Q k => k H F rs as hd (refl_pre _) (Go.refl _ _ _)
/-- the block's own judgements, one for all its contexts -/
def bT (X : Cx) (scope : Scope) (c : Expr) : TT := fun σ H Q => ∀ (s : Shared) (H0 : Hp) (C : Addr) (cl : List (Str × Addr)) (fp : List Addr), WTt (X.blk s H0 scope (PySem.compEnvC scope cl C X.env) fp) c σ H Q
def bE (X : Cx) (scope : Scope) (e : Expr) : TE := fun σ H Q => ∀ (s : Shared) (H0 : Hp) (C : Addr) (cl : List (Str × Addr)) (fp : List Addr), WE (X.blk s H0 scope (PySem.compEnvC scope cl C X.env) fp) e σ H Q
theorem pts_b {X : Cx} {scope : Scope} {c : Expr} (s : Shared) (H0 : Hp) (C : Addr) (cl : List (Str × Addr)) (fp : List Addr) : PTs (X.blk s H0 scope (PySem.compEnvC scope cl C X.env) fp) [c] (bT X scope c) :=
  pts_one ⟨fun pins sh σ H Q I h => h s H0 C cl fp pins sh I⟩
theorem pe_b {X : Cx} {scope : Scope} {e : Expr} (s : Shared) (H0 : Hp) (C : Addr) (cl : List (Str × Addr)) (fp : List Addr) : PE (X.blk s H0 scope (PySem.compEnvC scope cl C X.env) fp) e (bE X scope e) :=
  ⟨fun pins sh σ H Q I h => h s H0 C cl fp pins sh I⟩
theorem tts_b {X : Cx} {scope : Scope} {c : Expr} {s s' : S} {b : Bool} (h : ∀ (sh : Shared) (H0 : Hp) (C : Addr) (cl : List (Str × Addr)) (fp : List Addr), ET (X.blk sh H0 scope (PySem.compEnvC scope cl C X.env) fp) s c s' b) : TTs X.K (bT X scope c) s s' b :=
  fun σ H F rs as hd Q k sh H0 C cl fp => h sh H0 C cl fp σ H F rs as hd Q k
theorem tes_b {X : Cx} {scope : Scope} {e : Expr} {s s' : S} {x : Ar} (h : ∀ (sh : Shared) (H0 : Hp) (C : Addr) (cl : List (Str × Addr)) (fp : List Addr), EA (X.blk sh H0 scope (PySem.compEnvC scope cl C X.env) fp) s e s' x) : TEs X.K (bE X scope e) s s' x :=
  fun σ H F rs as hd Q k sh H0 C cl fp => h sh H0 C cl fp σ H F rs as hd Q k

/-- what a turn does: data x is stored, the test, the element -/
structure LcTurn (K : PySem.W.Frag) (g : D → List Sl → Option (List Sl)) (t : TT) (te : TE) (ρ : List Sl) (d : D) (μ μ' : List T) (out out' : List D) : Prop where
  ok : ∃ ρ' b s2, g d ρ = some ρ' ∧ TTs K t ⟨ρ', μ⟩ s2 b ∧ (b = true → ∃ s3 y, TEs K te s2 s3 (.d y) ∧ s3.μ = μ' ∧ out' = out ++ [y]) ∧ (b = false → s2.μ = μ' ∧ out' = out)
theorem lc_run {X : Cx} {s s1 : S} {n : Nat} {it : Nat → D} {wi : TI} {G : TG} {is vs : List Nat} {g : D → List Sl → Option (List Sl)} {t : TT} {te : TE} (μs : Nat → List T) (outs : Nat → List D)
    (hi : ∀ σ H F rs as, Hd X.K σ H F rs as s → ∀ R : It → Hp → Prop, (∀ J H' F' rs' as', Hd X.K σ H' F' rs' as' s1 → rs <+: rs' → Go as.flatten as'.flatten F H F' H' → Gives X.K J n it F' → R J H') → wi σ H R)
    (hS : GS X.K G is g) (hv : ∀ i ∈ is, i ∈ vs) (hn : n ≤ 16777216) (h0 : μs 0 = s1.μ) (o0 : outs 0 = []) (hl : ∀ i, (μs i).length = s1.μ.length)
    (hs : ∀ i, i < n → LcTurn X.K g t te (wipeS s1.ρ vs) (it i) (μs i) (μs (i + 1)) (outs i) (outs (i + 1))) :
    TEs X.K (tLc wi G t te vs) s (S.add ⟨s1.ρ, μs n⟩ (.fl (outs n))) (.o s1.μ.length) := fun σ H F rs as hd Q k => by
  refine hi σ H F rs as hd _ fun J H1 F1 rs1 as1 h1 p1 g1 gv => ?_
  intro A hA
  obtain ⟨n1, n2⟩ := h1.newL (ds := []) (ys := []) hA rfl
  refine ⟨fun i m H2 => m = n - i ∧ i ≤ n ∧ ∃ acc F2 rs2 as2, HdR X.K H2 F2 (μs i ++ [.fl (outs i)]) (rs2 ++ [.ref A]) (as2 ++ [[A]]) ∧ rs1 <+: rs2 ∧ Go as1.flatten (as2 ++ [[A]]).flatten F1 H1 F2 H2 ∧ H2 A = some (.lst acc) ∧ Reps X.K F2 (outs i) acc ∧ (outs i).length ≤ i, ?_, ?_⟩
  · refine ⟨n, by simp, Nat.zero_le _, [], F1, rs1, as1, ?_, refl_pre _, n2, upd_same, by rw [o0]; rfl, by rw [o0]; exact Nat.le_refl _⟩
    rw [h0, o0]
    exact n1.r
  · rintro i m H2 ⟨rfl, hin, acc, F2, rs2, as2, hr, p2, g2, hAc, rp, ol⟩
    have rl : rs2.length = (μs i).length := by have := hr.l1; simp at this; exact this
    have f12 : Same F1 F2 := g2.fz
    obtain ⟨go, stop, yld⟩ := gv H2 F2 f12 hr.sub
    by_cases hlt : i < n
    · refine .inr ⟨go i hlt, fun H' => ∃ acc F2 rs2 as2, HdR X.K H' F2 (μs (i + 1) ++ [.fl (outs (i + 1))]) (rs2 ++ [.ref A]) (as2 ++ [[A]]) ∧ rs1 <+: rs2 ∧ Go as1.flatten (as2 ++ [[A]]).flatten F1 H1 F2 H' ∧ H' A = some (.lst acc) ∧ Reps X.K F2 (outs (i + 1)) acc ∧ (outs (i + 1)).length ≤ i + 1,
        fun H' w => ⟨n - (i + 1), by omega, rfl, hlt, w⟩, fun v H3 y => ?_⟩
      obtain ⟨F3, g3, sb3, r3⟩ := yld i v H3 hlt y
      obtain ⟨hr3, g3'⟩ := hr.pure g3 sb3
      have hi3 := hr3.init rl
      obtain ⟨ρ', b, s2, e1, ht, q1, q2⟩ := (hs i hlt).ok
      have sl3 : Slots X.K F3 rs2 (wipeS s1.ρ vs) (wipe σ vs) := (h1.sl.mono (f12.trans g3.fz) fun k v q => pre_get p2 k v q).wipe vs
      have hd3 : Hd X.K (wipe σ vs) H3 F3 rs2 as2 ⟨wipeS s1.ρ vs, μs i⟩ := ⟨hi3, sl3⟩
      have hA3 : H3 A = some (.lst acc) := g3.keep A _ (fun z => nomatch z) hAc
      refine hS (wipe σ vs) H3 F3 rs2 as2 _ (it i) v ρ' hd3 r3 e1 _ fun σ4 h4 w4 => ?_
      have ww : ∀ (σ : St) (vs : List Nat), wipe (wipe σ vs) vs = wipe σ vs := by
        intro σ vs
        have gen : ∀ (us : List Nat), (∀ i ∈ us, i ∈ vs) → wipe (wipe σ us) vs = wipe σ vs := by
          intro us
          induction us with
          | nil => intro _; rfl
          | cons u us ih =>
            intro h
            show wipe ((wipe σ us).set u none) vs = _
            rw [wipe_set (h u List.mem_cons_self)]
            exact ih fun i hi => h i (List.mem_cons_of_mem _ hi)
        exact gen vs fun _ h => h
      refine ⟨by rw [w4 vs hv, ww], ht σ4 H3 F3 rs2 as2 h4 _ fun H5 F5 rs5 as5 h5 p5 g5 => ?_⟩
      have hl5 : rs5.length = s2.μ.length := h5.r.l1
      cases b with
      | true =>
        refine iteT ?_
        obtain ⟨s3, yd, te3, m3, o3⟩ := q1 rfl
        refine te3 σ4 H5 F5 rs5 as5 h5 _ fun w H6 F6 rs6 as6 h6 p6 g6 r6 => ?_
        have gg := g5.trans g6
        have h6r : HdR X.K H6 F6 (μs (i + 1)) rs6 as6 := by rw [← m3]; exact h6.r
        obtain ⟨fr, gf⟩ := hr3.frame rl h6r gg
        have hA6 : H6 A = some (.lst acc) := by
          refine gg.keep A _ (fun z => ?_) hA3
          obtain ⟨j, mm, e, hm⟩ := mem_fl z
          have hj := (List.getElem?_eq_some_iff.mp e).1
          have hja : as2.length = (μs i).length := by have := hr3.l2; simp at this; exact this
          have := hr3.n2 j as2.length mm [A] A (by rw [List.getElem?_append_left hj]; exact e) (by simp) hm (by simp)
          omega
        have rp6 : Reps X.K F6 (outs i) acc := Reps.mono ((g3.fz.trans g5.fz).trans g6.fz) _ _ rp
        have accl : acc.length = (outs i).length := rp.len
        refine ⟨acc, hA6, by have : (16777216 : Nat) ≤ sizeLine := by decide
                             omega, ?_⟩
        have rl6 : rs6.length = (μs (i + 1)).length := h6r.l1
        have al6 : as6.length = (μs (i + 1)).length := h6r.l2
        have kE : (rs6 ++ [V.ref A])[(μs (i + 1)).length]? = some (.ref A) := by rw [← rl6]; simp
        have lE : (as6 ++ [[A]])[(μs (i + 1)).length]? = some [A] := by rw [← al6]; simp
        obtain ⟨st, gs⟩ := fr.set1 (t := .fl (outs (i + 1))) (H' := upd H6 A (.lst (acc ++ [w]))) kE lE (fun a o hna e => by rw [upd_ne (fun z => hna (by rw [z]; simp))]; exact e)
          (fun a e => by
            by_cases z : a = A
            · subst z; rw [upd_same] at e; cases e
            · rw [upd_ne z] at e; exact e)
          ⟨A, acc ++ [w], rfl, upd_same, by rw [o3]; exact rp6.append (.one r6), rfl⟩
        have eset : (μs (i + 1) ++ [T.fl (outs i)]).set (μs (i + 1)).length (.fl (outs (i + 1))) = μs (i + 1) ++ [.fl (outs (i + 1))] := by simp
        rw [eset] at st
        exact ⟨acc ++ [w], F6, rs6, as6, st, (p2.trans p5).trans p6, ((g2.trans g3').trans gf).trans gs, upd_same, by rw [o3]; exact rp6.append (.one r6), by rw [o3]; simp; omega⟩
      | false =>
        refine iteF ?_
        obtain ⟨m3, o3⟩ := q2 rfl
        have h5r : HdR X.K H5 F5 (μs (i + 1)) rs5 as5 := by rw [← m3]; exact h5.r
        obtain ⟨fr, gf⟩ := hr3.frame rl h5r g5
        have hA5 : H5 A = some (.lst acc) := by
          refine g5.keep A _ (fun z => ?_) hA3
          obtain ⟨j, mm, e, hm⟩ := mem_fl z
          have hj := (List.getElem?_eq_some_iff.mp e).1
          have hja : as2.length = (μs i).length := by have := hr3.l2; simp at this; exact this
          have := hr3.n2 j as2.length mm [A] A (by rw [List.getElem?_append_left hj]; exact e) (by simp) hm (by simp)
          omega
        refine ⟨acc, F5, rs5, as5, by rw [o3]; exact fr, p2.trans p5, (g2.trans g3').trans gf, hA5, by rw [o3]; exact Reps.mono (g3.fz.trans g5.fz) _ _ rp, by rw [o3]; omega⟩
    · have e : i = n := by omega
      subst e
      refine .inl ⟨stop, ?_⟩
      refine k (V.ref A) H2 F2 (rs2 ++ [V.ref A]) (as2 ++ [[A]]) ⟨show HdR X.K H2 F2 (μs i ++ [T.fl (outs i)]) (rs2 ++ [V.ref A]) (as2 ++ [[A]]) from hr, ?_⟩ ((p1.trans p2).trans ⟨_, rfl⟩) (g1.trans g2) ?_
      · exact (h1.sl.mono f12 fun k v q => pre_get p2 k v q).mono (Same.refl _) fun k v q => pre_get ⟨_, rfl⟩ k v q
      · show (rs2 ++ [V.ref A])[s1.μ.length]? = _
        rw [← hl i, ← rl]; simp
section
variable {X : Cx} {s s1 : S} {tg iter elt : Expr} {ifs : List Expr} {scope : Scope} {own : List (Str × Nat)} {pos : Pos} {n : Nat} {it : Nat → D} {G : TG} {is : List Nat} {g : D → List Sl → Option (List Sl)} {t : TT}
theorem ea_lc (own : List (Str × Nat)) (μs : Nat → List T) (outs : Nat → List D) (hi : IT X s tg iter s1 n it) (hN : X.N.Nodup) (ok : BlkOk X.N X.env.scope scope own)
    (hG : ∀ (sh : Shared) (H0 : Hp) (C : Addr) (cl : List (Str × Addr)) (fp : List Addr), PG (X.blk sh H0 scope (PySem.compEnvC scope cl C X.env) fp) tg G) (hS : GS X.K G is g)
    (hT : ∀ (sh : Shared) (H0 : Hp) (C : Addr) (cl : List (Str × Addr)) (fp : List Addr), PTs (X.blk sh H0 scope (PySem.compEnvC scope cl C X.env) fp) ifs t)
    (hn : n ≤ 16777216) (h0 : μs 0 = s1.μ) (o0 : outs 0 = []) (hl : ∀ i, (μs i).length = s1.μ.length) (hs : ∀ i, i < n → LcTurn X.K g t (bE X scope elt) (wipeS s1.ρ (own.map (·.2))) (it i) (μs i) (μs (i + 1)) (outs i) (outs (i + 1)))
    (hv : ∀ i ∈ is, i ∈ own.map (·.2) := by decide) (hc : X.calm = true := by rfl) (hf : ∀ x, foldedSetIterable iter X.env x = pure x := by intro _; rfl) :
    EA X s (.ListComp elt [⟨tg, iter, ifs, 0⟩] scope pos) (S.add ⟨s1.ρ, μs n⟩ (.fl (outs n))) (.o s1.μ.length) := fun σ H F rs as hd Q k => by
  obtain ⟨wi, pi, hi⟩ := hi
  exact WE.of (pe_lc hc hN pi ok hG hT pe_b hf) (lc_run μs outs hi hS hv hn h0 o0 hl hs σ H F rs as hd Q k)
/-- name = [..] on one line -/
theorem w1_setLc (i : Nat) {nm : Str} {py spos : Pos} {D' : Ds} (own : List (Str × Nat)) (μs : Nat → List T) (outs : Nat → List D) (hi : IT X s tg iter s1 n it) (hN : X.N.Nodup) (hsw : swapsWith (.ListComp elt [⟨tg, iter, ifs, 0⟩] scope pos) (some (.Name nm py)) spos.line X.env = pure true) (ok : BlkOk X.N X.env.scope scope own)
    (hG : ∀ (sh : Shared) (H0 : Hp) (C : Addr) (cl : List (Str × Addr)) (fp : List Addr), PG (X.blk sh H0 scope (PySem.compEnvC scope cl C X.env) fp) tg G) (hS : GS X.K G is g)
    (hT : ∀ (sh : Shared) (H0 : Hp) (C : Addr) (cl : List (Str × Addr)) (fp : List Addr), PTs (X.blk sh H0 scope (PySem.compEnvC scope cl C X.env) fp) ifs t)
    (hn : n ≤ 16777216) (h0 : μs 0 = s1.μ) (o0 : outs 0 = []) (hl : ∀ i, (μs i).length = s1.μ.length) (hs : ∀ i, i < n → LcTurn X.K g t (bE X scope elt) (wipeS s1.ρ (own.map (·.2))) (it i) (μs i) (μs (i + 1)) (outs i) (outs (i + 1)))
    (k : D'.nx ⟨s1.ρ.set i (.o s1.μ.length), μs n ++ [.fl (outs n)]⟩)
    (hv : ∀ i ∈ is, i ∈ own.map (·.2) := by decide) (hy : X.N[i]? = some nm := by rfl) (hyl : X.env.scope.names.lookup nm = some .local := by rfl) (hc : X.calm = true := by rfl) (hf : ∀ x, foldedSetIterable iter X.env x = pure x := by intro _; rfl) :
    W1 X s (.Assign [.Name nm py] (.ListComp elt [⟨tg, iter, ifs, 0⟩] scope pos) spos) D' := fun W σ H F rs as hd g p => by
  obtain ⟨wi, pi, hi⟩ := hi
  refine WSt.of (ps_setLc hc hN hy hyl hsw pi ok hG hT pe_b hf) (lc_run μs outs hi hS hv hn h0 o0 hl hs σ H F rs as hd _ fun v H1 F1 rs1 as1 h1 p1 g1 r1 => ?_)
  exact ⟨F1, rs1, as1, ⟨s1.ρ.set i (.o s1.μ.length), μs n ++ [.fl (outs n)]⟩, ⟨h1.r, h1.sl.set i ⟨v, rfl, r1⟩⟩, g.trans g1, p.trans p1, k⟩
end
end Q
namespace Q
open PySem L2

/-! ### methods of built-in types, stores -/
def MtV (X : Cx) (s : S) (r : V → List V → Hp → VK → Prop) (x : Ar) (xs : List Ar) (s' : S) (y : Ar) : Prop := ∀ σ H F rs as v vs, Hd X.K σ H F rs as s → ArOk X.K F rs x v → ArsOk X.K F rs xs vs → ∀ Q : VK,
  (∀ u H' F' rs' as', Hd X.K σ H' F' rs' as' s' → rs <+: rs' → Go as.flatten as'.flatten F H F' H' → ArOk X.K F' rs' y u → Q u H') → r v vs H Q
/-- x is of the built-in type T -/
def TyA (X : Cx) (s : S) (T' : String) (x : Ar) : Prop := ∀ σ H F rs as v, Hd X.K σ H F rs as s → ArOk X.K F rs x v → tyV X.K T' v H
section
variable {X : Cx} {s s1 s2 s3 : S} {o e : Expr} {es : List Expr} {x y : Ar} {xs : List Ar} {d : D} {ds es' : List D} {pos apos : Pos} {nm : Str} {T' id : String} {r : V → List V → Hp → VK → Prop}
theorem ty_str {l : List Nat} : TyA X s "str" (.d (.str l)) := fun σ H F rs as v hd a => by cases a; rfl
theorem ty_list (h : Ls s x ds) : TyA X s "list" x := fun σ H F rs as v hd a => by
  obtain ⟨p, xs, rfl, q, r⟩ := h.get hd a
  exact .inl ⟨rfl, _, .of q⟩
theorem ea_mt (pa : PlainAttrs T') (slot : Slot T' nm id) (hty : typeOf (.builtin id) = pure (.type "method_descriptor")) (hm : MtR X id r) (ho : EA X s o s1 x) (ty : TyA X s1 T' x) (ha : EAs X s1 (e :: es) s2 xs) (hr : MtV X s2 r x xs s3 y)
    (hbase : attributeBase o nm X.env (eval o X.env) = eval o X.env := by rfl)
    (hfew : ((backTo pos (starEach (e :: es) X.env)).all (fun x => !x.1) && (backToKw pos (keywordEach [] X.env)).all (fun x => x.1.isSome) && decide ((e :: es).length + ([] : List Keyword).length + (if ([] : List Keyword).isEmpty then 0 else 1) < 30)) = true := by rfl)
    (hline : (apos.endLine == pos.line) = true := by rfl) (hs : starEach (e :: es) X.env = (false, eval e X.env) :: starEach es X.env := by rfl) (hplain : (backTo pos (starEach es X.env)).any (·.1) = false := by rfl) :
    EA X s (.Call (.Attribute o nm apos) (e :: es) [] pos) s3 y := fun σ H F rs as hd Q k =>
  WE.of (pe_bm pa slot hty hm pe_u pa_u hbase hfew hline hs hplain) (ho σ H F rs as hd _ fun v H1 F1 rs1 as1 h1 p1 g1 r1 => ⟨ty σ H1 F1 rs1 as1 v h1 r1, ha σ H1 F1 rs1 as1 h1 _ fun vs H2 F2 rs2 as2 h2 p2 g2 r2 =>
    hr σ H2 F2 rs2 as2 v vs h2 (r1.mono g2.fz p2) r2 Q fun u H3 F3 rs3 as3 h3 p3 g3 r3 => k u H3 F3 rs3 as3 h3 ((p1.trans p2).trans p3) ((g1.trans g2).trans g3) r3⟩)
theorem ea_mt0 (pa : PlainAttrs T') (slot : Slot T' nm id) (hty : typeOf (.builtin id) = pure (.type "method_descriptor")) (hm : MtR X id r) (ho : EA X s o s1 x) (ty : TyA X s1 T' x) (hr : MtV X s1 r x [] s3 y)
    (hbase : attributeBase o nm X.env (eval o X.env) = eval o X.env := by rfl) (hline : (apos.endLine == pos.line) = true := by rfl) : EA X s (.Call (.Attribute o nm apos) [] [] pos) s3 y := fun σ H F rs as hd Q k =>
  WE.of (pe_bm0 pa slot hty hm pe_u hbase hline) (ho σ H F rs as hd _ fun v H1 F1 rs1 as1 h1 p1 g1 r1 => ⟨ty σ H1 F1 rs1 as1 v h1 r1,
    hr σ H1 F1 rs1 as1 v [] h1 r1 rfl Q fun u H3 F3 rs3 as3 h3 p3 g3 r3 => k u H3 F3 rs3 as3 h3 (p1.trans p3) (g1.trans g3) r3⟩)
/-- an owned list, and what becomes of the state where it is written -/
theorem Hd.lst {K : PySem.W.Frag} {σ : St} {H F : Hp} {rs : List V} {as : List (List Addr)} {k : Nat} {v : V} (hd : Hd K σ H F rs as s) (hk : s.μ[k]? = some (.fl ds)) (hv : rs[k]? = some v) :
    ∃ p xs, v = .ref p ∧ H p = some (.lst xs) ∧ Reps K F ds xs ∧ ∀ es ys, Reps K F es ys → Hd K σ (upd H p (.lst ys)) F rs as ⟨s.ρ, s.μ.set k (.fl es)⟩ ∧ Go as.flatten as.flatten F H F (upd H p (.lst ys)) := by
  obtain ⟨v', l, h1, h2, p, xs, e, hp, r, el⟩ := hd.r.at hk
  rw [h1] at hv; cases hv
  subst el
  refine ⟨p, xs, e, hp, r, fun es ys rr => ?_⟩
  obtain ⟨a, b⟩ := hd.r.set1 (t := .fl es) (H' := upd H p (.lst ys)) h1 h2 (fun a o hna e => by rw [upd_ne (fun z => hna (by rw [z]; simp))]; exact e)
    (fun a e => by
      by_cases z : a = p
      · subst z; rw [upd_same] at e; cases e
      · rw [upd_ne z] at e; exact e)
    ⟨p, ys, e, upd_same, rr, rfl⟩
  exact ⟨⟨a, hd.sl⟩, b⟩
theorem mv_append {k : Nat} (hk : s.μ[k]? = some (.fl ds)) (hz : ds.length < 16777216) : MtV X s rAppend (.o k) [.d d] ⟨s.ρ, s.μ.set k (.fl (ds ++ [d]))⟩ (.d .non) := fun σ H F rs as v vs hd a ⟨w, ws, e, b, e2⟩ Q c => by
  subst e2 e
  obtain ⟨p, xs, rfl, q, r, up⟩ := hd.lst hk a
  obtain ⟨h1, h2⟩ := up _ _ (r.append (.one b))
  exact ⟨p, xs, w, rfl, rfl, q, by rw [r.len]; exact hz, c _ _ _ _ _ h1 (refl_pre _) h2 rfl⟩
theorem mv_extend {k : Nat} (hk : s.μ[k]? = some (.fl ds)) (hy : Ls s y es') (hz : ds.length + es'.length ≤ 16777216) : MtV X s rExtend (.o k) [y] ⟨s.ρ, s.μ.set k (.fl (ds ++ es'))⟩ (.d .non) := fun σ H F rs as v vs hd a ⟨w, ws, e, b, e2⟩ Q c => by
  subst e2 e
  obtain ⟨p, xs, rfl, q, r, up⟩ := hd.lst hk a
  obtain ⟨p', ys, rfl, q', r'⟩ := hy.get hd b
  obtain ⟨h1, h2⟩ := up _ _ (r.append r')
  exact ⟨p, p', xs, ys, rfl, rfl, q, q', by rw [r.len, r'.len]; exact hz, c _ _ _ _ _ h1 (refl_pre _) h2 rfl⟩
theorem mv_pop {k : Nat} (hk : s.μ[k]? = some (.fl ds)) (hz : ds[ds.length - 1]? = some d) : MtV X s rPop (.o k) [] ⟨s.ρ, s.μ.set k (.fl ds.dropLast)⟩ (.d d) := fun σ H F rs as v vs hd a e Q c => by
  cases e
  obtain ⟨p, xs, rfl, q, r, up⟩ := hd.lst hk a
  obtain ⟨h1, h2⟩ := up _ _ r.dropLast
  obtain ⟨w, h3, h4⟩ := r.get hz
  exact ⟨p, xs, w, rfl, rfl, q, by rw [r.len]; exact h3, c _ _ _ _ _ h1 (refl_pre _) h2 h4⟩
theorem mv_popAt {k j : Nat} {i : Int} (hk : s.μ[k]? = some (.fl ds)) (h1 : -(2 ^ 63) ≤ i) (h2 : i < 2 ^ 63) (hj : seqIndex? i ds.length = some j) (hz : ds[j]? = some d) : MtV X s rPopAt (.o k) [.d (.int i)] ⟨s.ρ, s.μ.set k (.fl (ds.eraseIdx j))⟩ (.d d) := fun σ H F rs as v vs hd a ⟨w, ws, e, b, e2⟩ Q c => by
  subst e2 e
  cases b
  obtain ⟨p, xs, rfl, q, r, up⟩ := hd.lst hk a
  obtain ⟨q1, q2⟩ := up _ _ (r.erase j)
  obtain ⟨w, h3, h4⟩ := r.get hz
  exact ⟨p, xs, i, j, w, rfl, rfl, q, h1, h2, by rw [r.len]; exact hj, h3, c _ _ _ _ _ q1 (refl_pre _) q2 h4⟩
theorem mv_reverse {k : Nat} (hk : s.μ[k]? = some (.fl ds)) : MtV X s rReverse (.o k) [] ⟨s.ρ, s.μ.set k (.fl ds.reverse)⟩ (.d .non) := fun σ H F rs as v vs hd a e Q c => by
  cases e
  obtain ⟨p, xs, rfl, q, r, up⟩ := hd.lst hk a
  obtain ⟨q1, q2⟩ := up _ _ r.reverse
  exact ⟨p, xs, rfl, rfl, q, c _ _ _ _ _ q1 (refl_pre _) q2 rfl⟩
theorem mv_clear {k : Nat} (hk : s.μ[k]? = some (.fl ds)) : MtV X s rClear (.o k) [] ⟨s.ρ, s.μ.set k (.fl [])⟩ (.d .non) := fun σ H F rs as v vs hd a e Q c => by
  cases e
  obtain ⟨p, xs, rfl, q, r, up⟩ := hd.lst hk a
  obtain ⟨q1, q2⟩ := up [] [] rfl
  exact ⟨p, xs, rfl, rfl, q, c _ _ _ _ _ q1 (refl_pre _) q2 rfl⟩
/-- x[i] = e, x an owned list -/
theorem w1_setix {i : Expr} {D' : Ds} {k m : Nat} {j : Int} {p2 : Pos} (he : EA X s e s1 (.d d)) (ho : EA X s1 o s2 (.o k)) (hi : EA X s2 i s3 (.d (.int j))) (hk : s3.μ[k]? = some (.fl ds)) (hm : ixN ds.length j = some m) (c : D'.nx ⟨s3.ρ, s3.μ.set k (.fl (ds.set m d))⟩)
    (ha : ∀ v, assign (.Subscript o i p2) X.env v = (do
      let ov ← holding [v] (eval o X.env)
      let iv ← holding [v, ov] (eval i X.env)
      standAt p2
      holding [v, ov, iv] (setItem ov iv v)
      release [v, ov, iv] []) := by intro _; rfl)
    (hs : swapsWithSole [.Subscript o i p2] e pos.line X.env = pure false := by rfl) (hw : swappedStores [.Subscript o i p2] e X.env = pure none := by rfl) (h1 : (assignEach [.Subscript o i p2] X.env).map (·.2) = [assign (.Subscript o i p2) X.env] := by rfl) :
    W1 X s (.Assign [.Subscript o i p2] e pos) D' := fun W σ H F rs as hd g p =>
  WSt.of (ps_asg pe_u (pg_sub pe_u pe_u set_list ha) hs hw h1) (he σ H F rs as hd _ fun v H1 F1 rs1 as1 h1 p1 g1 r1 => ho σ H1 F1 rs1 as1 h1 _ fun u H2 F2 rs2 as2 h2 p2 g2 r2 => hi σ H2 F2 rs2 as2 h2 _ fun w H3 F3 rs3 as3 h3 p3 g3 r3 => by
    cases r3
    obtain ⟨q, xs, rfl, hq, r, up⟩ := h3.lst hk (pre_get p3 _ _ r2)
    obtain ⟨a, b⟩ := up _ _ (r.set m (Rep.mono (g2.fz.trans g3.fz) _ _ r1))
    exact ⟨q, xs, j, m, rfl, rfl, hq, by rw [r.len]; exact hm, F3, rs3, as3, _, a, (((g.trans g1).trans g2).trans g3).trans b, ((p.trans p1).trans p2).trans p3, c⟩)
end

/-! ### contracts -/
inductive Ag where
  | d (d : D) | o (t : T)
def agsT : List Ag → List T
  | [] => []
  | .d _ :: gs => agsT gs
  | .o t :: gs => t :: agsT gs
def agV : List Ag → List V → List V
  | .o _ :: gs, v :: vs => v :: agV gs vs
  | .d _ :: gs, _ :: vs => agV gs vs
  | _, _ => []
def AgD (K : PySem.W.Frag) (F : Hp) : List Ag → List V → Prop
  | [], vs => vs = []
  | .d d :: gs, vs => ∃ v ws, vs = v :: ws ∧ Rep K F d v ∧ AgD K F gs ws
  | .o _ :: gs, vs => ∃ v ws, vs = v :: ws ∧ AgD K F gs ws
theorem AgD.len {K : PySem.W.Frag} {F : Hp} : ∀ {gs : List Ag} {vs : List V}, AgD K F gs vs → vs.length = gs.length
  | [], _, h => by cases h; rfl
  | .d _ :: _, _, ⟨_, _, e, _, h⟩ => by cases e; simp [AgD.len h]
  | .o _ :: _, _, ⟨_, _, e, h⟩ => by cases e; simp [AgD.len h]
/-- a contract: the arguments, by what they are told by; what is asked of these; what it gives: the answer, the owned arguments behind it -/
structure Ct where
  ι : Type
  args : ι → List Ag
  pre : ι → Prop
  post : ι → T → List T → Prop
/-- what a def promises -/
def spOf (K : PySem.W.Frag) (Φ : Ct) : Sp := fun vs H Q _ => ∃ F ass, ∃ i : Φ.ι, HdR K H F (agsT (Φ.args i)) (agV (Φ.args i) vs) ass ∧ AgD K F (Φ.args i) vs ∧ Φ.pre i ∧
  ∀ r outs, Φ.post i r outs → ∀ v H' F' ass', HdR K H' F' (outs ++ [r]) (agV (Φ.args i) vs ++ [v]) ass' → Go ass.flatten ass'.flatten F H F' H' → Q v H'
def slots0 : List Ag → Nat → List Sl
  | [], _ => []
  | .d d :: gs, k => .d d :: slots0 gs k
  | .o _ :: gs, k => .o k :: slots0 gs (k + 1)
theorem slots0_len : ∀ (gs : List Ag) (k : Nat), (slots0 gs k).length = gs.length
  | [], _ => rfl
  | .d _ :: gs, k => by simp [slots0, slots0_len gs k]
  | .o _ :: gs, k => by simp [slots0, slots0_len gs (k + 1)]
def st0 (n : Nat) (gs : List Ag) : S := ⟨slots0 gs 0 ++ List.replicate (n - gs.length) .un, agsT gs⟩
theorem Slots.app {K : PySem.W.Frag} {F : Hp} {rs : List V} : ∀ {ρ ρ' : List Sl} {σ σ' : St}, Slots K F rs ρ σ → Slots K F rs ρ' σ' → Slots K F rs (ρ ++ ρ') (σ ++ σ')
  | [], _, _, _, h, h' => by cases h; exact h'
  | _ :: _, _, _, _, ⟨x, σ1, e, h1, h2⟩, h' => by cases e; exact ⟨x, _, rfl, h1, Slots.app h2 h'⟩
theorem Slots.uns {K : PySem.W.Frag} {F : Hp} {rs : List V} : ∀ n : Nat, Slots K F rs (List.replicate n .un) (List.replicate n none)
  | 0 => rfl
  | n + 1 => ⟨none, _, rfl, trivial, Slots.uns n⟩
theorem slots0_ok {K : PySem.W.Frag} {F : Hp} : ∀ {gs : List Ag} {vs : List V} (pre : List V), AgD K F gs vs → Slots K F (pre ++ agV gs vs) (slots0 gs pre.length) (vs.map some)
  | [], _, _, h => by cases h; rfl
  | .d d :: gs, _, pre, ⟨v, ws, e, r, h⟩ => by
    cases e
    exact ⟨some v, _, rfl, ⟨v, rfl, r⟩, slots0_ok pre h⟩
  | .o t :: gs, _, pre, ⟨v, ws, e, h⟩ => by
    cases e
    refine ⟨some v, _, rfl, ⟨v, rfl, ?_⟩, ?_⟩
    · show (pre ++ v :: agV gs ws)[pre.length]? = some v
      simp
    · have := slots0_ok (gs := gs) (vs := ws) (pre ++ [v]) h
      rw [List.append_assoc] at this
      simp only [List.length_append, List.length_singleton] at this
      exact this
/-- how a def's body ends -/
def Ret (m : Nat) (r : T) (outs : List T) (s : S) (x : Ar) : Prop := s.μ.take m = outs ∧ m ≤ s.μ.length ∧ match x with
  | .d d => r = .fz d
  | .o k => m ≤ k ∧ s.μ[k]? = some r
def Rets (m : Nat) (Ψ : T → List T → Prop) (s : S) (x : Ar) : Prop := ∃ r outs, Ψ r outs ∧ Ret m r outs s x
def rets (m : Nat) (Ψ : T → List T → Prop) : Ds := { nx := fun s => Rets m Ψ s (.d .non), rt := Rets m Ψ }
theorem Go.sub {as as' as2 : List Addr} {F H F' H' : Hp} (g : Go as as' F H F' H') (h : ∀ a ∈ as2, a ∈ as') : Go as as2 F H F' H' := ⟨g.fz, g.new, g.keep, g.there, fun a ha => g.aw a (h a ha)⟩
theorem HdR.addFz {K : PySem.W.Frag} {H F : Hp} {ts : List T} {vs : List V} {as : List (List Addr)} {d : D} {v : V} (h : HdR K H F ts vs as) (r : Rep K F d v) : HdR K H F (ts ++ [.fz d]) (vs ++ [v]) (as ++ [[]]) := by
  have sh : ∀ (i : Nat) m, (as ++ [[]])[i]? = some m → as[i]? = some m ∨ m = [] := fun i m e => by
    rcases app_get e with q | ⟨q0, q⟩
    · exact .inl q
    · have : i - as.length = 0 := by have := (List.getElem?_eq_some_iff.mp q).1; simp at this; omega
      rw [this] at q; simp at q
      exact .inr q
  refine ⟨h.sub, by simp [h.l1], by simp [h.l2], fun i t' v' m e1 e2 e3 => ?_, fun i m e => ?_, fun i j m m' a e1 e2 h1 h2 => ?_, fun i m a e ha => ?_⟩
  · rcases app_get e1 with q | ⟨q0, q⟩
    · have hi := (List.getElem?_eq_some_iff.mp q).1
      rw [List.getElem?_append_left (by rw [h.l1]; exact hi)] at e2
      rw [List.getElem?_append_left (by rw [h.l2]; exact hi)] at e3
      exact h.own i t' v' m q e2 e3
    · have i0 : i = ts.length := by have := (List.getElem?_eq_some_iff.mp q).1; simp at this; omega
      subst i0
      simp at q; subst q
      rw [← h.l1] at e2; simp at e2; subst e2
      rw [← h.l2] at e3; simp at e3; subst e3
      exact ⟨r, rfl⟩
  · rcases sh i m e with q | rfl
    · exact h.n1 _ _ q
    · exact List.nodup_nil
  · rcases sh i m e1 with q | rfl
    · rcases sh j m' e2 with z | rfl
      · exact h.n2 _ _ _ _ _ q z h1 h2
      · cases h2
    · cases h1
  · rcases sh i m e with q | rfl
    · exact h.af _ _ _ q ha
    · cases ha
theorem pick_range {α : Type} (xs : List α) (d : α) (m : Nat) (h : m ≤ xs.length) : pick xs (List.range m) d = xs.take m := by
  refine List.ext_getElem? fun i => ?_
  unfold pick
  rw [List.getElem?_map]
  by_cases hi : i < m
  · rw [List.getElem?_range hi, List.getElem?_take_of_lt hi]
    simp [List.getD, List.getElem?_eq_getElem (show i < xs.length by omega)]
  · rw [List.getElem?_eq_none (by simp; omega), List.getElem?_eq_none (by rw [List.length_take]; omega)]; rfl
/-- what a body's end gives to the caller -/
theorem ret_out {K : PySem.W.Frag} {σ : St} {H F : Hp} {rs ovs : List V} {as : List (List Addr)} {s : S} {x : Ar} {v : V} {r : T} {outs : List T} {W : List Addr} {F0 H0 : Hp} (hd : Hd K σ H F rs as s) (g : Go W as.flatten F0 H0 F H) (p : ovs <+: rs) (a : ArOk K F rs x v) (h : Ret ovs.length r outs s x) :
    ∃ as', HdR K H F (outs ++ [r]) (ovs ++ [v]) as' ∧ Go W as'.flatten F0 H0 F H := by
  obtain ⟨h1, hm, h2⟩ := h
  have lv : ovs.length ≤ rs.length := p.length_le
  have la : ovs.length ≤ as.length := by rw [hd.r.l2]; exact hm
  have ep : rs.take ovs.length = ovs := by
    obtain ⟨zs, rfl⟩ := p
    simp
  have subf : ∀ ks : List Nat, ∀ b ∈ (pick as ks []).flatten, b ∈ as.flatten := fun ks b hb => by
    obtain ⟨i, l, e, hm⟩ := mem_fl hb
    unfold pick at e
    rw [List.getElem?_map] at e
    cases q : ks[i]? with
    | none => rw [q] at e; cases e
    | some k =>
      rw [q] at e
      have e' : as.getD k [] = l := Option.some.inj e
      cases q2 : as[k]? with
      | none => rw [List.getD, q2] at e'; subst e'; cases hm
      | some l' => rw [List.getD, q2] at e'; simp at e'; subst e'; exact fl_mem q2 hm
  cases x with
  | d d =>
    have h2 : r = .fz d := h2
    subst h2
    have hp := hd.r.part (ks := List.range ovs.length) List.nodup_range (fun k hk => by have := List.mem_range.mp hk; omega)
    rw [pick_range _ _ _ hm, pick_range _ _ _ lv, h1, ep] at hp
    refine ⟨_, hp.addFz a, g.sub fun b hb => ?_⟩
    simp only [List.flatten_append, List.mem_append] at hb
    rcases hb with hb | hb
    · exact subf _ b hb
    · simp at hb
  | o k =>
    obtain ⟨hk, hr⟩ := h2
    have kl := (List.getElem?_eq_some_iff.mp hr).1
    have hp := hd.r.part (ks := List.range ovs.length ++ [k]) (by
      rw [List.nodup_append]
      refine ⟨List.nodup_range, by simp, fun a ha b hb => ?_⟩
      have := List.mem_range.mp ha
      simp at hb
      omega) (fun j hj => by
        rcases List.mem_append.mp hj with z | z
        · have := List.mem_range.mp z; omega
        · simp at z; omega)
    have ap : ∀ {α : Type} (xs : List α) (d : α), pick xs (List.range ovs.length ++ [k]) d = pick xs (List.range ovs.length) d ++ [xs.getD k d] := fun xs d => by simp [pick]
    have e1 : s.μ.getD k (.fz .non) = r := by simp [List.getD, hr]
    have e2 : rs.getD k .non = v := by
      have a' : rs[k]? = some v := a
      simp [List.getD, a']
    have hp2 : HdR K H F (outs ++ [r]) (ovs ++ [v]) (pick as (List.range ovs.length ++ [k]) []) := by
      rw [ap, ap] at hp
      rw [pick_range _ _ _ hm, pick_range _ _ _ lv, h1, ep, e1, e2] at hp
      exact hp
    exact ⟨_, hp2, g.sub (subf _)⟩
theorem agV_len {K : PySem.W.Frag} {F : Hp} : ∀ {gs : List Ag} {vs : List V}, AgD K F gs vs → (agV gs vs).length = (agsT gs).length
  | [], _, h => by cases h; rfl
  | .d d :: gs, _, ⟨v, ws, e, _, h⟩ => by
    cases e
    show (agV gs ws).length = (agsT gs).length
    exact agV_len h
  | .o _ :: _, _, ⟨_, _, e, h⟩ => by cases e; simp [agV, agsT, agV_len h]
section
variable {P : Program} {w : World} {K : PySem.W.Frag} {mg : Str → Option Value} {base : Heap}
/-- THE RULE for a def -/
theorem fn_ok {x qual : Str} {st : Stmt} {f : Addr} {fd : FuncData} {N ps : List Str} {k : Nat} {Φ : Ct} (F : Fun K x qual st f fd) (S : FnScope N ps (defScope st)) (hl : ∀ i, (Φ.args i).length = ps.length)
    (hb : ∀ (cdv : Value) (A : Around) (outer : List Env) (s : Shared) (H : Hp) (E : XK), Room k (A.deeper (PyProof.Rows.envOfC qual (defScope st) s.heap.objs.size f cdv)) → ∀ i, Φ.pre i →
      WS (cxOf CX0 P w K mg base N qual (defScope st) f cdv A outer s H E).nox (st0 N.length (Φ.args i)) (defBody st) (rets (agsT (Φ.args i)).length (Φ.post i))) : FnOk P w K mg base CX0 (k + 1) f fd ps (spOf K Φ) := by
  refine F.ok S (fun vs H Q E h => ?_) (fun cdv A outer s H vs Q E hr h => ?_)
  · obtain ⟨F0, ass, i, _, h2, _⟩ := h
    rw [h2.len, hl i]
  · obtain ⟨F0, ass, i, h1, h2, h3, c⟩ := h
    refine ⟨_, pss_u, ?_⟩
    have sl : Slots K F0 (agV (Φ.args i) vs) (st0 N.length (Φ.args i)).ρ (start N vs) := by
      have q := slots0_ok [] h2
      refine q.app ?_
      rw [h2.len]
      exact Slots.uns _
    have w0 := hb cdv A outer s H E hr i h3 ⟨H, F0, ass.flatten, agV (Φ.args i) vs⟩ (start N vs) H F0 (agV (Φ.args i) vs) ass ⟨h1, sl⟩ (Go.refl _ _ _) (refl_pre _)
    rw [← agV_len h2] at w0
    refine w0.mono (fun σ' H' q => ?_) (fun v H' q => ?_) (fun _ _ q => ?_) (fun _ _ q => ?_)
    · obtain ⟨F', rs', as', s', hd, g, p, r, outs, hp, rt⟩ := q
      obtain ⟨as2, q1, q2⟩ := ret_out (x := .d .non) (v := V.non) hd g p rfl rt
      exact c r outs hp _ _ _ _ q1 q2
    · obtain ⟨σ', F', rs', as', s', x', hd, g, p, a, r, outs, hp, rt⟩ := q
      obtain ⟨as2, q1, q2⟩ := ret_out hd g p a rt
      exact c r outs hp _ _ _ _ q1 q2
    · obtain ⟨_, _, _, _, _, _, _, z⟩ := q; exact z
    · obtain ⟨_, _, _, _, _, _, _, z⟩ := q; exact z
end
/-! ### calls -/
def oks : List Ar → List Nat
  | [] => []
  | .d _ :: xs => oks xs
  | .o k :: xs => k :: oks xs
def agOf (μ : List T) : List Ar → Option (List Ag)
  | [] => some []
  | .d d :: xs => (agOf μ xs).map (Ag.d d :: ·)
  | .o k :: xs => (μ[k]?).bind fun t => (agOf μ xs).map (Ag.o t :: ·)
theorem agOf_ok {K : PySem.W.Frag} {F : Hp} {rs : List V} {μ : List T} : ∀ {xs : List Ar} {gs : List Ag} {vs : List V}, agOf μ xs = some gs → ArsOk K F rs xs vs →
    agsT gs = pick μ (oks xs) (.fz .non) ∧ agV gs vs = pick rs (oks xs) .non ∧ AgD K F gs vs ∧ ∀ k ∈ oks xs, k < μ.length
  | [], _, _, h, a => by cases h; cases a; exact ⟨rfl, rfl, rfl, fun _ z => nomatch z⟩
  | .d d :: xs, _, _, h, ⟨v, ws, e, r, a⟩ => by
    cases e
    have h' : (agOf μ xs).map (Ag.d d :: ·) = some _ := h
    cases q : agOf μ xs with
    | none => rw [q] at h'; cases h'
    | some gs =>
      rw [q] at h'; cases h'
      obtain ⟨q1, q2, q3, q4⟩ := agOf_ok q a
      exact ⟨q1, q2, ⟨v, ws, rfl, r, q3⟩, q4⟩
  | .o k :: xs, _, _, h, ⟨v, ws, e, r, a⟩ => by
    cases e
    have h' : (μ[k]?).bind (fun t => (agOf μ xs).map (Ag.o t :: ·)) = some _ := h
    cases z : μ[k]? with
    | none => rw [z] at h'; cases h'
    | some t =>
      rw [z] at h'
      have h' : (agOf μ xs).map (Ag.o t :: ·) = some _ := h'
      cases q : agOf μ xs with
      | none => rw [q] at h'; cases h'
      | some gs =>
        rw [q] at h'; cases h'
        obtain ⟨q1, q2, q3, q4⟩ := agOf_ok q a
        have r' : rs[k]? = some v := r
        refine ⟨?_, ?_, ⟨v, ws, rfl, q3⟩, fun j hj => ?_⟩
        · show t :: agsT gs = μ.getD k (.fz .non) :: pick μ (oks xs) (.fz .non)
          rw [q1]; simp [List.getD, z]
        · show v :: agV gs ws = rs.getD k .non :: pick rs (oks xs) .non
          rw [q2]; simp [List.getD, r']
        · rcases List.mem_cons.mp hj with rfl | hj
          · exact (List.getElem?_eq_some_iff.mp z).1
          · exact q4 j hj
section
variable {X : Cx} {s s1 : S} {Φ : Ct} {xs : List Ar} {gs : List Ag} {d : D}
/-- what a callee's promise gives to the caller's state -/
theorem call_in {σ : St} {H F : Hp} {rs : List V} {as : List (List Addr)} {vs : List V} {Q : VK} {E' : XK} (i : Φ.ι) (hd : Hd X.K σ H F rs as s) (a : ArsOk X.K F rs xs vs) (hg : agOf s.μ xs = some (Φ.args i)) (hp : Φ.pre i) (nd : (oks xs).Nodup) (hlen : ∀ r outs, Φ.post i r outs → outs.length = (oks xs).length)
    (c : ∀ r outs, Φ.post i r outs → ∀ v H' F' as', Hd X.K σ H' F' (rs ++ [v]) as' ⟨s.ρ, setAll s.μ (oks xs) outs ++ [r]⟩ → Go as.flatten as'.flatten F H F' H' → Q v H') : spOf X.K Φ vs H Q E' := by
  obtain ⟨q1, q2, q3, q4⟩ := agOf_ok hg a
  refine ⟨F, pick as (oks xs) [], i, ?_, q3, hp, fun r outs ho v H' F' ass' h' g => ?_⟩
  · rw [q1, q2]
    exact hd.r.part nd q4
  · rw [q2] at h'
    have lo := hlen r outs ho
    have l2 : ass'.length = (oks xs).length + 1 := by have := h'.l2; simp at this; omega
    have es2 : ass' = ass'.take (oks xs).length ++ ass'.drop (oks xs).length := (List.take_append_drop _ _).symm
    rw [es2] at h' g
    obtain ⟨m1, m2⟩ := hd.r.merge nd q4 lo (by rw [List.length_take]; omega) h' g
    exact c r outs ho v H' F' _ ⟨m1, hd.sl.mono m2.fz fun k v q => pre_get ⟨_, rfl⟩ k v q⟩ m2
/-- the last one dropped where it is data -/
theorem Hd.dropFz {K : PySem.W.Frag} {σ : St} {H F : Hp} {rs : List V} {as : List (List Addr)} {v : V} {μ : List T} {ρ : List Sl} (hd : Hd K σ H F (rs ++ [v]) as ⟨ρ, μ ++ [.fz d]⟩) (sl : Slots K F rs ρ σ) : ∃ as', Hd K σ H F rs as' ⟨ρ, μ⟩ ∧ (∀ a ∈ as'.flatten, a ∈ as.flatten) ∧ Rep K F d v := by
  have hl : rs.length = μ.length := by have := hd.r.l1; simp at this; exact this
  have hla : as.length = μ.length + 1 := by have := hd.r.l2; simp at this; exact this
  obtain ⟨as0, l, rfl⟩ : ∃ as0 l, as = as0 ++ [l] := ⟨as.dropLast, as.getLast (fun z => by rw [z] at hla; simp at hla), (List.dropLast_concat_getLast _).symm⟩
  have hl0 : as0.length = μ.length := by simpa using hla
  obtain ⟨r, _⟩ := hd.r.own μ.length (.fz d) v l (by simp) (by rw [← hl]; simp) (by rw [← hl0]; simp)
  exact ⟨as0, ⟨hd.r.init hl, sl⟩, fun a ha => by simp only [List.flatten_append, List.mem_append]; exact .inl ha, r⟩
end
end Q
namespace Q
open PySem L2

/-! ### judgements with an open end: whatever a callee chooses -/
def EX (X : Cx) (s : S) (e : Expr) (Ψ : S → Ar → Prop) : Prop := ∀ σ H F rs as, Hd X.K σ H F rs as s → ∀ Q : VK,
  (∀ s' x, Ψ s' x → ∀ v H' F' rs' as', Hd X.K σ H' F' rs' as' s' → rs <+: rs' → Go as.flatten as'.flatten F H F' H' → ArOk X.K F' rs' x v → Q v H') → WE X e σ H Q
def EXs (X : Cx) (s : S) (es : List Expr) (Ψ : S → List Ar → Prop) : Prop := ∀ σ H F rs as, Hd X.K σ H F rs as s → ∀ Q : List V → Hp → Prop,
  (∀ s' xs, Ψ s' xs → ∀ vs H' F' rs' as', Hd X.K σ H' F' rs' as' s' → rs <+: rs' → Go as.flatten as'.flatten F H F' H' → ArsOk X.K F' rs' xs vs → Q vs H') → WA X es σ H Q
def XT (X : Cx) (s : S) (e : Expr) (Ψ : S → Bool → Prop) : Prop := ∀ σ H F rs as, Hd X.K σ H F rs as s → ∀ Q : Bool → Hp → Prop,
  (∀ s' b, Ψ s' b → ∀ H' F' rs' as', Hd X.K σ H' F' rs' as' s' → rs <+: rs' → Go as.flatten as'.flatten F H F' H' → Q b H') → WTt X e σ H Q
def XW (X : Cx) (s : S) (e : Expr) (Ψ : S → Bool → Prop) : Prop := ∀ σ H F rs as, Hd X.K σ H F rs as s → ∀ Q : Bool → Hp → Prop,
  (∀ s' b, Ψ s' b → ∀ H' F' rs' as', Hd X.K σ H' F' rs' as' s' → rs <+: rs' → Go as.flatten as'.flatten F H F' H' → Q b H') → WPt X e σ H Q
def IX (X : Cx) (s : S) (tg e : Expr) (Ψ : S → Nat → (Nat → D) → Prop) : Prop := ∃ W : TI, PI X tg e W ∧ ∀ σ H F rs as, Hd X.K σ H F rs as s → ∀ R : It → Hp → Prop,
  (∀ s' n it, Ψ s' n it → ∀ J H' F' rs' as', Hd X.K σ H' F' rs' as' s' → rs <+: rs' → Go as.flatten as'.flatten F H F' H' → Gives X.K J n it F' → R J H') → W σ H R
section
variable {X : Cx} {s s1 s2 s3 : S} {e a b c o tg iter : Expr} {es : List Expr} {x y z : Ar} {xs : List Ar} {d : D} {ds : List D} {pos p apos : Pos} {nm nm2 : Str} {Ψ Ψ' : S → Ar → Prop} {Θ : S → Bool → Prop} {D' : Ds} {body orelse : List Stmt}
theorem ex_of (h : EA X s e s1 x) (k : Ψ s1 x) : EX X s e Ψ := fun σ H F rs as hd Q c => h σ H F rs as hd Q fun v H' F' rs' as' h' p' g' a' => c s1 x k v H' F' rs' as' h' p' g' a'
theorem ex_mono (h : EX X s e Ψ) (k : ∀ s1 x, Ψ s1 x → Ψ' s1 x) : EX X s e Ψ' := fun σ H F rs as hd Q c => h σ H F rs as hd Q fun s1 x q => c s1 x (k s1 x q)
theorem xt_of {t : Bool} (h : ET X s e s1 t) (k : Θ s1 t) : XT X s e Θ := fun σ H F rs as hd Q c => h σ H F rs as hd Q fun H' F' rs' as' h' p' g' => c s1 t k H' F' rs' as' h' p' g'
theorem xs_of {Ψ : S → List Ar → Prop} (h : EAs X s es s1 xs) (k : Ψ s1 xs) : EXs X s es Ψ := fun σ H F rs as hd Q c => h σ H F rs as hd Q fun v H' F' rs' as' h' p' g' a' => c s1 xs k v H' F' rs' as' h' p' g' a'
theorem ix_of {n : Nat} {it : Nat → D} {Ψ : S → Nat → (Nat → D) → Prop} (h : IT X s tg e s1 n it) (k : Ψ s1 n it) : IX X s tg e Ψ := by
  obtain ⟨W, pi, h⟩ := h
  exact ⟨W, pi, fun σ H F rs as hd R c => h σ H F rs as hd R fun J H' F' rs' as' h' p' g' gv => c s1 n it k J H' F' rs' as' h' p' g' gv⟩
theorem ex_op {op : Operator} {r : R2} (ho : OpR X (binaryOp op) r) (h : EX X s a fun s1 x => EX X s1 b fun s2 y => ∃ d, OpV X s2 r x y d ∧ Ψ s2 (.d d)) : EX X s (.BinOp a op b pos) Ψ := fun σ H F rs as hd Q k =>
  WE.of (pe_op ho pe_u pe_u) (h σ H F rs as hd _ fun s1 x h2 v H1 F1 rs1 as1 h1 p1 g1 r1 => h2 σ H1 F1 rs1 as1 h1 _ fun s2 y ⟨d, hr, q⟩ w H2 F2 rs2 as2 h2 p2 g2 r2 => hr σ H2 F2 rs2 as2 v w h2 (r1.mono g2.fz p2) r2 Q
    (h2.fin fun u H' F' rs' as' h' p' g' q' => k s2 _ q u H' F' rs' as' h' ((p1.trans p2).trans p') ((g1.trans g2).trans g') q'))
theorem ex_opL {op : Operator} {r : R2} (ho : OpR X (binaryOp op) r) (h : EX X s a fun s1 x => EX X s1 b fun s2 y => ∃ ds, OpL X s2 r x y ds ∧ Ψ (s2.add (.fl ds)) (.o s2.μ.length)) : EX X s (.BinOp a op b pos) Ψ := fun σ H F rs as hd Q k =>
  WE.of (pe_op ho pe_u pe_u) (h σ H F rs as hd _ fun s1 x h2 v H1 F1 rs1 as1 h1 p1 g1 r1 => h2 σ H1 F1 rs1 as1 h1 _ fun s2 y ⟨ds, hr, q⟩ w H2 F2 rs2 as2 h2 p2 g2 r2 => by
    obtain ⟨ys, ry, q'⟩ := hr σ H2 F2 rs2 as2 v w h2 (r1.mono g2.fz p2) r2
    exact q' Q (h2.newK ry fun u H' F' rs' as' h' p' g' q' => k _ _ q u H' F' rs' as' h' ((p1.trans p2).trans p') ((g1.trans g2).trans g') q'))
theorem ex_cmp {op : CmpOp} {r : R2} (ho : OpR X (compareOp op) r) (h : EX X s a fun s1 x => EX X s1 b fun s2 y => ∃ d, OpV X s2 r x y d ∧ Ψ s2 (.d d)) (hm : behindInMarks op b = false := by first | exact nomark _ | rfl) : EX X s (.Compare a [op] [b] pos) Ψ := fun σ H F rs as hd Q k =>
  WE.of (pe_cmpR ho pe_u pe_u hm) (h σ H F rs as hd _ fun s1 x h2 v H1 F1 rs1 as1 h1 p1 g1 r1 => h2 σ H1 F1 rs1 as1 h1 _ fun s2 y ⟨d, hr, q⟩ w H2 F2 rs2 as2 h2 p2 g2 r2 => hr σ H2 F2 rs2 as2 v w h2 (r1.mono g2.fz p2) r2 Q
    (h2.fin fun u H' F' rs' as' h' p' g' q' => k s2 _ q u H' F' rs' as' h' ((p1.trans p2).trans p') ((g1.trans g2).trans g') q'))
theorem xt_cmp {op : CmpOp} {r : R2} (ho : OpR X (compareOp op) r) (h : EX X s a fun s1 x => EX X s1 b fun s2 y => ∃ t, OpV X s2 r x y (.bl t) ∧ Θ s2 t) (hm : behindInMarks op b = false := by first | exact nomark _ | rfl) : XT X s (.Compare a [op] [b] pos) Θ := fun σ H F rs as hd Q k =>
  WTt.of (pt_cmpR ho pe_u pe_u hm) (h σ H F rs as hd _ fun s1 x h2 v H1 F1 rs1 as1 h1 p1 g1 r1 => h2 σ H1 F1 rs1 as1 h1 _ fun s2 y ⟨t, hr, q⟩ w H2 F2 rs2 as2 h2 p2 g2 r2 => hr σ H2 F2 rs2 as2 v w h2 (r1.mono g2.fz p2) r2 _
    (h2.fin fun u H' F' rs' as' h' p' g' q' => ⟨t, q', k s2 t q H' F' rs' as' h' ((p1.trans p2).trans p') ((g1.trans g2).trans g')⟩))
theorem xt_val (h : EX X s e fun s1 x => ∃ t, x = .d (.bl t) ∧ Θ s1 t) (he : ∀ whole, isTrue e X.env whole = (do let v ← whole; standAt e.pos; holding [v] (truthy v)) := by intro _; rfl) : XT X s e Θ := fun σ H F rs as hd Q k =>
  WTt.of (pt_val pe_u he) (h σ H F rs as hd _ fun s1 x ⟨t, ex, q⟩ v H1 F1 rs1 as1 h1 p1 g1 r1 => by subst ex; exact ⟨t, r1, k s1 t q H1 F1 rs1 as1 h1 p1 g1⟩)
theorem xt_not (h : XT X s e fun s1 t => Θ s1 (!t)) : XT X s (.UnaryOp .Not e pos) Θ := fun σ H F rs as hd Q k =>
  WTt.of (pt_not pt_u) (h σ H F rs as hd _ fun s1 t q H1 F1 rs1 as1 h1 p1 g1 => k s1 _ q H1 F1 rs1 as1 h1 p1 g1)
theorem xt_w (h : XW X s e Θ) : XT X s e Θ := fun σ H F rs as hd Q k => WTt.of pw_u.pt (h σ H F rs as hd Q k)
theorem xw_and1 (h : XT X s a Θ) : XW X s (.BoolOp .And [a] pos) Θ := fun σ H F rs as hd Q k => WPt.of (pw_and1 pt_u) (h σ H F rs as hd Q k)
theorem xw_or1 (h : XT X s a Θ) : XW X s (.BoolOp .Or [a] pos) Θ := fun σ H F rs as hd Q k => WPt.of (pw_or1 pt_u) (h σ H F rs as hd Q k)
theorem xw_and {rest : List Expr} (h : XT X s a fun s1 t => (t = true → XW X s1 (.BoolOp .And (b :: rest) pos) Θ) ∧ (t = false → Θ s1 false)) : XW X s (.BoolOp .And (a :: b :: rest) pos) Θ := fun σ H F rs as hd Q k =>
  WPt.of (pw_and pt_u pw_u) (h σ H F rs as hd _ fun s1 t q H1 F1 rs1 as1 h1 p1 g1 => by
    cases t with
    | true => exact iteT (q.1 rfl σ H1 F1 rs1 as1 h1 _ fun s2 u q2 H2 F2 rs2 as2 h2 p2 g2 => k s2 u q2 H2 F2 rs2 as2 h2 (p1.trans p2) (g1.trans g2))
    | false => exact iteF (k s1 false (q.2 rfl) H1 F1 rs1 as1 h1 p1 g1))
theorem xw_or {rest : List Expr} (h : XT X s a fun s1 t => (t = false → XW X s1 (.BoolOp .Or (b :: rest) pos) Θ) ∧ (t = true → Θ s1 true)) : XW X s (.BoolOp .Or (a :: b :: rest) pos) Θ := fun σ H F rs as hd Q k =>
  WPt.of (pw_or pt_u pw_u) (h σ H F rs as hd _ fun s1 t q H1 F1 rs1 as1 h1 p1 g1 => by
    cases t with
    | false => exact iteF (q.1 rfl σ H1 F1 rs1 as1 h1 _ fun s2 u q2 H2 F2 rs2 as2 h2 p2 g2 => k s2 u q2 H2 F2 rs2 as2 h2 (p1.trans p2) (g1.trans g2))
    | true => exact iteT (k s1 true (q.2 rfl) H1 F1 rs1 as1 h1 p1 g1))
theorem ex_if (h : XT X s c fun s1 t => (t = true → EX X s1 a Ψ) ∧ (t = false → EX X s1 b Ψ)) : EX X s (.IfExp c a b pos) Ψ := fun σ H F rs as hd Q k =>
  WE.of (pe_ifExp pt_u pe_u pe_u) (h σ H F rs as hd _ fun s1 t q H1 F1 rs1 as1 h1 p1 g1 => by
    cases t with
    | true => exact iteT (q.1 rfl σ H1 F1 rs1 as1 h1 _ fun s2 x q2 w H2 F2 rs2 as2 h2 p2 g2 r2 => k s2 x q2 w H2 F2 rs2 as2 h2 (p1.trans p2) (g1.trans g2) r2)
    | false => exact iteF (q.2 rfl σ H1 F1 rs1 as1 h1 _ fun s2 x q2 w H2 F2 rs2 as2 h2 p2 g2 r2 => k s2 x q2 w H2 F2 rs2 as2 h2 (p1.trans p2) (g1.trans g2) r2))
theorem xs_nil {Ψ : S → List Ar → Prop} (k : Ψ s []) : EXs X s [] Ψ := xs_of es_nil k
theorem xs_cons {Ψ : S → List Ar → Prop} (h : EX X s e fun s1 x => EXs X s1 es fun s2 xs => Ψ s2 (x :: xs)) (hs : starEach (e :: es) X.env = (false, eval e X.env) :: starEach es X.env := by rfl) : EXs X s (e :: es) Ψ := fun σ H F rs as hd Q k =>
  WA.of (pa_cons pe_u pa_u hs) (h σ H F rs as hd _ fun s1 x h2 v H1 F1 rs1 as1 h1 p1 g1 r1 => h2 σ H1 F1 rs1 as1 h1 _ fun s2 xs q vs H2 F2 rs2 as2 q2 p2 g2 r2 => k s2 _ q _ H2 F2 rs2 as2 q2 (p1.trans p2) (g1.trans g2) ⟨v, vs, rfl, r1.mono g2.fz p2, r2⟩)
theorem ex_tup {x1} (h : EXs X s es fun s1 xs => ∃ ds, allD xs = some ds ∧ ds.length ≤ 100000 ∧ Ψ s1 (.d (.tup ds))) : EX X s (.Tuple es x1 pos) Ψ := fun σ H F rs as hd' Q k =>
  WE.of (pe_tup pa_u) (h σ H F rs as hd' _ fun s1 xs ⟨ds, hd, hl, q⟩ vs H1 F1 rs1 as1 h1 p1 g1 r1 => by
    have rr := allD_reps hd r1
    refine ⟨by rw [rr.len]; exact Nat.le_trans hl (by decide), fun p hp => ?_⟩
    obtain ⟨g, sb⟩ := go_new (o := .tup vs) hp h1.sub
    exact h1.fin (fun u H' F' rs' as' h' p' g' q' => k s1 _ q u H' F' rs' as' h' (p1.trans p') (g1.trans g') q') _ _ _ g sb ⟨p, vs, rfl, .inl (.inl upd_same), Reps.mono g.fz _ _ rr⟩)
theorem ex_lst (h : EXs X s es fun s1 xs => ∃ ds, allD xs = some ds ∧ ds.length ≤ 100000 ∧ Ψ (s1.add (.fl ds)) (.o s1.μ.length)) : EX X s (.List es pos) Ψ := fun σ H F rs as hd' Q k =>
  WE.of (pe_lst pa_u) (h σ H F rs as hd' _ fun s1 xs ⟨ds, hd, hl, q⟩ vs H1 F1 rs1 as1 h1 p1 g1 r1 => by
    have rr := allD_reps hd r1
    exact ⟨by rw [rr.len]; exact Nat.le_trans hl (by decide), h1.newK rr fun u H' F' rs' as' h' p' g' q' => k _ _ q u H' F' rs' as' h' (p1.trans p') (g1.trans g') q'⟩)
theorem ex_callB {id : String} {r : List V → Hp → VK → Prop} (hc : CallR X (.builtin id) r) (hg : Gl X nm) (hm : X.mg nm = none) (hv : bootBuiltins nm = some (.builtin id)) (h : EXs X s (e :: es) fun s1 xs => ∃ d, CaV X s1 r xs d ∧ Ψ s1 (.d d))
    (hn : nm ≠ "__name__" := by decide) (hdb : (nm == ("__debug__" : Str)) = false := by decide) (he : starEach (e :: es) X.env = (false, eval e X.env) :: starEach es X.env := by rfl) (hpl : (backTo pos (starEach es X.env)).any (·.1) = false := by rfl) :
    EX X s (.Call (.Name nm p) (e :: es) [] pos) Ψ := fun σ H F rs as hd Q k =>
  WE.of (pe_callB hc hg hm hv pa_u hn hdb he hpl) (h σ H F rs as hd _ fun s1 xs ⟨d, hr, q⟩ vs H1 F1 rs1 as1 h1 p1 g1 r1 => hr σ H1 F1 rs1 as1 vs h1 r1 Q
    (h1.fin fun u H' F' rs' as' h' p' g' q' => k s1 _ q u H' F' rs' as' h' (p1.trans p') (g1.trans g') q'))
theorem ex_callT {T' : String} {r : List V → Hp → VK → Prop} (hc : CallR X (.type T') r) (hg : Gl X nm) (hm : X.mg nm = none) (hv : bootBuiltins nm = some (.type T')) (h : EXs X s (e :: es) fun s1 xs => ∃ d, CaV X s1 r xs d ∧ Ψ s1 (.d d))
    (hn : nm ≠ "__name__" := by decide) (hdb : (nm == ("__debug__" : Str)) = false := by decide) (he : starEach (e :: es) X.env = (false, eval e X.env) :: starEach es X.env := by rfl) (hpl : (backTo pos (starEach es X.env)).any (·.1) = false := by rfl) :
    EX X s (.Call (.Name nm p) (e :: es) [] pos) Ψ := fun σ H F rs as hd Q k =>
  WE.of (pe_callTy hc hg hm hv pa_u hn hdb he hpl) (h σ H F rs as hd _ fun s1 xs ⟨d, hr, q⟩ vs H1 F1 rs1 as1 h1 p1 g1 r1 => hr σ H1 F1 rs1 as1 vs h1 r1 Q
    (h1.fin fun u H' F' rs' as' h' p' g' q' => k s1 _ q u H' F' rs' as' h' (p1.trans p') (g1.trans g') q'))
theorem ex_callTL {T' : String} {r : List V → Hp → VK → Prop} (hc : CallR X (.type T') r) (hg : Gl X nm) (hm : X.mg nm = none) (hv : bootBuiltins nm = some (.type T')) (h : EXs X s (e :: es) fun s1 xs => ∃ ds, CaL X s1 r xs ds ∧ Ψ (s1.add (.fl ds)) (.o s1.μ.length))
    (hn : nm ≠ "__name__" := by decide) (hdb : (nm == ("__debug__" : Str)) = false := by decide) (he : starEach (e :: es) X.env = (false, eval e X.env) :: starEach es X.env := by rfl) (hpl : (backTo pos (starEach es X.env)).any (·.1) = false := by rfl) :
    EX X s (.Call (.Name nm p) (e :: es) [] pos) Ψ := fun σ H F rs as hd Q k =>
  WE.of (pe_callTy hc hg hm hv pa_u hn hdb he hpl) (h σ H F rs as hd _ fun s1 xs ⟨ds, hr, q⟩ vs H1 F1 rs1 as1 h1 p1 g1 r1 => by
    obtain ⟨ys, ry, q'⟩ := hr σ H1 F1 rs1 as1 vs h1 r1
    exact q' Q (h1.newK ry fun u H' F' rs' as' h' p' g' q' => k _ _ q u H' F' rs' as' h' (p1.trans p') (g1.trans g') q'))
theorem ex_ix {r : R2} (hr0 : IxR X r) (h : EX X s a fun s1 x => EX X s1 b fun s2 y => ∃ d, OpV X s2 r x y d ∧ Ψ s2 (.d d)) (hs : PlainIx b := by exact fun _ _ => rfl) : EX X s (.Subscript a b pos) Ψ := fun σ H F rs as hd Q k =>
  WE.of (pe_ix hr0 pe_u pe_u hs) (h σ H F rs as hd _ fun s1 x h2 v H1 F1 rs1 as1 h1 p1 g1 r1 => h2 σ H1 F1 rs1 as1 h1 _ fun s2 y ⟨d, hr, q⟩ w H2 F2 rs2 as2 h2 p2 g2 r2 => hr σ H2 F2 rs2 as2 v w h2 (r1.mono g2.fz p2) r2 Q
    (h2.fin fun u H' F' rs' as' h' p' g' q' => k s2 _ q u H' F' rs' as' h' ((p1.trans p2).trans p') ((g1.trans g2).trans g') q'))
/-- freezing behind -/
theorem ex_fz (h : EX X s e fun s1 x => ∃ s2 t, s1 = s2.add t ∧ x = .o s2.μ.length ∧ t.ok = true ∧ low s2.μ.length s2.ρ = true ∧ s.μ.length ≤ s2.μ.length ∧ Ψ s2 (.d t.fr)) : EX X s e Ψ := fun σ H F rs as hd Q k =>
  h σ H F rs as hd Q fun s1 x ⟨s2, t, e1, e2, ok, lw, hlen, q⟩ v H1 F1 rs1 as1 hd1 p1 g1 r1 => by
    subst e1 e2
    obtain ⟨rs0, w, F', as', e, h1, h2, h3⟩ := hd1.freeze ok lw
    subst e
    have hl0 : rs0.length = s2.μ.length := h1.r.l1
    have ev : v = w := by
      have r' : (rs0 ++ [w])[s2.μ.length]? = some v := r1
      rw [← hl0] at r'
      simpa using r'.symm
    subst ev
    have hlr : rs.length ≤ rs0.length := by rw [hd.r.l1, hl0]; exact hlen
    have p0 : rs <+: rs0 := List.prefix_of_prefix_length_le p1 ⟨_, rfl⟩ hlr
    exact k s2 _ q v H1 F' rs0 as' h1 p0 (g1.trans h2) h3
/-- the last one, a fresh list, frozen -/
theorem ex_fl (h : EX X s e fun s1 x => ∃ s2 ds, s1 = s2.add (.fl ds) ∧ x = .o s2.μ.length ∧ low s2.μ.length s2.ρ = true ∧ s.μ.length ≤ s2.μ.length ∧ Ψ s2 (.d (.lst ds))) : EX X s e Ψ :=
  ex_fz (ex_mono h fun s1 x ⟨s2, ds, e1, e2, l, hl, q⟩ => ⟨s2, .fl ds, e1, e2, rfl, l, hl, q⟩)
/-! calls -/
theorem ex_call {CX : CXT} {k : Nat} {f : Addr} {fd : FuncData} {ps : List Str} {Φ : Ct} {E : XK} (G : FnOk X.prog X.w X.K X.mg X.base CX k f fd ps (spOf X.K Φ)) (hr : Room k X.A) (hg : Gl X nm) (hm : X.mg nm = some (.ref f)) (hk : PySem.W.keepIn X.K (.ref f) = true) (hb : Binds X.K fd ps []) (hx : Passes CX X E)
    (h : EXs X s (e :: es) fun s1 xs => ∃ i, agOf s1.μ xs = some (Φ.args i) ∧ Φ.pre i ∧ (oks xs).Nodup ∧ (∀ r outs, Φ.post i r outs → outs.length = (oks xs).length) ∧ ∀ r outs, Φ.post i r outs →
      (∃ d, r = .fz d ∧ Ψ ⟨s1.ρ, setAll s1.μ (oks xs) outs⟩ (.d d)) ∨ Ψ ⟨s1.ρ, setAll s1.μ (oks xs) outs ++ [r]⟩ (.o s1.μ.length))
    (hdb : (nm == ("__debug__" : Str)) = false := by decide) (he : starEach (e :: es) X.env = (false, eval e X.env) :: starEach es X.env := by rfl) (hpl : (backTo pos (starEach es X.env)).any (·.1) = false := by rfl) :
    EX X s (.Call (.Name nm p) (e :: es) [] pos) Ψ := fun σ H F rs as hd Q c =>
  WE.of (pe_call G hr hg hm hk hb (dvs := []) .nil hx pa_u hdb he hpl) (h σ H F rs as hd _ fun s1 xs ⟨i, hgs, hp, nd, hlen, q⟩ vs H1 F1 rs1 as1 h1 p1 g1 a1 => by
    rw [List.append_nil]
    refine call_in i h1 a1 hgs hp nd hlen fun r outs ho v H' F' as' h' g' => ?_
    rcases q r outs ho with ⟨d, rfl, q⟩ | q
    · obtain ⟨as2, q1, q2, q3⟩ := h'.dropFz (h1.sl.mono g'.fz fun _ _ q => q)
      exact c _ _ q v H' F' _ as2 q1 p1 (g1.trans (g'.sub q2)) q3
    · refine c _ _ q v H' F' (rs1 ++ [v]) as' h' (p1.trans ⟨[v], rfl⟩) (g1.trans g') ?_
      show (rs1 ++ [v])[s1.μ.length]? = _
      rw [← h1.r.l1]; simp)
theorem ex_join {l : List Nat} {ls : List (List Nat)} (h : EX X s o fun s1 x => ∃ l, x = .d (.str l) ∧ EX X s1 e fun s2 y => ∃ ls : List (List Nat), Sq s2 y (ls.map D.str) ∧ (ls.map List.length).sum + ls.length * l.length ≤ 16777216 ∧ Ψ s2 (.d (.str (TL.joinL l ls))))
    (hs : starEach [e] X.env = [(false, eval e X.env)] := by rfl) (hbase : attributeBase o "join" X.env (eval o X.env) = eval o X.env := by rfl) (hline : (apos.endLine == pos.line) = true := by rfl) :
    EX X s (.Call (.Attribute o "join" apos) [e] [] pos) Ψ := fun σ H F rs as hd Q k =>
  WE.of (pe_join pe_u pe_u hs hbase hline) (h σ H F rs as hd _ fun s1 x ⟨l, ex, h2⟩ v H1 F1 rs1 as1 h1 p1 g1 r1 => by
    subst ex
    refine ⟨⟨_, r1⟩, h2 σ H1 F1 rs1 as1 h1 _ fun s2 y ⟨ls, sq, hz, q⟩ w H2 F2 rs2 as2 h2 p2 g2 r2 => ?_⟩
    obtain ⟨p, xs, rfl, q', r⟩ := sq.get h2 r2
    cases r.strs
    have hm : (List.map (fun x => x.length) (List.map mk ls)) = ls.map List.length := by rw [List.map_map]; exact List.map_congr_left fun a _ => mk_len a
    refine ⟨mk l, p, ls.map mk, r1, rfl, q', by rw [hm, List.length_map, mk_len]; exact hz, h2.fin (fun u H' F' rs' as' h' p' g' q'' => k s2 _ q u H' F' rs' as' h' ((p1.trans p2).trans p') ((g1.trans g2).trans g') q'') _ H2 F2 go0 h2.sub ?_⟩
    show V.str _ = V.str _
    congr 1
    rw [TL.join_eq]
    have := TL.tl_join (mk l) (ls.map mk)
    rw [mk_of (Str.join (mk l) (ls.map mk))]
    show mk (TL.tl _) = _
    rw [this]
    congr 1
    show TL.joinL (mk l).cps.toList _ = _
    rw [mk_cps, List.map_map]
    congr 1
    conv => rhs; rw [← List.map_id ls]
    exact List.map_congr_left fun a _ => mk_cps a)
theorem ix_range1 {Ψ : S → Nat → (Nat → D) → Prop} (hg : Gl X "range") (hm : X.mg "range" = none) (h : EX X s a fun s1 x => ∃ j : Int, x = .d (.int j) ∧ -(2 ^ 62) ≤ j ∧ j < 2 ^ 62 ∧ Ψ s1 j.toNat (fun i => .int (0 + (i : Nat)))) (hs : starEach [a] X.env = [(false, eval a X.env)] := by rfl) :
    IX X s tg (.Call (.Name "range" p) [a] [] pos) Ψ := by
  refine ⟨_, pi_range1 hg hm pa_u hs, fun σ H F rs as hd R k => ?_⟩
  have hx : EXs X s [a] fun s2 xs => ∃ j : Int, xs = [.d (.int j)] ∧ -(2 ^ 62) ≤ j ∧ j < 2 ^ 62 ∧ Ψ s2 j.toNat (fun i => .int (0 + (i : Nat))) :=
    xs_cons (ex_mono h fun s1 x ⟨j, q0, q1, q2, q3⟩ => xs_nil ⟨j, by rw [q0], q1, q2, q3⟩) (hs := hs)
  refine hx σ H F rs as hd _ fun s1 xs ⟨j, e0, q1, q2, q3⟩ vs H1 F1 rs1 as1 h1 p1 g1 a1 => ?_
  subst e0
  obtain ⟨v, ws, e, r, e2⟩ := a1
  cases e2; cases e; cases r
  exact ⟨j, rfl, q1, q2, k s1 _ _ q3 _ H1 F1 rs1 as1 h1 p1 g1 gives_range⟩
/-! comprehensions -/
def TTX (K : PySem.W.Frag) (t : TT) (s : S) (Θ : S → Bool → Prop) : Prop := ∀ σ H F rs as, Hd K σ H F rs as s → ∀ Q : Bool → Hp → Prop, (∀ s' b, Θ s' b → ∀ H' F' rs' as', Hd K σ H' F' rs' as' s' → rs <+: rs' → Go as.flatten as'.flatten F H F' H' → Q b H') → t σ H Q
def TEX (K : PySem.W.Frag) (t : TE) (s : S) (Ψ : S → Ar → Prop) : Prop := ∀ σ H F rs as, Hd K σ H F rs as s → ∀ Q : VK, (∀ s' x, Ψ s' x → ∀ v H' F' rs' as', Hd K σ H' F' rs' as' s' → rs <+: rs' → Go as.flatten as'.flatten F H F' H' → ArOk K F' rs' x v → Q v H') → t σ H Q
theorem ttx_yes {K : PySem.W.Frag} (k : Θ s true) : TTX K tYes s Θ := fun σ H F rs as hd Q c => c s true k H F rs as hd (refl_pre _) (Go.refl _ _ _)
theorem ttx_b {scope : Scope} (h : ∀ (sh : Shared) (H0 : Hp) (C : Addr) (cl : List (Str × Addr)) (fp : List Addr), XT (X.blk sh H0 scope (PySem.compEnvC scope cl C X.env) fp) s c Θ) : TTX X.K (bT X scope c) s Θ :=
  fun σ H F rs as hd Q k sh H0 C cl fp => h sh H0 C cl fp σ H F rs as hd Q k
theorem tex_b {scope : Scope} (h : ∀ (sh : Shared) (H0 : Hp) (C : Addr) (cl : List (Str × Addr)) (fp : List Addr), EX (X.blk sh H0 scope (PySem.compEnvC scope cl C X.env) fp) s e Ψ) : TEX X.K (bE X scope e) s Ψ :=
  fun σ H F rs as hd Q k sh H0 C cl fp => h sh H0 C cl fp σ H F rs as hd Q k
/-- one turn: from (μ, out), with data d, to what J tells -/
def LcX (K : PySem.W.Frag) (g : D → List Sl → Option (List Sl)) (t : TT) (te : TE) (ρ : List Sl) (d : D) (μ : List T) (out : List D) (J : List T → List D → Prop) : Prop :=
  ∃ ρ', g d ρ = some ρ' ∧ TTX K t ⟨ρ', μ⟩ fun s2 b => (b = true → TEX K te s2 fun s3 x => ∃ y, x = .d y ∧ J s3.μ (out ++ [y])) ∧ (b = false → J s2.μ out)
theorem lc_runX {G : TG} {is vs : List Nat} {g : D → List Sl → Option (List Sl)} {t : TT} {te : TE} {wi : TI}
    (hi : ∀ σ H F rs as, Hd X.K σ H F rs as s → ∀ R : It → Hp → Prop, (∀ s1 n it, (n ≤ 16777216 ∧ ∃ I : Nat → List T → List D → Prop, I 0 s1.μ [] ∧ (∀ i μ out, i < n → I i μ out → LcX X.K g t te (wipeS s1.ρ vs) (it i) μ out (I (i + 1))) ∧ ∀ μ out, I n μ out → Ψ (S.add ⟨s1.ρ, μ⟩ (.fl out)) (.o μ.length)) →
      ∀ J H' F' rs' as', Hd X.K σ H' F' rs' as' s1 → rs <+: rs' → Go as.flatten as'.flatten F H F' H' → Gives X.K J n it F' → R J H') → wi σ H R)
    (hS : GS X.K G is g) (hv : ∀ i ∈ is, i ∈ vs) : TEX X.K (tLc wi G t te vs) s Ψ := fun σ H F rs as hd Q k => by
  refine hi σ H F rs as hd _ fun s1 n it ⟨hn, I, i0, hs, he⟩ J H1 F1 rs1 as1 h1 p1 g1 gv => ?_
  intro A hA
  obtain ⟨n1, n2⟩ := h1.newL (ds := []) (ys := []) hA rfl
  refine ⟨fun i m H2 => m = n - i ∧ i ≤ n ∧ ∃ μ out acc F2 rs2 as2, I i μ out ∧ HdR X.K H2 F2 (μ ++ [.fl out]) (rs2 ++ [.ref A]) (as2 ++ [[A]]) ∧ rs1 <+: rs2 ∧ Go as1.flatten (as2 ++ [[A]]).flatten F1 H1 F2 H2 ∧ H2 A = some (.lst acc) ∧ Reps X.K F2 out acc ∧ out.length ≤ i,
    ⟨n, by simp, Nat.zero_le _, s1.μ, [], [], F1, rs1, as1, i0, n1.r, refl_pre _, n2, upd_same, rfl, Nat.le_refl _⟩, ?_⟩
  rintro i m H2 ⟨rfl, hin, μ, out, acc, F2, rs2, as2, inv, hr, p2, g2, hAc, rp, ol⟩
  have rl : rs2.length = μ.length := by have := hr.l1; simp at this; exact this
  have f12 : Same F1 F2 := g2.fz
  obtain ⟨go, stop, yld⟩ := gv H2 F2 f12 hr.sub
  by_cases hlt : i < n
  · refine .inr ⟨go i hlt, fun H' => ∃ μ out acc F2 rs2 as2, I (i + 1) μ out ∧ HdR X.K H' F2 (μ ++ [.fl out]) (rs2 ++ [.ref A]) (as2 ++ [[A]]) ∧ rs1 <+: rs2 ∧ Go as1.flatten (as2 ++ [[A]]).flatten F1 H1 F2 H' ∧ H' A = some (.lst acc) ∧ Reps X.K F2 out acc ∧ out.length ≤ i + 1,
      fun H' w => ⟨n - (i + 1), by omega, rfl, hlt, w⟩, fun v H3 y => ?_⟩
    obtain ⟨F3, g3, sb3, r3⟩ := yld i v H3 hlt y
    obtain ⟨hr3, g3'⟩ := hr.pure g3 sb3
    have hi3 := hr3.init rl
    obtain ⟨ρ', e1, ht⟩ := hs i μ out hlt inv
    have sl3 : Slots X.K F3 rs2 (wipeS s1.ρ vs) (wipe σ vs) := (h1.sl.mono (f12.trans g3.fz) fun k v q => pre_get p2 k v q).wipe vs
    have hd3 : Hd X.K (wipe σ vs) H3 F3 rs2 as2 ⟨wipeS s1.ρ vs, μ⟩ := ⟨hi3, sl3⟩
    have hA3 : H3 A = some (.lst acc) := g3.keep A _ (fun z => nomatch z) hAc
    have notA : A ∉ as2.flatten := fun z => by
      obtain ⟨j, mm, e, hm⟩ := mem_fl z
      have hj := (List.getElem?_eq_some_iff.mp e).1
      have := hr3.n2 j as2.length mm [A] A (by rw [List.getElem?_append_left hj]; exact e) (by simp) hm (by simp)
      omega
    refine hS (wipe σ vs) H3 F3 rs2 as2 _ (it i) v ρ' hd3 r3 e1 _ fun σ4 h4 w4 => ?_
    have ww : ∀ (σ : St) (vs : List Nat), wipe (wipe σ vs) vs = wipe σ vs := by
      intro σ vs
      have gen : ∀ (us : List Nat), (∀ i ∈ us, i ∈ vs) → wipe (wipe σ us) vs = wipe σ vs := by
        intro us
        induction us with
        | nil => intro _; rfl
        | cons u us ih =>
          intro h
          show wipe ((wipe σ us).set u none) vs = _
          rw [wipe_set (h u List.mem_cons_self)]
          exact ih fun i hi => h i (List.mem_cons_of_mem _ hi)
      exact gen vs fun _ h => h
    refine ⟨by rw [w4 vs hv, ww], ht σ4 H3 F3 rs2 as2 h4 _ fun s2 b q H5 F5 rs5 as5 h5 p5 g5 => ?_⟩
    cases b with
    | true =>
      refine iteT (q.1 rfl σ4 H5 F5 rs5 as5 h5 _ fun s3 x ⟨yd, ex, inv'⟩ w H6 F6 rs6 as6 h6 p6 g6 r6 => ?_)
      subst ex
      have gg := g5.trans g6
      obtain ⟨fr, gf⟩ := hr3.frame rl h6.r gg
      have hA6 : H6 A = some (.lst acc) := gg.keep A _ notA hA3
      have rp6 : Reps X.K F6 out acc := Reps.mono ((g3.fz.trans g5.fz).trans g6.fz) _ _ rp
      have accl : acc.length = out.length := rp.len
      refine ⟨acc, hA6, by have : (16777216 : Nat) ≤ sizeLine := by decide
                           omega, ?_⟩
      have rl6 : rs6.length = s3.μ.length := h6.r.l1
      have al6 : as6.length = s3.μ.length := h6.r.l2
      have kE : (rs6 ++ [V.ref A])[s3.μ.length]? = some (.ref A) := by rw [← rl6]; simp
      have lE : (as6 ++ [[A]])[s3.μ.length]? = some [A] := by rw [← al6]; simp
      obtain ⟨st, gs⟩ := fr.set1 (t := .fl (out ++ [yd])) (H' := upd H6 A (.lst (acc ++ [w]))) kE lE (fun a o hna e => by rw [upd_ne (fun z => hna (by rw [z]; simp))]; exact e)
        (fun a e => by
          by_cases z : a = A
          · subst z; rw [upd_same] at e; cases e
          · rw [upd_ne z] at e; exact e)
        ⟨A, acc ++ [w], rfl, upd_same, rp6.append (.one r6), rfl⟩
      have eset : (s3.μ ++ [T.fl out]).set s3.μ.length (.fl (out ++ [yd])) = s3.μ ++ [.fl (out ++ [yd])] := by simp
      rw [eset] at st
      exact ⟨s3.μ, out ++ [yd], acc ++ [w], F6, rs6, as6, inv', st, (p2.trans p5).trans p6, ((g2.trans g3').trans gf).trans gs, upd_same, rp6.append (.one r6), by simp; omega⟩
    | false =>
      refine iteF ?_
      obtain ⟨fr, gf⟩ := hr3.frame rl h5.r g5
      exact ⟨s2.μ, out, acc, F5, rs5, as5, q.2 rfl, fr, p2.trans p5, (g2.trans g3').trans gf, g5.keep A _ notA hA3, Reps.mono (g3.fz.trans g5.fz) _ _ rp, by omega⟩
  · have e : i = n := by omega
    subst e
    refine .inl ⟨stop, ?_⟩
    refine k _ _ (he μ out inv) (V.ref A) H2 F2 (rs2 ++ [V.ref A]) (as2 ++ [[A]]) ⟨show HdR X.K H2 F2 (μ ++ [T.fl out]) (rs2 ++ [V.ref A]) (as2 ++ [[A]]) from hr, ?_⟩ ((p1.trans p2).trans ⟨_, rfl⟩) (g1.trans g2) ?_
    · exact (h1.sl.mono f12 fun k v q => pre_get p2 k v q).mono (Same.refl _) fun k v q => pre_get ⟨_, rfl⟩ k v q
    · show (rs2 ++ [V.ref A])[μ.length]? = _
      rw [← rl]; simp
section
variable {elt : Expr} {ifs : List Expr} {scope : Scope} {own : List (Str × Nat)} {G : TG} {is : List Nat} {g : D → List Sl → Option (List Sl)} {t : TT}
theorem ex_lc (own : List (Str × Nat)) (hN : X.N.Nodup) (ok : BlkOk X.N X.env.scope scope own)
    (hG : ∀ (sh : Shared) (H0 : Hp) (C : Addr) (cl : List (Str × Addr)) (fp : List Addr), PG (X.blk sh H0 scope (PySem.compEnvC scope cl C X.env) fp) tg G) (hS : GS X.K G is g)
    (hT : ∀ (sh : Shared) (H0 : Hp) (C : Addr) (cl : List (Str × Addr)) (fp : List Addr), PTs (X.blk sh H0 scope (PySem.compEnvC scope cl C X.env) fp) ifs t)
    (hi : IX X s tg iter fun s1 n it => n ≤ 16777216 ∧ ∃ I : Nat → List T → List D → Prop, I 0 s1.μ [] ∧ (∀ i μ out, i < n → I i μ out → LcX X.K g t (bE X scope elt) (wipeS s1.ρ (own.map (·.2))) (it i) μ out (I (i + 1))) ∧ ∀ μ out, I n μ out → Ψ (S.add ⟨s1.ρ, μ⟩ (.fl out)) (.o μ.length))
    (hv : ∀ i ∈ is, i ∈ own.map (·.2) := by decide) (hc : X.calm = true := by rfl) (hf : ∀ x, foldedSetIterable iter X.env x = pure x := by intro _; rfl) :
    EX X s (.ListComp elt [⟨tg, iter, ifs, 0⟩] scope pos) Ψ := fun σ H F rs as hd Q k => by
  obtain ⟨wi, pi, hi⟩ := hi
  exact WE.of (pe_lc hc hN pi ok hG hT pe_b hf) (lc_runX hi hS hv σ H F rs as hd Q k)
theorem w1x_setLc (i : Nat) {py spos : Pos} (own : List (Str × Nat)) (hN : X.N.Nodup) (hsw : swapsWith (.ListComp elt [⟨tg, iter, ifs, 0⟩] scope pos) (some (.Name nm py)) spos.line X.env = pure true) (ok : BlkOk X.N X.env.scope scope own)
    (hG : ∀ (sh : Shared) (H0 : Hp) (C : Addr) (cl : List (Str × Addr)) (fp : List Addr), PG (X.blk sh H0 scope (PySem.compEnvC scope cl C X.env) fp) tg G) (hS : GS X.K G is g)
    (hT : ∀ (sh : Shared) (H0 : Hp) (C : Addr) (cl : List (Str × Addr)) (fp : List Addr), PTs (X.blk sh H0 scope (PySem.compEnvC scope cl C X.env) fp) ifs t)
    (hi : IX X s tg iter fun s1 n it => n ≤ 16777216 ∧ ∃ I : Nat → List T → List D → Prop, I 0 s1.μ [] ∧ (∀ i μ out, i < n → I i μ out → LcX X.K g t (bE X scope elt) (wipeS s1.ρ (own.map (·.2))) (it i) μ out (I (i + 1))) ∧ ∀ μ out, I n μ out → D'.nx ⟨s1.ρ.set i (.o μ.length), μ ++ [.fl out]⟩)
    (hv : ∀ i ∈ is, i ∈ own.map (·.2) := by decide) (hy : X.N[i]? = some nm := by rfl) (hyl : X.env.scope.names.lookup nm = some .local := by rfl) (hc : X.calm = true := by rfl) (hf : ∀ x, foldedSetIterable iter X.env x = pure x := by intro _; rfl) :
    W1 X s (.Assign [.Name nm py] (.ListComp elt [⟨tg, iter, ifs, 0⟩] scope pos) spos) D' := fun W σ H F rs as hd g0 p => by
  obtain ⟨wi, pi, hi⟩ := hi
  refine WSt.of (ps_setLc hc hN hy hyl hsw pi ok hG hT pe_b hf) (lc_runX (Ψ := fun s2 x => ∃ (s1 : S) (μ : List T) (out : List D), s2 = S.add ⟨s1.ρ, μ⟩ (.fl out) ∧ x = .o μ.length ∧ D'.nx ⟨s1.ρ.set i (.o μ.length), μ ++ [.fl out]⟩) ?_ hS hv σ H F rs as hd _ fun s2 x ⟨s1, μ, out, e1, e2, q⟩ v H1 F1 rs1 as1 h1 p1 g1 r1 => ?_)
  · intro σ H F rs as hd R c
    exact hi σ H F rs as hd R fun s1 n it ⟨hn, I, i0, hs, he⟩ => c s1 n it ⟨hn, I, i0, hs, fun μ out q => ⟨s1, μ, out, rfl, rfl, he μ out q⟩⟩
  · subst e1 e2
    exact ⟨F1, rs1, as1, ⟨s1.ρ.set i (.o μ.length), μ ++ [.fl out]⟩, ⟨h1.r, h1.sl.set i ⟨v, rfl, r1⟩⟩, g0.trans g1, p.trans p1, q⟩
end
/-! statements -/
theorem w1x_set (i : Nat) {pos' : Pos} (h : EX X s e fun s1 x => D'.nx ⟨s1.ρ.set i x.sl, s1.μ⟩) (hN : X.N.Nodup) (hi : X.N[i]? = some nm := by rfl) (hx : Loc X.env.scope nm := by first | exact Or.inl rfl | exact Or.inr rfl)
    (hs : swapsWith e (some (.Name nm pos')) pos.line X.env = pure false := by rfl) (hf : X.fn nm = true ∨ X.env.scope.names.lookup nm = some .local := by first | exact .inl rfl | exact .inr rfl | assumption) :
    W1 X s (.Assign [.Name nm pos'] e pos) D' := fun W σ H F rs as hd g p =>
  WSt.of (ps_set hN hi hx pe_u hs hf) (h σ H F rs as hd _ fun s1 x k v H1 F1 rs1 as1 h1 p1 g1 r1 => ⟨F1, rs1, as1, ⟨s1.ρ.set i x.sl, s1.μ⟩, ⟨h1.r, h1.sl.set i (by
    cases x with
    | d d => exact ⟨v, rfl, r1⟩
    | o k => exact ⟨v, rfl, r1⟩)⟩, g.trans g1, p.trans p1, k⟩)
theorem w1x_par (i j : Nat) {px py pt pt2 : Pos} {kt k2} (h : EXs X s [a, b] fun s1 xs => ∃ x y, xs = [x, y] ∧ D'.nx ⟨(s1.ρ.set i x.sl).set j y.sl, s1.μ⟩) (hN : X.N.Nodup) (hi : X.N[i]? = some nm := by rfl) (hj : X.N[j]? = some nm2 := by rfl) (hij : i ≠ j := by decide)
    (hc : X.calm = true := by rfl) (hx : X.env.scope.names.lookup nm = some .local := by rfl) (hy : X.env.scope.names.lookup nm2 = some .local := by rfl)
    (hw : swappedStores [.Tuple [.Name nm px, .Name nm2 py] kt pt] (.Tuple [a, b] k2 pt2) X.env = pure (some [nm, nm2]) := by rfl)
    (hs : swapsWithSole [.Tuple [.Name nm px, .Name nm2 py] kt pt] (.Tuple [a, b] k2 pt2) pos.line X.env = pure false := by rfl) :
    W1 X s (.Assign [.Tuple [.Name nm px, .Name nm2 py] kt pt] (.Tuple [a, b] k2 pt2) pos) D' := fun W σ H F rs as hd g p =>
  WSt.of (ps_par hc hN hi hj hij hx hy pa_u hw hs) (h σ H F rs as hd _ fun s1 xs ⟨x, y, ex, k⟩ vs H1 F1 rs1 as1 h1 p1 g1 a1 => by
    subst ex
    obtain ⟨v, ws, e1, r1, w, ws2, e2, r2, e3⟩ := a1
    cases e3; cases e2; cases e1
    refine ⟨v, w, rfl, F1, rs1, as1, ⟨(s1.ρ.set i x.sl).set j y.sl, s1.μ⟩, ⟨h1.r, (h1.sl.set i ?_).set j ?_⟩, g.trans g1, p.trans p1, k⟩
    · cases x with
      | d d => exact ⟨v, rfl, r1⟩
      | o k => exact ⟨v, rfl, r1⟩
    · cases y with
      | d d => exact ⟨w, rfl, r2⟩
      | o k => exact ⟨w, rfl, r2⟩)
theorem w1x_asg {G : TG} {is : List Nat} {g : D → List Sl → Option (List Sl)} (hG : PG X tg G) (hS : GS X.K G is g) (h : EX X s e fun s1 x => ∃ d ρ', x = .d d ∧ g d s1.ρ = some ρ' ∧ D'.nx ⟨ρ', s1.μ⟩)
    (hs : swapsWithSole [tg] e pos.line X.env = pure false := by rfl) (hw : swappedStores [tg] e X.env = pure none := by rfl) (h1 : (assignEach [tg] X.env).map (·.2) = [assign tg X.env] := by rfl) : W1 X s (.Assign [tg] e pos) D' := fun W σ H F rs as hd g0 p =>
  WSt.of (ps_asg pe_u hG hs hw h1) (h σ H F rs as hd _ fun s1 x ⟨d, ρ', ex, hr, k⟩ v H1 F1 rs1 as1 h1 p1 g1 r1 => by
    subst ex
    exact hS σ H1 F1 rs1 as1 s1 d v ρ' h1 r1 hr _ fun σ' h' _ => ⟨F1, rs1, as1, ⟨ρ', s1.μ⟩, h', g0.trans g1, p.trans p1, k⟩)
theorem w1x_if (h : XT X s c fun s1 b => (b = true → WS X s1 body D') ∧ (b = false → WS X s1 orelse D')) : W1 X s (.If c body orelse pos) D' := fun W σ H F rs as hd g p =>
  WSt.of (ps_if pt_u pss_u pss_u) (h σ H F rs as hd _ fun s1 b q H1 F1 rs1 as1 q1 p1 g1 => by
    cases b with
    | true => exact iteT (q.1 rfl W σ H1 F1 rs1 as1 q1 (g.trans g1) (p.trans p1))
    | false => exact iteF (q.2 rfl W σ H1 F1 rs1 as1 q1 (g.trans g1) (p.trans p1)))
theorem w1x_ret (h : EX X s e D'.rt) : W1 X s (.Return (some e) pos) D' := fun W σ H F rs as hd g p =>
  WSt.of (ps_ret pe_u) (h σ H F rs as hd _ fun s1 x k v H1 F1 rs1 as1 h1 p1 g1 r1 => ⟨σ, F1, rs1, as1, s1, x, h1, g.trans g1, p.trans p1, r1, k⟩)
theorem w1x_expr (h : EX X s e fun s1 _ => D'.nx s1) (hs : swapsWith e none pos.line X.env = pure false := by rfl) : W1 X s (.Expr e pos) D' := fun W σ H F rs as hd g p =>
  WSt.of (ps_expr pe_u hs) (h σ H F rs as hd _ fun s1 x k v H1 F1 rs1 as1 h1 p1 g1 r1 => ⟨F1, rs1, as1, s1, h1, g.trans g1, p.trans p1, k⟩)
theorem w1x_for {G : TG} {is : List Nat} {g : D → List Sl → Option (List Sl)} (hG : PG X tg G) (hS : GS X.K G is g)
    (hi : IX X s tg iter fun s1 n it => ∃ I : Nat → S → Prop, I 0 s1 ∧ (∀ i s2, i < n → I i s2 → ∃ ρ', g (it i) s2.ρ = some ρ' ∧ WS X ⟨ρ', s2.μ⟩ body { nx := I (i + 1), rt := D'.rt, bk := D'.nx, ct := I (i + 1) }) ∧ ∀ s2, I n s2 → D'.nx s2)
    (hp : PassesOwn (model X.prog X.w) X.A X.env X.xe := by exact PassesOwn.never) (hc : X.calm = true := by rfl) (hf : ∀ x, foldedSetIterable iter X.env x = pure x := by intro _; rfl) : W1 X s (.For tg iter body [] pos) D' := fun W σ H F rs as hd g0 p => by
  obtain ⟨wi, pi, hi⟩ := hi
  refine WSt.of (ps_for hp hc pi hG pss_u hf) (hi σ H F rs as hd _ fun s1 n it ⟨I, i0, hs, he⟩ J H1 F1 rs1 as1 h1 p1 g1 gv => ?_)
  refine ⟨fun i m σ2 H2 => m = n - i ∧ i ≤ n ∧ At X.K ⟨H1, F1, as1.flatten, rs1⟩ (I i) σ2 H2, ⟨n, by simp, Nat.zero_le _, F1, rs1, as1, s1, h1, Go.refl _ _ _, refl_pre _, i0⟩, ?_⟩
  rintro i m σ2 H2 ⟨rfl, hin, F2, rs2, as2, s2, h2, g2, p2, inv⟩
  obtain ⟨go, stop, yld⟩ := gv H2 F2 g2.fz h2.sub
  by_cases hlt : i < n
  · refine .inr ⟨go i hlt, At X.K ⟨H1, F1, as1.flatten, rs1⟩ (I (i + 1)), fun σ' H' a => ⟨n - (i + 1), by omega, rfl, hlt, a⟩, fun v H3 y => ?_⟩
    obtain ⟨F3, g3, sb3, r3⟩ := yld i v H3 hlt y
    obtain ⟨ρ', e1, w⟩ := hs i s2 hlt inv
    obtain ⟨h3, g3'⟩ := h2.pure g3 sb3
    refine hS σ2 H3 F3 rs2 as2 s2 (it i) v ρ' h3 r3 e1 _ fun σ4 h4 _ => ?_
    exact (w ⟨H1, F1, as1.flatten, rs1⟩ σ4 H3 F3 rs2 as2 h4 (g2.trans g3') p2).mono (fun _ _ q => q) (AtR.join (g0.trans g1) (p.trans p1)) (At.join (g0.trans g1) (p.trans p1)) (fun _ _ q => q)
  · have e : i = n := by omega
    subst e
    exact .inl ⟨stop, At.join (g0.trans g1) (p.trans p1) _ _ ⟨F2, rs2, as2, s2, h2, g2, p2, he s2 inv⟩⟩
theorem w1x_while (I : S → Prop) (m : S → Nat) (h0 : I s)
    (hs : ∀ s2, I s2 → XT X s2 c fun s3 b => (b = true → WS X s3 body { nx := fun s4 => I s4 ∧ m s4 < m s2, rt := D'.rt, bk := D'.nx, ct := fun s4 => I s4 ∧ m s4 < m s2 }) ∧ (b = false → D'.nx s3))
    (hp : PassesOwn (model X.prog X.w) X.A X.env X.xe := by exact PassesOwn.never) : W1 X s (.While c body [] pos) D' := fun W σ H F rs as hd g p => by
  refine WSt.of (ps_while hp pt_u pss_u) ⟨fun k σ2 H2 => At X.K W (fun s2 => I s2 ∧ m s2 = k) σ2 H2, ⟨m s, F, rs, as, s, hd, g, p, h0, rfl⟩, ?_⟩
  rintro k σ2 H2 ⟨F2, rs2, as2, s2, h2, g2, p2, inv, rfl⟩
  refine hs s2 inv σ2 H2 F2 rs2 as2 h2 _ fun s3 b q H3 F3 rs3 as3 h3 p3 g3 => ?_
  cases b with
  | true =>
    refine ⟨fun σ4 H4 => At X.K W (fun s4 => I s4 ∧ m s4 < m s2) σ4 H4, ?_, q.1 rfl W σ2 H3 F3 rs3 as3 h3 (g2.trans g3) (p2.trans p3)⟩
    rintro σ4 H4 ⟨F4, rs4, as4, s4, h4, g4, p4, i4, l4⟩
    exact ⟨m s4, l4, F4, rs4, as4, s4, h4, g4, p4, i4, rfl⟩
  | false => exact ⟨F3, rs3, as3, s3, h3, g2.trans g3, p2.trans p3, q.2 rfl⟩
theorem w1x_setix {i : Expr} {p2 : Pos} (h : EX X s e fun s1 x => ∃ d, x = .d d ∧ EX X s1 o fun s2 y => ∃ k, y = .o k ∧ EX X s2 i fun s3 z => ∃ (j : Int) (ds : List D) (m : Nat), z = .d (.int j) ∧ s3.μ[k]? = some (.fl ds) ∧ ixN ds.length j = some m ∧ D'.nx ⟨s3.ρ, s3.μ.set k (.fl (ds.set m d))⟩)
    (ha : ∀ v, assign (.Subscript o i p2) X.env v = (do
      let ov ← holding [v] (eval o X.env)
      let iv ← holding [v, ov] (eval i X.env)
      standAt p2
      holding [v, ov, iv] (setItem ov iv v)
      release [v, ov, iv] []) := by intro _; rfl)
    (hs : swapsWithSole [.Subscript o i p2] e pos.line X.env = pure false := by rfl) (hw : swappedStores [.Subscript o i p2] e X.env = pure none := by rfl) (h1 : (assignEach [.Subscript o i p2] X.env).map (·.2) = [assign (.Subscript o i p2) X.env] := by rfl) :
    W1 X s (.Assign [.Subscript o i p2] e pos) D' := fun W σ H F rs as hd g p =>
  WSt.of (ps_asg pe_u (pg_sub pe_u pe_u set_list ha) hs hw h1) (h σ H F rs as hd _ fun s1 x ⟨d, ex, q1⟩ v H1 F1 rs1 as1 h1 p1 g1 r1 => by
    subst ex
    refine q1 σ H1 F1 rs1 as1 h1 _ fun s2 y ⟨k, ey, q2⟩ u H2 F2 rs2 as2 h2 p2 g2 r2 => ?_
    subst ey
    refine q2 σ H2 F2 rs2 as2 h2 _ fun s3 z ⟨j, ds, m, ez, hk, hm, c⟩ w H3 F3 rs3 as3 h3 p3 g3 r3 => ?_
    subst ez
    cases r3
    obtain ⟨q, xs, rfl, hq, r, up⟩ := h3.lst hk (pre_get p3 _ _ r2)
    obtain ⟨a, b⟩ := up _ _ (r.set m (Rep.mono (g2.fz.trans g3.fz) _ _ r1))
    exact ⟨q, xs, j, m, rfl, rfl, hq, by rw [r.len]; exact hm, F3, rs3, as3, ⟨s3.ρ, s3.μ.set k (.fl (ds.set m d))⟩, a, (((g.trans g1).trans g2).trans g3).trans b, ((p.trans p1).trans p2).trans p3, c⟩)
theorem ex_mt {T' id : String} {r : V → List V → Hp → VK → Prop} (pa : PlainAttrs T') (slot : Slot T' nm id) (hty : typeOf (.builtin id) = pure (.type "method_descriptor")) (hm : MtR X id r)
    (h : EX X s o fun s1 x => TyA X s1 T' x ∧ EXs X s1 (e :: es) fun s2 xs => ∃ s3 y, MtV X s2 r x xs s3 y ∧ Ψ s3 y)
    (hbase : attributeBase o nm X.env (eval o X.env) = eval o X.env := by rfl)
    (hfew : ((backTo pos (starEach (e :: es) X.env)).all (fun x => !x.1) && (backToKw pos (keywordEach [] X.env)).all (fun x => x.1.isSome) && decide ((e :: es).length + ([] : List Keyword).length + (if ([] : List Keyword).isEmpty then 0 else 1) < 30)) = true := by rfl)
    (hline : (apos.endLine == pos.line) = true := by rfl) (hs : starEach (e :: es) X.env = (false, eval e X.env) :: starEach es X.env := by rfl) (hplain : (backTo pos (starEach es X.env)).any (·.1) = false := by rfl) :
    EX X s (.Call (.Attribute o nm apos) (e :: es) [] pos) Ψ := fun σ H F rs as hd Q k =>
  WE.of (pe_bm pa slot hty hm pe_u pa_u hbase hfew hline hs hplain) (h σ H F rs as hd _ fun s1 x ⟨ty, ha⟩ v H1 F1 rs1 as1 h1 p1 g1 r1 => ⟨ty σ H1 F1 rs1 as1 v h1 r1, ha σ H1 F1 rs1 as1 h1 _ fun s2 xs ⟨s3, y, hr, q⟩ vs H2 F2 rs2 as2 h2 p2 g2 r2 =>
    hr σ H2 F2 rs2 as2 v vs h2 (r1.mono g2.fz p2) r2 Q fun u H3 F3 rs3 as3 h3 p3 g3 r3 => k s3 y q u H3 F3 rs3 as3 h3 ((p1.trans p2).trans p3) ((g1.trans g2).trans g3) r3⟩)
end
end Q
namespace Q
open PySem L2

/-- a def that can be called by its name, with its contract -/
def Cl (P : Program) (w : World) (K : PySem.W.Frag) (mg : Str → Option Value) (base : Heap) (nm : Str) (n k : Nat) (Φ : Ct) : Prop :=
  ∃ (f : Addr) (fd : FuncData) (ps : List Str), FnOk P w K mg base CX0 k f fd ps (spOf K Φ) ∧ mg nm = some (.ref f) ∧ PySem.W.keepIn K (.ref f) = true ∧ Binds K fd ps [] ∧ ps.length = n
/-- a method of the class at C, with its contract -/
def Mc (P : Program) (w : World) (K : PySem.W.Frag) (mg : Str → Option Value) (base : Heap) (C : Addr) (nm : Str) (n k : Nat) (Φ : Ct) : Prop :=
  ∃ (f : Addr) (fd : FuncData) (ps : List Str), FnOk P w K mg base CX0 k f fd ps (spOf K Φ) ∧ Meth K C nm f ∧ Binds K fd ps [] ∧ ps.length = n
theorem Cl.mono {P : Program} {w : World} {K : PySem.W.Frag} {mg : Str → Option Value} {base : Heap} {nm : Str} {n j k : Nat} {Φ : Ct} (h : Cl P w K mg base nm n j Φ) (l : j ≤ k) : Cl P w K mg base nm n k Φ := by
  obtain ⟨f, fd, ps, a, b, c, d, e⟩ := h
  exact ⟨f, fd, ps, a.mono l, b, c, d, e⟩
theorem cl_of {P : Program} {w : World} {K : PySem.W.Frag} {mg : Str → Option Value} {base : Heap} {x qual nm : Str} {st : Stmt} {f : Addr} {fd : FuncData} {ps : List Str} {k : Nat} {Φ : Ct} (F : Fun K x qual st f fd) (g : mg nm = some (.ref f)) (h : FnOk P w K mg base CX0 k f fd ps (spOf K Φ)) (b : Binds K fd ps []) : Cl P w K mg base nm ps.length k Φ :=
  ⟨f, fd, ps, h, g, F.kp, b, rfl⟩
theorem ret_d {m : Nat} {r : T} {outs : List T} {s : S} {d : D} (h : s.μ.take m = outs := by rfl) (hm : Nat.ble m s.μ.length = true := by rfl) (e : r = .fz d := by rfl) : Ret m r outs s (.d d) := ⟨h, Nat.le_of_ble_eq_true hm, e⟩
theorem ret_o {m k : Nat} {r : T} {outs : List T} {s : S} (h : s.μ.take m = outs := by rfl) (hm : Nat.ble m s.μ.length = true := by rfl) (hk : Nat.ble m k = true := by rfl) (e : s.μ[k]? = some r := by rfl) : Ret m r outs s (.o k) := ⟨h, Nat.le_of_ble_eq_true hm, Nat.le_of_ble_eq_true hk, e⟩
section
variable {X : Cx} {s s1 s2 s3 : S} {e a b c o tg iter : Expr} {es : List Expr} {x y z : Ar} {xs : List Ar} {d : D} {ds : List D} {pos p apos : Pos} {nm nm2 : Str} {Ψ : S → Ar → Prop} {D' : Ds} {n k : Nat} {Φ : Ct}
/-- a call: what comes is known by the contract's end alone -/
theorem ex_cl (C : Cl X.prog X.w X.K X.mg X.base nm n k Φ) (hr : Room k X.A)
    (h : EXs X s (e :: es) fun s1 xs => ∃ i, agOf s1.μ xs = some (Φ.args i) ∧ Φ.pre i ∧ (oks xs).Nodup ∧ (∀ r outs, Φ.post i r outs → outs.length = (oks xs).length) ∧ ∀ r outs, Φ.post i r outs →
      (∃ d, r = .fz d ∧ Ψ ⟨s1.ρ, setAll s1.μ (oks xs) outs⟩ (.d d)) ∨ Ψ ⟨s1.ρ, setAll s1.μ (oks xs) outs ++ [r]⟩ (.o s1.μ.length))
    (hg : Gl X nm := by rfl) (hx : X.xe = fun _ _ => False := by rfl) (hdb : (nm == ("__debug__" : Str)) = false := by decide) (he : starEach (e :: es) X.env = (false, eval e X.env) :: starEach es X.env := by rfl) (hpl : (backTo pos (starEach es X.env)).any (·.1) = false := by rfl) :
    EX X s (.Call (.Name nm p) (e :: es) [] pos) Ψ := by
  obtain ⟨f, fd, ps, G, hm, hk, hb, _⟩ := C
  exact ex_call G hr hg hm hk hb (CX := CX0) (E := E0) pass0 h hdb he hpl
/-- a call without owned arguments, of a def that gives data -/
theorem ex_clP (C : Cl X.prog X.w X.K X.mg X.base nm n k Φ) (hr : Room k X.A)
    (h : EXs X s (e :: es) fun s1 xs => ∃ i ds, allD xs = some ds ∧ Φ.args i = ds.map Ag.d ∧ Φ.pre i ∧ ∀ r outs, Φ.post i r outs → outs = [] ∧ ∃ d, r = .fz d ∧ Ψ s1 (.d d))
    (hg : Gl X nm := by rfl) (hx : X.xe = fun _ _ => False := by rfl) (hdb : (nm == ("__debug__" : Str)) = false := by decide) (he : starEach (e :: es) X.env = (false, eval e X.env) :: starEach es X.env := by rfl) (hpl : (backTo pos (starEach es X.env)).any (·.1) = false := by rfl) :
    EX X s (.Call (.Name nm p) (e :: es) [] pos) Ψ := by
  have ag : ∀ (μ : List T) (xs : List Ar) (ds : List D), allD xs = some ds → agOf μ xs = some (ds.map Ag.d) ∧ oks xs = [] := by
    intro μ xs
    induction xs with
    | nil => intro ds h; cases h; exact ⟨rfl, rfl⟩
    | cons x xs ih =>
      intro ds h
      cases x with
      | o k => cases h
      | d d =>
        have h' : (allD xs).map (d :: ·) = some ds := h
        cases q : allD xs with
        | none => rw [q] at h'; cases h'
        | some es =>
          rw [q] at h'; cases h'
          obtain ⟨q1, q2⟩ := ih es q
          refine ⟨?_, q2⟩
          show (agOf μ xs).map (Ag.d d :: ·) = _
          rw [q1]; rfl
  refine ex_cl C hr ?_ hg hx hdb he hpl
  intro σ H F rs as hd Q k
  refine h σ H F rs as hd Q fun s1 xs ⟨i, ds, h1, h2, h3, h4⟩ => k s1 xs ?_
  obtain ⟨q1, q2⟩ := ag s1.μ xs ds h1
  refine ⟨i, by rw [q1, h2], h3, by rw [q2]; exact List.nodup_nil, fun r outs ho => by rw [(h4 r outs ho).1, q2]; rfl, fun r outs ho => ?_⟩
  obtain ⟨e1, d, e2, q⟩ := h4 r outs ho
  exact .inl ⟨d, e2, by rw [q2]; show Ψ ⟨s1.ρ, setAll s1.μ [] outs⟩ _; rw [show setAll s1.μ [] outs = s1.μ by cases outs <;> rfl]; exact q⟩
/-- .. and the answer is the one -/
theorem ea_cl (C : Cl X.prog X.w X.K X.mg X.base nm n k Φ) (hr : Room k X.A) (h : EAs X s (e :: es) s1 xs) (i : Φ.ι) (hp : Φ.pre i) (hd : ∀ r outs, Φ.post i r outs → outs = [] ∧ r = .fz d) (ha : allD xs = some ds := by rfl) (hi : Φ.args i = ds.map Ag.d := by rfl)
    (hg : Gl X nm := by rfl) (hx : X.xe = fun _ _ => False := by rfl) (hdb : (nm == ("__debug__" : Str)) = false := by decide) (he : starEach (e :: es) X.env = (false, eval e X.env) :: starEach es X.env := by rfl) (hpl : (backTo pos (starEach es X.env)).any (·.1) = false := by rfl) :
    EA X s (.Call (.Name nm p) (e :: es) [] pos) s1 (.d d) := fun σ H F rs as hd0 Q k0 => by
  have hx' : EX X s (.Call (.Name nm p) (e :: es) [] pos) fun s2 x => s2 = s1 ∧ x = .d d := ex_clP C hr (xs_of h ⟨i, ds, ha, hi, hp, fun r outs ho => ⟨(hd r outs ho).1, d, (hd r outs ho).2, rfl, rfl⟩⟩) hg hx hdb he hpl
  exact hx' σ H F rs as hd0 Q fun s2 x ⟨e1, e2⟩ v H' F' rs' as' h1 h2 h3 h4 => by subst e1 e2; exact k0 v H' F' rs' as' h1 h2 h3 h4
/-! ### instances -/
theorem zip_lookup {K : PySem.W.Frag} {F : Hp} {f : Str} : ∀ {ns : List Str} {ds : List D} {vs : List V} {i : Nat} {d : D}, Reps K F ds vs → (∀ j g, j < i → ns[j]? = some g → g ≠ f) → ns[i]? = some f → ds[i]? = some d → ∃ v, (ns.zip vs).lookup f = some v ∧ Rep K F d v
  | [], _, _, _, _, _, _, h, _ => by simp at h
  | _ :: _, [], _, _, _, _, _, _, h => by simp at h
  | g :: ns, d :: ds, _, 0, _, ⟨v, vs, e, r, _⟩, _, h1, h2 => by
    cases e
    simp at h1 h2
    subst h1 h2
    exact ⟨v, by show List.lookup g ((g, v) :: ns.zip vs) = _; rw [List.lookup_cons]; simp, r⟩
  | g :: ns, _ :: ds, _, i + 1, d, ⟨v, vs, e, _, rr⟩, hn, h1, h2 => by
    cases e
    obtain ⟨w, q1, q2⟩ := zip_lookup (i := i) rr (fun j g' hj e => hn (j + 1) g' (by omega) (by simpa using e)) (by simpa using h1) (by simpa using h2)
    refine ⟨w, ?_, q2⟩
    have hg : g ≠ f := hn 0 g (by omega) rfl
    show (List.lookup f ((g, v) :: ns.zip vs)) = _
    rw [List.lookup_cons]
    have : (f == g) = false := by simpa using fun z => hg z.symm
    rw [this]
    exact q1
theorem zip_none {f : Str} : ∀ {ns : List Str} {vs : List V}, f ∉ ns → (ns.zip vs).lookup f = none
  | [], _, _ => rfl
  | _ :: _, [], _ => rfl
  | g :: ns, v :: vs, h => by
    show (List.lookup f ((g, v) :: ns.zip vs)) = _
    rw [List.lookup_cons]
    have : (f == g) = false := by simpa using fun z => h (by rw [z]; exact List.mem_cons_self)
    rw [this]
    exact zip_none fun z => h (List.mem_cons_of_mem _ z)
theorem ee_fld {C : Addr} {ns : List Str} {f : Str} (i : Nat) (h : EA X s e s1 (.d (.ins C ns ds))) (cl : Cls X.K C) (na : NoAttr X.K C f) (hd : ds[i]? = some d := by rfl) (hf : ns[i]? = some f := by rfl) (hn : ((ns.take i).contains f) = false := by decide +kernel)
    (hb : attributeBase e f X.env (eval e X.env) = eval e X.env := by rfl) : EA X s (.Attribute e f pos) s1 (.d d) := fun σ H F rs as hd0 Q k =>
  WE.of (pe_fld pe_u hb) (h σ H F rs as hd0 _ fun v H1 F1 rs1 as1 h1 p1 g1 ⟨a, dx, xs, ev, q, hl, r⟩ => by
    obtain ⟨w, q1, q2⟩ := zip_lookup r (i := i) (f := f) (ns := ns) (fun j g hj e z => by
      subst z
      have : ns.take i ⊆ ns.take i := fun _ h => h
      have hm : g ∈ ns.take i := List.mem_of_getElem? (i := j) (by rw [List.getElem?_take_of_lt hj]; exact e)
      have : (ns.take i).contains g = true := by simpa using hm
      rw [hn] at this; cases this) hf hd
    exact ⟨a, C, dx, _, w, ev, h1.sub _ _ q, cl, na, q1, k w H1 F1 rs1 as1 h1 p1 g1 q2⟩)
/-- a field of an owned instance -/
theorem ee_fldO {C : Addr} {ns : List Str} {f : Str} {kk : Nat} (i : Nat) (h : EA X s e s1 (.o kk)) (hk : s1.μ[kk]? = some (.ob C ns ds)) (cl : Cls X.K C) (na : NoAttr X.K C f) (hd : ds[i]? = some d := by rfl) (hf : ns[i]? = some f := by rfl) (hn : ((ns.take i).contains f) = false := by decide +kernel)
    (hb : attributeBase e f X.env (eval e X.env) = eval e X.env := by rfl) : EA X s (.Attribute e f pos) s1 (.d d) := fun σ H F rs as hd0 Q k =>
  WE.of (pe_fld pe_u hb) (h σ H F rs as hd0 _ fun v H1 F1 rs1 as1 h1 p1 g1 r1 => by
    obtain ⟨v', l, e1, e2, a, dx, xs, ev, q, hl, r, el⟩ := h1.r.at hk
    have r1' : rs1[kk]? = some v := r1
    rw [e1] at r1'; cases r1'
    obtain ⟨w, q1, q2⟩ := zip_lookup r (i := i) (f := f) (ns := ns) (fun j g hj e z => by
      subst z
      have hm : g ∈ ns.take i := List.mem_of_getElem? (i := j) (by rw [List.getElem?_take_of_lt hj]; exact e)
      have : (ns.take i).contains g = true := by simpa using hm
      rw [hn] at this; cases this) hf hd
    exact ⟨a, C, dx, _, w, ev, q, cl, na, q1, k w H1 F1 rs1 as1 h1 p1 g1 q2⟩)
theorem putF_new {f : Str} {v : V} : ∀ {ns : List Str} {vs : List V}, f ∉ ns → ns.length = vs.length → putF f v (ns.zip vs) = (ns ++ [f]).zip (vs ++ [v])
  | [], [], _, _ => rfl
  | [], _ :: _, _, h => by simp at h
  | _ :: _, [], _, h => by simp at h
  | g :: ns, u :: vs, h, hl => by
    show putF f v ((g, u) :: ns.zip vs) = (g, u) :: (ns ++ [f]).zip (vs ++ [v])
    unfold putF
    have hg : ¬ g = f := fun z => h (by rw [z]; exact List.mem_cons_self)
    rw [if_neg hg, putF_new (fun z => h (List.mem_cons_of_mem _ z)) (by simpa using hl)]
/-- self.f = e, a new field of an owned instance -/
theorem w1x_fld {C : Addr} {ns : List Str} {f : Str} {kk : Nat} {pos' : Pos} (cl : Cls X.K C) (na : NoAttr X.K C f) (h : EX X s e fun s1 x => ∃ d ds, x = .d d ∧ EX X s1 o fun s2 y => y = .o kk ∧ s2.μ[kk]? = some (.ob C ns ds) ∧ D'.nx ⟨s2.ρ, s2.μ.set kk (.ob C (ns ++ [f]) (ds ++ [d]))⟩)
    (hn : ns.contains f = false := by decide +kernel) (hl : ns.length < 1000 := by decide) (hs : swapsWith e (some (.Attribute o f pos')) pos.line X.env = pure false := by rfl) : W1 X s (.Assign [.Attribute o f pos'] e pos) D' := fun W σ H F rs as hd g p =>
  WSt.of (ps_fld pe_u pe_u hs) (h σ H F rs as hd _ fun s1 x ⟨d, ds, ex, q1⟩ v H1 F1 rs1 as1 h1 p1 g1 r1 => by
    subst ex
    refine q1 σ H1 F1 rs1 as1 h1 _ fun s2 y ⟨ey, hk, c⟩ u H2 F2 rs2 as2 h2 p2 g2 r2 => ?_
    subst ey
    obtain ⟨v', l, e1, e2, a, dx, xs, ev, q, hlx, r, el⟩ := h2.r.at hk
    have r2' : rs2[kk]? = some u := r2
    rw [e1] at r2'; cases r2'
    subst el
    have hf : f ∉ ns := fun z => by
      have : ns.contains f = true := by simpa using z
      rw [hn] at this; cases this
    refine ⟨a, C, dx, _, ev, q, cl, na, by rw [List.length_zip]; omega, ?_⟩
    rw [putF_new hf hlx]
    obtain ⟨b1, b2⟩ := h2.r.set1 (t := .ob C (ns ++ [f]) (ds ++ [d])) (H' := upd H2 a (.ins C dx ((ns ++ [f]).zip (xs ++ [v])))) e1 e2 (fun b o hna e => by rw [upd_ne (fun z => hna (by rw [z]; simp))]; exact e)
      (fun b e => by
        by_cases z : b = a
        · subst z; rw [upd_same] at e; cases e
        · rw [upd_ne z] at e; exact e)
      ⟨a, dx, xs ++ [v], ev, upd_same, by simp [hlx], r.append (.one (Rep.mono g2.fz _ _ r1)), rfl⟩
    exact ⟨F2, rs2, as2, ⟨s2.ρ, s2.μ.set kk (.ob C (ns ++ [f]) (ds ++ [d]))⟩, ⟨b1, h2.sl⟩, ((g.trans g1).trans g2).trans b2, (p.trans p1).trans p2, c⟩)
/-- a method of a frozen instance -/
theorem ex_me {C : Addr} {pl : Sem Bool} (M : Mc X.prog X.w X.K X.mg X.base C nm n k Φ) (cl : Cls X.K C) (hr : Room k X.A)
    (h : EX X s o fun s0 x => ∃ ns fs, x = .d (.ins C ns fs) ∧ nm ∉ ns ∧ EXs X s0 (e :: es) fun s1 xs => ∃ i, agOf s1.μ (.d (.ins C ns fs) :: xs) = some (Φ.args i) ∧ Φ.pre i ∧ (oks xs).Nodup ∧ (∀ r outs, Φ.post i r outs → outs.length = (oks xs).length) ∧ ∀ r outs, Φ.post i r outs →
      (∃ d, r = .fz d ∧ Ψ ⟨s1.ρ, setAll s1.μ (oks xs) outs⟩ (.d d)) ∨ Ψ ⟨s1.ρ, setAll s1.μ (oks xs) outs ++ [r]⟩ (.o s1.μ.length))
    (hx : X.xe = fun _ _ => False := by rfl) (h4 : starEach (e :: es) X.env = (false, eval e X.env) :: starEach es X.env := by rfl) (h5 : (backTo pos (starEach es X.env)).any (·.1) = false := by rfl)
    (ht : eval (.Call (.Attribute o nm apos) (e :: es) [] pos) X.env = (do
      let ov ← eval o X.env
      standAt apos.atName
      let (f, first) ← holding [ov] (getMethod ov nm pl)
      callWith pos f first (backTo pos (starEach (e :: es) X.env)) (backToKw pos (keywordEach [] X.env))) := by rfl) :
    EX X s (.Call (.Attribute o nm apos) (e :: es) [] pos) Ψ := by
  obtain ⟨f, fd, ps, G, hm, hb, _⟩ := M
  intro σ H F rs as hd Q c
  refine WE.of (pe_meth pe_u cl hm G hr hb (dvs := []) .nil (CX := CX0) (E := E0) pass0 pa_u h4 h5 ht) (h σ H F rs as hd _ fun s0 x ⟨ns, fs, ex, hn, h2⟩ v H0 F0 rs0 as0 h0 p0 g0 r0 => ?_)
  subst ex
  obtain ⟨a, dx, ys, ev, q, hl, r⟩ := id r0
  subst ev
  refine ⟨a, dx, _, rfl, h0.sub _ _ q, zip_none hn, h2 σ H0 F0 rs0 as0 h0 _ fun s1 xs ⟨i, hgs, hp, nd, hlen, q2⟩ vs H1 F1 rs1 as1 h1 p1 g1 a1 => ?_⟩
  rw [List.append_nil]
  refine call_in i h1 (xs := .d (.ins C ns fs) :: xs) ⟨_, _, rfl, ArOk.mono g1.fz p1 (x := .d (.ins C ns fs)) r0, a1⟩ hgs hp nd hlen fun r outs ho v H' F' as' h' g' => ?_
  rcases q2 r outs ho with ⟨d, rfl, q2⟩ | q2
  · obtain ⟨as2, q1, q3, q4⟩ := h'.dropFz (h1.sl.mono g'.fz fun _ _ q => q)
    exact c _ _ q2 v H' F' _ as2 q1 (p0.trans p1) ((g0.trans g1).trans (g'.sub q3)) q4
  · refine c _ _ q2 v H' F' (rs1 ++ [v]) as' h' ((p0.trans p1).trans ⟨[v], rfl⟩) ((g0.trans g1).trans g') ?_
    show (rs1 ++ [v])[s1.μ.length]? = _
    rw [← h1.r.l1]; simp
theorem ex_me0 {C : Addr} {pl : Sem Bool} (M : Mc X.prog X.w X.K X.mg X.base C nm n k Φ) (cl : Cls X.K C) (hr : Room k X.A)
    (h : EX X s o fun s1 x => ∃ ns fs, x = .d (.ins C ns fs) ∧ nm ∉ ns ∧ ∃ i, [Ag.d (.ins C ns fs)] = Φ.args i ∧ Φ.pre i ∧ ∀ r outs, Φ.post i r outs → outs = [] ∧
      ((∃ d, r = .fz d ∧ Ψ s1 (.d d)) ∨ Ψ ⟨s1.ρ, s1.μ ++ [r]⟩ (.o s1.μ.length)))
    (hx : X.xe = fun _ _ => False := by rfl)
    (ht : eval (.Call (.Attribute o nm apos) [] [] pos) X.env = (do
      let ov ← eval o X.env
      standAt apos.atName
      let (f, first) ← holding [ov] (getMethod ov nm pl)
      callWith pos f first (backTo pos (starEach [] X.env)) (backToKw pos (keywordEach [] X.env))) := by rfl) :
    EX X s (.Call (.Attribute o nm apos) [] [] pos) Ψ := by
  obtain ⟨f, fd, ps, G, hm, hb, _⟩ := M
  intro σ H F rs as hd Q c
  refine WE.of (pe_meth0 pe_u cl hm G hr hb (dvs := []) .nil (CX := CX0) (E := E0) pass0 ht) (h σ H F rs as hd _ fun s1 x ⟨ns, fs, ex, hn, i, hgs, hp, q2⟩ v H1 F1 rs1 as1 h1 p1 g1 r1 => ?_)
  subst ex
  obtain ⟨a, dx, ys, ev, q, hl, r⟩ := id r1
  subst ev
  refine ⟨a, dx, _, rfl, h1.sub _ _ q, zip_none hn, ?_⟩
  show spOf X.K Φ [V.ref a] H1 Q E0
  refine call_in i h1 (xs := [.d (.ins C ns fs)]) ⟨_, _, rfl, r1, rfl⟩ (by rw [← hgs]; rfl) hp (by exact List.nodup_nil) (fun r outs ho => by rw [(q2 r outs ho).1]; rfl) fun r outs ho v H' F' as' h' g' => ?_
  obtain ⟨e1, q3⟩ := q2 r outs ho
  subst e1
  have h' : Hd X.K σ H' F' (rs1 ++ [v]) as' ⟨s1.ρ, s1.μ ++ [r]⟩ := h'
  rcases q3 with ⟨d, rfl, q3⟩ | q3
  · obtain ⟨as2, b1, b2, b3⟩ := h'.dropFz (h1.sl.mono g'.fz fun _ _ q => q)
    exact c _ _ q3 v H' F' _ as2 b1 p1 (g1.trans (g'.sub b2)) b3
  · refine c _ _ q3 v H' F' (rs1 ++ [v]) as' h' (p1.trans ⟨[v], rfl⟩) (g1.trans g') ?_
    show (rs1 ++ [v])[s1.μ.length]? = _
    rw [← h1.r.l1]; simp
/-- a new thing beside what is told -/
theorem Hd.grow {K : PySem.W.Frag} {σ : St} {H F : Hp} {rs : List V} {as : List (List Addr)} {p : Addr} {u : HO} (hd : Hd K σ H F rs as s) (hp : H p = none) : Hd K σ (upd H p u) F rs as s ∧ Go as.flatten as.flatten F H F (upd H p u) := by
  have kp : ∀ a o, H a = some o → upd H p u a = some o := fun a o e => by rw [upd_ne (ne_of_none e hp)]; exact e
  refine ⟨⟨⟨fun a o e => kp a o (hd.sub a o e), hd.r.l1, hd.r.l2, fun i t v l e1 e2 e3 => Own.keep (Same.refl F) _ _ _ (fun a _ o e => kp a o e) (hd.r.own i t v l e1 e2 e3), hd.r.n1, hd.r.n2, hd.r.af⟩, hd.sl⟩, ⟨Same.refl F, fun _ _ e => .inl e, fun a o _ e => kp a o e, fun a e => ?_, fun _ h => .inl h⟩⟩
  by_cases ha : a = p
  · subst ha; exact hp
  · rw [upd_ne ha] at e; exact e
/-- C(..): a new instance; its __init__ is told by a contract whose first argument is the empty instance -/
theorem ex_mk {C f : Addr} {fd : FuncData} {ps : List Str} (M : Mk X.K C f) (G : FnOk X.prog X.w X.K X.mg X.base CX0 k f fd ps (spOf X.K Φ)) (hb : Binds X.K fd ps []) (hm : X.mg nm = some (.ref C)) (hr : Room (k + 1) X.A)
    (h : EXs X s (e :: es) fun s1 xs => ∃ i, agOf (s1.μ ++ [.ob C [] []]) (.o s1.μ.length :: xs) = some (Φ.args i) ∧ Φ.pre i ∧ (s1.μ.length :: oks xs).Nodup ∧ (∀ r outs, Φ.post i r outs → outs.length = (oks xs).length + 1 ∧ r = .fz .non) ∧ ∀ r outs, Φ.post i r outs →
      Ψ ⟨s1.ρ, setAll (s1.μ ++ [.ob C [] []]) (s1.μ.length :: oks xs) outs⟩ (.o s1.μ.length))
    (hg : Gl X nm := by rfl) (hx : X.xe = fun _ _ => False := by rfl) (hdb : (nm == ("__debug__" : Str)) = false := by decide) (he : starEach (e :: es) X.env = (false, eval e X.env) :: starEach es X.env := by rfl) (hpl : (backTo pos (starEach es X.env)).any (·.1) = false := by rfl) :
    EX X s (.Call (.Name nm p) (e :: es) [] pos) Ψ := fun σ H F rs as hd Q c =>
  WE.of (pe_make M G hr hg hm hb (dvs := []) .nil (CX := CX0) (E := E0) pass0 pa_u hdb he hpl) (h σ H F rs as hd _ fun s1 xs ⟨i, hgs, hp, nd, hlen, q⟩ vs H1 F1 rs1 as1 h1 p1 g1 a1 => by
    intro x dx hx0 hdx hne
    rw [List.append_nil]
    obtain ⟨ha, ga⟩ := h1.grow (u := .own x) hdx
    have hx1 : upd H1 dx (.own x) x = none := by rw [upd_ne (fun z => hne z.symm)]; exact hx0
    obtain ⟨hb1, gb1⟩ := ha.r.snoc (t := .ob C [] []) (v := .ref x) (o := .ins C dx []) hx1 ⟨x, dx, [], rfl, upd_same, rfl, rfl, rfl⟩
    have hd2 : Hd X.K σ (upd (upd H1 dx (.own x)) x (.ins C dx [])) F1 (rs1 ++ [V.ref x]) (as1 ++ [[x]]) ⟨s1.ρ, s1.μ ++ [.ob C [] []]⟩ := ⟨hb1, ha.sl.mono (Same.refl _) fun k v q => pre_get ⟨_, rfl⟩ k v q⟩
    have hself : (rs1 ++ [V.ref x])[s1.μ.length]? = some (V.ref x) := by rw [← h1.r.l1]; simp
    refine call_in i hd2 (xs := .o s1.μ.length :: xs) ⟨_, _, rfl, hself, ArsOk.mono (Same.refl _) ⟨_, rfl⟩ a1⟩ hgs hp nd (fun r outs ho => (hlen r outs ho).1) fun r outs ho v H' F' as' h' g' => ?_
    have er := (hlen r outs ho).2
    subst er
    obtain ⟨as2, q1, q3, q4⟩ := h'.dropFz (hd2.sl.mono g'.fz fun _ _ q => q)
    have q4 : v = .non := q4
    refine ⟨q4, c _ _ (q _ outs ho) (V.ref x) H' F' (rs1 ++ [V.ref x]) as2 q1 (p1.trans ⟨_, rfl⟩) (((g1.trans ga).trans gb1).trans (g'.sub q3)) hself⟩)
end
end Q
namespace Q
open PySem L2

/-! ### an owned object that changes no more -/
def frzS (k : Nat) (d : D) : List Sl → List Sl
  | [] => []
  | .o j :: ρ => (if j = k then .d d else .o j) :: frzS k d ρ
  | .d e :: ρ => .d e :: frzS k d ρ
  | .un :: ρ => .un :: frzS k d ρ
theorem slots_frz {K : PySem.W.Frag} {F : Hp} {rs : List V} {k : Nat} {d : D} {v : V} (hv : rs[k]? = some v) (r : Rep K F d v) : ∀ {ρ : List Sl} {σ : St}, Slots K F rs ρ σ → Slots K F rs (frzS k d ρ) σ
  | [], _, h => h
  | .o j :: ρ, _, ⟨x, σ', e, ⟨w, e1, e2⟩, h⟩ => by
    refine ⟨x, σ', e, ?_, slots_frz hv r h⟩
    by_cases hj : j = k
    · rw [if_pos hj]
      subst hj
      rw [hv] at e2; cases e2
      exact ⟨v, e1, r⟩
    · rw [if_neg hj]
      exact ⟨w, e1, e2⟩
  | .d _ :: ρ, _, ⟨x, σ', e, h1, h⟩ => ⟨x, σ', e, h1, slots_frz hv r h⟩
  | .un :: ρ, _, ⟨x, σ', e, h1, h⟩ => ⟨x, σ', e, h1, slots_frz hv r h⟩
theorem Hd.frz {K : PySem.W.Frag} {σ : St} {H F : Hp} {rs : List V} {as : List (List Addr)} {s : S} {k : Nat} {t : T} (hd : Hd K σ H F rs as s) (hk : s.μ[k]? = some t) (ok : t.ok = true) :
    ∃ F' as', Hd K σ H F' rs as' ⟨frzS k t.fr s.ρ, s.μ.set k (.fz t.fr)⟩ ∧ Go as.flatten as'.flatten F H F' H := by
  classical
  obtain ⟨v, l, e1, e2, o⟩ := hd.r.at hk
  have kl : k < s.μ.length := (List.getElem?_eq_some_iff.mp hk).1
  have ka : k < as.length := by rw [hd.r.l2]; exact kl
  let F' : Hp := fun a => if a ∈ l then H a else F a
  have inl : ∀ a, a ∈ l → F' a = H a := fun a ha => by show (if a ∈ l then H a else F a) = _; rw [if_pos ha]
  have nil : ∀ a, a ∉ l → F' a = F a := fun a ha => by show (if a ∈ l then H a else F a) = _; rw [if_neg ha]
  have fz : Same F F' := fun a o e => by
    by_cases ha : a ∈ l
    · rw [hd.r.af _ _ _ e2 ha] at e; cases e
    · rw [nil a ha]; exact e
  have sub' : Same F' H := fun a o e => by
    by_cases ha : a ∈ l
    · rw [inl a ha] at e; exact e
    · rw [nil a ha] at e; exact hd.r.sub a o e
  have rep : Rep K F' t.fr v := Own.fr fz t v l ok (fun a ha o e => by rw [inl a ha]; exact e) o
  have sh : ∀ {i : Nat} {m : List Addr}, (as.set k [])[i]? = some m → (i ≠ k ∧ as[i]? = some m) ∨ m = [] := fun {i m} e => by
    by_cases hi : i = k
    · subst hi
      rw [List.getElem?_set_self ka] at e; cases e
      exact .inr rfl
    · rw [List.getElem?_set_ne (fun z => hi z.symm)] at e
      exact .inl ⟨hi, e⟩
  refine ⟨F', as.set k [], ⟨⟨sub', by simp [hd.r.l1], by simp [hd.r.l2], fun i t' v' m q1 q2 q3 => ?_, fun i m q => ?_, fun i j m m' a q1 q2 h1 h2 => ?_, fun i m a q ha => ?_⟩, slots_frz e1 rep (hd.sl.mono fz fun _ _ q => q)⟩, ⟨fz, fun a o e => ?_, fun a o _ e => e, fun a e => e, fun a ha => ?_⟩⟩
  · by_cases hi : i = k
    · subst hi
      rw [List.getElem?_set_self kl] at q1; cases q1
      rw [List.getElem?_set_self ka] at q3; cases q3
      rw [e1] at q2; cases q2
      exact ⟨rep, rfl⟩
    · rw [List.getElem?_set_ne (fun z => hi z.symm)] at q1 q3
      exact Own.keep fz _ _ _ (fun a _ o e => e) (hd.r.own i t' v' m q1 q2 q3)
  · rcases sh q with ⟨_, q⟩ | rfl
    · exact hd.r.n1 _ _ q
    · exact List.nodup_nil
  · rcases sh q1 with ⟨_, q1⟩ | rfl
    · rcases sh q2 with ⟨_, q2⟩ | rfl
      · exact hd.r.n2 _ _ _ _ _ q1 q2 h1 h2
      · cases h2
    · cases h1
  · rcases sh q with ⟨hi, q⟩ | rfl
    · rw [nil a fun z => hi (hd.r.n2 _ _ _ _ _ q e2 ha z)]
      exact hd.r.af _ _ _ q ha
    · cases ha
  · by_cases ha : a ∈ l
    · exact .inr (.inr (fl_mem e2 ha))
    · rw [nil a ha] at e; exact .inl e
  · obtain ⟨i, m, q, hm⟩ := mem_fl ha
    rcases sh q with ⟨_, q⟩ | rfl
    · exact .inl (fl_mem q hm)
    · cases hm
theorem ws_frz {X : Cx} {s : S} {st : List Stmt} {D' : Ds} {t : T} (k : Nat) (hk : s.μ[k]? = some t) (ok : t.ok = true) (h : WS X ⟨frzS k t.fr s.ρ, s.μ.set k (.fz t.fr)⟩ st D') : WS X s st D' := fun W σ H F rs as hd g p => by
  obtain ⟨F', as', h1, h2⟩ := hd.frz hk ok
  exact h W σ H F' rs as' h1 (g.trans h2) p
theorem w1_frz {X : Cx} {s : S} {st : Stmt} {D' : Ds} {t : T} (k : Nat) (hk : s.μ[k]? = some t) (ok : t.ok = true) (h : W1 X ⟨frzS k t.fr s.ρ, s.μ.set k (.fz t.fr)⟩ st D') : W1 X s st D' := fun W σ H F rs as hd g p => by
  obtain ⟨F', as', h1, h2⟩ := hd.frz hk ok
  exact h W σ H F' rs as' h1 (g.trans h2) p

/-! ### lists of owned things -/
theorem Owns.append {K : PySem.W.Frag} {H F : Hp} {t : T} {v : V} {l : List Addr} (o : Own K H F t v l) : ∀ {ts : List T} {vs : List V} {bs : List Addr}, Owns K H F ts vs bs → Owns K H F (ts ++ [t]) (vs ++ [v]) (bs ++ l)
  | [], _, _, ⟨e1, e2⟩ => by subst e1 e2; exact ⟨v, [], l, [], rfl, o, ⟨rfl, rfl⟩, by simp⟩
  | _ :: _, _, _, ⟨w, ws, b, c, e1, h1, h2, e2⟩ => by subst e1 e2; exact ⟨w, _, b, _, rfl, h1, Owns.append o h2, by simp⟩
theorem Owns.len {K : PySem.W.Frag} {H F : Hp} : ∀ {ts : List T} {vs : List V} {bs : List Addr}, Owns K H F ts vs bs → vs.length = ts.length
  | [], _, _, ⟨e1, _⟩ => by subst e1; rfl
  | _ :: _, _, _, ⟨_, _, _, _, e1, _, h2, _⟩ => by subst e1; simp [Owns.len h2]
theorem Owns.upd {K : PySem.W.Frag} {H F : Hp} : ∀ {ts : List T} {vs : List V} {bs : List Addr} {m : Nat} {t : T}, bs.Nodup → Owns K H F ts vs bs → ts[m]? = some t → ∃ v l, vs[m]? = some v ∧ Own K H F t v l ∧ (∀ a ∈ l, a ∈ bs) ∧
    ∀ H' t', (∀ a o, a ∉ l → H a = some o → H' a = some o) → Own K H' F t' v l → Owns K H' F (ts.set m t') vs bs
  | [], _, _, _, _, _, _, e => by simp at e
  | t :: ts, _, _, 0, _, nd, ⟨v, ws, b, c, e1, h1, h2, e2⟩, e => by
    subst e1 e2
    simp at e; subst e
    refine ⟨v, b, rfl, h1, fun a ha => List.mem_append_left _ ha, fun H' t' k o => ⟨v, ws, b, c, rfl, o, Owns.keep (Same.refl F) _ _ _ (fun a ha o e => k a o (fun z => ?_) e) h2, rfl⟩⟩
    exact (List.nodup_append.mp nd).2.2 a z a ha rfl
  | t :: ts, _, _, m + 1, _, nd, ⟨v, ws, b, c, e1, h1, h2, e2⟩, e => by
    subst e1 e2
    have nd' := List.nodup_append.mp nd
    obtain ⟨u, l, q1, q2, q3, q4⟩ := Owns.upd nd'.2.1 h2 (m := m) (by simpa using e)
    refine ⟨u, l, by simpa using q1, q2, fun a ha => List.mem_append_right _ (q3 a ha), fun H' t' k o => ⟨v, ws, b, c, rfl, Own.keep (Same.refl F) _ _ _ (fun a ha o e => k a o (fun z => ?_) e) h1, q4 H' t' k o, rfl⟩⟩
    exact nd'.2.2 a ha a (q3 a z) rfl
/-- the m-th of an owned list of lists -/
theorem Hd.lst2 {K : PySem.W.Frag} {σ : St} {H F : Hp} {rs : List V} {as : List (List Addr)} {s : S} {k m : Nat} {v : V} {ts : List T} {ds : List D} (hd : Hd K σ H F rs as s) (hk : s.μ[k]? = some (.lst ts)) (hm : ts[m]? = some (.fl ds)) (hv : rs[k]? = some v) :
    ∃ p xs q ys, v = .ref p ∧ H p = some (.lst xs) ∧ xs.length = ts.length ∧ xs[m]? = some (.ref q) ∧ H q = some (.lst ys) ∧ Reps K F ds ys ∧
      ∀ es zs, Reps K F es zs → Hd K σ (upd H q (.lst zs)) F rs as ⟨s.ρ, s.μ.set k (.lst (ts.set m (.fl es)))⟩ ∧ Go as.flatten as.flatten F H F (upd H q (.lst zs)) := by
  obtain ⟨v', l, h1, h2, p, xs, bs, e, hp, o, el⟩ := hd.r.at hk
  rw [h1] at hv; cases hv
  have nd := hd.r.n1 _ _ h2
  subst el
  have nd' := List.nodup_cons.mp nd
  obtain ⟨u, l2, q1, ⟨q, ys, e3, hq, rr, el2⟩, q3, q4⟩ := Owns.upd nd'.2 o hm
  subst el2 e3
  refine ⟨p, xs, q, ys, e, hp, o.len, q1, hq, rr, fun es zs r => ?_⟩
  have kp : ∀ a o, a ∉ ([q] : List Addr) → H a = some o → upd H q (.lst zs) a = some o := fun a o hn e => by rw [upd_ne (fun z => hn (by rw [z]; simp))]; exact e
  have npq : p ≠ q := fun z => nd'.1 (q3 p (by rw [z]; simp))
  obtain ⟨a1, a2⟩ := hd.r.set1 (t := .lst (ts.set m (.fl es))) (H' := upd H q (.lst zs)) h1 h2 (fun a o hn e => kp a o (fun z => hn (List.mem_cons_of_mem _ (q3 a z))) e)
    (fun a e => by
      by_cases z : a = q
      · subst z; rw [upd_same] at e; cases e
      · rw [upd_ne z] at e; exact e)
    ⟨p, xs, bs, e, kp p _ (by simpa using npq) hp, q4 _ _ kp ⟨q, zs, rfl, upd_same, r, rfl⟩, rfl⟩
  exact ⟨⟨a1, hd.sl⟩, a2⟩
section
variable {X : Cx} {s s1 s2 s3 : S} {e a b c o tg iter i : Expr} {es : List Expr} {x y z : Ar} {xs : List Ar} {d : D} {ds : List D} {pos p apos : Pos} {nm nm2 : Str} {Ψ : S → Ar → Prop} {D' : Ds} {n k : Nat}
/-- an int that is told without any change -/
def PV (X : Cx) (s : S) (e : Expr) (j : Int) : Prop := ∃ t : TE, PE X e t ∧ ∀ σ H F rs as, Hd X.K σ H F rs as s → ∀ Q : VK, Q (.int j) H → t σ H Q
theorem pv_d {j : Int} (i : Nat) (h : s.ρ[i]? = some (.d (.int j)) := by rfl) (hN : X.N[i]? = some nm := by rfl) (hv : Vis X.env.scope nm := by first | exact Or.inl rfl | exact Or.inr (Or.inl rfl) | exact Or.inr (Or.inr rfl))
    (h1 : (nm == ("__debug__" : Str)) = false := by decide) (h2 : (nm == ("__classdict__" : Str)) = false := by decide) : PV X s (.Name nm pos) j := ⟨_, pe_var hN hv h1 h2, fun σ H F rs as hd Q q => by
  obtain ⟨o, e1, v, rfl, r⟩ := hd.sl.get h
  cases r
  exact ⟨_, e1, q⟩⟩
theorem pv_int {j : Int} {t} : PV X s (.Constant (.int j) t pos) j := ⟨_, pe_int, fun σ H F rs as hd Q q => q⟩
/-- x[i][j], x an owned list of lists -/
theorem ea_ix2 {p2 : Pos} {ii jj : Int} {m : Nat} {ts : List T} (ho : EA X s o s1 (.o k)) (hi : PV X s1 i ii) (hj : PV X s1 b jj) (hk : s1.μ[k]? = some (.lst ts)) (hm : ixN ts.length ii = some m) (ht : ts[m]? = some (.fl ds)) (ha : atI ds jj = some d)
    (hs : PlainIx i := by exact fun _ _ => rfl) (hs2 : PlainIx b := by exact fun _ _ => rfl) : EA X s (.Subscript (.Subscript o i p2) b pos) s1 (.d d) := fun σ H F rs as hd Q c => by
  obtain ⟨t1, pi, qi⟩ := hi
  obtain ⟨t2, pj, qj⟩ := hj
  refine WE.of (pe_ix ix_list (pe_ix ix_list pe_u pi hs) pj hs2) (ho σ H F rs as hd _ fun v H1 F1 rs1 as1 h1 p1 g1 r1 => ?_)
  obtain ⟨P, xs, Q2, ys, e1, e2, e3, e4, e5, e6, _⟩ := h1.lst2 hk ht r1
  refine qi σ H1 F1 rs1 as1 h1 _ ⟨P, xs, ii, .ref Q2, e1, rfl, .of e2, by unfold atI; rw [e3, hm]; exact e4, ?_⟩
  obtain ⟨w, a1, a2⟩ := at_reps e6 ha
  exact qj σ H1 F1 rs1 as1 h1 _ ⟨Q2, ys, jj, w, rfl, rfl, .of e5, a1, c w H1 F1 rs1 as1 h1 p1 g1 a2⟩
/-- len(x[i]) -/
theorem ca_lenT {ts : List T} (hk : s.μ[k]? = some (.lst ts)) : CaV X s (fun xs H Q => ∃ p ys, xs = [.ref p] ∧ (SqL X.K H p ys ∨ SqT X.K H p ys) ∧ Q (.int ys.length) H) [.o k] (.int (ts.length : Int)) := fun σ H F rs as vs hd ⟨v, ws, e, a, e2⟩ Q c => by
  subst e2 e
  obtain ⟨v', l, h1, h2, p, xs, bs, e, hp, o, el⟩ := hd.r.at hk
  have a' : rs[k]? = some v := a
  rw [h1] at a'; cases a'
  exact ⟨p, xs, e ▸ rfl, .inl (.of hp), c _ H F go0 hd.sub (by show V.int _ = V.int _; rw [o.len])⟩
theorem ea_len2 {p2 p3 : Pos} {ii : Int} {m : Nat} {ts : List T} (ho : EA X s o s1 (.o k)) (hi : PV X s1 i ii) (hk : s1.μ[k]? = some (.lst ts)) (hm : ixN ts.length ii = some m) (ht : ts[m]? = some (.fl ds)) (hml : X.mg "len" = none) (hg : Gl X "len" := by rfl)
    (hs : PlainIx i := by exact fun _ _ => rfl) (he : starEach [.Subscript o i p2] X.env = [(false, eval (.Subscript o i p2) X.env)] := by rfl) : EA X s (.Call (.Name "len" p3) [.Subscript o i p2] [] pos) s1 (.d (.int (ds.length : Int))) := fun σ H F rs as hd Q c => by
  obtain ⟨t1, pi, qi⟩ := hi
  refine WE.of (pe_callB call_len_seq hg hml PySem.boot_len (pa_cons (pe_ix ix_list pe_u pi hs) pa_nil he) (by decide) (by decide) he rfl) (ho σ H F rs as hd _ fun v H1 F1 rs1 as1 h1 p1 g1 r1 => ?_)
  obtain ⟨P, xs, Q2, ys, e1, e2, e3, e4, e5, e6, _⟩ := h1.lst2 hk ht r1
  refine qi σ H1 F1 rs1 as1 h1 _ ⟨P, xs, ii, .ref Q2, e1, rfl, .of e2, by unfold atI; rw [e3, hm]; exact e4, ?_⟩
  exact ⟨Q2, ys, rfl, .inl (.of e5), c _ H1 F1 rs1 as1 h1 p1 g1 (by show V.int _ = V.int _; rw [e6.len])⟩
def PVt (K : PySem.W.Frag) (t : TE) (s : S) (j : Int) : Prop := ∀ σ H F rs as, Hd K σ H F rs as s → ∀ Q : VK, Q (.int j) H → t σ H Q
theorem pvt_d {K : PySem.W.Frag} {i : Nat} {j : Int} (h : s.ρ[i]? = some (.d (.int j)) := by rfl) : PVt K (tVar i) s j := fun σ H F rs as hd Q q => by
  obtain ⟨o, e1, v, rfl, r⟩ := hd.sl.get h
  cases r
  exact ⟨_, e1, q⟩
theorem pvt_int {K : PySem.W.Frag} {j : Int} : PVt K (tC (.int j)) s j := fun σ H F rs as hd Q q => q
/-- x[i][j] = e -/
theorem w1x_setix2 {p2 p3 : Pos} {t1 t2 : TE} (pi : PE X i t1) (pj : PE X b t2) (he : EX X s e fun s1 x => ∃ d, x = .d d ∧ EX X s1 o fun s2 y => ∃ (k : Nat) (ii jj : Int) (m m2 : Nat) (ts : List T) (ds : List D), y = .o k ∧ PVt X.K t1 s2 ii ∧ PVt X.K t2 s2 jj ∧ s2.μ[k]? = some (.lst ts) ∧ ixN ts.length ii = some m ∧ ts[m]? = some (.fl ds) ∧ ixN ds.length jj = some m2 ∧ D'.nx ⟨s2.ρ, s2.μ.set k (.lst (ts.set m (.fl (ds.set m2 d))))⟩)
    (ha : ∀ v, assign (.Subscript (.Subscript o i p2) b p3) X.env v = (do
      let ov ← holding [v] (eval (.Subscript o i p2) X.env)
      let iv ← holding [v, ov] (eval b X.env)
      standAt p3
      holding [v, ov, iv] (setItem ov iv v)
      release [v, ov, iv] []) := by intro _; rfl) (hs : PlainIx i := by exact fun _ _ => rfl)
    (hs2 : swapsWithSole [.Subscript (.Subscript o i p2) b p3] e pos.line X.env = pure false := by rfl) (hw : swappedStores [.Subscript (.Subscript o i p2) b p3] e X.env = pure none := by rfl) (h1 : (assignEach [.Subscript (.Subscript o i p2) b p3] X.env).map (·.2) = [assign (.Subscript (.Subscript o i p2) b p3) X.env] := by rfl) :
    W1 X s (.Assign [.Subscript (.Subscript o i p2) b p3] e pos) D' := fun W σ H F rs as hd g p =>
  WSt.of (ps_asg pe_u (pg_sub (pe_ix ix_list pe_u pi hs) pj set_list ha) hs2 hw h1) (he σ H F rs as hd _ fun s1 x ⟨d, ex, q1⟩ v H1 F1 rs1 as1 h1 p1 g1 r1 => by
    subst ex
    refine q1 σ H1 F1 rs1 as1 h1 _ fun s2 y ⟨k, ii, jj, m, m2, ts, ds, ey, qi, qj, hk, hm, ht, hm2, c⟩ u H2 F2 rs2 as2 h2 p2 g2 r2 => ?_
    subst ey
    obtain ⟨P, xs, Q2, ys, e1, e2, e3, e4, e5, e6, up⟩ := h2.lst2 hk ht r2
    refine qi σ H2 F2 rs2 as2 h2 _ ⟨P, xs, ii, .ref Q2, e1, rfl, .of e2, by unfold atI; rw [e3, hm]; exact e4, ?_⟩
    refine qj σ H2 F2 rs2 as2 h2 _ ?_
    obtain ⟨a, b⟩ := up _ _ (e6.set m2 (Rep.mono g2.fz _ _ r1))
    exact ⟨Q2, ys, jj, m2, rfl, rfl, e5, by rw [e6.len]; exact hm2, F2, rs2, as2, ⟨s2.ρ, s2.μ.set k (.lst (ts.set m (.fl (ds.set m2 d))))⟩, a, ((g.trans g1).trans g2).trans b, (p.trans p1).trans p2, c⟩)
end
/-- the last but one goes into the last, a list of owned things -/
theorem HdR.push {K : PySem.W.Frag} {H F : Hp} {ts out : List T} {vs acc : List V} {as : List (List Addr)} {t : T} {w : V} {A : Addr} {l lA : List Addr} (h : HdR K H F ((ts ++ [t]) ++ [.lst out]) ((vs ++ [w]) ++ [.ref A]) ((as ++ [l]) ++ [lA])) (hl : vs.length = ts.length) (hA : H A = some (.lst acc)) :
    ∃ lA', HdR K (upd H A (.lst (acc ++ [w]))) F (ts ++ [.lst (out ++ [t])]) (vs ++ [.ref A]) (as ++ [lA']) ∧ Go ((as ++ [l]) ++ [lA]).flatten (as ++ [lA']).flatten F H F (upd H A (.lst (acc ++ [w]))) := by
  have hla : as.length = ts.length := by have := h.l2; simp at this; exact this
  have gT : ∀ (i : Nat) t', ts[i]? = some t' → ((ts ++ [t]) ++ [T.lst out])[i]? = some t' := fun i t' e => by
    have := (List.getElem?_eq_some_iff.mp e).1
    rw [List.getElem?_append_left (by simp; omega), List.getElem?_append_left this]; exact e
  have gV : ∀ (i : Nat) t', vs[i]? = some t' → ((vs ++ [w]) ++ [V.ref A])[i]? = some t' := fun i t' e => by
    have := (List.getElem?_eq_some_iff.mp e).1
    rw [List.getElem?_append_left (by simp; omega), List.getElem?_append_left this]; exact e
  have gA : ∀ (i : Nat) t', as[i]? = some t' → ((as ++ [l]) ++ [lA])[i]? = some t' := fun i t' e => by
    have := (List.getElem?_eq_some_iff.mp e).1
    rw [List.getElem?_append_left (by simp; omega), List.getElem?_append_left this]; exact e
  have t1 : ((ts ++ [t]) ++ [T.lst out])[ts.length]? = some t := by simp
  have t2 : ((ts ++ [t]) ++ [T.lst out])[ts.length + 1]? = some (.lst out) := by simp
  have v1 : ((vs ++ [w]) ++ [V.ref A])[ts.length]? = some w := by rw [← hl]; simp
  have v2 : ((vs ++ [w]) ++ [V.ref A])[ts.length + 1]? = some (.ref A) := by rw [← hl]; simp
  have a1 : ((as ++ [l]) ++ [lA])[ts.length]? = some l := by rw [← hla]; simp
  have a2 : ((as ++ [l]) ++ [lA])[ts.length + 1]? = some lA := by rw [← hla]; simp
  have o1 := h.own _ _ _ _ t1 v1 a1
  obtain ⟨A', acc', bs, eA, hA', o2, el⟩ := h.own _ _ _ _ t2 v2 a2
  have eA := V.ref.inj eA
  subst eA
  rw [hA] at hA'; cases hA'
  have n1l := h.n1 _ _ a1
  have n1A := h.n1 _ _ a2
  have dj : ∀ a, a ∈ l → a ∉ lA := fun a ha z => by have := h.n2 _ _ _ _ _ a1 a2 ha z; omega
  subst el
  have ndA := List.nodup_cons.mp n1A
  have kp : ∀ a o, a ≠ A → H a = some o → upd H A (.lst (acc ++ [w])) a = some o := fun a o hn e => by rw [upd_ne hn]; exact e
  have lne : ∀ a, a ∈ l → a ≠ A := fun a ha z => dj a ha (by rw [z]; exact List.mem_cons_self)
  have bne : ∀ a, a ∈ bs → a ≠ A := fun a ha z => ndA.1 (by rw [← z]; exact ha)
  have th : ∀ a, upd H A (.lst (acc ++ [w])) a = none → H a = none := fun a e => by
    by_cases z : a = A
    · subst z; rw [upd_same] at e; cases e
    · rw [upd_ne z] at e; exact e
  have ne1 : ∀ (i : Nat) (m : List Addr) a, as[i]? = some m → a ∈ m → a ≠ A := fun i m a e ha z => by
    have hi := (List.getElem?_eq_some_iff.mp e).1
    have := h.n2 _ _ _ _ _ (gA i m e) a2 ha (by rw [z]; exact List.mem_cons_self)
    omega
  have sh : ∀ (i : Nat) m, (as ++ [A :: (bs ++ l)])[i]? = some m → as[i]? = some m ∨ (i = as.length ∧ m = A :: (bs ++ l)) := fun i m e => by
    rcases app_get e with q | ⟨q0, q⟩
    · exact .inl q
    · have : i - as.length = 0 := by have := (List.getElem?_eq_some_iff.mp q).1; simp at this; omega
      rw [this] at q; simp at q
      exact .inr ⟨by omega, q.symm⟩
  have old : ∀ a, a ∈ A :: (bs ++ l) → ∃ (j : Nat) (m : List Addr), ts.length ≤ j ∧ ((as ++ [l]) ++ [A :: bs])[j]? = some m ∧ a ∈ m := fun a ha => by
    rcases List.mem_cons.mp ha with rfl | ha
    · exact ⟨_, _, Nat.le_succ _, a2, List.mem_cons_self⟩
    · rcases List.mem_append.mp ha with ha | ha
      · exact ⟨_, _, Nat.le_succ _, a2, List.mem_cons_of_mem _ ha⟩
      · exact ⟨_, _, Nat.le_refl _, a1, ha⟩
  refine ⟨A :: (bs ++ l), ⟨fun a o e => kp a o (fun z => ?_) (h.sub a o e), by simp [hl], by simp [hla], fun i t' v' m e1 e2 e3 => ?_, fun i m e => ?_, fun i j m m' a e1 e2 h1 h2 => ?_, fun i m a e ha => ?_⟩, ⟨Same.refl F, fun _ _ e => .inl e, fun a o hn e => kp a o (fun z => hn ?_) e, th, fun a ha => ?_⟩⟩
  · subst z
    rw [h.af _ _ _ a2 List.mem_cons_self] at e; cases e
  · rcases app_get e1 with q | ⟨q0, q⟩
    · have hi := (List.getElem?_eq_some_iff.mp q).1
      rw [List.getElem?_append_left (by omega)] at e2
      rw [List.getElem?_append_left (by omega)] at e3
      exact Own.keep (Same.refl F) _ _ _ (fun a ha o e => kp a o (ne1 i m a e3 ha) e) (h.own i t' v' m (gT i t' q) (gV i v' e2) (gA i m e3))
    · have i0 : i = ts.length := by have := (List.getElem?_eq_some_iff.mp q).1; simp at this; omega
      subst i0
      simp at q; subst q
      rw [← hl] at e2; simp at e2; subst e2
      rw [← hla] at e3; simp at e3; subst e3
      refine ⟨A, acc ++ [w], bs ++ l, rfl, upd_same, ?_, rfl⟩
      exact Owns.append (Own.keep (Same.refl F) _ _ _ (fun a ha o e => kp a o (lne a ha) e) o1) (Owns.keep (Same.refl F) _ _ _ (fun a ha o e => kp a o (bne a ha) e) o2)
  · rcases sh i m e with q | ⟨_, rfl⟩
    · exact h.n1 _ _ (gA i m q)
    · refine List.nodup_cons.mpr ⟨fun z => ?_, List.nodup_append.mpr ⟨ndA.2, n1l, fun a ha b hb z => ?_⟩⟩
      · rcases List.mem_append.mp z with z | z
        · exact ndA.1 z
        · exact lne A z rfl
      · subst z; exact dj a hb (List.mem_cons_of_mem _ ha)
  · rcases sh i m e1 with q | ⟨i0, rfl⟩
    · have hi := (List.getElem?_eq_some_iff.mp q).1
      rcases sh j m' e2 with z | ⟨j0, rfl⟩
      · exact h.n2 _ _ _ _ _ (gA i m q) (gA j m' z) h1 h2
      · obtain ⟨j', m2, hj, e', ha'⟩ := old a h2
        have := h.n2 _ _ _ _ _ (gA i m q) e' h1 ha'
        omega
    · rcases sh j m' e2 with z | ⟨j0, rfl⟩
      · have hj := (List.getElem?_eq_some_iff.mp z).1
        obtain ⟨j', m2, hj', e', ha'⟩ := old a h1
        have := h.n2 _ _ _ _ _ (gA j m' z) e' h2 ha'
        omega
      · omega
  · rcases sh i m e with q | ⟨_, rfl⟩
    · exact h.af _ _ _ (gA i m q) ha
    · obtain ⟨j', m2, _, e', ha'⟩ := old a ha
      exact h.af _ _ _ e' ha'
  · rw [z]; exact fl_mem a2 List.mem_cons_self
  · obtain ⟨i, m, e, hm⟩ := mem_fl ha
    rcases sh i m e with q | ⟨_, rfl⟩
    · exact .inl (fl_mem (gA i m q) hm)
    · obtain ⟨j', m2, _, e', ha'⟩ := old a hm
      exact .inl (fl_mem e' ha')
/-! comprehensions whose elements are new lists -/
def LcT (K : PySem.W.Frag) (g : D → List Sl → Option (List Sl)) (te : TE) (ρ : List Sl) (d : D) (μ : List T) (out : List T) (J : List T → List T → Prop) : Prop :=
  ∃ ρ', g d ρ = some ρ' ∧ TEX K te ⟨ρ', μ⟩ fun s3 x => ∃ s4 t, s3 = S.add s4 t ∧ x = .o s4.μ.length ∧ μ.length ≤ s4.μ.length ∧ J s4.μ (out ++ [t])
theorem lc_runT {X : Cx} {s : S} {Ψ : S → Ar → Prop} {G : TG} {is vs : List Nat} {g : D → List Sl → Option (List Sl)} {te : TE} {wi : TI}
    (hi : ∀ σ H F rs as, Hd X.K σ H F rs as s → ∀ R : It → Hp → Prop, (∀ s1 n it, (n ≤ 16777216 ∧ ∃ I : Nat → List T → List T → Prop, I 0 s1.μ [] ∧ (∀ i μ out, i < n → I i μ out → LcT X.K g te (wipeS s1.ρ vs) (it i) μ out (I (i + 1))) ∧ ∀ μ out, I n μ out → Ψ (S.add ⟨s1.ρ, μ⟩ (.lst out)) (.o μ.length)) →
      ∀ J H' F' rs' as', Hd X.K σ H' F' rs' as' s1 → rs <+: rs' → Go as.flatten as'.flatten F H F' H' → Gives X.K J n it F' → R J H') → wi σ H R)
    (hS : GS X.K G is g) (hv : ∀ i ∈ is, i ∈ vs) : TEX X.K (tLc wi G tYes te vs) s Ψ := fun σ H F rs as hd Q k => by
  refine hi σ H F rs as hd _ fun s1 n it ⟨hn, I, i0, hs, he⟩ J H1 F1 rs1 as1 h1 p1 g1 gv => ?_
  intro A hA
  obtain ⟨n1, n2⟩ := h1.r.snoc (t := .lst []) (v := .ref A) (o := .lst []) hA ⟨A, [], [], rfl, upd_same, ⟨rfl, rfl⟩, rfl⟩
  refine ⟨fun i m H2 => m = n - i ∧ i ≤ n ∧ ∃ μ out acc F2 rs2 as2 lA, I i μ out ∧ HdR X.K H2 F2 (μ ++ [.lst out]) (rs2 ++ [.ref A]) (as2 ++ [lA]) ∧ rs1 <+: rs2 ∧ Go as1.flatten (as2 ++ [lA]).flatten F1 H1 F2 H2 ∧ H2 A = some (.lst acc) ∧ acc.length ≤ i,
    ⟨n, by simp, Nat.zero_le _, s1.μ, [], [], F1, rs1, as1, [A], i0, n1, refl_pre _, n2, upd_same, Nat.le_refl _⟩, ?_⟩
  rintro i m H2 ⟨rfl, hin, μ, out, acc, F2, rs2, as2, lA, inv, hr, p2, g2, hAc, ol⟩
  have rl : rs2.length = μ.length := by have := hr.l1; simp at this; exact this
  have f12 : Same F1 F2 := g2.fz
  obtain ⟨go, stop, yld⟩ := gv H2 F2 f12 hr.sub
  by_cases hlt : i < n
  · refine .inr ⟨go i hlt, fun H' => ∃ μ out acc F2 rs2 as2 lA, I (i + 1) μ out ∧ HdR X.K H' F2 (μ ++ [.lst out]) (rs2 ++ [.ref A]) (as2 ++ [lA]) ∧ rs1 <+: rs2 ∧ Go as1.flatten (as2 ++ [lA]).flatten F1 H1 F2 H' ∧ H' A = some (.lst acc) ∧ acc.length ≤ i + 1,
      fun H' w => ⟨n - (i + 1), by omega, rfl, hlt, w⟩, fun v H3 y => ?_⟩
    obtain ⟨F3, g3, sb3, r3⟩ := yld i v H3 hlt y
    obtain ⟨hr3, g3'⟩ := hr.pure g3 sb3
    have hi3 := hr3.init rl
    obtain ⟨ρ', e1, ht⟩ := hs i μ out hlt inv
    have sl3 : Slots X.K F3 rs2 (wipeS s1.ρ vs) (wipe σ vs) := (h1.sl.mono (f12.trans g3.fz) fun k v q => pre_get p2 k v q).wipe vs
    have hd3 : Hd X.K (wipe σ vs) H3 F3 rs2 as2 ⟨wipeS s1.ρ vs, μ⟩ := ⟨hi3, sl3⟩
    have hA3 : H3 A = some (.lst acc) := g3.keep A _ (fun z => nomatch z) hAc
    have hal : as2.length = μ.length := by have := hr3.l2; simp at this; exact this
    have memA : A ∈ lA := by
      obtain ⟨a, xs, bs, e, _, _, el⟩ := hr3.own μ.length (.lst out) (.ref A) lA (by simp) (by rw [← rl]; simp) (by rw [← hal]; simp)
      cases e
      rw [el]; exact List.mem_cons_self
    have notA : A ∉ as2.flatten := fun z => by
      obtain ⟨j, mm, e, hm⟩ := mem_fl z
      have hj := (List.getElem?_eq_some_iff.mp e).1
      have := hr3.n2 j as2.length mm lA A (by rw [List.getElem?_append_left hj]; exact e) (by simp) hm memA
      omega
    refine hS (wipe σ vs) H3 F3 rs2 as2 _ (it i) v ρ' hd3 r3 e1 _ fun σ4 h4 w4 => ?_
    have ww : ∀ (σ : St) (vs : List Nat), wipe (wipe σ vs) vs = wipe σ vs := by
      intro σ vs
      have gen : ∀ (us : List Nat), (∀ i ∈ us, i ∈ vs) → wipe (wipe σ us) vs = wipe σ vs := by
        intro us
        induction us with
        | nil => intro _; rfl
        | cons u us ih =>
          intro h
          show wipe ((wipe σ us).set u none) vs = _
          rw [wipe_set (h u List.mem_cons_self)]
          exact ih fun i hi => h i (List.mem_cons_of_mem _ hi)
      exact gen vs fun _ h => h
    refine ⟨by rw [w4 vs hv, ww], ?_⟩
    unfold tYes
    dsimp only
    rw [if_pos rfl]
    refine (ht σ4 H3 F3 rs2 as2 h4 _ fun s3 x ⟨s4, t, e3, ex, hlen, inv'⟩ w H6 F6 rs6 as6 h6 p6 g6 r6 => ?_)
    subst e3 ex
    have hl6 : rs6.length = s4.μ.length + 1 := by have := h6.r.l1; simp [S.add] at this; exact this
    have hla6 : as6.length = s4.μ.length + 1 := by have := h6.r.l2; simp [S.add] at this; exact this
    obtain ⟨rs7, w', rfl⟩ : ∃ rs7 w', rs6 = rs7 ++ [w'] := ⟨rs6.dropLast, rs6.getLast (fun z => by rw [z] at hl6; simp at hl6), (List.dropLast_concat_getLast _).symm⟩
    obtain ⟨as7, l7, rfl⟩ : ∃ as7 l7, as6 = as7 ++ [l7] := ⟨as6.dropLast, as6.getLast (fun z => by rw [z] at hla6; simp at hla6), (List.dropLast_concat_getLast _).symm⟩
    have hl7 : rs7.length = s4.μ.length := by simpa using hl6
    have ew : w = w' := by
      have r6' : (rs7 ++ [w'])[s4.μ.length]? = some w := r6
      rw [← hl7] at r6'
      simpa using r6'.symm
    subst ew
    obtain ⟨fr, gf⟩ := hr3.frame rl h6.r g6
    have hA6 : H6 A = some (.lst acc) := g6.keep A _ notA hA3
    obtain ⟨lA', q1, q2⟩ := HdR.push (ts := s4.μ) (t := t) (out := out) fr hl7 hA6
    have p7 : rs2 <+: rs7 := by
      refine List.prefix_of_prefix_length_le p6 ⟨_, rfl⟩ ?_
      omega
    refine ⟨acc, hA6, by have : (16777216 : Nat) ≤ sizeLine := by decide
                         omega, s4.μ, out ++ [t], acc ++ [w], F6, rs7, as7, lA', inv', q1, p2.trans p7, ((g2.trans g3').trans gf).trans q2, upd_same, by simp; omega⟩
  · have e : i = n := by omega
    subst e
    refine .inl ⟨stop, ?_⟩
    refine k _ _ (he μ out inv) (V.ref A) H2 F2 (rs2 ++ [V.ref A]) (as2 ++ [lA]) ⟨show HdR X.K H2 F2 (μ ++ [T.lst out]) (rs2 ++ [V.ref A]) (as2 ++ [lA]) from hr, ?_⟩ ((p1.trans p2).trans ⟨_, rfl⟩) (g1.trans g2) ?_
    · exact (h1.sl.mono f12 fun k v q => pre_get p2 k v q).mono (Same.refl _) fun k v q => pre_get ⟨_, rfl⟩ k v q
    · show (rs2 ++ [V.ref A])[μ.length]? = _
      rw [← rl]; simp
end Q
namespace Q
open PySem PySem.Spec PyProof.Rows L2
/-! ### zip and enumerate over lists, tuples and texts -/
inductive Kd | kl (a : Addr) | kt (a : Addr) | ks (x : Str)
def Kd.v : Kd → V
  | .kl a => .ref a
  | .kt a => .ref a
  | .ks x => .str x
def Kd.has (K : PySem.W.Frag) (H : Hp) : Kd → List V → Prop
  | .kl a, xs => SqL K H a xs
  | .kt a, xs => SqT K H a xs
  | .ks x, xs => xs = x.cps.toList.map fun c => V.str ⟨#[c]⟩
def Kd.st (h : Heap) (it : Addr) (i : Nat) : Kd → Prop
  | .kl a => h.IsListIter it a i
  | .kt a => h.IsTupleIter it a i
  | .ks x => ∃ t, h.IsStrIter it (strIterType x) x t i
def Kd.ad : Kd → List Addr
  | .kl a => [a]
  | .kt a => [a]
  | .ks _ => []
theorem Kd.st_obj {h : Heap} {it : Addr} {i : Nat} : ∀ {k : Kd}, k.st h it i → ∃ o, h.get? it = some o ∧ ∀ v, o.data ≠ .cell v
  | .kl a, ⟨o, e, _, d⟩ => ⟨o, e, fun v q => by rw [d] at q; cases q⟩
  | .kt a, ⟨o, e, _, d⟩ => ⟨o, e, fun v q => by rw [d] at q; cases q⟩
  | .ks x, ⟨t, o, e, _, d⟩ => ⟨o, e, fun v q => by rw [d] at q; cases q⟩
theorem Kd.st_at {h h' : Heap} {it : Addr} {i : Nat} : ∀ {k : Kd}, k.st h it i → (∀ o, h.get? it = some o → h'.get? it = some o) → k.st h' it i
  | .kl a, ⟨o, e, c, d⟩, q => ⟨o, q o e, c, d⟩
  | .kt a, ⟨o, e, c, d⟩, q => ⟨o, q o e, c, d⟩
  | .ks x, ⟨t, o, e, c, d⟩, q => ⟨t, o, q o e, c, d⟩
theorem Kd.has_mono {K : PySem.W.Frag} {H H' : Hp} {xs : List V} (e : Same H H') : ∀ {k : Kd}, k.has K H xs → k.has K H' xs
  | .kl a, q => e.seq q
  | .kt a, q => same_t e q
  | .ks x, q => q
section
variable {X : Cx} {pins : List (Addr × Obj)} {σ : L2.St} {H : Hp} {s : Shared}
theorem Kd.has_inj (I : Inv X pins σ H s) {xs ys : List V} : ∀ {k : Kd}, k.has X.K H xs → k.has X.K H ys → xs = ys
  | .kl a, q, r => I.list_inj q r
  | .kt a, q, r => I.tuple_inj q r
  | .ks x, q, r => q.trans r.symm
theorem rv_rev {xs : List V} {us : List Value} (r : Vals xs us) {j : Nat} {v : Value} (h : us.toArray[j]? = some v) : ∃ y, xs[j]? = some y ∧ RelV y v := by
  have h' : us[j]? = some v := by simpa using h
  have hl := r.length
  have hj : j < xs.length := by rw [hl]; exact (List.getElem?_eq_some_iff.mp h').1
  obtain ⟨u, hu, ru⟩ := r.get (List.getElem?_eq_getElem hj)
  rw [h'] at hu; cases hu
  exact ⟨_, List.getElem?_eq_getElem hj, ru⟩
theorem Kd.draws (I : Inv X pins σ H s) (hc : X.calm = true) {xs : List V} {it : Addr} {i : Nat} : ∀ {k : Kd}, k.has X.K H xs → k.st s.heap it i → it ∉ k.ad →
    ∃ (n : Nat) (P : Nat → Value → Prop) (S : Nat → Heap → Prop), n = xs.length ∧ Draws X.prog X.w X.A.in1 it (it :: k.ad) n P S ∧ S i s.heap ∧ (∀ j h, S j h → k.st h it j) ∧ ∀ j v, P j v → ∃ y, xs[j]? = some y ∧ RelV y v
  | .kl a, hq, st, hne => by
    obtain ⟨its, rv, p, _⟩ := I.list hq
    have hh : X.A.in1.handled = none := I.ok.hd hc
    exact ⟨_, _, _, by simpa using rv.length.symm, Draws.list hh it a (fun e => hne (by rw [e]; exact List.mem_singleton_self _)) its.toArray, ⟨st, p.isList⟩, fun j h q => q.1, fun j v q => rv_rev rv q⟩
  | .kt a, hq, st, hne => by
    obtain ⟨its, rv, p, _⟩ := I.tuple hq
    have hh : X.A.in1.handled = none := I.ok.hd hc
    exact ⟨_, _, _, by simpa using rv.length.symm, Draws.tuple hh it a (fun e => hne (by rw [e]; exact List.mem_singleton_self _)) its.toArray, ⟨st, p⟩, fun j h q => q.1, fun j v q => rv_rev rv q⟩
  | .ks x, hq, ⟨t, st⟩, hne => by
    have hh : X.A.in1.handled = none := I.ok.hd hc
    have e : xs = x.cps.toList.map fun c => V.str ⟨#[c]⟩ := hq
    refine ⟨_, _, _, by rw [e]; simp, Draws.text hh it x t, st, fun j h q => ⟨t, q⟩, fun j v q => ?_⟩
    obtain ⟨c, u, hc, rfl⟩ := q
    refine ⟨.str ⟨#[c]⟩, ?_, ⟨u, rfl⟩⟩
    rw [e, List.getElem?_map, Array.getElem?_toList, hc]; rfl
theorem Kd.begins (I : Inv X pins σ H s) {xs : List V} {u : Value} : ∀ {k : Kd}, k.has X.K H xs → RelV k.v u → ∃ (o : Obj) (B : Heap → Prop), Begins u o B ∧ B s.heap ∧ (∀ h' it, h'.get? it = some o → k.st h' it 0) ∧ ∀ a ∈ k.ad, a < s.heap.objs.size
  | .kl a, hq, r => by
    obtain ⟨its, rv, p, _⟩ := I.list hq
    cases r
    exact ⟨_, _, begins_list a its.toArray, p.isList, fun h' it e => ⟨_, e, rfl, rfl⟩, fun b hb => by rw [List.mem_singleton.mp hb]; exact p.lt⟩
  | .kt a, hq, r => by
    obtain ⟨its, rv, p, _⟩ := I.tuple hq
    cases r
    obtain ⟨o1, ho1, _⟩ := id p
    exact ⟨_, _, begins_tuple a its.toArray, p, fun h' it e => ⟨_, e, rfl, rfl⟩, fun b hb => by rw [List.mem_singleton.mp hb]; exact Heap.lt_size ho1⟩
  | .ks x, hq, ⟨t, r⟩ => by
    subst r
    exact ⟨_, _, begins_text x t, trivial, fun h' it e => ⟨t, _, e, rfl, rfl⟩, fun b hb => absurd hb (by simp [Kd.ad])⟩
end
def Iz2 (K : PySem.W.Frag) (k1 k2 : Kd) : It :=
  ⟨fun i H => ∃ (xs ys : List V) (x y : V), k1.has K H xs ∧ k2.has K H ys ∧ xs[i]? = some x ∧ ys[i]? = some y,
    fun i H v H' => ∃ T x y, v = .ref T ∧ H T = none ∧ H' = upd H T (.tup [x, y]) ∧ (∀ xs, k1.has K H xs → xs[i]? = some x) ∧ ∀ ys, k2.has K H ys → ys[i]? = some y,
    fun i H => ∃ xs ys : List V, k1.has K H xs ∧ k2.has K H ys ∧ i ≤ xs.length ∧ i ≤ ys.length ∧ (i = xs.length ∨ i = ys.length)⟩
theorem turn_z2 {P : Program} {w : World} {K : PySem.W.Frag} {elts : List Expr} {kk : Nat} {tpos : Pos} {k1 k2 : Kd} {z TI TO i1 i2 : Addr} (D : ZipSep2 z TI TO i1 i2 (i1 :: k1.ad) (i2 :: k2.ad)) (n1 : i1 ∉ k1.ad) (n2 : i2 ∉ k2.ad) :
    Turn P w K (.Tuple elts kk tpos) (Iz2 K k1 k2) [z, TI, TO, i1, i2] z (fun i h => IsZip h z TI TO .none ∧ IsTupOf2 h TI (.ref i1) (.ref i2) ∧ (∃ x y, IsTupOf2 h TO x y) ∧ k1.st h i1 i ∧ k2.st h i2 i) where
  mem := by simp
  obj := fun i h st c hc => by
    obtain ⟨hz, hTI, ⟨x, y, hTO⟩, h1, h2⟩ := st
    have e' : c = z ∨ c = TI ∨ c = TO ∨ c = i1 ∨ c = i2 := by simpa using hc
    rcases e' with q | q | q | q | q
    · rw [q]; exact ⟨_, hz, fun v q => nomatch q⟩
    · rw [q]; exact ⟨_, hTI, fun v q => nomatch q⟩
    · rw [q]; exact ⟨_, hTO, fun v q => nomatch q⟩
    · rw [q]; exact Kd.st_obj h1
    · rw [q]; exact Kd.st_obj h2
  keep := fun i h h' st k => by
    obtain ⟨hz, hTI, ⟨x, y, hTO⟩, h1, h2⟩ := st
    exact ⟨k z (by simp) _ hz, k TI (by simp) _ hTI, ⟨x, y, k TO (by simp) _ hTO⟩, Kd.st_at h1 fun o q => k i1 (by simp) o q, Kd.st_at h2 fun o q => k i2 (by simp) o q⟩
  item := by
    intro X hP hw hK hc i pins s σ H E I hf st hg
    subst hP hw hK
    obtain ⟨hz, hTI, ⟨x0, y0, hTO⟩, h1, h2⟩ := st
    obtain ⟨xs, ys, x, y, hqx, hqy, hx, hy⟩ := hg
    obtain ⟨m1, P1, S1, rfl, D1, s1, b1, r1⟩ := Kd.draws I hc hqx h1 n1
    obtain ⟨m2, P2, S2, rfl, D2, s2, b2, r2⟩ := Kd.draws I hc hqy h2 n2
    have hzl : z < s.heap.objs.size := Heap.lt_size hz
    have hTOl : TO < s.heap.objs.size := Heap.lt_size hTO
    refine wpAny_pyNext_zipD2_item D D1 D2 hz hTI hTO s1 s2 (List.getElem?_eq_some_iff.mp hx).1 (List.getElem?_eq_some_iff.mp hy).1 fun u u2 h' tk pu pu2 z' TO' h1' h2' hT hsz hk => ?_
    refine ⟨_, rfl, wpAny_letOwnedTupleGo_zip (s := { s with heap := h', toks := tk }) z' fun h'' z'' sb => ?_⟩
    obtain ⟨x', hx', ru⟩ := r1 _ _ pu
    obtain ⟨y', hy', ru2⟩ := r2 _ _ pu2
    rw [hx] at hx'; cases hx'
    rw [hy] at hy'; cases hy'
    have hT2 : h''.get? s.heap.objs.size = some { cls := .type "tuple", data := .seq #[u, u2] } := (sb.2 _ (Nat.ne_of_gt hzl)).trans hT
    have new : ObjOk X.prog X.w (upd H s.heap.objs.size (.tup [x, y])) h'' s.heap.objs.size (.tup [x, y]) :=
      ⟨by show 2 ≤ sizeLine; decide, [u, u2], .cons ru (.cons ru2 .nil), ⟨_, hT2, rfl, _, rfl⟩⟩
    have I1 : Inv X pins σ (upd H s.heap.objs.size (.tup [x, y])) { s with heap := h'', toks := tk } :=
      I.turnedNew (t' := tk) (ch := [z, TI, TO, i1, i2]) (fun c o hb q => (sb.2 c (fun q' => hb (by simp [q']))).trans (hk c o (fun q' => hb (by simp [q'])) (fun q' => hb (by simp [q'])) (fun q' => hb (by simp [q'])) (fun q' => hb (by simp [q'])) q)) hf (Nat.le_refl _) new
    have iz1 : i1 ≠ z := fun e => D.zf1 (by rw [e]; exact List.mem_cons_self)
    have iz2 : i2 ≠ z := fun e => D.zf2 (by rw [e]; exact List.mem_cons_self)
    have ex1 := b1 _ _ h1'
    have ex2 := b2 _ _ h2'
    refine ⟨.ref s.heap.objs.size, _, I1, rfl, ⟨_, x, y, rfl, I.hok.fresh (Nat.le_refl _), rfl, fun l hl => by rw [Kd.has_inj I hl hqx]; exact hx, fun l hl => by rw [Kd.has_inj I hl hqy]; exact hy⟩, ⟨z'', ?_, ⟨u, u2, ?_⟩, ?_, ?_⟩, fun c hcm => ?_⟩
    · have hTO1 : TI ≠ TO := D.TITO
      exact (sb.2 _ D.TIz).trans (hk _ _ D.TIz D.TITO D.TIi1 D.TIi2 hTI)
    · exact (sb.2 _ D.TOz).trans TO'
    · exact Kd.st_at ex1 fun o q => (sb.2 _ iz1).trans q
    · exact Kd.st_at ex2 fun o q => (sb.2 _ iz2).trans q
    · have hlt : c < s.heap.objs.size := by
        have e' : c = z ∨ c = TI ∨ c = TO ∨ c = i1 ∨ c = i2 := by simpa using hcm
        rcases e' with q | q | q | q | q
        · rw [q]; exact hzl
        · rw [q]; exact Heap.lt_size hTI
        · rw [q]; exact Heap.lt_size hTO
        · rw [q]; obtain ⟨_, e1, _⟩ := Kd.st_obj h1; exact Heap.lt_size e1
        · rw [q]; obtain ⟨_, e2, _⟩ := Kd.st_obj h2; exact Heap.lt_size e2
      rw [upd_ne (Nat.ne_of_lt hlt)]
      exact (hf c hcm).1
  done := by
    intro X hP hw hK hc i pins s σ H E I hf st hg
    subst hP hw hK
    obtain ⟨hz, hTI, ⟨x0, y0, hTO⟩, h1, h2⟩ := st
    obtain ⟨xs, ys, hqx, hqy, l1, l2, hend⟩ := hg
    obtain ⟨m1, P1, S1, rfl, D1, s1, b1, r1⟩ := Kd.draws I hc hqx h1 n1
    obtain ⟨m2, P2, S2, rfl, D2, s2, b2, r2⟩ := Kd.draws I hc hqy h2 n2
    exact wpAny_pyNext_zipD2_end D D1 D2 hz hTI hTO s1 s2 l1 l2 hend fun h' tk hk => ⟨rfl, I.turnedL (t' := tk) (ch := [z, TI, TO, i1, i2]) (fun c o hb q =>
      hk c o (fun q' => hb (by simp [q'])) (fun q' => hb (by simp [q'])) (fun q' => hb (by simp [q'])) (fun q' => hb (by simp [q'])) q) hf⟩
  self := fun A i s Q E st h => wpAny_pyIter_zip st.1 h
theorem fa_lt {n j : Nat} (h : n + j < n) : False := by omega
theorem fa_ne {n a b : Nat} (h : a ≠ b) : n + a ≠ n + b := by omega
def iZ2 (K : PySem.W.Frag) (ta : TA) : TI := fun σ H R => ta σ H fun vs H1 => ∃ k1 k2 xs ys, vs = [Kd.v k1, Kd.v k2] ∧ k1.has K H1 xs ∧ k2.has K H1 ys ∧ R (Iz2 K k1 k2) H1
theorem pi_z2 {X : Cx} {e e2 : Expr} {ta : TA} {p pos tpos : Pos} {elts : List Expr} {kk : Nat} (hg : Gl X "zip") (hm : X.mg "zip" = none) (ha : PA X [e, e2] ta)
    (hs : starEach [e, e2] X.env = (false, eval e X.env) :: starEach [e2] X.env := by rfl) (hpl : (backTo pos (starEach [e2] X.env)).any (·.1) = false := by rfl) :
    PI X (.Tuple elts kk tpos) (.Call (.Name "zip" p) [e, e2] [] pos) (iZ2 X.K ta) := by
  refine ⟨fun pins s σ H R I h => ?_⟩
  refine Call_ (ld_blt I hg hm PyProof.Rows.boot_zip (PyProof.Rows.callWith_type1 (thn (ha.run pos pins s σ H _ I h) fun us s1 ⟨vs, H1, I1, r1, q1⟩ => ?_) hs hpl))
  obtain ⟨k1, k2, xs, ys, ex, hqx, hqy, q⟩ := q1
  subst ex
  cases r1 with
  | cons r rr =>
    cases rr with
    | cons r' rr =>
      cases rr
      have fresh5 : ∀ c, c ∈ [s1.heap.objs.size + 4, s1.heap.objs.size + 2, s1.heap.objs.size + 3, s1.heap.objs.size, s1.heap.objs.size + 1] → FpOk X pins H1 c := fun c hcm => by
        have hle : s1.heap.objs.size ≤ c := by
          have e' : c = s1.heap.objs.size + 4 ∨ c = s1.heap.objs.size + 2 ∨ c = s1.heap.objs.size + 3 ∨ c = s1.heap.objs.size ∨ c = s1.heap.objs.size + 1 := by simpa using hcm
          rcases e' with z | z | z | z | z
          · rw [z]; exact Nat.le_add_right _ _
          · rw [z]; exact Nat.le_add_right _ _
          · rw [z]; exact Nat.le_add_right _ _
          · rw [z]; exact Nat.le_refl _
          · rw [z]; exact Nat.le_add_right _ _
        exact I1.fpOk hle (I1.hok.fresh hle)
      obtain ⟨o1, B1, g1, hb1, f1, l1⟩ := Kd.begins I1 hqx r
      obtain ⟨o2, B2, g2, hb2, f2, l2⟩ := Kd.begins I1 hqy r'
      refine zip_begins2 g1 g2 hb1 hb2 fun h' hz hTI hTO e1 e2 hsz hk => wpAny_pyIter_zip hz ?_
      have I2 : Inv X pins σ H1 { s1 with heap := h' } := I1.kept (t' := s1.toks) hk
      have far : ∀ {A : List Addr} {j : Nat}, (∀ a ∈ A, a < s1.heap.objs.size) → s1.heap.objs.size + j ∉ A := fun l m => fa_lt (l _ m)
      have far0 : ∀ {A : List Addr}, (∀ a ∈ A, a < s1.heap.objs.size) → s1.heap.objs.size ∉ A := fun l m => Nat.lt_irrefl _ (l _ m)
      refine ⟨s1.heap.objs.size + 4, [s1.heap.objs.size + 4, s1.heap.objs.size + 2, s1.heap.objs.size + 3, s1.heap.objs.size, s1.heap.objs.size + 1], _, _, H1, rfl, I2, turn_z2 (i1 := s1.heap.objs.size) (i2 := s1.heap.objs.size + 1) ?_ (far0 l1) (far l2), ⟨hz, hTI, ⟨_, _, hTO⟩, f1 _ _ e1, f2 _ _ e2⟩, fresh5, q⟩
      have sep : ∀ {j : Nat} {A : List Addr} {i : Nat}, (∀ a ∈ A, a < s1.heap.objs.size) → j ≠ i → s1.heap.objs.size + j ∉ (s1.heap.objs.size + i) :: A := fun l h m => by
        rcases List.mem_cons.mp m with e | m
        · exact h (Nat.add_left_cancel e)
        · exact far l m
      exact ⟨fa_ne (by decide), fa_ne (by decide), fa_ne (by decide), fa_ne (b := 0) (by decide), List.mem_cons_self, sep (i := 0) l1 (by decide), sep (i := 0) l1 (by decide), fa_ne (by decide), List.mem_cons_self, sep l2 (by decide), sep l2 (by decide), sep (j := 0) l2 (by decide), sep (i := 0) l1 (by decide)⟩

/-- the items of what can be gone through -/
def sq : D → Option (List D)
  | .lst ds => some ds
  | .rl ds => some ds
  | .tup ds => some ds
  | .str l => some (l.map fun c => .str [c])
  | _ => none
theorem sq_has {K : PySem.W.Frag} {F H : Hp} (sub : Same F H) : ∀ {d : D} {ds : List D} {v : V}, sq d = some ds → Rep K F d v → ∃ k xs, v = Kd.v k ∧ k.has K F xs ∧ Reps K F ds xs
  | .lst ds', ds, v, e, ⟨a, xs, ev, q, r⟩ => by cases e; exact ⟨.kl a, xs, ev, .of q, r⟩
  | .rl ds', ds, v, e, ⟨a, xs, ev, q, r⟩ => by cases e; exact ⟨.kl a, xs, ev, q, r⟩
  | .tup ds', ds, v, e, ⟨a, xs, ev, q, r⟩ => by cases e; exact ⟨.kt a, xs, ev, q, r⟩
  | .str l, ds, v, e, r => by
    cases e
    refine ⟨.ks (mk l), _, r, rfl, ?_⟩
    rw [mk_cps]
    clear r
    induction l with
    | nil => rfl
    | cons c l ih => exact ⟨_, _, rfl, rfl, ih⟩
  | .non, _, _, e, _ => nomatch e
  | .bl _, _, _, e, _ => nomatch e
  | .int _, _, _, e, _ => nomatch e
  | .ins .., _, _, e, _ => nomatch e
  | .val _, _, _, e, _ => nomatch e
theorem it_pair {K : PySem.W.Frag} {F2 H2 : Hp} {T : Addr} {x y : V} {d e : D} (sb : Same F2 H2) (hT : H2 T = none) (r1 : Rep K F2 d x) (r2 : Rep K F2 e y) :
    ∃ F3, Go [] [] F2 H2 F3 (upd H2 T (.tup [x, y])) ∧ Same F3 (upd H2 T (.tup [x, y])) ∧ Rep K F3 (.tup [d, e]) (.ref T) := by
  obtain ⟨g, sb'⟩ := go_new (o := .tup [x, y]) hT sb
  exact ⟨_, g, sb', ⟨T, _, rfl, .inl (.inl upd_same), ⟨x, _, rfl, Rep.mono g.fz _ _ r1, y, _, rfl, Rep.mono g.fz _ _ r2, rfl⟩⟩⟩
theorem gives_zip {K : PySem.W.Frag} {k1 k2 : Kd} {xs ys : List V} {ds es : List D} {F : Hp} (q1 : k1.has K F xs) (r1 : Reps K F ds xs) (q2 : k2.has K F ys) (r2 : Reps K F es ys) :
    Gives K (Iz2 K k1 k2) (min ds.length es.length) (fun i => .tup [ds.getD i .non, es.getD i .non]) F := fun H2 F2 e1 e2 => by
  have l1 := r1.len
  have l2 := r2.len
  have h1 := Kd.has_mono (e1.trans e2) q1
  have h2 := Kd.has_mono (e1.trans e2) q2
  refine ⟨fun i hi => ?_, ?_, fun i v H3 hi y => ?_⟩
  · exact ⟨xs, ys, xs[i]'(by omega), ys[i]'(by omega), h1, h2, List.getElem?_eq_getElem _, List.getElem?_eq_getElem _⟩
  · exact ⟨xs, ys, h1, h2, by omega, by omega, by omega⟩
  · obtain ⟨T, x, y, rfl, hT, rfl, g1, g2⟩ := y
    obtain ⟨x', hx', rx⟩ := r1.get (getD_of (show i < ds.length by omega))
    obtain ⟨y', hy', ry⟩ := r2.get (getD_of (show i < es.length by omega))
    rw [g1 xs h1] at hx'; cases hx'
    rw [g2 ys h2] at hy'; cases hy'
    exact it_pair e2 hT (Rep.mono e1 _ _ rx) (Rep.mono e1 _ _ ry)

/-! enumerate -/
def Ie (K : PySem.W.Frag) (k : Kd) : It :=
  ⟨fun i H => ∃ (xs : List V) (x : V), k.has K H xs ∧ xs[i]? = some x, fun i H v H' => ∃ T x, v = .ref T ∧ H T = none ∧ H' = upd H T (.tup [.int (i : Nat), x]) ∧ ∀ xs, k.has K H xs → xs[i]? = some x, fun i H => ∃ xs : List V, k.has K H xs ∧ xs.length = i⟩
theorem turn_e {P : Program} {w : World} {K : PySem.W.Frag} {elts : List Expr} {kk : Nat} {tpos : Pos} {k : Kd} {e it : Addr} (hne : e ≠ it) (hit : it ∉ k.ad) (hea : e ∉ k.ad) :
    Turn P w K (.Tuple elts kk tpos) (Ie K k) [e, it] e (fun i h => (∃ old, IsEnum h e it ((i : Nat) : Int) old) ∧ k.st h it i) where
  mem := by simp
  obj := fun i h st b hb => by
    obtain ⟨⟨old, he⟩, h1⟩ := st
    have e' : b = e ∨ b = it := by simpa using hb
    rcases e' with z | z
    · rw [z]; exact ⟨_, he, fun v q => nomatch q⟩
    · rw [z]; exact Kd.st_obj h1
  keep := fun i h h' st k => let ⟨⟨old, he⟩, hi⟩ := st; ⟨⟨old, k e (by simp) _ he⟩, Kd.st_at hi fun o q => k it (by simp) o q⟩
  item := by
    intro X hP hw hK hc i pins s σ H E I hf st hg
    subst hP hw hK
    obtain ⟨⟨old, he⟩, h1⟩ := st
    obtain ⟨xs, x, hq, hx⟩ := hg
    obtain ⟨m1, P1, S1, rfl, D1, s1, b1, r1⟩ := Kd.draws I hc hq h1 hit
    have hel : e < s.heap.objs.size := Heap.lt_size he
    have hil : it < s.heap.objs.size := by obtain ⟨_, q, _⟩ := Kd.st_obj h1; exact Heap.lt_size q
    refine wpAny_pyNext_enum_itemC D1 he s1 (List.getElem?_eq_some_iff.mp hx).1 hne (fun m => by rcases List.mem_cons.mp m with z | z; exact hne z; exact hea z) fun u h' tk pu ho h1' hT hsz hk => ?_
    obtain ⟨x', hx', ru⟩ := r1 _ _ pu
    rw [hx] at hx'; cases hx'
    refine ⟨_, rfl, wpAny_letOwnedTupleGo_enum (s := { s with heap := h', toks := tk + 1 }) ho fun h'' he' sb => ?_⟩
    have hT2 : h''.get? s.heap.objs.size = some { cls := .type "tuple", data := .seq #[.int i tk, u] } := (sb.2 _ (Nat.ne_of_gt hel)).trans hT
    have new : ObjOk X.prog X.w (upd H s.heap.objs.size (.tup [.int (i : Nat), x])) h'' s.heap.objs.size (.tup [.int (i : Nat), x]) :=
      ⟨by show 2 ≤ sizeLine; decide, [.int i tk, u], .cons ⟨_, rfl⟩ (.cons ru .nil), ⟨_, hT2, rfl, _, rfl⟩⟩
    have I1 : Inv X pins σ (upd H s.heap.objs.size (.tup [.int (i : Nat), x])) { s with heap := h'', toks := tk + 1 } :=
      I.turnedNew (ch := [e, it]) (fun b ob hb q => (sb.2 b (fun z => hb (by simp [z]))).trans (hk b ob (fun z => hb (by simp [z])) (fun z => hb (by simp [z])) q)) hf (Nat.le_refl _) new
    refine ⟨.ref s.heap.objs.size, _, I1, rfl, ⟨_, x, rfl, I.hok.fresh (Nat.le_refl _), rfl, fun ys hy => by rw [Kd.has_inj I hy hq]; exact hx⟩, ⟨⟨u, ?_⟩, Kd.st_at (b1 _ _ h1') fun o q => (sb.2 it (Ne.symm hne)).trans q⟩, fun b hb => ?_⟩
    · have e1 : ((i + 1 : Nat) : Int) = (i : Int) + 1 := by omega
      rw [e1]; exact he'
    · have hb' : b < s.heap.objs.size := by
        have e' : b = e ∨ b = it := by simpa using hb
        rcases e' with z | z
        · rw [z]; exact hel
        · rw [z]; exact hil
      rw [upd_ne (Nat.ne_of_lt hb')]
      exact (hf b hb).1
  done := by
    intro X hP hw hK hc i pins s σ H E I hf st hg
    subst hP hw hK
    obtain ⟨⟨old, he⟩, h1⟩ := st
    obtain ⟨xs, hq, rfl⟩ := hg
    obtain ⟨m1, P1, S1, rfl, D1, s1, b1, r1⟩ := Kd.draws I hc hq h1 hit
    obtain ⟨f0, f1, f2, f3, f4, f5⟩ := hf it (by simp)
    exact wpAny_pyNext_enum_endD D1 he s1 fun h' eb => ⟨rfl, I.turned (t' := s.toks) (fun b o hb q => eb b o hb q) f0 f1 f3 f4 f5⟩
  self := fun A i s Q E st h => let ⟨⟨_, he⟩, _⟩ := st; wpAny_pyIter_enum he h
def iE (K : PySem.W.Frag) (ta : TA) : TI := fun σ H R => ta σ H fun vs H1 => ∃ k xs, vs = [Kd.v k] ∧ k.has K H1 xs ∧ R (Ie K k) H1
set_option maxHeartbeats 4000000 in
theorem meets_en1 {v : Value} {o : Obj} {H : Heap → Prop} (B : Begins v o H) :
    Meets (Builtin.«enumerate.__new__» ⟨[.type "enumerate", v], []⟩) (fun _ R s => H s.heap ∧
      R (.ok (.ret (.ref (s.heap.push o).objs.size))) { s with heap := (s.heap.push o).push { cls := .type "enumerate", data := .fields #[.none, .bool false, .ref s.heap.objs.size, rawInt 0, .none, .none] } }) :=
  .of_wp fun prog w A R s h => by
    obtain ⟨hp, g, d, tk, os⟩ := s; obtain ⟨h1, h⟩ := h
    have hsub := sub_enumerate
    have q1 : ∀ {A' : Around} {E : Value → Shared → Prop} {Q : Value → Shared → Prop}, Q (.ref hp.objs.size) ⟨hp.push o, g, d, tk, os⟩ → wpAny (model prog w) A' (pyIter v) Q E ⟨hp, g, d, tk, os⟩ :=
      fun q => B.iter prog w _ _ ⟨hp, g, d, tk, os⟩ _ h1 q
    wp_walk using q1
    refine wpAny_stack_any fun st => wpAny_pure ?_
    split
    · rename_i c _ _ _ _ _
      cases (c == Value.type "enumerate")
      · wp_walk using q1
        exact ⟨_, rfl, h⟩
      · wp_walk using q1
        exact ⟨_, rfl, h⟩
    · wp_walk using q1
      exact ⟨_, rfl, h⟩
section
variable {prog : Program} {w : World} {A : Around} {E : Value → Shared → Prop} {s : Shared}
theorem en_begins {v : Value} {o : Obj} {H : Heap → Prop} {Q : Value → Shared → Prop} (B : Begins v o H) (h1 : H s.heap)
    (h : ∀ h', IsEnum h' (s.heap.objs.size + 1) s.heap.objs.size 0 .none → h'.get? s.heap.objs.size = some o → h'.objs.size = s.heap.objs.size + 2 →
      (∀ b o, s.heap.get? b = some o → h'.get? b = some o) → Q (.ref (s.heap.objs.size + 1)) { s with heap := h' }) :
    wpAny (model prog w) A (call (.type "enumerate") [v]) Q E s := by
  refine callType_new F.called_enumerate (by decide) (F.typeCall_enumerate_1 _) (F.newCall_enumerate_1 _) (fun obj => F.args_object_init_2 obj _) F.entry_enumerate_new
    (meets_en1 B) ⟨h1, ?_⟩
  have hz : (s.heap.push o).objs.size = s.heap.objs.size + 1 := Heap.size_push ..
  show _ ∧ _
  rw [hz]
  have he : IsEnum ((s.heap.push o).push { cls := .type "enumerate", data := .fields #[.none, .bool false, .ref s.heap.objs.size, rawInt 0, .none, .none] }) (s.heap.objs.size + 1) s.heap.objs.size 0 .none := by
    have := Heap.get?_push_size (s.heap.push o) (o := { cls := .type "enumerate", data := .fields #[.none, .bool false, .ref s.heap.objs.size, rawInt 0, .none, .none] }) rfl
    rw [hz] at this; exact this
  refine ⟨⟨_, he, rfl⟩, h _ he (Heap.get?_push_of_some _ (Heap.get?_push_size _ B.free)) (by rw [Heap.size_push, hz]) fun b o x => Heap.get?_push_of_some _ (Heap.get?_push_of_some _ x)⟩
end
theorem pi_e {X : Cx} {e : Expr} {ta : TA} {p pos tpos : Pos} {elts : List Expr} {kk : Nat} (hg : Gl X "enumerate") (hm : X.mg "enumerate" = none) (ha : PA X [e] ta) (hs : starEach [e] X.env = [(false, eval e X.env)] := by rfl) :
    PI X (.Tuple elts kk tpos) (.Call (.Name "enumerate" p) [e] [] pos) (iE X.K ta) := by
  refine ⟨fun pins s σ H R I h => ?_⟩
  refine Call_ (ld_blt I hg hm boot_enumerate (PyProof.Rows.callWith_type1 (thn (ha.run pos pins s σ H _ I h) fun us s1 ⟨vs, H1, I1, r1, q1⟩ => ?_) hs rfl))
  obtain ⟨k, xs, ex, hq, q⟩ := q1
  subst ex
  cases r1 with
  | cons r rr =>
    cases rr
    obtain ⟨o1, B1, g1, hb1, f1, l1⟩ := Kd.begins I1 hq r
    refine en_begins g1 hb1 fun h' he hit hsz hk => wpAny_pyIter_enum he ?_
    have I2 : Inv X pins σ H1 { s1 with heap := h' } := I1.kept (t' := s1.toks) hk
    have far : ∀ {A : List Addr} {j : Nat}, (∀ a ∈ A, a < s1.heap.objs.size) → s1.heap.objs.size + j ∉ A := fun l m => fa_lt (l _ m)
    have far0 : ∀ {A : List Addr}, (∀ a ∈ A, a < s1.heap.objs.size) → s1.heap.objs.size ∉ A := fun l m => Nat.lt_irrefl _ (l _ m)
    refine ⟨s1.heap.objs.size + 1, [s1.heap.objs.size + 1, s1.heap.objs.size], _, _, H1, rfl, I2, turn_e (e := s1.heap.objs.size + 1) (it := s1.heap.objs.size) (Nat.succ_ne_self _) (far0 l1) (far l1), ⟨⟨.none, he⟩, f1 _ _ hit⟩, fun b hb => ?_, q⟩
    have hle : s1.heap.objs.size ≤ b := by
      have e' : b = s1.heap.objs.size + 1 ∨ b = s1.heap.objs.size := by simpa using hb
      rcases e' with z | z
      · rw [z]; exact Nat.le_add_right _ _
      · rw [z]; exact Nat.le_refl _
    exact I1.fpOk hle (I1.hok.fresh hle)
theorem gives_en {K : PySem.W.Frag} {k : Kd} {xs : List V} {ds : List D} {F : Hp} (q1 : k.has K F xs) (r1 : Reps K F ds xs) :
    Gives K (Ie K k) ds.length (fun i => .tup [.int (i : Nat), ds.getD i .non]) F := fun H2 F2 e1 e2 => by
  have l1 := r1.len
  have h1 := Kd.has_mono (e1.trans e2) q1
  refine ⟨fun i hi => ?_, ?_, fun i v H3 hi y => ?_⟩
  · exact ⟨xs, xs[i]'(by omega), h1, List.getElem?_eq_getElem _⟩
  · exact ⟨xs, h1, l1⟩
  · obtain ⟨T, x, rfl, hT, rfl, g1⟩ := y
    obtain ⟨x', hx', rx⟩ := r1.get (getD_of (show i < ds.length by omega))
    rw [g1 xs h1] at hx'; cases hx'
    exact it_pair e2 hT rfl (Rep.mono e1 _ _ rx)
section
variable {X : Cx} {s s1 s2 s3 : S} {a b e : Expr} {x y : D} {ds es : List D} {p pos tpos : Pos} {elts : List Expr} {kk : Nat} {Ψ : S → Nat → (Nat → D) → Prop}
theorem it_zip (hg : Gl X "zip") (hm : X.mg "zip" = none) (ha : EA X s a s1 (.d x)) (hb : EA X s1 b s2 (.d y)) (hx : sq x = some ds := by rfl) (hy : sq y = some es := by rfl)
    (hs : starEach [a, b] X.env = [(false, eval a X.env), (false, eval b X.env)] := by rfl) (hs2 : starEach [b] X.env = [(false, eval b X.env)] := by rfl) (hpl : (backTo pos (starEach [b] X.env)).any (·.1) = false := by rfl) :
    IT X s (.Tuple elts kk tpos) (.Call (.Name "zip" p) [a, b] [] pos) s2 (min ds.length es.length) (fun i => .tup [ds.getD i .non, es.getD i .non]) :=
  ⟨_, pi_z2 hg hm pa_u (by rw [hs, hs2]) hpl, fun σ H F rs as hd R k => (es_cons ha (es_cons hb es_nil (hs := hs2)) (hs := by rw [hs, hs2])) σ H F rs as hd _ fun vs H1 F1 rs1 as1 q1 p1 g1 ⟨v, ws, e, r, v2, ws2, e3, r2, e2⟩ => by
  cases e2; cases e3; cases e
  obtain ⟨k1, xs, rfl, h1, r1⟩ := sq_has q1.sub hx r
  obtain ⟨k2, ys, rfl, h2, r2⟩ := sq_has q1.sub hy r2
  exact ⟨k1, k2, xs, ys, rfl, Kd.has_mono q1.sub h1, Kd.has_mono q1.sub h2, k _ H1 F1 rs1 as1 q1 p1 g1 (gives_zip h1 r1 h2 r2)⟩⟩
theorem it_en (hg : Gl X "enumerate") (hm : X.mg "enumerate" = none) (ha : EA X s a s1 (.d x)) (hx : sq x = some ds := by rfl) (hs : starEach [a] X.env = [(false, eval a X.env)] := by rfl) :
    IT X s (.Tuple elts kk tpos) (.Call (.Name "enumerate" p) [a] [] pos) s1 ds.length (fun i => .tup [.int (i : Nat), ds.getD i .non]) :=
  ⟨_, pi_e hg hm pa_u hs, fun σ H F rs as hd R k => (es_cons ha es_nil (hs := hs)) σ H F rs as hd _ fun vs H1 F1 rs1 as1 q1 p1 g1 ⟨v, ws, e, r, e2⟩ => by
  cases e2; cases e
  obtain ⟨k1, xs, rfl, h1, r1⟩ := sq_has q1.sub hx r
  exact ⟨k1, xs, rfl, Kd.has_mono q1.sub h1, k _ H1 F1 rs1 as1 q1 p1 g1 (gives_en h1 r1)⟩⟩
theorem ix_zip (hg : Gl X "zip") (hm : X.mg "zip" = none) (h : EXs X s [a, b] fun s2 zs => ∃ x y ds es, zs = [.d x, .d y] ∧ sq x = some ds ∧ sq y = some es ∧ Ψ s2 (min ds.length es.length) (fun i => .tup [ds.getD i .non, es.getD i .non]))
    (hs : starEach [a, b] X.env = (false, eval a X.env) :: starEach [b] X.env := by rfl) (hpl : (backTo pos (starEach [b] X.env)).any (·.1) = false := by rfl) :
    IX X s (.Tuple elts kk tpos) (.Call (.Name "zip" p) [a, b] [] pos) Ψ :=
  ⟨_, pi_z2 hg hm pa_u hs hpl, fun σ H F rs as hd R k => h σ H F rs as hd _ fun s2 zs ⟨x, y, ds, es, ez, hx, hy, q⟩ vs H1 F1 rs1 as1 q1 p1 g1 r0 => by
  subst ez
  obtain ⟨v, ws, rfl, r, v2, ws2, rfl, r2, rfl⟩ := r0
  obtain ⟨k1, xs, rfl, h1, r1⟩ := sq_has q1.sub hx r
  obtain ⟨k2, ys, rfl, h2, r2⟩ := sq_has q1.sub hy r2
  exact ⟨k1, k2, xs, ys, rfl, Kd.has_mono q1.sub h1, Kd.has_mono q1.sub h2, k _ _ _ q _ H1 F1 rs1 as1 q1 p1 g1 (gives_zip h1 r1 h2 r2)⟩⟩
end
end Q
namespace Q
open PySem PySem.Spec PyProof.Rows L2
/-! ### isinstance -/
def tyD : D → Option String
  | .non => some "NoneType"
  | .bl _ => some "bool"
  | .int _ => some "int"
  | .str _ => some "str"
  | .lst _ => some "list"
  | .rl _ => some "list"
  | .tup _ => some "tuple"
  | _ => none
theorem tyD_ok {K : PySem.W.Frag} {F H : Hp} (sub : Same F H) {d : D} {v : V} {t : String} (r : Rep K F d v) (h : tyD d = some t) : TyX K H v (.type t) := by
  cases d with
  | non => cases h; cases r; exact .base .non
  | bl b => cases h; cases r; exact .base (.bl _)
  | int i => cases h; cases r; exact .base (.int _)
  | str l => cases h; cases r; exact .base (.str _)
  | lst ds =>
    cases h
    obtain ⟨a, xs, rfl, q, _⟩ := r
    exact .base (.lst (sub _ _ q))
  | rl ds =>
    cases h
    obtain ⟨a, xs, rfl, q, _⟩ := r
    rcases q with (q | ⟨o, q⟩) | ⟨o, its, n, k, c, _⟩
    · exact .base (.lst (sub _ _ q))
    · exact .base (.frz (sub _ _ q))
    · exact .kList k c
  | tup ds =>
    cases h
    obtain ⟨a, xs, rfl, q, _⟩ := r
    rcases q with (q | ⟨o, q⟩) | ⟨o, its, n, k, c, _⟩
    · exact .base (.tup (sub _ _ q))
    · exact .fTuple (sub _ _ q)
    · exact .kTuple k c
  | ins C ns ds => cases h
  | val v => cases h
section
variable {X : Cx} {s s1 s2 s3 : S} {e a b c o : Expr} {x y : Ar} {d : D} {ds : List D} {pos p : Pos} {t : String}
theorem ca_isi {T : String} {r : Bool} (ht : tyD d = some t) (hk : kitB t T = some r) : CaV X s (rIsi X.K) [.d d, .d (.val (.ty T))] (.bl r) := fun σ H F rs as vs hd ⟨v, ws, e, a, v2, ws2, e3, a2, e2⟩ Q k => by
  cases e2; cases e3; cases e; cases a2
  exact ⟨v, _, _, _, r, rfl, .ty T, tyD_ok hd.sub a ht, kit_ty hk, k _ H F go0 hd.sub rfl⟩
theorem isi_list : kitB "list" "list" = some true := by decide +kernel
/-- isinstance(e, T) -/
theorem ee_isi (T : String) (r : Bool) (hm : X.mg "isinstance" = none) (hmT : X.mg nm = none) (he : EA X s e s1 (.d d)) (ht : tyD d = some t) (hk : kitB t T = some r := by decide +kernel) (hv : bootBuiltins nm = some (.type T) := by decide +kernel)
    (hg : Gl X "isinstance" := by rfl) (hgT : Gl X nm := by rfl) (hn : nm ≠ "__name__" := by decide) (hd : (nm == ("__debug__" : Str)) = false := by decide)
    (h1 : starEach [e, .Name nm p] X.env = (false, eval e X.env) :: starEach [.Name nm p] X.env := by rfl) (h2 : starEach [.Name nm p] X.env = (false, eval (.Name nm p) X.env) :: starEach [] X.env := by rfl) (h3 : (backTo pos (starEach [Expr.Name nm p] X.env)).any (·.1) = false := by rfl) :
    EA X s (.Call (.Name "isinstance" apos) [e, .Name nm p] [] pos) s1 (.d (.bl r)) :=
  ea_callB call_isi hg hm (by decide +kernel) (es_cons he (es_cons (ee_ty hgT hmT hv hn hd) es_nil (hs := h2)) (hs := h1)) (ca_isi ht hk) (he := h1) (hpl := h3)
end
/-! ### t * k, k from 1 on -/
theorem tuple_mul1 (l : Addr) (items : Array Value) (n : Nat) (dd : Option Addr) (sl : Array (Option Value)) (x : Int) (u : Tok) (c0 : (decide (x < -(2 ^ 63)) || decide (x ≥ 2 ^ 63)) = false) (c1 : (items.isEmpty || x == 1) = true) :
    Meets (Builtin.«tuple.__mul__» ⟨[.ref l, .int x u], []⟩) (fun _ R s => s.heap.get? l = some { cls := .type "tuple", dict := dd, data := .seq items n, slots := sl } ∧
      R (.ok (.ret (Value.ref l))) s) :=
  .of_wp fun prog w A R s h => by
    obtain ⟨hp, g, d, tk, os⟩ := s
    obtain ⟨hl, h⟩ := h
    have f1 := AutoSeq1.idx_int
    wp_walk using wpAny_loadPart' hl
    refine wpAny_ite_false (decide_eq_false (by rw [c0]; exact Bool.false_ne_true)) ?_; wp_walk using wpAny_loadPart' hl
    exact ⟨_, rfl, h⟩
def rRepU (K : PySem.W.Frag) : R2 := fun x y H Q => rRepT K x y H Q ∨ ∃ l xs, x = .ref l ∧ y = .int 1 ∧ SqT K H l xs ∧ Q (.ref l) H
theorem op_repU {X : Cx} : OpR X (binaryOp .Mult) (rRepU X.K) := by
  intro pins s σ H x y v u Q I rx ry h
  rcases h with h | h
  · exact op_repT pins s σ H x y v u Q I rx ry h
  obtain ⟨l, xs, rfl, rfl, hT, q⟩ := h
  cases rx
  obtain ⟨t, rfl⟩ := ry
  obtain ⟨its, r, ⟨⟨cls, dd, data, sl⟩, ho, hc, n, hd⟩, hs⟩ := I.tuple hT
  simp only at hc hd
  subst hc hd
  have c1 : (its.toArray.isEmpty || (1 : Int) == 1) = true := by simp
  refine wpAny_binaryOp_repeat_ref (T := "tuple") (U := "int") (by decide) ⟨_, ho, rfl⟩ (fun s' => typeIs_int s' 1 t) noFill_tuple_mul F.fills_int_mul F.slot_int_rmul repeat_tuple F.slot_int_index.lookup
    (call_meets F.slot_int_rmul (typeIs_int s 1 t) F.entry_int_rmul (F.args_int_rmul_2 _ _) (int_rmul_tuple 1 t l its.toArray n dd sl)
      ⟨ho, rfl, ⟨_, ho, rfl⟩, call_meets F.slot_tuple_mul ⟨_, ho, rfl⟩ F.entry_tuple_mul (F.args_tuple_mul_2 _ _) (tuple_mul1 l its.toArray n dd sl 1 t (by decide) c1) ⟨ho, ?_⟩⟩)
  exact ⟨.ref l, H, I, rfl, q⟩
theorem ov_repU {X : Cx} {s : S} {ds : List D} {i : Int} {k : Nat} (hk : i = (k : Int)) (h0 : ds ≠ []) (h1 : 1 ≤ k) (h2 : k ≤ 1000) (h3 : ds.length ≤ 1000) : OpV X s (rRepU X.K) (.d (.tup ds)) (.d (.int i)) (.tup (List.replicate k ds).flatten) := fun σ H F rs as v w hd a b Q c => by
  by_cases h : 2 ≤ k
  · exact .inl (ov_repT hk h0 h h2 h3 σ H F rs as v w hd a b Q c)
  · obtain rfl : k = 1 := by omega
    subst hk
    obtain ⟨l, xs, rfl, q, r⟩ := a
    cases b
    refine .inr ⟨l, xs, rfl, rfl, same_t hd.sub q, c _ H F go0 hd.sub ⟨l, xs, rfl, q, by simpa using r⟩⟩

/-! ### contracts of functions of data alone -/
/-- what data go in, what comes -/
def pu {ι : Type} (args : ι → List D) (pre : ι → Prop) (val : ι → T) : Ct := ⟨ι, fun i => (args i).map .d, pre, fun i r outs => outs = [] ∧ r = val i⟩
theorem agsT_d : ∀ ds : List D, agsT (ds.map Ag.d) = []
  | [] => rfl
  | d :: ds => by show agsT (ds.map Ag.d) = _; exact agsT_d ds
theorem slots0_d : ∀ (ds : List D) (k : Nat), slots0 (ds.map Ag.d) k = ds.map Sl.d
  | [], _ => rfl
  | d :: ds, k => by show Sl.d d :: slots0 (ds.map Ag.d) k = _; rw [slots0_d ds k]; rfl
def rtp (t : T) : Ds := { nx := fun _ => t = .fz .non, rt := fun s x => (∃ d, x = .d d ∧ t = .fz d) ∨ ∃ k, x = .o k ∧ s.μ[k]? = some t }
section
variable {P : Program} {w : World} {K : PySem.W.Frag} {mg : Str → Option Value} {base : Heap}
theorem rtp_rets {ι : Type} {args : ι → List D} {pre : ι → Prop} {val : ι → T} {i : ι} {X : Cx} {s : S} {b : List Stmt} (h : WS X s b (rtp (val i))) : WS X s b (rets (agsT ((pu args pre val).args i)).length ((pu args pre val).post i)) := by
  have e : (agsT ((pu args pre val).args i)).length = 0 := by rw [show agsT ((pu args pre val).args i) = [] from agsT_d _]; rfl
  rw [e]
  refine WS.mono h ?_ ?_ (fun _ z => z) fun _ z => z
  · intro s1 q
    exact ⟨val i, [], ⟨rfl, rfl⟩, rfl, Nat.zero_le _, q⟩
  · intro s1 x q
    rcases q with ⟨d, rfl, q⟩ | ⟨k, rfl, q⟩
    · exact ⟨val i, [], ⟨rfl, rfl⟩, rfl, Nat.zero_le _, q⟩
    · exact ⟨val i, [], ⟨rfl, rfl⟩, rfl, Nat.zero_le _, Nat.zero_le _, q⟩
theorem fn_pu {ι : Type} {args : ι → List D} {pre : ι → Prop} {val : ι → T} {x qual : Str} {st : Stmt} {f : Addr} {fd : FuncData} {N ps : List Str} {k : Nat} (F : Fun K x qual st f fd) (S : FnScope N ps (defScope st)) (hl : ∀ i, (args i).length = ps.length)
    (hb : ∀ (cdv : Value) (A : Around) (outer : List Env) (s : Shared) (H : Hp) (E : XK), Room k (A.deeper (PyProof.Rows.envOfC qual (defScope st) s.heap.objs.size f cdv)) → ∀ i, pre i →
      WS (cxOf CX0 P w K mg base N qual (defScope st) f cdv A outer s H E).nox ⟨(args i).map Sl.d ++ List.replicate (N.length - ps.length) .un, []⟩ (defBody st) (rtp (val i))) : FnOk P w K mg base CX0 (k + 1) f fd ps (spOf K (pu args pre val)) := by
  refine fn_ok F S (fun i => by show ((args i).map Ag.d).length = _; rw [List.length_map]; exact hl i) fun cdv A outer s H E hr i hp => rtp_rets ?_
  have := hb cdv A outer s H E hr i hp
  unfold st0
  rw [show (pu args pre val).args i = (args i).map Ag.d from rfl, slots0_d, agsT_d, List.length_map, hl i]
  exact this
end
end Q
namespace Q
open PySem PySem.Spec PyProof.Rows L2
theorem allD_ag {μ : List T} : ∀ {xs : List Ar} {ds : List D}, allD xs = some ds → agOf μ xs = some (ds.map Ag.d) ∧ oks xs = []
  | [], ds, h => by cases h; exact ⟨rfl, rfl⟩
  | .d d :: xs, ds, h => by
    have h' : (allD xs).map (d :: ·) = some ds := h
    cases e : allD xs with
    | none => rw [e] at h'; cases h'
    | some es =>
      rw [e] at h'; cases h'
      obtain ⟨h1, h2⟩ := allD_ag e
      exact ⟨by show (agOf μ xs).map _ = _; rw [h1]; rfl, h2⟩
  | .o k :: xs, ds, h => nomatch h
section
variable {X : Cx} {s s0 s1 s2 s3 : S} {e a b c o : Expr} {es : List Expr} {x y : Ar} {xs : List Ar} {d : D} {ds : List D} {t : T} {pos p apos : Pos} {nm : Str} {n k : Nat} {ι : Type} {args : ι → List D} {pre : ι → Prop} {val : ι → T} {Φ : Ct}
theorem ea_of_ex (h : EX X s e fun s2 y => s2 = s1 ∧ y = x) : EA X s e s1 x := fun σ H F rs as hd Q k0 => h σ H F rs as hd Q fun s2 x ⟨e1, e2⟩ v H' F' rs' as' h1 h2 h3 h4 => by subst e1 e2; exact k0 v H' F' rs' as' h1 h2 h3 h4
/-- a call of a function of data: data come -/
theorem ea_pu (C : Cl X.prog X.w X.K X.mg X.base nm n k (pu args pre val)) (hr : Room k X.A) (i : ι) (h : EAs X s (e :: es) s1 xs) (hp : pre i) (hv : val i = .fz d := by rfl) (ha : allD xs = some (args i) := by rfl)
    (hg : Gl X nm := by rfl) (hx : X.xe = fun _ _ => False := by rfl) (hdb : (nm == ("__debug__" : Str)) = false := by decide) (he : starEach (e :: es) X.env = (false, eval e X.env) :: starEach es X.env := by rfl) (hpl : (backTo pos (starEach es X.env)).any (·.1) = false := by rfl) :
    EA X s (.Call (.Name nm p) (e :: es) [] pos) s1 (.d d) :=
  ea_cl (Φ := pu args pre val) C hr h i hp (fun r outs ⟨h1, h2⟩ => ⟨h1, h2.trans hv⟩) ha rfl hg hx hdb he hpl
/-- .. an owned object comes -/
theorem ea_puT (C : Cl X.prog X.w X.K X.mg X.base nm n k (pu args pre val)) (hr : Room k X.A) (i : ι) (h : EAs X s (e :: es) s1 xs) (hp : pre i) (hv : val i = t := by rfl) (ha : allD xs = some (args i) := by rfl)
    (hg : Gl X nm := by rfl) (hx : X.xe = fun _ _ => False := by rfl) (hdb : (nm == ("__debug__" : Str)) = false := by decide) (he : starEach (e :: es) X.env = (false, eval e X.env) :: starEach es X.env := by rfl) (hpl : (backTo pos (starEach es X.env)).any (·.1) = false := by rfl) :
    EA X s (.Call (.Name nm p) (e :: es) [] pos) (s1.add t) (.o s1.μ.length) := ea_of_ex (ex_cl (Φ := pu args pre val) C hr (xs_of h (by
      obtain ⟨h1, h2⟩ := allD_ag (μ := s1.μ) ha
      refine ⟨i, h1, hp, by rw [h2]; exact .nil, fun r outs ⟨q, _⟩ => by rw [q, h2]; rfl, fun r outs ⟨q, q2⟩ => .inr ?_⟩
      subst q q2
      rw [h2]
      exact ⟨by rw [hv]; rfl, rfl⟩)) hg hx hdb he hpl)
/-- a method of a frozen instance, a function of data -/
theorem ea_mpu {C : Addr} {ns : List Str} {fs : List D} {pl : Sem Bool} (M : Mc X.prog X.w X.K X.mg X.base C nm n k (pu args pre val)) (cl : Cls X.K C) (hr : Room k X.A) (ho : EA X s o s0 (.d (.ins C ns fs))) (i : ι) (h : EAs X s0 (e :: es) s1 xs) (hp : pre i) (hv : val i = .fz d := by rfl) (ha : (allD xs).map (.ins C ns fs :: ·) = some (args i) := by rfl) (hn : nm ∉ ns := by decide +kernel)
    (hx : X.xe = fun _ _ => False := by rfl) (h4 : starEach (e :: es) X.env = (false, eval e X.env) :: starEach es X.env := by rfl) (h5 : (backTo pos (starEach es X.env)).any (·.1) = false := by rfl)
    (ht : eval (.Call (.Attribute o nm apos) (e :: es) [] pos) X.env = (do
      let ov ← eval o X.env
      standAt apos.atName
      let (f, first) ← holding [ov] (getMethod ov nm pl)
      callWith pos f first (backTo pos (starEach (e :: es) X.env)) (backToKw pos (keywordEach [] X.env))) := by rfl) :
    EA X s (.Call (.Attribute o nm apos) (e :: es) [] pos) s1 (.d d) := ea_of_ex (ex_me (Φ := pu args pre val) (pl := pl) M cl hr (ex_of ho ⟨ns, fs, rfl, hn, xs_of h (by
      cases ea : allD xs with
      | none => rw [ea] at ha; cases ha
      | some es' =>
        obtain ⟨h1, h2⟩ := allD_ag (μ := s1.μ) ea
        rw [ea] at ha
        have ha' : D.ins C ns fs :: es' = args i := Option.some.inj ha
        refine ⟨i, ?_, hp, by rw [h2]; exact .nil, fun r outs ⟨q, _⟩ => by rw [q, h2]; rfl, fun r outs ⟨q, q2⟩ => .inl ⟨d, q2.trans hv, ?_⟩⟩
        · show (agOf s1.μ xs).map _ = some ((args i).map Ag.d)
          rw [h1, ← ha']; rfl
        · subst q
          rw [h2]
          exact ⟨rfl, rfl⟩)⟩) hx h4 h5 ht)
theorem ea_mpu0 {C : Addr} {ns : List Str} {fs : List D} {pl : Sem Bool} (M : Mc X.prog X.w X.K X.mg X.base C nm n k (pu args pre val)) (cl : Cls X.K C) (hr : Room k X.A) (ho : EA X s o s1 (.d (.ins C ns fs))) (i : ι) (hp : pre i) (hv : val i = .fz d := by rfl) (ha : args i = [.ins C ns fs] := by rfl) (hn : nm ∉ ns := by decide +kernel)
    (hx : X.xe = fun _ _ => False := by rfl)
    (ht : eval (.Call (.Attribute o nm apos) [] [] pos) X.env = (do
      let ov ← eval o X.env
      standAt apos.atName
      let (f, first) ← holding [ov] (getMethod ov nm pl)
      callWith pos f first (backTo pos (starEach [] X.env)) (backToKw pos (keywordEach [] X.env))) := by rfl) :
    EA X s (.Call (.Attribute o nm apos) [] [] pos) s1 (.d d) := ea_of_ex (ex_me0 (Φ := pu args pre val) (pl := pl) M cl hr (ex_of ho ⟨ns, fs, rfl, hn, i, by show _ = (args i).map Ag.d; rw [ha]; rfl, hp, fun r outs ⟨q, q2⟩ => ⟨q, .inl ⟨d, q2.trans hv, rfl, rfl⟩⟩⟩) hx ht)
theorem ea_mpu0T {C : Addr} {ns : List Str} {fs : List D} {pl : Sem Bool} (M : Mc X.prog X.w X.K X.mg X.base C nm n k (pu args pre val)) (cl : Cls X.K C) (hr : Room k X.A) (ho : EA X s o s1 (.d (.ins C ns fs))) (i : ι) (hp : pre i) (hv : val i = t := by rfl) (ha : args i = [.ins C ns fs] := by rfl) (hn : nm ∉ ns := by decide +kernel)
    (hx : X.xe = fun _ _ => False := by rfl)
    (ht : eval (.Call (.Attribute o nm apos) [] [] pos) X.env = (do
      let ov ← eval o X.env
      standAt apos.atName
      let (f, first) ← holding [ov] (getMethod ov nm pl)
      callWith pos f first (backTo pos (starEach [] X.env)) (backToKw pos (keywordEach [] X.env))) := by rfl) :
    EA X s (.Call (.Attribute o nm apos) [] [] pos) (s1.add t) (.o s1.μ.length) := ea_of_ex (ex_me0 (Φ := pu args pre val) (pl := pl) M cl hr (ex_of ho ⟨ns, fs, rfl, hn, i, by show _ = (args i).map Ag.d; rw [ha]; rfl, hp, fun r outs ⟨q, q2⟩ => ⟨q, .inr ⟨by rw [q2, hv]; rfl, rfl⟩⟩⟩) hx ht)
end
end Q
namespace Q
open PySem PySem.Spec PyProof.Rows L2
section
variable {X : Cx} {s s1 s2 s3 : S} {elt iter tg : Expr} {scope : Scope} {pos : Pos} {n : Nat} {it : Nat → D} {G : TG} {is : List Nat} {g : D → List Sl → Option (List Sl)} {α : Type} {D' : Ds} {nm : Str}
/-- what a comprehension's element gives, item by item -/
def EltP (X : Cx) (s : S) (scope : Scope) (elt : Expr) (g : D → List Sl → Option (List Sl)) (vs : List Nat) (d y : D) : Prop :=
  ∃ ρ', g d (wipeS s.ρ vs) = some ρ' ∧ ∃ ρ2, ∀ (sh : Shared) (H0 : Hp) (C : Addr) (cl : List (Str × Addr)) (fp : List Addr), EA (X.blk sh H0 scope (PySem.compEnvC scope cl C X.env) fp) ⟨ρ', s.μ⟩ elt ⟨ρ2, s.μ⟩ (.d y)
theorem take_succ_map {β : Type} {xs : List α} {f : α → β} {i : Nat} {a : α} (h : xs[i]? = some a) : (xs.take (i + 1)).map f = (xs.take i).map f ++ [f a] := by
  rw [List.take_add_one, h]; simp
theorem lcTurnP {f : α → D} {item : α → D} {xs : List α} {vs : List Nat} (hit : ∀ i a, xs[i]? = some a → it i = item a) (he : ∀ a ∈ xs, EltP X s1 scope elt g vs (item a) (f a)) (i : Nat) (hi : i < xs.length) :
    LcTurn X.K g tYes (bE X scope elt) (wipeS s1.ρ vs) (it i) s1.μ s1.μ ((xs.take i).map f) ((xs.take (i + 1)).map f) := by
  have hx : xs[i]? = some xs[i] := List.getElem?_eq_getElem hi
  obtain ⟨ρ', h1, ρ2, h2⟩ := he xs[i] (List.getElem_mem hi)
  rw [← hit i _ hx] at h1
  exact ⟨ρ', true, ⟨ρ', s1.μ⟩, h1, tts_yes, fun _ => ⟨⟨ρ2, s1.μ⟩, f xs[i], tes_b h2, rfl, take_succ_map hx⟩, fun z => nomatch z⟩
theorem ea_lcP (xs : List α) (item f : α → D) (own : List (Str × Nat)) (hi : IT X s tg iter s1 n it) (hn : n = xs.length) (hit : ∀ i a, xs[i]? = some a → it i = item a) (hN : X.N.Nodup) (ok : BlkOk X.N X.env.scope scope own)
    (hG : ∀ (sh : Shared) (H0 : Hp) (C : Addr) (cl : List (Str × Addr)) (fp : List Addr), PG (X.blk sh H0 scope (PySem.compEnvC scope cl C X.env) fp) tg G) (hS : GS X.K G is g)
    (he : ∀ a ∈ xs, EltP X s1 scope elt g (own.map (·.2)) (item a) (f a)) (hl : xs.length ≤ 16777216)
    (hv : ∀ i ∈ is, i ∈ own.map (·.2) := by decide) (hc : X.calm = true := by rfl) (hf : ∀ x, foldedSetIterable iter X.env x = pure x := by intro _; rfl) :
    EA X s (.ListComp elt [⟨tg, iter, [], 0⟩] scope pos) (s1.add (.fl (xs.map f))) (.o s1.μ.length) := by
  have e : (xs.take n).map f = xs.map f := by rw [hn, List.take_length]
  have := ea_lc (t := tYes) (ifs := []) (pos := pos) own (fun _ => s1.μ) (fun i => (xs.take i).map f) hi hN ok hG hS (fun _ _ _ _ _ => pts_nil) (by rw [hn]; exact hl) rfl rfl (fun _ => rfl) (fun i h => lcTurnP hit he i (by rw [← hn]; exact h)) hv hc hf
  rw [e] at this
  exact this
/-- .. frozen at once -/
theorem ee_lcP (xs : List α) (item f : α → D) (own : List (Str × Nat)) (hi : IT X s tg iter s1 n it) (hn : n = xs.length) (hit : ∀ i a, xs[i]? = some a → it i = item a) (hN : X.N.Nodup) (ok : BlkOk X.N X.env.scope scope own)
    (hG : ∀ (sh : Shared) (H0 : Hp) (C : Addr) (cl : List (Str × Addr)) (fp : List Addr), PG (X.blk sh H0 scope (PySem.compEnvC scope cl C X.env) fp) tg G) (hS : GS X.K G is g)
    (he : ∀ a ∈ xs, EltP X s1 scope elt g (own.map (·.2)) (item a) (f a)) (hl : xs.length ≤ 16777216) (lw : low s1.μ.length s1.ρ = true := by rfl) (hlen : s.μ.length ≤ s1.μ.length := by exact Nat.le_refl _)
    (hv : ∀ i ∈ is, i ∈ own.map (·.2) := by decide) (hc : X.calm = true := by rfl) (hf : ∀ x, foldedSetIterable iter X.env x = pure x := by intro _; rfl) :
    EA X s (.ListComp elt [⟨tg, iter, [], 0⟩] scope pos) s1 (.d (.lst (xs.map f))) := ee_fl (ea_lcP xs item f own hi hn hit hN ok hG hS he hl hv hc hf) lw hlen
theorem w1_setLcP (i : Nat) {py spos : Pos} (xs : List α) (item f : α → D) (own : List (Str × Nat)) (hi : IT X s tg iter s1 n it) (hn : n = xs.length) (hit : ∀ i a, xs[i]? = some a → it i = item a) (hN : X.N.Nodup) (hsw : swapsWith (.ListComp elt [⟨tg, iter, [], 0⟩] scope pos) (some (.Name nm py)) spos.line X.env = pure true) (ok : BlkOk X.N X.env.scope scope own)
    (hG : ∀ (sh : Shared) (H0 : Hp) (C : Addr) (cl : List (Str × Addr)) (fp : List Addr), PG (X.blk sh H0 scope (PySem.compEnvC scope cl C X.env) fp) tg G) (hS : GS X.K G is g)
    (he : ∀ a ∈ xs, EltP X s1 scope elt g (own.map (·.2)) (item a) (f a)) (hl : xs.length ≤ 16777216)
    (k : D'.nx ⟨s1.ρ.set i (.o s1.μ.length), s1.μ ++ [.fl (xs.map f)]⟩)
    (hv : ∀ i ∈ is, i ∈ own.map (·.2) := by decide) (hy : X.N[i]? = some nm := by rfl) (hyl : X.env.scope.names.lookup nm = some .local := by rfl) (hc : X.calm = true := by rfl) (hf : ∀ x, foldedSetIterable iter X.env x = pure x := by intro _; rfl) :
    W1 X s (.Assign [.Name nm py] (.ListComp elt [⟨tg, iter, [], 0⟩] scope pos) spos) D' := by
  have e : (xs.take n).map f = xs.map f := by rw [hn, List.take_length]
  rw [← e] at k
  exact w1_setLc (t := tYes) (ifs := []) i own (fun _ => s1.μ) (fun i => (xs.take i).map f) hi hN hsw ok hG hS (fun _ _ _ _ _ => pts_nil) (by rw [hn]; exact hl) rfl rfl (fun _ => rfl) (fun i h => lcTurnP hit he i (by rw [← hn]; exact h)) k hv hy hyl hc hf
end
theorem getD_some {α : Type} {xs : List α} {i : Nat} {a d : α} (h : xs[i]? = some a) : xs.getD i d = a := by simp [List.getD, h]
theorem getD_map {α : Type} {xs : List α} {item : α → D} {i : Nat} {a : α} {d : D} (h : xs[i]? = some a) : (xs.map item).getD i d = item a := by simp [List.getD, h]
end Q
namespace Q
open PySem PySem.Spec PyProof.Rows L2
theorem Room.eq {k : Nat} {A : Around} (r : Room k A) : A.units + 64 < cLine := Nat.lt_of_le_of_lt (by omega) r.un
theorem Room.isin {k : Nat} {A : Around} (r : Room k A) : A.units + 65 < cLine := Nat.lt_of_le_of_lt (by omega) r.un
/-! ### short words for built-ins -/
section
variable {X : Cx} {s s1 s2 s3 : S} {a b c o e e2 : Expr} {x y : Ar} {d d2 : D} {ds : List D} {pos p : Pos} {l m : List Nat} {i j : Int}
section
variable (he : EA X s e s1 x) (hg : Gl X "len" := by rfl) (h1 : starEach [e] X.env = [(false, eval e X.env)] := by rfl)
theorem e_len (hm : X.mg "len" = none) (he : EA X s e s1 x) (h : Sq s1 x ds := by rfl) (hg : Gl X "len" := by rfl) (h1 : starEach [e] X.env = [(false, eval e X.env)] := by rfl) :
    EA X s (.Call (.Name "len" p) [e] [] pos) s1 (.d (.int (ds.length : Int))) := ea_callB call_len_seq hg hm (by decide +kernel) (es_cons he es_nil (hs := h1)) (ca_len h) (he := h1)
theorem e_lenS (hm : X.mg "len" = none) (he : EA X s e s1 (.d (.str l))) (h : l.length ≤ 16777216) (hg : Gl X "len" := by rfl) (h1 : starEach [e] X.env = [(false, eval e X.env)] := by rfl) :
    EA X s (.Call (.Name "len" p) [e] [] pos) s1 (.d (.int (l.length : Int))) := ea_callB call_len_str hg hm (by decide +kernel) (es_cons he es_nil (hs := h1)) (ca_lenS h) (he := h1)
theorem e_all {bs : List Bool} (hm : X.mg "all" = none) (he : EA X s e s1 x) (h : Ls s1 x (bs.map D.bl) := by rfl) (hg : Gl X "all" := by rfl) (hc : X.calm = true := by rfl) (h1 : starEach [e] X.env = [(false, eval e X.env)] := by rfl) :
    EA X s (.Call (.Name "all" p) [e] [] pos) s1 (.d (.bl (bs.all id))) := ea_callB (cr_all hc) hg hm (by decide +kernel) (es_cons he es_nil (hs := h1)) (ca_all h rfl) (he := h1)
theorem e_any {bs : List Bool} (hm : X.mg "any" = none) (he : EA X s e s1 x) (h : Ls s1 x (bs.map D.bl) := by rfl) (hg : Gl X "any" := by rfl) (hc : X.calm = true := by rfl) (h1 : starEach [e] X.env = [(false, eval e X.env)] := by rfl) :
    EA X s (.Call (.Name "any" p) [e] [] pos) s1 (.d (.bl (bs.any id))) := ea_callB (cr_any hc) hg hm (by decide +kernel) (es_cons he es_nil (hs := h1)) (ca_any h rfl) (he := h1)
theorem e_sum {is : List Int} (hm : X.mg "sum" = none) (he : EA X s e s1 x) (h : Ls s1 x (is.map D.int) := by rfl) (hg : Gl X "sum" := by rfl) (hc : X.calm = true := by rfl) (h1 : starEach [e] X.env = [(false, eval e X.env)] := by rfl) :
    EA X s (.Call (.Name "sum" p) [e] [] pos) s1 (.d (.int is.sum)) := ea_callB (cr_sum hc) hg hm (by decide +kernel) (es_cons he es_nil (hs := h1)) (ca_sum h rfl) (he := h1)
theorem e_intB {t : Bool} (hm : X.mg "int" = none) (he : EA X s e s1 (.d (.bl t))) (hg : Gl X "int" := by rfl) (h1 : starEach [e] X.env = [(false, eval e X.env)] := by rfl) :
    EA X s (.Call (.Name "int" p) [e] [] pos) s1 (.d (.int (if t then 1 else 0))) := ea_callT call_int1 hg hm (by decide +kernel) (es_cons he es_nil (hs := h1)) ca_intB (he := h1)
theorem e_tuple (hm : X.mg "tuple" = none) (he : EA X s e s1 x) (h : Ls s1 x ds := by rfl) (hg : Gl X "tuple" := by rfl) (h1 : starEach [e] X.env = [(false, eval e X.env)] := by rfl) :
    EA X s (.Call (.Name "tuple" p) [e] [] pos) s1 (.d (.tup ds)) := ea_callT call_tuple_of hg hm (by decide +kernel) (es_cons he es_nil (hs := h1)) (ca_tuple h) (he := h1)
theorem e_list (hm : X.mg "list" = none) (he : EA X s e s1 x) (h : Sq s1 x ds := by rfl) (hg : Gl X "list" := by rfl) (h1 : starEach [e] X.env = [(false, eval e X.env)] := by rfl) :
    EA X s (.Call (.Name "list" p) [e] [] pos) (s1.add (.fl ds)) (.o s1.μ.length) := ea_callTL call_list_of hg hm (by decide +kernel) (es_cons he es_nil (hs := h1)) (cl_list h) (he := h1)
end
theorem e_max (hm : X.mg "max" = none) (ha : EA X s a s1 (.d (.int i))) (hb : EA X s1 b s2 (.d (.int j))) (hg : Gl X "max" := by rfl) (hc : X.calm = true := by rfl) (h1 : starEach [a, b] X.env = (false, eval a X.env) :: starEach [b] X.env := by rfl) (h2 : starEach [b] X.env = [(false, eval b X.env)] := by rfl) (h3 : (backTo pos (starEach [b] X.env)).any (·.1) = false := by rfl) :
    EA X s (.Call (.Name "max" p) [a, b] [] pos) s2 (.d (.int (max i j))) := ea_callB (call_max2 hc) hg hm (by decide +kernel) (es_cons ha (es_cons hb es_nil (hs := h2)) (hs := h1)) ca_max (he := h1) (hpl := h3)
theorem e_min (hm : X.mg "min" = none) (ha : EA X s a s1 (.d (.int i))) (hb : EA X s1 b s2 (.d (.int j))) (hg : Gl X "min" := by rfl) (hc : X.calm = true := by rfl) (h1 : starEach [a, b] X.env = (false, eval a X.env) :: starEach [b] X.env := by rfl) (h2 : starEach [b] X.env = [(false, eval b X.env)] := by rfl) (h3 : (backTo pos (starEach [b] X.env)).any (·.1) = false := by rfl) :
    EA X s (.Call (.Name "min" p) [a, b] [] pos) s2 (.d (.int (min i j))) := ea_callB (call_min2 hc) hg hm (by decide +kernel) (es_cons ha (es_cons hb es_nil (hs := h2)) (hs := h1)) ca_min (he := h1) (hpl := h3)
theorem atN {α : Type} {xs : List α} {k : Nat} {z : α} (h : xs[k]? = some z) : atI xs (k : Int) = some z := by
  have hk := (List.getElem?_eq_some_iff.mp h).1
  unfold atI ixN
  rw [if_pos (by omega), if_pos (by omega)]
  simpa using h
theorem ixM {n k : Nat} (h : k < n) : ixN n (k : Int) = some k := by
  unfold ixN
  rw [if_pos (by omega), if_pos (by omega)]
  simp
/-- x[i], x a list (owned or frozen) -/
theorem e_ixL (ha : EA X s a s1 x) (hb : EA X s1 b s2 (.d (.int i))) (hi : atI ds i = some d) (h : Ls s2 x ds := by rfl) (hs : PlainIx b := by exact fun _ _ => rfl) : EA X s (.Subscript a b pos) s2 (.d d) := ee_ix ix_list ha hb (ov_ixL h hi) hs
theorem e_ixT (ha : EA X s a s1 (.d (.tup ds))) (hb : EA X s1 b s2 (.d (.int i))) (hi : atI ds i = some d) (hs : PlainIx b := by exact fun _ _ => rfl) : EA X s (.Subscript a b pos) s2 (.d d) := ee_ix ix_tup ha hb (ov_ixT hi) hs
theorem e_ixS {k : Nat} (ha : EA X s a s1 (.d (.str l))) (hb : EA X s1 b s2 (.d (.int i))) (hi : atI l i = some k) (hz : l.length ≤ 16777216) (hs : PlainIx b := by exact fun _ _ => rfl) : EA X s (.Subscript a b pos) s2 (.d (.str [k])) := ee_ix ix_str ha hb (ov_ixS hz hi) hs
theorem e_add (ha : EA X s a s1 (.d (.int i))) (hb : EA X s1 b s2 (.d (.int j))) : EA X s (.BinOp a .Add b pos) s2 (.d (.int (i + j))) := ea_op op_add ha hb ov_add
theorem e_sub (ha : EA X s a s1 (.d (.int i))) (hb : EA X s1 b s2 (.d (.int j))) : EA X s (.BinOp a .Sub b pos) s2 (.d (.int (i - j))) := ea_op op_sub ha hb ov_sub
theorem e_cat (ha : EA X s a s1 (.d (.str l))) (hb : EA X s1 b s2 (.d (.str m))) (h : l.length + m.length ≤ 16777216) : EA X s (.BinOp a .Add b pos) s2 (.d (.str (l ++ m))) := ea_op op_add_str ha hb (ov_cat h)
theorem t_lt (ha : EA X s a s1 (.d (.int i))) (hb : EA X s1 b s2 (.d (.int j))) : ET X s (.Compare a [.Lt] [b] pos) s2 (decide (i < j)) := et_cmp op_lt ha hb ov_lt
theorem t_le (ha : EA X s a s1 (.d (.int i))) (hb : EA X s1 b s2 (.d (.int j))) : ET X s (.Compare a [.LtE] [b] pos) s2 (decide (i ≤ j)) := et_cmp op_le ha hb ov_le
theorem t_gt (ha : EA X s a s1 (.d (.int i))) (hb : EA X s1 b s2 (.d (.int j))) : ET X s (.Compare a [.Gt] [b] pos) s2 (decide (j < i)) := et_cmp op_gt ha hb ov_gt
theorem t_ge (ha : EA X s a s1 (.d (.int i))) (hb : EA X s1 b s2 (.d (.int j))) : ET X s (.Compare a [.GtE] [b] pos) s2 (decide (j ≤ i)) := et_cmp op_ge ha hb ov_ge
theorem t_eqI (ha : EA X s a s1 (.d (.int i))) (hb : EA X s1 b s2 (.d (.int j))) : ET X s (.Compare a [.Eq] [b] pos) s2 (decide (i = j)) := et_cmp op_eq ha hb ov_eqI
theorem t_neI (ha : EA X s a s1 (.d (.int i))) (hb : EA X s1 b s2 (.d (.int j))) : ET X s (.Compare a [.NotEq] [b] pos) s2 (!decide (i = j)) := et_cmp op_ne ha hb ov_neI
theorem t_eqS (ha : EA X s a s1 (.d (.str l))) (hb : EA X s1 b s2 (.d (.str m))) : ET X s (.Compare a [.Eq] [b] pos) s2 (decide (l = m)) := et_cmp op_eq ha hb ov_eqS
theorem t_neS (ha : EA X s a s1 (.d (.str l))) (hb : EA X s1 b s2 (.d (.str m))) : ET X s (.Compare a [.NotEq] [b] pos) s2 (!decide (l = m)) := et_cmp op_ne ha hb ov_neS
theorem e_eqI (ha : EA X s a s1 (.d (.int i))) (hb : EA X s1 b s2 (.d (.int j))) : EA X s (.Compare a [.Eq] [b] pos) s2 (.d (.bl (decide (i = j)))) := ea_cmp op_eq ha hb ov_eqI
theorem e_leI (ha : EA X s a s1 (.d (.int i))) (hb : EA X s1 b s2 (.d (.int j))) : EA X s (.Compare a [.LtE] [b] pos) s2 (.d (.bl (decide (i ≤ j)))) := ea_cmp op_le ha hb ov_le
theorem e_ltI (ha : EA X s a s1 (.d (.int i))) (hb : EA X s1 b s2 (.d (.int j))) : EA X s (.Compare a [.Lt] [b] pos) s2 (.d (.bl (decide (i < j)))) := ea_cmp op_lt ha hb ov_lt
theorem e_neS (ha : EA X s a s1 (.d (.str l))) (hb : EA X s1 b s2 (.d (.str m))) : EA X s (.Compare a [.NotEq] [b] pos) s2 (.d (.bl (!decide (l = m)))) := ea_cmp op_ne ha hb ov_neS
/-- a whole number of the module, a text of the module -/
theorem e_gi {nm : Str} {z : Int} (h : ∃ t, X.mg nm = some (.int z t)) (hg : Gl X nm := by rfl) (hd : (nm == ("__debug__" : Str)) = false := by decide) : EA X s (.Name nm pos) s (.d (.int z)) := by
  obtain ⟨t, h⟩ := h
  exact ee_glob (v := .int z) hg h ⟨t, rfl⟩ (fun _ => rfl) hd
theorem e_gs {nm z : Str} (l : List Nat) (h : ∃ t, X.mg nm = some (.str z t)) (hz : z = mk l := by decide +kernel) (hg : Gl X nm := by rfl) (hd : (nm == ("__debug__" : Str)) = false := by decide) : EA X s (.Name nm pos) s (.d (.str l)) := by
  obtain ⟨t, h⟩ := h
  exact ee_glob (v := .str z) hg h ⟨t, rfl⟩ (fun _ => by subst hz; rfl) hd
/-- a text in a text -/
theorem e_inC {k : Nat} (ha : EA X s a s1 (.d (.str [k]))) (hb : EA X s1 b s2 (.d (.str l))) (hm : behindInMarks .In b = false := by rfl) : EA X s (.Compare a [.In] [b] pos) s2 (.d (.bl (decide (k ∈ l)))) := ea_cmp op_in_sign ha hb ov_inC hm
theorem t_inC {k : Nat} (ha : EA X s a s1 (.d (.str [k]))) (hb : EA X s1 b s2 (.d (.str l))) (hm : behindInMarks .In b = false := by rfl) : ET X s (.Compare a [.In] [b] pos) s2 (decide (k ∈ l)) := et_cmp op_in_sign ha hb ov_inC hm
end
end Q
namespace Q
open PySem PySem.Spec PyProof.Rows L2
theorem blk (N : List Str) (sc : Scope) {scope : Scope} {own : List (Str × Nat)} (h1 : scope.kind = .function := by rfl) (h2 : ∀ y ∈ scope.names, scope.names.lookup y.1 = some y.2 := by decide +kernel) (h3 : ∀ p ∈ own, N[p.2]? = some p.1 := by decide +kernel)
    (h4 : ∀ y ∈ scope.names, y.2 = .free → sc.names.lookup y.1 = some .cell ∨ sc.names.lookup y.1 = some .free := by decide +kernel) (h5 : ∀ y ∈ scope.names, y.2 = .local ∨ y.2 = .cell → y.1 ∈ own.map (·.1) ∨ y.1 ∉ N := by decide +kernel) : BlkOk N sc scope own := ⟨h1, h2, h3, h4, h5⟩
/-- the end of a function of data: data, or an owned object -/
theorem rt_d {d t : D} {s : S} (e : T.fz d = .fz t := by rfl) : (∃ d', Ar.d d = .d d' ∧ T.fz t = .fz d') ∨ ∃ k, Ar.d d = .o k ∧ s.μ[k]? = some (.fz t) := .inl ⟨d, rfl, e.symm⟩
theorem rt_b {b c : Bool} {s : S} (e : b = c) : (∃ d', Ar.d (.bl b) = .d d' ∧ T.fz (.bl c) = .fz d') ∨ ∃ k, Ar.d (.bl b) = .o k ∧ s.μ[k]? = some (.fz (.bl c)) := .inl ⟨_, rfl, by rw [e]⟩
theorem rt_i {b c : Int} {s : S} (e : b = c) : (∃ d', Ar.d (.int b) = .d d' ∧ T.fz (.int c) = .fz d') ∨ ∃ k, Ar.d (.int b) = .o k ∧ s.μ[k]? = some (.fz (.int c)) := .inl ⟨_, rfl, by rw [e]⟩
theorem rt_o {k : Nat} {t : T} {s : S} (e : s.μ[k]? = some t := by rfl) : (∃ d', Ar.o k = .d d' ∧ t = .fz d') ∨ ∃ k', Ar.o k = .o k' ∧ s.μ[k']? = some t := .inr ⟨k, rfl, e⟩
theorem rt_o' {k : Nat} {t u : T} {s : S} (e : s.μ[k]? = some u) (h : u = t) : (∃ d', Ar.o k = .d d' ∧ t = .fz d') ∨ ∃ k', Ar.o k = .o k' ∧ s.μ[k']? = some t := .inr ⟨k, rfl, by rw [e, h]⟩
end Q
namespace Q
theorem nt {b : Bool} (h : (!b) = true) : b = false := by cases b <;> simp_all
theorem nf {b : Bool} (h : (!b) = false) : b = true := by cases b <;> simp_all
end Q
namespace Q
open PySem PySem.Spec PyProof.Rows L2
def blkB (N : List Str) (sc scope : Scope) (own : List (Str × Nat)) : Bool :=
  decide (scope.kind = .function) && decide (∀ y ∈ scope.names, scope.names.lookup y.1 = some y.2) && decide (∀ p ∈ own, N[p.2]? = some p.1) &&
    decide (∀ y ∈ scope.names, y.2 = .free → sc.names.lookup y.1 = some .cell ∨ sc.names.lookup y.1 = some .free) && decide (∀ y ∈ scope.names, y.2 = .local ∨ y.2 = .cell → y.1 ∈ own.map (·.1) ∨ y.1 ∉ N)
theorem blk_of {N : List Str} {sc scope : Scope} {own : List (Str × Nat)} (h : blkB N sc scope own = true := by kernel_rfl) : BlkOk N sc scope own := by
  unfold blkB at h
  simp only [Bool.and_eq_true, decide_eq_true_eq] at h
  exact ⟨h.1.1.1.1, h.1.1.1.2, h.1.1.2, h.1.2, h.2⟩
end Q
namespace Q
open PySem PySem.Spec PyProof.Rows L2
theorem range_get {n i a : Nat} (h : (List.range n)[i]? = some a) : i < n ∧ a = i := by
  have hi := (List.getElem?_eq_some_iff.mp h).1
  rw [List.length_range] at hi
  rw [List.getElem?_range hi] at h
  exact ⟨hi, (Option.some.inj h).symm⟩
theorem all_map {α β : Type} {xs : List α} {g : α → β} {f : β → Bool} (h : ∀ x ∈ xs, f (g x) = true) : ((xs.map g).map f).all id = true := by
  rw [List.map_map, List.all_map, List.all_eq_true]
  exact fun x hx => h x hx
end Q
namespace Q
theorem getD_at {α : Type} {xs : List α} {i : Nat} {d : α} (h : i < xs.length) : xs[i]? = some (xs.getD i d) := by
  rw [List.getElem?_eq_getElem h]; simp [List.getD, List.getElem?_eq_getElem h]
end Q
namespace Q
open PySem PySem.Spec PyProof.Rows L2
section
variable {X : Cx} {s s1 : S} {e : Expr} {d : D} {t : String} {nm nm2 : Str} {p pos apos tpos q1 q2 : Pos} {kk : Nat}
/-- isinstance(e, (T1, T2)) -/
theorem e_isi2 (T1 T2 : String) (r1 r2 : Bool) (hm : X.mg "isinstance" = none) (hm1 : X.mg nm = none) (hm2 : X.mg nm2 = none) (he : EA X s e s1 (.d d)) (ht : tyD d = some t) (hk1 : kitB t T1 = some r1 := by decide +kernel) (hk2 : kitB t T2 = some r2 := by decide +kernel)
    (hv1 : bootBuiltins nm = some (.type T1) := by decide +kernel) (hv2 : bootBuiltins nm2 = some (.type T2) := by decide +kernel) (hg : Gl X "isinstance" := by rfl) (hg1 : Gl X nm := by rfl) (hg2 : Gl X nm2 := by rfl)
    (hn1 : nm ≠ "__name__" := by decide) (hd1 : (nm == ("__debug__" : Str)) = false := by decide) (hn2 : nm2 ≠ "__name__" := by decide) (hd2 : (nm2 == ("__debug__" : Str)) = false := by decide)
    (h1 : starEach [e, .Tuple [.Name nm q1, .Name nm2 q2] kk tpos] X.env = (false, eval e X.env) :: starEach [.Tuple [.Name nm q1, .Name nm2 q2] kk tpos] X.env := by rfl) (h2 : starEach [Expr.Tuple [.Name nm q1, .Name nm2 q2] kk tpos] X.env = (false, eval (.Tuple [.Name nm q1, .Name nm2 q2] kk tpos) X.env) :: starEach [] X.env := by rfl)
    (h3 : starEach [Expr.Name nm q1, .Name nm2 q2] X.env = (false, eval (.Name nm q1) X.env) :: starEach [.Name nm2 q2] X.env := by rfl) (h4 : starEach [Expr.Name nm2 q2] X.env = (false, eval (.Name nm2 q2) X.env) :: starEach [] X.env := by rfl)
    (h5 : (backTo pos (starEach [Expr.Tuple [.Name nm q1, .Name nm2 q2] kk tpos] X.env)).any (·.1) = false := by rfl) :
    EA X s (.Call (.Name "isinstance" apos) [e, .Tuple [.Name nm q1, .Name nm2 q2] kk tpos] [] pos) s1 (.d (.bl (r1 || r2))) := fun σ H F rs as hd Q k =>
  WE.of (pe_callB call_isiT hg hm (by decide +kernel) (pa_cons pe_u (pa_cons (pe_tup (pa_cons (pe_bltn (v := .ty T1) hg1 hm1 hv1 rfl hn1 hd1) (pa_cons (pe_bltn (v := .ty T2) hg2 hm2 hv2 rfl hn2 hd2) pa_nil h4) h3)) pa_nil h2) h1) (by decide) (by decide) h1 h5) (he σ H F rs as hd _ fun v H1 F1 rs1 as1 i1 p1 g1 a1 => by
    refine ⟨by show 2 ≤ sizeLine; rw [sizeLine_eq]; omega, fun tp htp => ?_⟩
    obtain ⟨g, sb⟩ := go_new (o := .tup [.ty T1, .ty T2]) htp i1.sub
    have ty := tyD_ok (K := X.K) i1.sub a1 ht
    have a2 : Rep X.K (upd F1 tp (.tup [.ty T1, .ty T2])) d v := Rep.mono g.fz _ _ a1
    refine ⟨v, tp, [.ty T1, .ty T2], .type t, [.type T1, .type T2], r1 || r2, rfl, upd_same, .cons (.ty _) (.cons (.ty _) .nil), tyD_ok sb a2 ht, ?_, ?_⟩
    · refine kitAny_cons (kit_ty hk1) (fun z => ?_) (fun z => by rw [z]; rfl)
      refine kitAny_cons (kit_ty hk2) (fun z2 => by rw [z, z2]; exact kitAny_nil) (fun z2 => by rw [z, z2]; rfl)
    · obtain ⟨hd2, g2⟩ := i1.pure g sb
      exact k _ _ _ _ _ hd2 p1 (g1.trans g2) rfl)
theorem e_leS {a b : Expr} {s2 : S} {l m : List Nat} (ha : EA X s a s1 (.d (.str l))) (hb : EA X s1 b s2 (.d (.str m))) : EA X s (.Compare a [.LtE] [b] pos) s2 (.d (.bl (!decide (m < l)))) := ea_cmp op_le_str ha hb ov_leS
end
end Q
namespace Q
open PySem L2
theorem y1 {X : Cx} {s s1 : S} {e : Expr} {b : Bool} (h : EA X s e s1 (.d (.bl b))) (hb : b = true) : EA X s e s1 (.d (.bl true)) := by rw [← hb]; exact h
theorem y0 {X : Cx} {s s1 : S} {e : Expr} {b : Bool} (h : EA X s e s1 (.d (.bl b))) (hb : b = false) : EA X s e s1 (.d (.bl false)) := by rw [← hb]; exact h
theorem ty1 {X : Cx} {s s1 : S} {e : Expr} {b : Bool} (h : ET X s e s1 b) (hb : b = true) : ET X s e s1 true := by rw [← hb]; exact h
theorem ty0 {X : Cx} {s s1 : S} {e : Expr} {b : Bool} (h : ET X s e s1 b) (hb : b = false) : ET X s e s1 false := by rw [← hb]; exact h
end Q
namespace Q
open PySem L2
theorem cut_nat {α : Type} {xs : List α} {lo k : Nat} (h : lo + k ≤ xs.length) : cut xs (some (lo : Int)) (some ((lo : Int) + (k : Nat))) = (xs.drop lo).take k := by
  unfold cut
  have a : min lo xs.length = lo := by omega
  have b : min (lo + k) xs.length = lo + k := by omega
  rw [show ((lo : Int) + (k : Nat)) = ((lo + k : Nat) : Int) from by omega, HT.sIx_nat, HT.sIx_nat, a, b, Nat.add_sub_cancel_left]
theorem cut_to {α : Type} {xs : List α} {k : Nat} : cut xs none (some (k : Int)) = xs.take k := by
  unfold cut
  rw [HT.sIx_nat, HT.sIx_none]
  simp
end Q

namespace Q
theorem lt1 (a b : Nat) : ([a] < [b]) ↔ a < b := by simp [List.cons_lt_cons_iff]
end Q
namespace Q
open PySem PySem.Spec PyProof.Rows L2
section
variable {X : Cx} {s s1 s2 : S} {o e : Expr} {d : D} {ds : List D} {k : Nat} {pos apos : Pos} {Ψ : S → Ar → Prop}
theorem e_append (ho : EA X s o s1 (.o k)) (he : EA X s1 e s2 (.d d)) (hk : s2.μ[k]? = some (.fl ds)) (hz : ds.length < 16777216) (hk1 : ∃ es, s1.μ[k]? = some (.fl es) := by exact ⟨_, rfl⟩)
    (hbase : attributeBase o "append" X.env (eval o X.env) = eval o X.env := by rfl)
    (hfew : ((backTo pos (starEach [e] X.env)).all (fun x => !x.1) && (backToKw pos (keywordEach [] X.env)).all (fun x => x.1.isSome) && decide ([e].length + ([] : List Keyword).length + (if ([] : List Keyword).isEmpty then 0 else 1) < 30)) = true := by rfl)
    (hline : (apos.endLine == pos.line) = true := by rfl) (hs : starEach [e] X.env = (false, eval e X.env) :: starEach [] X.env := by rfl) (hplain : (backTo pos (starEach [] X.env)).any (·.1) = false := by rfl) :
    EA X s (.Call (.Attribute o "append" apos) [e] [] pos) ⟨s2.ρ, s2.μ.set k (.fl (ds ++ [d]))⟩ (.d .non) := by
  obtain ⟨es, h1⟩ := hk1
  exact ea_mt PySem.F.plainAttrs_list PySem.F.slot_list_append PySem.F.type_list_append mt_append ho (ty_list (ds := es) h1) (es_cons he es_nil (hs := hs)) (mv_append hk hz) hbase hfew hline hs hplain
theorem x_append (h : EX X s o fun s1 x => ∃ k es, x = .o k ∧ s1.μ[k]? = some (.fl es) ∧ EX X s1 e fun s2 y => ∃ d ds, y = .d d ∧ s2.μ[k]? = some (.fl ds) ∧ ds.length < 16777216 ∧ Ψ ⟨s2.ρ, s2.μ.set k (.fl (ds ++ [d]))⟩ (.d .non))
    (hbase : attributeBase o "append" X.env (eval o X.env) = eval o X.env := by rfl)
    (hfew : ((backTo pos (starEach [e] X.env)).all (fun x => !x.1) && (backToKw pos (keywordEach [] X.env)).all (fun x => x.1.isSome) && decide ([e].length + ([] : List Keyword).length + (if ([] : List Keyword).isEmpty then 0 else 1) < 30)) = true := by rfl)
    (hline : (apos.endLine == pos.line) = true := by rfl) (hs : starEach [e] X.env = (false, eval e X.env) :: starEach [] X.env := by rfl) (hplain : (backTo pos (starEach [] X.env)).any (·.1) = false := by rfl) :
    EX X s (.Call (.Attribute o "append" apos) [e] [] pos) Ψ :=
  ex_mt PySem.F.plainAttrs_list PySem.F.slot_list_append PySem.F.type_list_append mt_append (ex_mono h fun s1 x ⟨k, es, ex, hk, h2⟩ => by
    subst ex
    exact ⟨ty_list (ds := es) hk, xs_cons (ex_mono h2 fun s2 y ⟨d, ds, ey, hk2, hz, q⟩ => by
      subst ey
      exact xs_nil ⟨_, _, mv_append hk2 hz, q⟩) (hs := hs)⟩) hbase hfew hline hs hplain
end
end Q
namespace Q
open PySem PySem.Spec PyProof.Rows L2
section
variable {X : Cx} {s s1 s2 s3 : S} {elt iter tg : Expr} {scope : Scope} {pos : Pos} {G : TG} {is : List Nat} {g : D → List Sl → Option (List Sl)} {D' : Ds} {nm : Str} {Ψ : S → Ar → Prop}
theorem ex_lcT (own : List (Str × Nat)) (hN : X.N.Nodup) (ok : BlkOk X.N X.env.scope scope own)
    (hG : ∀ (sh : Shared) (H0 : Hp) (C : Addr) (cl : List (Str × Addr)) (fp : List Addr), PG (X.blk sh H0 scope (PySem.compEnvC scope cl C X.env) fp) tg G) (hS : GS X.K G is g)
    (hi : IX X s tg iter fun s1 n it => n ≤ 16777216 ∧ ∃ I : Nat → List T → List T → Prop, I 0 s1.μ [] ∧ (∀ i μ out, i < n → I i μ out → LcT X.K g (bE X scope elt) (wipeS s1.ρ (own.map (·.2))) (it i) μ out (I (i + 1))) ∧ ∀ μ out, I n μ out → Ψ (S.add ⟨s1.ρ, μ⟩ (.lst out)) (.o μ.length))
    (hv : ∀ i ∈ is, i ∈ own.map (·.2) := by decide) (hc : X.calm = true := by rfl) (hf : ∀ x, foldedSetIterable iter X.env x = pure x := by intro _; rfl) :
    EX X s (.ListComp elt [⟨tg, iter, [], 0⟩] scope pos) Ψ := fun σ H F rs as hd Q k => by
  obtain ⟨wi, pi, hi⟩ := hi
  exact WE.of (pe_lc hc hN pi ok hG (fun _ _ _ _ _ => pts_nil) pe_b hf) (lc_runT hi hS hv σ H F rs as hd Q k)
theorem w1x_setLcT (i : Nat) {py spos : Pos} (own : List (Str × Nat)) (hN : X.N.Nodup) (hsw : swapsWith (.ListComp elt [⟨tg, iter, [], 0⟩] scope pos) (some (.Name nm py)) spos.line X.env = pure true) (ok : BlkOk X.N X.env.scope scope own)
    (hG : ∀ (sh : Shared) (H0 : Hp) (C : Addr) (cl : List (Str × Addr)) (fp : List Addr), PG (X.blk sh H0 scope (PySem.compEnvC scope cl C X.env) fp) tg G) (hS : GS X.K G is g)
    (hi : IX X s tg iter fun s1 n it => n ≤ 16777216 ∧ ∃ I : Nat → List T → List T → Prop, I 0 s1.μ [] ∧ (∀ i μ out, i < n → I i μ out → LcT X.K g (bE X scope elt) (wipeS s1.ρ (own.map (·.2))) (it i) μ out (I (i + 1))) ∧ ∀ μ out, I n μ out → D'.nx ⟨s1.ρ.set i (.o μ.length), μ ++ [.lst out]⟩)
    (hv : ∀ i ∈ is, i ∈ own.map (·.2) := by decide) (hy : X.N[i]? = some nm := by rfl) (hyl : X.env.scope.names.lookup nm = some .local := by rfl) (hc : X.calm = true := by rfl) (hf : ∀ x, foldedSetIterable iter X.env x = pure x := by intro _; rfl) :
    W1 X s (.Assign [.Name nm py] (.ListComp elt [⟨tg, iter, [], 0⟩] scope pos) spos) D' := fun W σ H F rs as hd g0 p => by
  obtain ⟨wi, pi, hi⟩ := hi
  refine WSt.of (ps_setLc hc hN hy hyl hsw pi ok hG (fun _ _ _ _ _ => pts_nil) pe_b hf) (lc_runT (Ψ := fun s2 x => ∃ (s1 : S) (μ : List T) (out : List T), s2 = S.add ⟨s1.ρ, μ⟩ (.lst out) ∧ x = .o μ.length ∧ D'.nx ⟨s1.ρ.set i (.o μ.length), μ ++ [.lst out]⟩) ?_ hS hv σ H F rs as hd _ fun s2 x ⟨s1, μ, out, e1, e2, q⟩ v H1 F1 rs1 as1 h1 p1 g1 r1 => ?_)
  · intro σ H F rs as hd R c
    exact hi σ H F rs as hd R fun s1 n it ⟨hn, I, i0, hs, he⟩ => c s1 n it ⟨hn, I, i0, hs, fun μ out q => ⟨s1, μ, out, rfl, rfl, he μ out q⟩⟩
  · subst e1 e2
    exact ⟨F1, rs1, as1, ⟨s1.ρ.set i (.o μ.length), μ ++ [.lst out]⟩, ⟨h1.r, h1.sl.set i ⟨v, rfl, r1⟩⟩, g0.trans g1, p.trans p1, q⟩
end
/-- list(text): its signs, owned -/
def rListS : List V → Hp → VK → Prop := fun xs H Q => ∃ z : Str, xs = [.str z] ∧ z.cps.size ≤ sizeLine ∧ ∀ l, H l = none → Q (.ref l) (upd H l (.lst (z.cps.toList.map fun c => V.str ⟨#[c]⟩)))
theorem vals_at {xs : List V} : ∀ {us : List Value}, us.length = xs.length → (∀ (j : Nat) (x : V) (u : Value), xs[j]? = some x → us[j]? = some u → RelV x u) → Vals xs us := by
  induction xs with
  | nil =>
    intro us h _
    cases us with
    | nil => exact .nil
    | cons _ _ => cases h
  | cons x xs ih =>
    intro us h f
    cases us with
    | nil => cases h
    | cons u us => exact .cons (f 0 x u rfl rfl) (ih (by simpa using h) fun j y w h1 h2 => f (j + 1) y w (by simpa using h1) (by simpa using h2))
theorem call_listS {X : Cx} (hc : X.calm = true) : CallR X (.type "list") rListS := by
  intro pins s σ H xs us Q I r h
  obtain ⟨z, e, hz, q⟩ := h
  subst e
  obtain ⟨u, eu, t, rx⟩ := vals1 r
  subst eu
  subst rx
  refine call_list_str (I.ok.hd hc) z t (fun h' tk acc' c' hkeep hS hacc => ?_) hz
  refine ⟨.ref s.heap.objs.size, upd H s.heap.objs.size (.lst (z.cps.toList.map fun c => V.str ⟨#[c]⟩)), I.laid hkeep (Nat.le_refl _) (show ObjOk X.prog X.w _ _ _ (.lst (z.cps.toList.map fun c => V.str ⟨#[c]⟩)) from ⟨?_, acc'.toList, c', ?_, ?_⟩), rfl, q _ (I.hok.fresh (Nat.le_refl _))⟩
  · rw [List.length_map]; simpa using hz
  · refine vals_at (by simpa using hacc.1) fun j x w h1 h2 => ?_
    obtain ⟨c, u, hc', rfl⟩ := hacc.2 j w (by rw [← Array.getElem?_toList]; exact h2)
    rw [List.getElem?_map, Array.getElem?_toList, hc'] at h1
    cases h1
    exact ⟨u, rfl⟩
  · rw [Array.toArray_toList]; exact hS
section
variable {X : Cx} {s s1 : S} {e : Expr} {l : List Nat} {p pos : Pos}
theorem reps_str {K : PySem.W.Frag} {F : Hp} : ∀ l : List Nat, Reps K F (l.map fun c => D.str [c]) (l.map fun c => V.str ⟨#[c]⟩)
  | [] => rfl
  | c :: l => ⟨_, _, rfl, rfl, reps_str l⟩
theorem e_listS (hm : X.mg "list" = none) (he : EA X s e s1 (.d (.str l))) (hz : l.length ≤ 16777216) (hg : Gl X "list" := by rfl) (hc : X.calm = true := by rfl) (h1 : starEach [e] X.env = [(false, eval e X.env)] := by rfl) :
    EA X s (.Call (.Name "list" p) [e] [] pos) (s1.add (.fl (l.map fun c => .str [c]))) (.o s1.μ.length) :=
  ea_callTL (call_listS hc) hg hm (by decide +kernel) (es_cons he es_nil (hs := h1)) (fun σ H F rs as vs hd ⟨v, ws, e, a, e2⟩ => by
    subst e2 e
    cases a
    have hs : (mk l).cps.size = l.length := mk_len l
    refine ⟨_, reps_str l, fun Q k => ⟨mk l, rfl, by rw [hs]; exact hz, fun p hp => ?_⟩⟩
    rw [mk_cps]
    exact k p hp) (he := h1)
end
end Q
namespace Q
open PySem PySem.Spec PyProof.Rows L2
theorem e_lenT {X : Cx} {s s1 : S} {e : Expr} {k : Nat} {ts : List T} {p pos : Pos} (hm : X.mg "len" = none) (he : EA X s e s1 (.o k)) (hk : s1.μ[k]? = some (.lst ts) := by rfl) (hg : Gl X "len" := by rfl) (h1 : starEach [e] X.env = [(false, eval e X.env)] := by rfl) :
    EA X s (.Call (.Name "len" p) [e] [] pos) s1 (.d (.int (ts.length : Int))) := ea_callB call_len_seq hg hm (by decide +kernel) (es_cons he es_nil (hs := h1)) (ca_lenT hk) (he := h1)
end Q
namespace Q
def frzA (k : Nat) (d : D) : Sl → Sl
  | .o j => if j = k then .d d else .o j
  | x => x
theorem frzS_map (k : Nat) (d : D) : ∀ ρ : List Sl, frzS k d ρ = ρ.map (frzA k d)
  | [] => rfl
  | .o j :: ρ => congrArg (_ :: ·) (frzS_map k d ρ)
  | .d e :: ρ => congrArg (_ :: ·) (frzS_map k d ρ)
  | .un :: ρ => congrArg (_ :: ·) (frzS_map k d ρ)
end Q
namespace Q
open PySem PySem.Spec PyProof.Rows L2
section
variable {X : Cx} {s s1 s2 s3 : S} {a e b : Expr} {pos p2 : Pos} {Ψ : S → Ar → Prop}
theorem ex_slTo {r : V → Option Int → Option Int → Hp → VK → Prop} (hr0 : SlR X r) (h : EX X s a fun s1 x => EX X s1 e fun s2 y => ∃ j d, y = .d (.int j) ∧ SlV X s2 r x none (some j) d ∧ Ψ s2 (.d d)) :
    EX X s (.Subscript a (.Slice none (some e) none p2) pos) Ψ := fun σ H F rs as hd Q k =>
  WE.of (pe_slice hr0 pe_u po_none (po_some pe_u)) (h σ H F rs as hd _ fun s1 x h2 v H1 F1 rs1 as1 h1 p1 g1 r1 => h2 σ H1 F1 rs1 as1 h1 _ fun s2 y ⟨j, d, ey, hr, q⟩ w H2 F2 rs2 as2 h2 p2 g2 r2 => by
    subst ey
    cases r2
    exact ⟨j, rfl, hr σ H2 F2 rs2 as2 v h2 (r1.mono g2.fz p2) Q (h2.fin fun u H' F' rs' as' h' p' g' q' => k s2 _ q u H' F' rs' as' h' ((p1.trans p2).trans p') ((g1.trans g2).trans g') q')⟩)
end
end Q
namespace Q
open PySem L2
theorem xs_mono {X : Cx} {s : S} {es : List Expr} {Ψ Ψ' : S → List Ar → Prop} (h : EXs X s es Ψ) (k : ∀ s1 xs, Ψ s1 xs → Ψ' s1 xs) : EXs X s es Ψ' := fun σ H F rs as hd Q c => h σ H F rs as hd Q fun s1 x q => c s1 x (k s1 x q)
end Q
namespace Q
open PySem L2
/-- a condition between a statement and the rest -/
theorem ws_mid {X : Cx} {s : S} {st : Stmt} {rest : List Stmt} {D' : Ds} (Φ : S → Prop) (h : W1 X s st { nx := Φ, rt := D'.rt, bk := D'.bk, ct := D'.ct }) (k : ∀ s2, Φ s2 → WS X s2 rest D') : WS X s (st :: rest) D' :=
  ws_cons (W1.mono h k (fun _ _ q => q) (fun _ q => q) fun _ q => q)
end Q

namespace Q
open PySem PySem.Spec PyProof.Rows L2
/-- J gives the n data it 0, it 1, .. as long as what was frozen stays and the owned objects are as Φ says -/
def GiveR (K : PySem.W.Frag) (J : It) (n : Nat) (it : Nat → D) (rs1 : List V) (Φ : List T → Prop) (F : Hp) : Prop := ∀ H2 F2 μ rs as, Same F F2 → HdR K H2 F2 μ rs as → rs1 <+: rs → Φ μ → (∀ i, i < n → J.go i H2) ∧ J.stop n H2 ∧
  ∀ i x H3, i < n → J.yld i H2 x H3 → ∃ F3, Go [] [] F2 H2 F3 H3 ∧ Same F3 H3 ∧ Rep K F3 (it i) x
theorem lc_runO {X : Cx} {s : S} {Ψ : S → Ar → Prop} {Φ : List T → Prop} {G : TG} {is vs : List Nat} {g : D → List Sl → Option (List Sl)} {t : TT} {te : TE} {wi : TI}
    (hi : ∀ σ H F rs as, Hd X.K σ H F rs as s → ∀ R : It → Hp → Prop, (∀ s1 n it, (n ≤ 16777216 ∧ ∃ I : Nat → List T → List D → Prop, I 0 s1.μ [] ∧ (∀ i μ out, I i μ out → ∀ t, Φ (μ ++ [t])) ∧ (∀ i μ out, i < n → I i μ out → LcX X.K g t te (wipeS s1.ρ vs) (it i) μ out (I (i + 1))) ∧ ∀ μ out, I n μ out → Ψ (S.add ⟨s1.ρ, μ⟩ (.fl out)) (.o μ.length)) →
      ∀ J H' F' rs' as', Hd X.K σ H' F' rs' as' s1 → rs <+: rs' → Go as.flatten as'.flatten F H F' H' → GiveR X.K J n it rs' Φ F' → R J H') → wi σ H R)
    (hS : GS X.K G is g) (hv : ∀ i ∈ is, i ∈ vs) : TEX X.K (tLc wi G t te vs) s Ψ := fun σ H F rs as hd Q k => by
  refine hi σ H F rs as hd _ fun s1 n it ⟨hn, I, i0, hΦ, hs, he⟩ J H1 F1 rs1 as1 h1 p1 g1 gv => ?_
  intro A hA
  obtain ⟨n1, n2⟩ := h1.newL (ds := []) (ys := []) hA rfl
  refine ⟨fun i m H2 => m = n - i ∧ i ≤ n ∧ ∃ μ out acc F2 rs2 as2, I i μ out ∧ HdR X.K H2 F2 (μ ++ [.fl out]) (rs2 ++ [.ref A]) (as2 ++ [[A]]) ∧ rs1 <+: rs2 ∧ Go as1.flatten (as2 ++ [[A]]).flatten F1 H1 F2 H2 ∧ H2 A = some (.lst acc) ∧ Reps X.K F2 out acc ∧ out.length ≤ i,
    ⟨n, by simp, Nat.zero_le _, s1.μ, [], [], F1, rs1, as1, i0, n1.r, refl_pre _, n2, upd_same, rfl, Nat.le_refl _⟩, ?_⟩
  rintro i m H2 ⟨rfl, hin, μ, out, acc, F2, rs2, as2, inv, hr, p2, g2, hAc, rp, ol⟩
  have rl : rs2.length = μ.length := by have := hr.l1; simp at this; exact this
  have f12 : Same F1 F2 := g2.fz
  obtain ⟨go, stop, yld⟩ := gv H2 F2 (μ ++ [.fl out]) (rs2 ++ [.ref A]) (as2 ++ [[A]]) f12 hr (p2.trans ⟨_, rfl⟩) (hΦ i μ out inv _)
  by_cases hlt : i < n
  · refine .inr ⟨go i hlt, fun H' => ∃ μ out acc F2 rs2 as2, I (i + 1) μ out ∧ HdR X.K H' F2 (μ ++ [.fl out]) (rs2 ++ [.ref A]) (as2 ++ [[A]]) ∧ rs1 <+: rs2 ∧ Go as1.flatten (as2 ++ [[A]]).flatten F1 H1 F2 H' ∧ H' A = some (.lst acc) ∧ Reps X.K F2 out acc ∧ out.length ≤ i + 1,
      fun H' w => ⟨n - (i + 1), by omega, rfl, hlt, w⟩, fun v H3 y => ?_⟩
    obtain ⟨F3, g3, sb3, r3⟩ := yld i v H3 hlt y
    obtain ⟨hr3, g3'⟩ := hr.pure g3 sb3
    have hi3 := hr3.init rl
    obtain ⟨ρ', e1, ht⟩ := hs i μ out hlt inv
    have sl3 : Slots X.K F3 rs2 (wipeS s1.ρ vs) (wipe σ vs) := (h1.sl.mono (f12.trans g3.fz) fun k v q => pre_get p2 k v q).wipe vs
    have hd3 : Hd X.K (wipe σ vs) H3 F3 rs2 as2 ⟨wipeS s1.ρ vs, μ⟩ := ⟨hi3, sl3⟩
    have hA3 : H3 A = some (.lst acc) := g3.keep A _ (fun z => nomatch z) hAc
    have notA : A ∉ as2.flatten := fun z => by
      obtain ⟨j, mm, e, hm⟩ := mem_fl z
      have hj := (List.getElem?_eq_some_iff.mp e).1
      have := hr3.n2 j as2.length mm [A] A (by rw [List.getElem?_append_left hj]; exact e) (by simp) hm (by simp)
      omega
    refine hS (wipe σ vs) H3 F3 rs2 as2 _ (it i) v ρ' hd3 r3 e1 _ fun σ4 h4 w4 => ?_
    have ww : ∀ (σ : L2.St) (vs : List Nat), wipe (wipe σ vs) vs = wipe σ vs := by
      intro σ vs
      have gen : ∀ (us : List Nat), (∀ i ∈ us, i ∈ vs) → wipe (wipe σ us) vs = wipe σ vs := by
        intro us
        induction us with
        | nil => intro _; rfl
        | cons u us ih =>
          intro h
          show wipe ((wipe σ us).set u none) vs = _
          rw [wipe_set (h u List.mem_cons_self)]
          exact ih fun i hi => h i (List.mem_cons_of_mem _ hi)
      exact gen vs fun _ h => h
    refine ⟨by rw [w4 vs hv, ww], ht σ4 H3 F3 rs2 as2 h4 _ fun s2 b q H5 F5 rs5 as5 h5 p5 g5 => ?_⟩
    cases b with
    | true =>
      refine iteT (q.1 rfl σ4 H5 F5 rs5 as5 h5 _ fun s3 x ⟨yd, ex, inv'⟩ w H6 F6 rs6 as6 h6 p6 g6 r6 => ?_)
      subst ex
      have gg := g5.trans g6
      obtain ⟨fr, gf⟩ := hr3.frame rl h6.r gg
      have hA6 : H6 A = some (.lst acc) := gg.keep A _ notA hA3
      have rp6 : Reps X.K F6 out acc := Reps.mono ((g3.fz.trans g5.fz).trans g6.fz) _ _ rp
      have accl : acc.length = out.length := rp.len
      refine ⟨acc, hA6, by have : (16777216 : Nat) ≤ sizeLine := by decide
                           omega, ?_⟩
      have rl6 : rs6.length = s3.μ.length := h6.r.l1
      have al6 : as6.length = s3.μ.length := h6.r.l2
      have kE : (rs6 ++ [V.ref A])[s3.μ.length]? = some (.ref A) := by rw [← rl6]; simp
      have lE : (as6 ++ [[A]])[s3.μ.length]? = some [A] := by rw [← al6]; simp
      obtain ⟨st, gs⟩ := fr.set1 (t := .fl (out ++ [yd])) (H' := upd H6 A (.lst (acc ++ [w]))) kE lE (fun a o hna e => by rw [upd_ne (fun z => hna (by rw [z]; simp))]; exact e)
        (fun a e => by
          by_cases z : a = A
          · subst z; rw [upd_same] at e; cases e
          · rw [upd_ne z] at e; exact e)
        ⟨A, acc ++ [w], rfl, upd_same, rp6.append (.one r6), rfl⟩
      have eset : (s3.μ ++ [T.fl out]).set s3.μ.length (.fl (out ++ [yd])) = s3.μ ++ [.fl (out ++ [yd])] := by simp
      rw [eset] at st
      exact ⟨s3.μ, out ++ [yd], acc ++ [w], F6, rs6, as6, inv', st, (p2.trans p5).trans p6, ((g2.trans g3').trans gf).trans gs, upd_same, rp6.append (.one r6), by simp; omega⟩
    | false =>
      refine iteF ?_
      obtain ⟨fr, gf⟩ := hr3.frame rl h5.r g5
      exact ⟨s2.μ, out, acc, F5, rs5, as5, q.2 rfl, fr, p2.trans p5, (g2.trans g3').trans gf, g5.keep A _ notA hA3, Reps.mono (g3.fz.trans g5.fz) _ _ rp, by omega⟩
  · have e : i = n := by omega
    subst e
    refine .inl ⟨stop, ?_⟩
    refine k _ _ (he μ out inv) (V.ref A) H2 F2 (rs2 ++ [V.ref A]) (as2 ++ [[A]]) ⟨show HdR X.K H2 F2 (μ ++ [T.fl out]) (rs2 ++ [V.ref A]) (as2 ++ [[A]]) from hr, ?_⟩ ((p1.trans p2).trans ⟨_, rfl⟩) (g1.trans g2) ?_
    · exact (h1.sl.mono f12 fun k v q => pre_get p2 k v q).mono (Same.refl _) fun k v q => pre_get ⟨_, rfl⟩ k v q
    · show (rs2 ++ [V.ref A])[μ.length]? = _
      rw [← rl]; simp

theorem giveR_fl {K : PySem.W.Frag} {rs1 : List V} {k : Nat} {ds : List D} {F : Hp} {a : Addr} (hk : rs1[k]? = some (.ref a)) : GiveR K (Itl K a) ds.length (fun i => ds.getD i .non) rs1 (fun μ => μ[k]? = some (.fl ds)) F := fun H2 F2 μ rs as e1 hr p hμ => by
  obtain ⟨v, l, hv, hl, ⟨b, xs, eb, hb, rp, el⟩⟩ := hr.at hμ
  have hk2 := pre_get p k _ hk
  rw [hk2] at hv
  cases hv
  cases eb
  have q2 : SqL K H2 a xs := .of hb
  have w := walk_list (K := K) (a := a) (xs := xs)
  refine ⟨fun i hi => w.goes i H2 (by rw [rp.len]; exact hi) q2, by have := w.stops H2 q2; rwa [rp.len] at this, fun i x H3 hi y => ?_⟩
  obtain ⟨rfl, hx⟩ := w.yields i H2 x H3 (by rw [rp.len]; exact hi) q2 y
  obtain ⟨v, h1, h2⟩ := rp.get (getD_of hi)
  rw [hx] at h1; cases h1
  exact ⟨F2, go0, hr.sub, h2⟩
theorem ex_lcO {X : Cx} {s s1 : S} {Ψ : S → Ar → Prop} {elt iter tg : Expr} {scope : Scope} {pos : Pos} {G : TG} {is : List Nat} {g : D → List Sl → Option (List Sl)} {k : Nat} {ds : List D} (own : List (Str × Nat)) (he : EA X s iter s1 (.o k)) (hk : s1.μ[k]? = some (.fl ds)) (hz : ds.length ≤ 16777216) (hN : X.N.Nodup) (ok : BlkOk X.N X.env.scope scope own)
    (hG : ∀ (sh : Shared) (H0 : Hp) (C : Addr) (cl : List (Str × Addr)) (fp : List Addr), PG (X.blk sh H0 scope (PySem.compEnvC scope cl C X.env) fp) tg G) (hS : GS X.K G is g)
    (hi : ∃ I : Nat → List T → List D → Prop, I 0 s1.μ [] ∧ (∀ i μ out, I i μ out → ∀ t, (μ ++ [t])[k]? = some (.fl ds)) ∧ (∀ i μ out, i < ds.length → I i μ out → LcX X.K g tYes (bE X scope elt) (wipeS s1.ρ (own.map (·.2))) (ds.getD i .non) μ out (I (i + 1))) ∧ ∀ μ out, I ds.length μ out → Ψ (S.add ⟨s1.ρ, μ⟩ (.fl out)) (.o μ.length))
    (hv : ∀ i ∈ is, i ∈ own.map (·.2) := by decide) (hc : X.calm = true := by rfl) (hf : ∀ x, foldedSetIterable iter X.env x = pure x := by intro _; rfl) :
    EX X s (.ListComp elt [⟨tg, iter, [], 0⟩] scope pos) Ψ := fun σ H F rs as hd Q c =>
  WE.of (pe_lc hc hN (pi_list pe_u) ok hG (fun _ _ _ _ _ => pts_nil) pe_b hf) (lc_runO (Φ := fun μ => μ[k]? = some (.fl ds)) (fun σ H F rs as hd R cc => he σ H F rs as hd _ fun v H1 F1 rs1 as1 h1 p1 g1 r1 => by
    obtain ⟨v', l, e1, e2, ⟨b, xs, eb, hb, rp, el⟩⟩ := h1.r.at hk
    have r1' : rs1[k]? = some v := r1
    rw [r1'] at e1
    cases e1
    subst eb
    exact ⟨b, rfl, ⟨xs, .of hb⟩, cc s1 ds.length (fun i => ds.getD i .non) ⟨hz, hi⟩ _ H1 F1 rs1 as1 h1 p1 g1 (giveR_fl r1')⟩) hS hv σ H F rs as hd Q c)
/-- .. items taken alone, frozen at once -/
theorem ee_lcO {α : Type} {X : Cx} {s s1 : S} {elt iter tg : Expr} {scope : Scope} {pos : Pos} {G : TG} {is : List Nat} {g : D → List Sl → Option (List Sl)} {k : Nat} (xs : List α) (item f : α → D) (own : List (Str × Nat)) (he : EA X s iter s1 (.o k)) (hk : s1.μ[k]? = some (.fl (xs.map item))) (hz : xs.length ≤ 16777216) (hN : X.N.Nodup) (ok : BlkOk X.N X.env.scope scope own)
    (hG : ∀ (sh : Shared) (H0 : Hp) (C : Addr) (cl : List (Str × Addr)) (fp : List Addr), PG (X.blk sh H0 scope (PySem.compEnvC scope cl C X.env) fp) tg G) (hS : GS X.K G is g)
    (hp : ∀ a ∈ xs, EltP X s1 scope elt g (own.map (·.2)) (item a) (f a)) (lw : low s1.μ.length s1.ρ = true := by rfl) (hlen : s.μ.length ≤ s1.μ.length := by exact Nat.le_refl _)
    (hv : ∀ i ∈ is, i ∈ own.map (·.2) := by decide) (hc : X.calm = true := by rfl) (hf : ∀ x, foldedSetIterable iter X.env x = pure x := by intro _; rfl) :
    EA X s (.ListComp elt [⟨tg, iter, [], 0⟩] scope pos) s1 (.d (.lst (xs.map f))) := ee_fl (ea_of_ex (ex_lcO own he hk (by rw [List.length_map]; exact hz) hN ok hG hS ⟨fun m μ out => μ = s1.μ ∧ out = (xs.take m).map f, ⟨rfl, rfl⟩, fun i μ out ⟨e1, _⟩ t => by
      subst e1
      rw [List.getElem?_append_left (List.getElem?_eq_some_iff.mp hk).1]; exact hk, fun i μ out hi ⟨e1, e2⟩ => by
      subst e1 e2
      rw [List.length_map] at hi
      have hx : xs[i]? = some xs[i] := List.getElem?_eq_getElem hi
      obtain ⟨ρ', h1, ρ2, h2⟩ := hp xs[i] (List.getElem_mem hi)
      rw [getD_map hx]
      exact ⟨ρ', h1, ttx_yes ⟨fun _ => tex_b fun sh H0 C cl fp => ex_of (h2 sh H0 C cl fp) ⟨_, rfl, rfl, (take_succ_map hx).symm⟩, fun z => nomatch z⟩⟩, fun μ out ⟨e1, e2⟩ => by
      subst e1 e2
      rw [List.length_map, List.take_length]
      exact ⟨rfl, rfl⟩⟩ hv hc hf)) lw hlen
end Q
namespace Q
open PySem PySem.Spec PyProof.Rows L2
section
variable {X : Cx} {s s1 s2 : S} {a b : Expr} {rest : List Expr} {pos : Pos} {x : Ar} {ds : List D}
theorem reps_emp {K : PySem.W.Frag} {F : Hp} {ds : List D} {xs : List V} (r : Reps K F ds xs) : (!xs.isEmpty) = !ds.isEmpty := by
  have := r.len
  cases xs <;> cases ds <;> simp_all
theorem tru_rl {K : PySem.W.Frag} {F H : Hp} {v : V} (sub : Same F H) (r : Rep K F (.rl ds) v) : TruV K v H (!ds.isEmpty) := by
  obtain ⟨p, xs, rfl, q, r⟩ := r
  exact .inl ⟨xs, sub.seq q, (reps_emp r).symm⟩
/-- xs or b, xs a readable list -/
theorem e_orR (h : EA X s a s1 (.d (.rl ds))) (hne : ds ≠ []) : EA X s (.BoolOp .Or (a :: b :: rest) pos) s1 (.d (.rl ds)) := fun σ H F rs as hd Q k =>
  WE.of (pe_orT pe_u pe_u) (h σ H F rs as hd _ fun v H1 F1 rs1 as1 h1 p1 g1 r1 => ⟨true, by
    have := tru_rl h1.sub r1
    rwa [show (!ds.isEmpty) = true from by cases ds <;> simp_all] at this, iteT (k v H1 F1 rs1 as1 h1 p1 g1 r1)⟩)
theorem e_orE (h : EA X s a s1 (.d (.rl []))) (h2 : EA X s1 (.BoolOp .Or (b :: rest) pos) s2 x) : EA X s (.BoolOp .Or (a :: b :: rest) pos) s2 x := fun σ H F rs as hd Q k =>
  WE.of (pe_orT pe_u pe_u) (h σ H F rs as hd _ fun v H1 F1 rs1 as1 h1 p1 g1 r1 => ⟨false, tru_rl h1.sub r1, iteF (h2 σ H1 F1 rs1 as1 h1 _ fun w H2 F2 rs2 as2 h2 p2 g2 r2 => k w H2 F2 rs2 as2 h2 (p1.trans p2) (g1.trans g2) r2)⟩)
end
end Q
namespace Q
open PySem L2
/-- slots forgotten -/
theorem ws_weak {X : Cx} {s : S} {st : List Stmt} {D' : Ds} (ρ' : List Sl) (hw : Weak s.ρ ρ') (h : WS X ⟨ρ', s.μ⟩ st D') : WS X s st D' := fun W σ H F rs as hd g p => h W σ H F rs as ⟨hd.r, hd.sl.weak hw⟩ g p
/-- the slots kept: those of true; behind the mask all are forgotten -/
def keepM : List Bool → List Sl → List Sl
  | _, [] => []
  | true :: m, p :: ρ => p :: keepM m ρ
  | false :: m, _ :: ρ => .un :: keepM m ρ
  | [], _ :: ρ => .un :: keepM [] ρ
theorem weak_keep : ∀ (m : List Bool) (ρ : List Sl), Weak ρ (keepM m ρ)
  | [], [] => rfl
  | true :: _, [] => rfl
  | false :: _, [] => rfl
  | true :: m, p :: ρ => ⟨p, _, rfl, .inr rfl, weak_keep m ρ⟩
  | false :: m, _ :: ρ => ⟨.un, _, rfl, .inl rfl, weak_keep m ρ⟩
  | [], _ :: ρ => ⟨.un, _, rfl, .inl rfl, weak_keep [] ρ⟩
theorem ws_keep {X : Cx} {s : S} {st : List Stmt} {D' : Ds} (m : List Bool) (h : WS X ⟨keepM m s.ρ, s.μ⟩ st D') : WS X s st D' := ws_weak _ (weak_keep m s.ρ) h
/-- xs or [..]: a readable list, or a list -/
def orR (ds es : List D) : D := if ds.isEmpty = true then .lst es else .rl ds
theorem e_or5 {X : Cx} {s s1 : S} {a b : Expr} {rest : List Expr} {pos : Pos} {ds es : List D} (h : EA X s a s1 (.d (.rl ds))) (h2 : EA X s1 (.BoolOp .Or (b :: rest) pos) s1 (.d (.lst es))) : EA X s (.BoolOp .Or (a :: b :: rest) pos) s1 (.d (orR ds es)) := by
  unfold orR
  cases ds with
  | nil => exact e_orE h h2
  | cons d ds => exact e_orR h (by simp)
theorem sl_or {X : Cx} {s : S} {ds es : List D} {lo hi : Option Int} : SlL X s (rSlL X.K) (.d (orR ds es)) lo hi (cut (if ds.isEmpty = true then es else ds) lo hi) := by
  unfold orR
  cases ds with
  | nil => exact sl_lst rfl
  | cons d ds => exact sl_rl
end Q
namespace Q
open PySem PySem.Spec PyProof.Rows L2
section
variable {X : Cx} {s s1 s2 s3 : S} {elt iter tg cond : Expr} {scope : Scope} {pos : Pos} {n : Nat} {it : Nat → D} {G : TG} {is : List Nat} {g : D → List Sl → Option (List Sl)} {α : Type} {D' : Ds} {nm : Str}
/-- test and element of a comprehension, item by item -/
def EltF (X : Cx) (s : S) (scope : Scope) (cond elt : Expr) (g : D → List Sl → Option (List Sl)) (vs : List Nat) (d : D) (b : Bool) (y : D) : Prop :=
  ∃ ρ', g d (wipeS s.ρ vs) = some ρ' ∧ ∃ ρ2, (∀ (sh : Shared) (H0 : Hp) (C : Addr) (cl : List (Str × Addr)) (fp : List Addr), ET (X.blk sh H0 scope (PySem.compEnvC scope cl C X.env) fp) ⟨ρ', s.μ⟩ cond ⟨ρ2, s.μ⟩ b) ∧
    ∃ ρ3, b = true → ∀ (sh : Shared) (H0 : Hp) (C : Addr) (cl : List (Str × Addr)) (fp : List Addr), EA (X.blk sh H0 scope (PySem.compEnvC scope cl C X.env) fp) ⟨ρ2, s.μ⟩ elt ⟨ρ3, s.μ⟩ (.d y)
theorem take_succ_filter {β : Type} {xs : List α} {b : α → Bool} {f : α → β} {i : Nat} {a : α} (h : xs[i]? = some a) : ((xs.take (i + 1)).filter b).map f = ((xs.take i).filter b).map f ++ (if b a = true then [f a] else []) := by
  rw [List.take_add_one, h]
  simp only [Option.toList_some, List.filter_append, List.map_append, List.filter_cons, List.filter_nil]
  cases b a <;> simp
theorem lcTurnF {b : α → Bool} {f : α → D} {item : α → D} {xs : List α} {vs : List Nat} (hit : ∀ i a, xs[i]? = some a → it i = item a) (he : ∀ a ∈ xs, EltF X s1 scope cond elt g vs (item a) (b a) (f a)) (i : Nat) (hi : i < xs.length) :
    LcTurn X.K g (bT X scope cond) (bE X scope elt) (wipeS s1.ρ vs) (it i) s1.μ s1.μ (((xs.take i).filter b).map f) (((xs.take (i + 1)).filter b).map f) := by
  have hx : xs[i]? = some xs[i] := List.getElem?_eq_getElem hi
  obtain ⟨ρ', h1, ρ2, h2, ρ3, h3⟩ := he xs[i] (List.getElem_mem hi)
  rw [← hit i _ hx] at h1
  refine ⟨ρ', b xs[i], ⟨ρ2, s1.μ⟩, h1, tts_b h2, fun hb => ⟨⟨ρ3, s1.μ⟩, f xs[i], tes_b (h3 hb), rfl, ?_⟩, fun hb => ⟨rfl, ?_⟩⟩
  · rw [take_succ_filter hx, if_pos hb]
  · rw [take_succ_filter hx, if_neg (by rw [hb]; decide), List.append_nil]
theorem ee_lcF (xs : List α) (item f : α → D) (b : α → Bool) (own : List (Str × Nat)) (hi : IT X s tg iter s1 n it) (hn : n = xs.length) (hit : ∀ i a, xs[i]? = some a → it i = item a) (hN : X.N.Nodup) (ok : BlkOk X.N X.env.scope scope own)
    (hG : ∀ (sh : Shared) (H0 : Hp) (C : Addr) (cl : List (Str × Addr)) (fp : List Addr), PG (X.blk sh H0 scope (PySem.compEnvC scope cl C X.env) fp) tg G) (hS : GS X.K G is g)
    (he : ∀ a ∈ xs, EltF X s1 scope cond elt g (own.map (·.2)) (item a) (b a) (f a)) (hl : xs.length ≤ 16777216) (lw : low s1.μ.length s1.ρ = true := by rfl) (hlen : s.μ.length ≤ s1.μ.length := by exact Nat.le_refl _)
    (hv : ∀ i ∈ is, i ∈ own.map (·.2) := by decide) (hc : X.calm = true := by rfl) (hf : ∀ x, foldedSetIterable iter X.env x = pure x := by intro _; rfl) :
    EA X s (.ListComp elt [⟨tg, iter, [cond], 0⟩] scope pos) s1 (.d (.lst ((xs.filter b).map f))) := ee_fl (by
  have e : ((xs.take n).filter b).map f = (xs.filter b).map f := by rw [hn, List.take_length]
  have := ea_lc (t := bT X scope cond) (ifs := [cond]) (elt := elt) (pos := pos) own (fun _ => s1.μ) (fun i => ((xs.take i).filter b).map f) hi hN ok hG hS (fun s H0 C cl fp => pts_b s H0 C cl fp) (by rw [hn]; exact hl) rfl rfl (fun _ => rfl) (fun i h => lcTurnF hit he i (by rw [← hn]; exact h)) hv hc hf
  rw [e] at this
  exact this) lw hlen
end
end Q
namespace Q
open PySem PySem.Spec PyProof.Rows L2
theorem reps_ints {K : PySem.W.Frag} {F : Hp} : ∀ ns : List Int, Reps K F (ns.map D.int) (ns.map V.int)
  | [] => rfl
  | n :: ns => ⟨_, _, rfl, rfl, reps_ints ns⟩
abbrev ct_law0 : Ct := pu (ι := List Int) (fun ns => [.rl (ns.map .int)]) (fun ns => ns.length ≤ 63) fun _ => .fz (.bl true)
theorem law_sp {K : PySem.W.Frag} {H : Hp} {a : Addr} {ns : List Int} {E : XK} (hl : ns.length ≤ 63) (hS : SqL K H a (ns.map V.int)) : spOf K ct_law0 [.ref a] H (fun v _ => v = .bl true) E := by
  refine ⟨H, [], ns, ⟨Same.refl H, rfl, rfl, fun i t v l e => (by cases e), fun i l e => (by cases e), fun i j l m a e => (by cases e), fun i l a e => (by cases e)⟩, ⟨_, _, rfl, ⟨a, _, rfl, hS, reps_ints ns⟩, rfl⟩, hl, ?_⟩
  rintro r outs ⟨rfl, rfl⟩ v H' F' ass' hr g
  obtain ⟨v', l, h1, h2, h3⟩ := hr.at (i := 0) (t := .fz (.bl true)) rfl
  have e : v = v' := by
    have : ([] ++ [v])[0]? = some v' := h1
    simpa using this
  subst e
  exact h3.1
end Q
namespace Q
open PySem PySem.Spec PySem.Calls PyProof.Rows L2 PySem.W
/-! ### a, .., *b, .., c = a tuple -/
section
variable {prog : Program} {w : World} {A : Around} {E : Value → Shared → Prop} {s : Shared} {env : Env} {elts : List Expr} {k : Nat} {pos : Pos}
theorem star_tup {l : Addr} {items : Array Value} {n i : Nat} {Q : List Value → Shared → Prop} (hl : IsTup s.heap l items) (hh : A.handled = none) (hi : i < n) (hn : n ≤ items.size + 1) (hz : items.size ≤ 16384)
    (h : ∀ h₂ tk, Heap.ExtBut s.heap.objs.size s.heap h₂ → Q (items.toList.take i ++ [.ref h₂.objs.size] ++ (items.toList.drop i).drop (items.size + 1 - n)) { s with heap := h₂.push { cls := .type "list", data := .seq ((items.toList.drop i).take (items.size + 1 - n)).toArray }, toks := tk }) : wpAny (model prog w) A (unpackItems (.ref l) n (some i)) Q E s := by
  have hlt : l ≠ s.heap.objs.size := by obtain ⟨o, ho, _⟩ := hl; exact Nat.ne_of_lt (Heap.lt_size ho)
  unfold unpackItems
  refine wpAny_bind ?_
  unfold notIterableAtAll
  refine wpAny_bind (wpAny_specialOf hl.typeIs slot_tuple_iter.lookup ?_)
  refine wpAny_pure ?_
  simp only [Bool.false_eq_true, if_false]
  refine wpAny_bind (wpAny_holding (iter_tuple hl ?_))
  refine wpAny_bind (wpAny_holding (draw_tuple hlt i 0 _ _ ⟨_, Heap.get?_push_size _ rfl, rfl, rfl⟩ (hl.push _) (by omega) fun h₁ hit₁ hs₁ => ?_))
  have hl₁ : IsTup h₁ l items := (hl.push _).extBut hs₁.extBut hlt
  rw [Nat.zero_add] at hit₁
  have hit₁' := hit₁
  obtain ⟨oi, hoi, _⟩ := hit₁'
  have hl₁' := hl₁
  obtain ⟨ol, hol, _⟩ := hl₁'
  rw [List.drop_zero]
  have hfl : (items.toList.take i).length = i := by rw [List.length_take, Array.length_toList]; omega
  rw [if_neg (show ¬ ((items.toList.take i).length < i) by rw [hfl]; omega)]
  refine wpAny_bind (wpAny_holding (kun_collect (s := { s with heap := h₁ }) (T := "tuple_iterator") (.inr (.inr (.inr rfl))) (Walks.tuple (A := A.in1) hh s.heap.objs.size l hlt items) (fun j u st => st.1.typeIs) (k := i) (by omega) ⟨hit₁, hl₁⟩ (Heap.lt_size hoi) (Heap.lt_size hol) (fun h₂ tk hk => ?_) (by rw [sizeLine_eq]; omega)))
  have hrl : (items.toList.drop i).length = items.size - i := by rw [List.length_drop, Array.length_toList]
  have hmid : (items.toList.drop i).length - (n - 1 - i) = items.size + 1 - n := by rw [hrl]; omega
  show wpAny _ _ (if (items.toList.drop i).length < n - 1 - i then _ else _) _ _ _
  rw [if_neg (by rw [hrl]; omega)]
  show wpAny _ _ (newList ((items.toList.drop i).take ((items.toList.drop i).length - (n - 1 - i))) >>= fun d => pure (items.toList.take i ++ [d] ++ (items.toList.drop i).drop ((items.toList.drop i).length - (n - 1 - i)))) _ _ _
  rw [hmid]
  have he : Heap.ExtBut s.heap.objs.size s.heap h₂ := fun b o hb e => hk b o hb (hs₁.extBut b o hb (Heap.get?_push_of_some _ e))
  exact wpAny_bind (wpAny_newList (s := { s with heap := h₂, toks := tk }) (wpAny_pure (h h₂ tk he)) (by rw [List.length_take, hrl, sizeLine_eq]; omega))
end
end Q

namespace Q
open PySem PySem.Spec PySem.Calls PyProof.Rows L2
def gStar (K : PySem.W.Frag) (n i : Nat) (t : TGs) : TG := fun v σ H Q => ∃ a xs, v = .ref a ∧ SqT K H a xs ∧ i < n ∧ n ≤ xs.length + 1 ∧ xs.length ≤ 16384 ∧ ∀ D, H D = none → t (xs.take i ++ [.ref D] ++ (xs.drop i).drop (xs.length + 1 - n)) σ (upd H D (.lst ((xs.drop i).take (xs.length + 1 - n)))) Q
theorem vals_take {xs : List V} {us : List Value} (r : Vals xs us) : ∀ i, Vals (xs.take i) (us.take i) := by
  induction r with
  | nil => intro i; simp; exact .nil
  | cons h r ih =>
    intro i
    cases i with
    | zero => exact .nil
    | succ i => exact .cons h (ih i)
theorem vals_drop {xs : List V} {us : List Value} (r : Vals xs us) : ∀ i, Vals (xs.drop i) (us.drop i) := by
  induction r with
  | nil => intro i; simp; exact .nil
  | cons h r ih =>
    intro i
    cases i with
    | zero => exact .cons h r
    | succ i => exact ih i
theorem vals_app {xs ys : List V} {us ws : List Value} (r : Vals xs us) (r2 : Vals ys ws) : Vals (xs ++ ys) (us ++ ws) := by
  induction r with
  | nil => exact r2
  | cons h r ih => exact .cons h ih
theorem pgs_star {X : Cx} {e : Expr} {es : List Expr} {t : TG} {u : TGs} {p : Pos} (h1 : PG X e t) (h2 : PGs X es u)
    (hs : (assignEach (.Starred e p :: es) X.env).map (·.2) = assign e X.env :: (assignEach es X.env).map (·.2) := by rfl) : PGs X (.Starred e p :: es) (gCons t u) := by
  refine ⟨fun pins s σ H vs us Q I r h => ?_⟩
  obtain ⟨v, vr, e1, h⟩ := h
  subst e1
  cases r with
  | cons r rr =>
    rw [hs]
    refine assignInOrder_cons (thn (h1.run pins s σ H _ _ _ I r h) fun _ s1 ⟨σ1, H1, I1, q1⟩ => ?_)
    exact h2.run pins s1 σ1 H1 _ _ Q I1 rr q1
theorem pg_star {X : Cx} {es : List Expr} {kk i : Nat} {t : TGs} {n : Nat} {pos : Pos} (hc : X.calm = true) (h : PGs X es t)
    (hn : (assignEach es X.env).length = n := by rfl) (hst : (assignEach es X.env).findIdx? (·.1) = some i := by rfl) : PG X (.Tuple es kk pos) (gStar X.K n i t) := by
  refine ⟨fun pins s σ H v u Q I r hw => ?_⟩
  obtain ⟨a, xs, e1, hq, hi, hl, hz, hw⟩ := hw
  subst e1
  cases r
  obtain ⟨its, rv, ht, _⟩ := I.tuple hq
  have hlen : its.length = xs.length := rv.length.symm
  rw [assign_Tuple]
  refine wpAny_bind (wpAny_standAt ?_)
  unfold unpack
  rw [hn, hst]
  refine wpAny_bind (wpAny_holding (star_tup ht (I.ok.hd hc) hi (by simp; omega) (by simp; omega) fun h₂ tk hx => ?_))
  have I1 : Inv X pins σ H { s with heap := h₂, toks := tk } := I.kept (t' := tk) fun b o e => hx b o (Nat.ne_of_lt (Heap.lt_size e)) e
  have hf : H h₂.objs.size = none := I1.hok.fresh (Nat.le_refl _)
  have es : its.toArray.toList = its := by simp
  have ez : its.toArray.size = xs.length := by simp [hlen]
  rw [es, ez]
  have I2 := I1.laid (a := h₂.objs.size) (o := .lst ((xs.drop i).take (xs.length + 1 - n))) (h' := h₂.push { cls := .type "list", data := .seq ((its.drop i).take (xs.length + 1 - n)).toArray }) (t' := tk) (fun b u e => Heap.get?_push_of_some _ e) (Nat.le_refl _)
    ⟨by rw [List.length_take, List.length_drop, sizeLine_eq]; omega, _, _, vals_take (vals_drop rv i) _, Heap.get?_push_size _ rfl⟩
  exact h.run pins _ σ _ _ _ Q I2 (vals_app (vals_app (vals_take rv i) (.cons (show RelV (.ref h₂.objs.size) _ from rfl) .nil)) (vals_drop (vals_drop rv i) _)) (hw _ hf)
end Q

namespace Q
open PySem PySem.Spec PySem.Calls PyProof.Rows L2
section
variable {X : Cx} {s s1 : S} {e : Expr} {x y : D} {ds : List D} {D' : Ds} {n1 n2 n3 : Str} {p1 p2 p3 p4 pt pos : Pos} {kt : Nat}
/-- a, b, *c = e -/
theorem w1_star2 (i j m : Nat) (h : EA X s e s1 (.d (.tup (x :: y :: ds)))) (k : D'.nx ⟨((s1.ρ.set i (.d x)).set j (.d y)).set m (.o s1.μ.length), s1.μ ++ [.fl ds]⟩) (hN : X.N.Nodup) (hz : ds.length ≤ 16000 := by exact Nat.le_of_ble_eq_true rfl)
    (hi : X.N[i]? = some n1 := by rfl) (hj : X.N[j]? = some n2 := by rfl) (hm : X.N[m]? = some n3 := by rfl) (l1 : Loc X.env.scope n1 := by first | exact Or.inl rfl | exact Or.inr rfl) (l2 : Loc X.env.scope n2 := by first | exact Or.inl rfl | exact Or.inr rfl) (l3 : Loc X.env.scope n3 := by first | exact Or.inl rfl | exact Or.inr rfl)
    (f1 : X.fn n1 = true ∨ X.env.scope.names.lookup n1 = some .local := by first | exact .inl rfl | exact .inr rfl) (f2 : X.fn n2 = true ∨ X.env.scope.names.lookup n2 = some .local := by first | exact .inl rfl | exact .inr rfl) (f3 : X.fn n3 = true ∨ X.env.scope.names.lookup n3 = some .local := by first | exact .inl rfl | exact .inr rfl)
    (hs : swapsWithSole [.Tuple [.Name n1 p1, .Name n2 p2, .Starred (.Name n3 p3) p4] kt pt] e pos.line X.env = pure false := by rfl) (hw : swappedStores [.Tuple [.Name n1 p1, .Name n2 p2, .Starred (.Name n3 p3) p4] kt pt] e X.env = pure none := by rfl) (h1 : (assignEach [.Tuple [.Name n1 p1, .Name n2 p2, .Starred (.Name n3 p3) p4] kt pt] X.env).map (·.2) = [assign (.Tuple [.Name n1 p1, .Name n2 p2, .Starred (.Name n3 p3) p4] kt pt) X.env] := by rfl)
    (ha : assignEach [.Name n1 p1, .Name n2 p2, .Starred (.Name n3 p3) p4] X.env = [(false, assign (.Name n1 p1) X.env), (false, assign (.Name n2 p2) X.env), (true, assign (.Name n3 p3) X.env)] := by rfl)
    (ha2 : assignEach [.Name n2 p2, .Starred (.Name n3 p3) p4] X.env = [(false, assign (.Name n2 p2) X.env), (true, assign (.Name n3 p3) X.env)] := by rfl) (ha3 : assignEach [.Starred (.Name n3 p3) p4] X.env = [(true, assign (.Name n3 p3) X.env)] := by rfl)
    (hc : X.calm = true := by rfl) : W1 X s (.Assign [.Tuple [.Name n1 p1, .Name n2 p2, .Starred (.Name n3 p3) p4] kt pt] e pos) D' := fun W σ H F rs as hd g0 p =>
  WSt.of (ps_asg pe_u (pg_star (n := 3) (i := 2) hc (pgs_cons (pg_name hN hi l1 f1) (pgs_cons (pg_name hN hj l2 f2) (pgs_star (pg_name hN hm l3 f3) pgs_nil (by rw [ha3]; rfl)) (by rw [ha2, ha3]; rfl)) (by rw [ha, ha2]; rfl)) (by rw [ha]; rfl) (by rw [ha]; rfl)) hs hw h1) (h σ H F rs as hd _ fun v H1 F1 rs1 as1 i1 q1 g1 r1 => by
    obtain ⟨a, xs, rfl, hq, v1, ws, rfl, rx, v2, vs, rfl, ry, rd⟩ := r1
    refine ⟨a, _, rfl, same_t i1.sub hq, by decide, by simp, by have := rd.len; simp; omega, fun Dn hD => ?_⟩
    have em : ((v1 :: v2 :: vs).drop 2).take ((v1 :: v2 :: vs).length + 1 - 3) = vs := by simp
    have el : ((v1 :: v2 :: vs).drop 2).drop ((v1 :: v2 :: vs).length + 1 - 3) = [] := by simp
    rw [em, el]
    obtain ⟨hn, gn⟩ := i1.newL hD rd
    refine ⟨v1, _, rfl, v2, _, rfl, .ref Dn, _, rfl, rfl, F1, _, _, ⟨((s1.ρ.set i (.d x)).set j (.d y)).set m (.o s1.μ.length), s1.μ ++ [.fl ds]⟩, ⟨hn.r, ?_⟩, (g0.trans g1).trans gn, (p.trans q1).trans ⟨_, rfl⟩, k⟩
    have hl : rs1.length = s1.μ.length := i1.r.l1
    refine Slots.set m (Slots.set j (Slots.set i hn.sl (p := .d x) (x := some v1) ⟨v1, rfl, rx⟩) (p := .d y) (x := some v2) ⟨v2, rfl, ry⟩) (p := .o s1.μ.length) (x := some (.ref Dn)) ⟨.ref Dn, rfl, by rw [← hl]; simp⟩)
end
end Q
namespace Q
open PySem PySem.Spec PySem.Calls PyProof.Rows L2
section
variable {X : Cx} {s s1 s2 s3 : S} {tg a b c : Expr} {i j st : Int} {n : Nat} {p pos : Pos}
theorem it_range3 (hg : Gl X "range") (hm : X.mg "range" = none) (ha : EA X s a s1 (.d (.int i))) (hb : EA X s1 b s2 (.d (.int j))) (hc : EA X s2 c s3 (.d (.int st))) (h : RgC i j st n)
    (hs : starEach [a, b, c] X.env = (false, eval a X.env) :: starEach [b, c] X.env := by rfl) (hs2 : starEach [b, c] X.env = (false, eval b X.env) :: starEach [c] X.env := by rfl) (hs3 : starEach [c] X.env = (false, eval c X.env) :: starEach [] X.env := by rfl) (hpl : (backTo pos (starEach [b, c] X.env)).any (·.1) = false := by rfl) :
    IT X s tg (.Call (.Name "range" p) [a, b, c] [] pos) s3 n (fun k => .int (i + (k : Nat) * st)) := ⟨_, pi_range3 hg hm pa_u hs hpl, fun σ H F rs as hd R k => (es_cons ha (es_cons hb (es_cons hc es_nil (hs := hs3)) (hs := hs2)) (hs := hs)) σ H F rs as hd _ fun vs H1 F1 rs1 as1 q1 p1 g1 ⟨v, ws, e, r, v2, ws2, e3, r2, v3, ws3, e4, r3, e2⟩ => by
  cases e2; cases e4; cases e3; cases e; cases r; cases r2; cases r3
  exact ⟨i, j, st, n, rfl, h, k _ H1 F1 rs1 as1 q1 p1 g1 gives_rangeC⟩⟩
end
end Q
namespace Q
open PySem PySem.Spec PySem.Calls PyProof.Rows L2
/-! ### keywords -/
def WK (X : Cx) (kws : List Keyword) : TA := fun σ H Q => ∀ (pos : Pos) (pins : List (Addr × Obj)) (s : Shared), Inv X pins σ H s → wpAny (model X.prog X.w) X.A (evalAll ((backToKw pos (keywordEach kws X.env)).map (·.2))) (AP X pins σ Q) X.xe s
theorem pk_u {X : Cx} {kws : List Keyword} : PK X kws (WK X kws) := ⟨fun pos pins s σ H Q I h => h pos pins s I⟩
theorem WK.of {X : Cx} {kws : List Keyword} {t : TA} {σ : L2.St} {H : Hp} {Q : List V → Hp → Prop} (hp : PK X kws t) (h : t σ H Q) : WK X kws σ H Q := fun pos pins s I => hp.run pos pins s σ H Q I h
def EKs (X : Cx) (s : S) (kws : List Keyword) (s' : S) (xs : List Ar) : Prop := ∀ σ H F rs as, Hd X.K σ H F rs as s → ∀ Q : List V → Hp → Prop,
  (∀ vs H' F' rs' as', Hd X.K σ H' F' rs' as' s' → rs <+: rs' → Go as.flatten as'.flatten F H F' H' → ArsOk X.K F' rs' xs vs → Q vs H') → WK X kws σ H Q
section
variable {X : Cx} {s s1 s2 : S} {e : Expr} {es : List Expr} {kws : List Keyword} {nm : Option Str} {kpos p pos : Pos} {x : Ar} {xs zs : List Ar}
theorem ek_nil : EKs X s [] s [] := fun σ H F rs as hd Q k => WK.of pk_nil (k [] H F rs as hd (refl_pre _) (Go.refl _ _ _) rfl)
theorem ek_cons (h : EA X s e s1 x) (h2 : EKs X s1 kws s2 xs) : EKs X s (⟨nm, e, kpos⟩ :: kws) s2 (x :: xs) := fun σ H F rs as hd Q k =>
  WK.of (pk_cons pe_u pk_u) (h σ H F rs as hd _ fun v H1 F1 rs1 as1 h1 p1 g1 r1 => h2 σ H1 F1 rs1 as1 h1 _ fun vs H2 F2 rs2 as2 h2 p2 g2 r2 => k (v :: vs) H2 F2 rs2 as2 h2 (p1.trans p2) (g1.trans g2) ⟨v, vs, rfl, r1.mono g2.fz p2, r2⟩)
/-- a def that can be called with n values by place and the keywords ks -/
def ClK (P : Program) (w : World) (K : PySem.W.Frag) (mg : Str → Option Value) (base : Heap) (nm : Str) (n k : Nat) (ks : List Str) (gV : List V → List V → List V) (Φ : Ct) : Prop :=
  ∃ (f : Addr) (fd : FuncData) (ps : List Str) (g : List Value → List Value → List Value), FnOk P w K mg base CX0 k f fd ps (spOf K Φ) ∧ mg nm = some (.ref f) ∧ PySem.W.keepIn K (.ref f) = true ∧ KBn K fd ps n ks g gV
theorem ars_d {K : PySem.W.Frag} {F : Hp} {rs : List V} : ∀ {ds : List D} {vs : List V}, Reps K F ds vs → ArsOk K F rs (ds.map Ar.d) vs
  | [], _, h => h
  | d :: ds, _, ⟨v, vs, e, r, rr⟩ => ⟨v, vs, e, r, ars_d rr⟩
theorem ag_d {μ : List T} : ∀ ds : List D, agOf μ (ds.map Ar.d) = some (ds.map Ag.d) ∧ oks (ds.map Ar.d) = []
  | [] => ⟨rfl, rfl⟩
  | d :: ds => by
    obtain ⟨h1, h2⟩ := ag_d (μ := μ) ds
    exact ⟨by show (agOf μ (ds.map Ar.d)).map _ = _; rw [h1]; rfl, h2⟩
/-- f(e, .., k = v, ..) of a function of data -/
theorem ex_puK {nm : Str} {n k : Nat} {ks : List Str} {gV : List V → List V → List V} {ι : Type} {args : ι → List D} {pre : ι → Prop} {val : ι → T} {Ψ : S → Ar → Prop} {ds es' : List D} (C : ClK X.prog X.w X.K X.mg X.base nm n k ks gV (pu args pre val)) (hr : Room k X.A) (i : ι)
    (h : EAs X s (e :: es) s1 xs) (hk : EKs X s1 kws s2 zs) (ha : allD xs = some ds) (hz : allD zs = some es') (hp : pre i)
    (hgv : ∀ (F : Hp) vs ws, Reps X.K F ds vs → Reps X.K F es' ws → Reps X.K F (args i) (gV vs ws)) (l1 : ds.length = n) (l2 : es'.length = ks.length)
    (c : (∃ d, val i = .fz d ∧ Ψ s2 (.d d)) ∨ Ψ ⟨s2.ρ, s2.μ ++ [val i]⟩ (.o s2.μ.length))
    (hg : Gl X nm := by rfl) (hx : X.xe = fun _ _ => False := by rfl) (hall : (backToKw pos (keywordEach kws X.env)).all (·.1.isSome) = true := by rfl) (hks : (backToKw pos (keywordEach kws X.env)).filterMap (·.1) = ks := by rfl)
    (hdb : (nm == ("__debug__" : Str)) = false := by decide) (he : starEach (e :: es) X.env = (false, eval e X.env) :: starEach es X.env := by rfl)
    (hpl : ((backTo pos (starEach (e :: es) X.env)).any (·.1) || (backToKw pos (keywordEach kws X.env)).any (·.1.isNone)) = false := by rfl) :
    EX X s (.Call (.Name nm p) (e :: es) kws pos) Ψ := by
  obtain ⟨f, fd, ps, g, G, hm, hkp, hb⟩ := C
  intro σ H F rs as hd Q q
  refine WE.of (pe_callN G hr hg hm hkp hb (CX := CX0) (E := E0) pass0 pa_u pk_u hall hks hdb he hpl) (h σ H F rs as hd _ fun vs H1 F1 rs1 as1 h1 p1 g1 r1 => hk σ H1 F1 rs1 as1 h1 _ fun ws H2 F2 rs2 as2 h2 p2 g2 r2 => ?_)
  have rd := Reps.mono g2.fz _ _ (allD_reps ha r1)
  have rz := allD_reps hz r2
  refine ⟨by rw [rd.len, l1], by rw [rz.len, l2], ?_⟩
  obtain ⟨e1, e2⟩ := ag_d (μ := s2.μ) (args i)
  refine call_in (Φ := pu args pre val) i h2 (ars_d (rs := rs2) (hgv F2 vs ws rd rz)) e1 hp (by rw [e2]; exact .nil) (fun r outs ⟨z, _⟩ => by rw [z, e2]; rfl) fun r outs ⟨z1, z2⟩ v H' F' as' h' g' => ?_
  subst z1 z2
  rw [e2] at h'
  have h' : Hd X.K σ H' F' (rs2 ++ [v]) as' ⟨s2.ρ, s2.μ ++ [val i]⟩ := h'
  rcases c with ⟨d, ed, c⟩ | c
  · rw [ed] at h'
    obtain ⟨as2, q1, q2, q3⟩ := h'.dropFz (h2.sl.mono g'.fz fun _ _ q => q)
    exact q _ _ c v H' F' _ as2 q1 (p1.trans p2) ((g1.trans g2).trans (g'.sub q2)) q3
  · refine q _ _ c v H' F' _ as' h' ((p1.trans p2).trans ⟨_, rfl⟩) ((g1.trans g2).trans g') ?_
    show (rs2 ++ [v])[s2.μ.length]? = _
    rw [← h2.r.l1]; simp
end
section
variable {K : PySem.W.Frag} {x qual : Str} {st : Stmt} {f : Addr} {fd : FuncData} {ps : List Str}
/-- all keyword parameters are told -/
theorem kb_all (F : Fun K x qual st f fd) (n : Nat) (ks : List Str) (g : {α : Type} → List α → List α → List α) (hrel : ∀ {vs zs : List V} {us ws : List Value}, Vals vs us → Vals zs ws → Vals (g vs zs) (g us ws))
    (h : ∀ (kV doc pm : Value) (an : Option Addr) (cdv ct : Value) (us ws : List Value), us.length = n → ws.length = ks.length → bindArgs (PySem.W.fnOf x qual (defArgs st) (defBody st) (defScope st) .none kV doc pm an cdv ct) ⟨us, ks.zip ws⟩ = pure (ps.zip (g us ws))) : KBn K fd ps n ks (fun us ws => g us ws) (fun vs zs => g vs zs) := by
  obtain ⟨oc, od, kV, doc, pm, an, cdv, ct, osl, rfl, lk, hcd⟩ := F.ex
  exact ⟨fun s us ws X l1 l2 => .of_eq (h kV doc pm an cdv ct us ws l1 l2), fun r1 r2 => hrel r1 r2⟩
/-- some keyword-only parameters lack (ms: names and defaults) -/
theorem kb_dfl (F : Fun K x qual st f fd) {kws : List (Str × V)} (hK : ∀ {oc : Value} {od : Option Addr} {kV doc pm : Value} {an : Option Addr} {cdv ct : Value} {osl : Array (Option Value)}, K.lookup f = some ⟨oc, od, .func (PySem.W.fnOf x qual (defArgs st) (defBody st) (defScope st) .none kV doc pm an cdv ct), osl⟩ → ∃ D : Addr, kV = .ref D ∧ ∀ q ∈ kws, ∃ u, PySem.W.nsIn K D q.1 = some (some u) ∧ RelV q.2 u)
    (n : Nat) (ks : List Str) (g : {α : Type} → List α → List α → List α → List α) (hrel : ∀ {vs mz zs : List V} {us mv ws : List Value}, Vals vs us → Vals mz mv → Vals zs ws → Vals (g vs mz zs) (g us mv ws))
    (h : ∀ (D : Addr) (doc pm : Value) (an : Option Addr) (cdv ct : Value) (us mv ws : List Value), us.length = n → mv.length = kws.length → ws.length = ks.length →
      KwChain D ((kws.map (·.1)).zip mv) (bindArgs (PySem.W.fnOf x qual (defArgs st) (defBody st) (defScope st) .none (.ref D) doc pm an cdv ct) ⟨us, ks.zip ws⟩) (ps.zip (g us mv ws))) :
    ∃ mv : List Value, KBn K fd ps n ks (fun us ws => g us mv ws) (fun vs zs => g vs (kws.map (·.2)) zs) := by
  obtain ⟨oc, od, kV, doc, pm, an, cdv, ct, osl, rfl, lk, hcd⟩ := F.ex
  obtain ⟨D, rfl, hq⟩ := hK lk
  obtain ⟨mv, hl, rk, hks⟩ := kwd_vals hq
  refine ⟨mv, ⟨fun s us ws X l1 l2 => ?_, fun r1 r2 => hrel r1 rk r2⟩⟩
  exact BindsTo.of_looks fun M => KwChain.looks X hks (h D doc pm an cdv ct us mv ws l1 hl l2)
end
end Q
namespace Q
open PySem PySem.Spec PyProof.Rows L2
section
variable {X : Cx} {s s1 s2 s3 : S} {elt iter tg cond : Expr} {scope : Scope} {pos : Pos} {n : Nat} {it : Nat → D} {G : TG} {is : List Nat} {g : D → List Sl → Option (List Sl)} {α : Type} {D' : Ds} {nm : Str}
/-- name = [.. for .. in .. if ..] -/
theorem w1_setLcF (i : Nat) {py spos : Pos} (xs : List α) (item f : α → D) (b : α → Bool) (own : List (Str × Nat)) (hi : IT X s tg iter s1 n it) (hn : n = xs.length) (hit : ∀ i a, xs[i]? = some a → it i = item a) (hN : X.N.Nodup) (hsw : swapsWith (.ListComp elt [⟨tg, iter, [cond], 0⟩] scope pos) (some (.Name nm py)) spos.line X.env = pure true) (ok : BlkOk X.N X.env.scope scope own)
    (hG : ∀ (sh : Shared) (H0 : Hp) (C : Addr) (cl : List (Str × Addr)) (fp : List Addr), PG (X.blk sh H0 scope (PySem.compEnvC scope cl C X.env) fp) tg G) (hS : GS X.K G is g)
    (he : ∀ a ∈ xs, EltF X s1 scope cond elt g (own.map (·.2)) (item a) (b a) (f a)) (hl : xs.length ≤ 16777216)
    (k : D'.nx ⟨s1.ρ.set i (.o s1.μ.length), s1.μ ++ [.fl ((xs.filter b).map f)]⟩)
    (hv : ∀ i ∈ is, i ∈ own.map (·.2) := by decide) (hy : X.N[i]? = some nm := by rfl) (hyl : X.env.scope.names.lookup nm = some .local := by rfl) (hc : X.calm = true := by rfl) (hf : ∀ x, foldedSetIterable iter X.env x = pure x := by intro _; rfl) :
    W1 X s (.Assign [.Name nm py] (.ListComp elt [⟨tg, iter, [cond], 0⟩] scope pos) spos) D' := by
  have e : ((xs.take n).filter b).map f = (xs.filter b).map f := by rw [hn, List.take_length]
  rw [← e] at k
  exact w1_setLc (t := bT X scope cond) (ifs := [cond]) i own (fun _ => s1.μ) (fun i => ((xs.take i).filter b).map f) hi hN hsw ok hG hS (fun s H0 C cl fp => pts_b s H0 C cl fp) (by rw [hn]; exact hl) rfl rfl (fun _ => rfl) (fun i h => lcTurnF hit he i (by rw [← hn]; exact h)) k hv hy hyl hc hf
end
end Q
namespace Q
open PySem PySem.Spec PyProof.Rows L2
theorem rep_non {K : PySem.W.Frag} {F : Hp} {d : D} {v : V} {t : Bool} (a : Rep K F d v) (h : t = true ↔ d = .non) (hv : ∀ w, d ≠ .val w) : decide (v = .non) = t := by
  cases t with
  | true => have e := h.mp rfl; subst e; cases a; rfl
  | false =>
    refine decide_eq_false fun z => ?_
    subst z
    cases d with
    | non => exact absurd (h.mpr rfl) Bool.false_ne_true
    | bl _ => cases a
    | int _ => cases a
    | str _ => cases a
    | lst _ => obtain ⟨_, _, e, _⟩ := a; cases e
    | tup _ => obtain ⟨_, _, e, _⟩ := a; cases e
    | rl _ => obtain ⟨_, _, e, _⟩ := a; cases e
    | ins _ _ _ => obtain ⟨_, _, _, e, _⟩ := a; cases e
    | val w => exact absurd rfl (hv w)
theorem ov_notN {X : Cx} {s : S} {d : D} {t : Bool} (h : t = true ↔ d = .non) (hv : ∀ w, d ≠ .val w := by intro _ z; cases z) : OpV X s (fun x y H Q => y = .non ∧ Q (.bl (!decide (x = .non))) H) (.d d) (.d .non) (.bl (!t)) := fun σ H F rs as v w hd a b Q k => by
  cases b
  refine ⟨rfl, k _ H F go0 hd.sub ?_⟩
  show V.bl _ = V.bl _
  rw [rep_non a h hv]
end Q
/-! Runs step by step: judgements with an outer world (for what is raised), values told by what they are. -/
namespace Q
open PySem L2

/-- an exception: its class, its own field -/
structure Xc where
  C : Addr
  f : Option (Str × D)
def XcOk (K : PySem.W.Frag) (F : Hp) (x : Xc) (cls : Value) (d : Option Addr) : Prop := cls = .ref x.C ∧ match x.f with
  | none => d = none
  | some (f, e) => ∃ a v, d = some a ∧ F a = some (.xd [(f, v)]) ∧ Rep K F e v
/-- where one stands: the frame, the world at its begin, what may be raised -/
structure Gm where
  X : Cx
  W : Option Wd
  Ξ : S → Xc → Prop
def Ot (W : Option Wd) (H F : Hp) (rs : List V) (as : List (List Addr)) : Prop := ∀ w, W = some w → Go w.as as.flatten w.F w.H F H ∧ w.rs <+: rs
def WxOf (K : PySem.W.Frag) (W : Option Wd) (Ξ : S → Xc → Prop) : WX := fun cls d σ H => ∃ F rs as s x, Hd K σ H F rs as s ∧ Ot W H F rs as ∧ XcOk K F x cls d ∧ Ξ s x
def Gm.tk (G : Gm) : Prop := Takes G.X (WxOf G.X.K G.W G.Ξ)
theorem Ot.next {W : Option Wd} {H F H' F' : Hp} {rs rs' : List V} {as as' : List (List Addr)} (o : Ot W H F rs as) (p : rs <+: rs') (g : Go as.flatten as'.flatten F H F' H') : Ot W H' F' rs' as' := fun w e => ⟨(o w e).1.trans g, (o w e).2.trans p⟩
/-- what follows an expression -/
def VQ (K : PySem.W.Frag) (σ : St) (H F : Hp) (rs : List V) (as : List (List Addr)) (Ψ : S → Ar → Prop) (Q : VK) : Prop := ∀ s1 x, Ψ s1 x → ∀ v H' F' rs' as', Hd K σ H' F' rs' as' s1 → rs <+: rs' → Go as.flatten as'.flatten F H F' H' → ArOk K F' rs' x v → Q v H'
def BQ (K : PySem.W.Frag) (σ : St) (H F : Hp) (rs : List V) (as : List (List Addr)) (Θ : S → Bool → Prop) (Q : Bool → Hp → Prop) : Prop := ∀ s1 b, Θ s1 b → ∀ H' F' rs' as', Hd K σ H' F' rs' as' s1 → rs <+: rs' → Go as.flatten as'.flatten F H F' H' → Q b H'
section
variable {K : PySem.W.Frag} {σ : St} {H F H' F' : Hp} {rs rs' : List V} {as as' : List (List Addr)} {Ψ Ψ' : S → Ar → Prop} {Θ : S → Bool → Prop} {Q : VK} {QB : Bool → Hp → Prop}
theorem VQ.go (k : VQ K σ H F rs as Ψ Q) (p : rs <+: rs') (g : Go as.flatten as'.flatten F H F' H') : VQ K σ H' F' rs' as' Ψ Q := fun s1 x h v H2 F2 rs2 as2 h2 p2 g2 a2 => k s1 x h v H2 F2 rs2 as2 h2 (p.trans p2) (g.trans g2) a2
theorem BQ.go (k : BQ K σ H F rs as Θ QB) (p : rs <+: rs') (g : Go as.flatten as'.flatten F H F' H') : BQ K σ H' F' rs' as' Θ QB := fun s1 x h H2 F2 rs2 as2 h2 p2 g2 => k s1 x h H2 F2 rs2 as2 h2 (p.trans p2) (g.trans g2)
end

def EY (G : Gm) (s : S) (e : Expr) (Ψ : S → Ar → Prop) : Prop := ∀ σ H F rs as, Hd G.X.K σ H F rs as s → Ot G.W H F rs as → ∀ Q : VK, VQ G.X.K σ H F rs as Ψ Q → WE G.X e σ H Q
def ESY (G : Gm) (s : S) (es : List Expr) (Ψ : S → List Ar → Prop) : Prop := ∀ σ H F rs as, Hd G.X.K σ H F rs as s → Ot G.W H F rs as → ∀ Q : List V → Hp → Prop,
  (∀ s1 xs, Ψ s1 xs → ∀ vs H' F' rs' as', Hd G.X.K σ H' F' rs' as' s1 → rs <+: rs' → Go as.flatten as'.flatten F H F' H' → ArsOk G.X.K F' rs' xs vs → Q vs H') → WA G.X es σ H Q
def TY (G : Gm) (s : S) (e : Expr) (Θ : S → Bool → Prop) : Prop := ∀ σ H F rs as, Hd G.X.K σ H F rs as s → Ot G.W H F rs as → ∀ Q : Bool → Hp → Prop, BQ G.X.K σ H F rs as Θ Q → WTt G.X e σ H Q
def TWY (G : Gm) (s : S) (e : Expr) (Θ : S → Bool → Prop) : Prop := ∀ σ H F rs as, Hd G.X.K σ H F rs as s → Ot G.W H F rs as → ∀ Q : Bool → Hp → Prop, BQ G.X.K σ H F rs as Θ Q → WPt G.X e σ H Q

/-- any rule of an operation -/
def any2 (X : Cx) (f : Value → Value → Sem Value) : R2 := fun x y H Q => ∃ r, OpR X f r ∧ r x y H Q
theorem any2_ok {X : Cx} {f : Value → Value → Sem Value} : OpR X f (any2 X f) := fun pins s σ H x y v u Q I rx ry ⟨r, ho, h⟩ => ho pins s σ H x y v u Q I rx ry h
def any1 (X : Cx) (f : Value → Sem Value) : V → Hp → VK → Prop := fun x H Q => ∃ r, UnR X f r ∧ r x H Q
theorem any1_ok {X : Cx} {f : Value → Sem Value} : UnR X f (any1 X f) := fun pins s σ H x v Q I rx ⟨r, ho, h⟩ => ho pins s σ H x v Q I rx h
def anyC (X : Cx) (f : Value) : List V → Hp → VK → Prop := fun xs H Q => ∃ r, CallR X f r ∧ r xs H Q
theorem anyC_ok {X : Cx} {f : Value} : CallR X f (anyC X f) := fun pins s σ H xs us Q I rx ⟨r, ho, h⟩ => ho pins s σ H xs us Q I rx h
/-- an operation on two values: what follows -/
def B2 (K : PySem.W.Frag) (r : R2) (s : S) (x y : Ar) (Ψ : S → Ar → Prop) : Prop := ∀ σ H F rs as v w, Hd K σ H F rs as s → ArOk K F rs x v → ArOk K F rs y w → ∀ Q : VK, VQ K σ H F rs as Ψ Q → r v w H Q
def B1 (K : PySem.W.Frag) (r : V → Hp → VK → Prop) (s : S) (x : Ar) (Ψ : S → Ar → Prop) : Prop := ∀ σ H F rs as v, Hd K σ H F rs as s → ArOk K F rs x v → ∀ Q : VK, VQ K σ H F rs as Ψ Q → r v H Q
def BC (K : PySem.W.Frag) (r : List V → Hp → VK → Prop) (s : S) (xs : List Ar) (Ψ : S → Ar → Prop) : Prop := ∀ σ H F rs as vs, Hd K σ H F rs as s → ArsOk K F rs xs vs → ∀ Q : VK, VQ K σ H F rs as Ψ Q → r vs H Q
abbrev Bin (X : Cx) (op : Operator) := B2 X.K (any2 X (binaryOp op))
abbrev Cmp (X : Cx) (op : CmpOp) := B2 X.K (any2 X (compareOp op))
abbrev Uno (X : Cx) (op : UnaryOp) := B1 X.K (any1 X (unaryOp op))
abbrev Cal (X : Cx) (f : Value) := BC X.K (anyC X f)

/-! ### freezing on demand -/
def lowB : Nat → List Sl → Bool
  | _, [] => true
  | n, .o k :: ρ => Nat.blt k n && lowB n ρ
  | n, _ :: ρ => lowB n ρ
theorem lowB_low : ∀ {n : Nat} {ρ : List Sl}, lowB n ρ = true → low n ρ = true
  | _, [], _ => rfl
  | n, .o k :: ρ, h => by
    have h' : (Nat.blt k n && lowB n ρ) = true := h
    rw [Bool.and_eq_true] at h'
    have h1 : k < n := by have := h'.1; unfold Nat.blt at this; exact Nat.le_of_ble_eq_true this
    show (decide (k < n) && low n ρ) = true
    rw [Bool.and_eq_true]
    exact ⟨decide_eq_true h1, lowB_low h'.2⟩
  | _, .d _ :: ρ, h => lowB_low (ρ := ρ) h
  | _, .un :: ρ, h => lowB_low (ρ := ρ) h
/-- an owned thing as data: the last one made is dropped, another one stays, frozen -/
def dmO (n : Nat) (s : S) (k : Nat) : Option T → Option (S × D)
  | none => none
  | some t => match t.ok, Nat.beq (k + 1) s.μ.length && Nat.ble n k && lowB k s.ρ with
    | false, _ => none
    | true, true => some (⟨s.ρ, s.μ.take k⟩, t.fr)
    | true, false => some (⟨frzS k t.fr s.ρ, s.μ.set k (.fz t.fr)⟩, t.fr)
def dm (n : Nat) (s : S) : Ar → Option (S × D)
  | .d d => some (s, d)
  | .o k => dmO n s k (s.μ[k]?)
/-- from the right -/
def dms (n : Nat) (s : S) : List Ar → Option (S × List D)
  | [] => some (s, [])
  | x :: xs => match dms n s xs with
    | none => none
    | some (s1, ds) => match dm n s1 x with
      | none => none
      | some (s2, d) => some (s2, d :: ds)
theorem dm_ok {K : PySem.W.Frag} {n : Nat} {s s' : S} {x : Ar} {d : D} {σ : St} {H F : Hp} {rs : List V} {as : List (List Addr)} {v : V} (h : dm n s x = some (s', d)) (hd : Hd K σ H F rs as s) (a : ArOk K F rs x v) (hn : n ≤ rs.length) :
    ∃ F' rs' as', Hd K σ H F' rs' as' s' ∧ rs' <+: rs ∧ n ≤ rs'.length ∧ Go as.flatten as'.flatten F H F' H ∧ Rep K F' d v := by
  cases x with
  | d e => cases h; exact ⟨F, rs, as, hd, refl_pre _, hn, Go.refl _ _ _, a⟩
  | o k =>
    have h : dmO n s k (s.μ[k]?) = some (s', d) := h
    have a' : rs[k]? = some v := a
    cases q : s.μ[k]? with
    | none => rw [q] at h; cases h
    | some t =>
      rw [q] at h
      dsimp only [dmO] at h
      cases ok : t.ok with
      | false => rw [ok] at h; cases h
      | true =>
        rw [ok] at h
        cases c : (Nat.beq (k + 1) s.μ.length && Nat.ble n k && lowB k s.ρ) with
        | true =>
          rw [c] at h
          cases h
          rw [Bool.and_eq_true, Bool.and_eq_true] at c
          obtain ⟨⟨c1, c2⟩, c3⟩ := c
          have e1 : k + 1 = s.μ.length := Nat.eq_of_beq_eq_true c1
          have e2 : n ≤ k := Nat.le_of_ble_eq_true c2
          have lt : (s.μ.take k).length = k := by rw [List.length_take]; omega
          have es : s = S.add ⟨s.ρ, s.μ.take k⟩ t := by
            show s = ⟨s.ρ, s.μ.take k ++ [t]⟩
            have : s.μ = s.μ.take k ++ [t] := by
              have q1 := List.take_append_drop k s.μ
              have q2 : s.μ.drop k = [t] := by
                rw [List.drop_eq_getElem_cons (by omega), List.drop_eq_nil_of_le (by omega)]
                have := (List.getElem?_eq_some_iff.mp q).2
                rw [this]
              rw [q2] at q1; exact q1.symm
            rw [← this]
          rw [es] at hd
          obtain ⟨rs0, w, F', as', e, h1, h2, h3⟩ := hd.freeze ok (by rw [show (S.mk s.ρ (s.μ.take k)).μ.length = k from lt]; exact lowB_low c3)
          subst e
          have hl0 : rs0.length = k := by rw [h1.r.l1]; exact lt
          have ev : v = w := by
            rw [← hl0] at a'
            simpa using a'.symm
          subst ev
          exact ⟨F', rs0, as', h1, ⟨_, rfl⟩, by omega, h2, h3⟩
        | false =>
          rw [c] at h
          cases h
          obtain ⟨F', as', h1, h2⟩ := hd.frz q ok
          refine ⟨F', rs, as', h1, refl_pre _, hn, h2, ?_⟩
          obtain ⟨v', l, e1, e2, r, _⟩ := h1.r.at (i := k) (t := .fz t.fr) (by rw [List.getElem?_set_self (List.getElem?_eq_some_iff.mp q).1])
          rw [a'] at e1; cases e1
          exact r
theorem dm_ar {K : PySem.W.Frag} {F F' : Hp} {rs rs' : List V} (e : Same F F') (p : rs' <+: rs) {x : Ar} {v : V} (a : ArOk K F rs x v) (h : ∀ k, x = .o k → k < rs'.length) : ArOk K F' rs' x v := by
  cases x with
  | d d => exact Rep.mono e d v a
  | o k =>
    obtain ⟨zs, e⟩ := p
    have a' : rs[k]? = some v := a
    rw [← e, List.getElem?_append_left (h k rfl)] at a'
    exact a'
theorem dms_ok {K : PySem.W.Frag} {n : Nat} {σ : St} {H : Hp} {s : S} : ∀ {xs : List Ar} {s' : S} {ds : List D} {F : Hp} {rs : List V} {as : List (List Addr)} {vs : List V}, dms n s xs = some (s', ds) → Hd K σ H F rs as s → ArsOk K F rs xs vs → n ≤ rs.length →
    ∃ F' rs' as', Hd K σ H F' rs' as' s' ∧ rs' <+: rs ∧ n ≤ rs'.length ∧ Go as.flatten as'.flatten F H F' H ∧ Reps K F' ds vs
  | [], _, _, F, rs, as, _, h, hd, a, hn => by cases h; cases a; exact ⟨F, rs, as, hd, refl_pre _, hn, Go.refl _ _ _, rfl⟩
  | x :: xs, s', ds, F, rs, as, _, h, hd, ⟨v, ws, e, a, b⟩, hn => by
    subst e
    unfold dms at h
    cases q : dms n s xs with
    | none => rw [q] at h; cases h
    | some z =>
      obtain ⟨s1, ds1⟩ := z
      rw [q] at h
      have h : (match dm n s1 x with | none => none | some (s2, d) => some (s2, d :: ds1)) = some (s', ds) := h
      obtain ⟨F1, rs1, as1, h1, p1, n1, g1, r1⟩ := dms_ok q hd b hn
      cases q2 : dm n s1 x with
      | none => rw [q2] at h; cases h
      | some z =>
        obtain ⟨s2, d⟩ := z
        rw [q2] at h
        cases h
        have a1 : ArOk K F1 rs1 x v := dm_ar g1.fz p1 a fun k e => by
          subst e
          have q2 : dmO n s1 k (s1.μ[k]?) = some (s', d) := q2
          cases z : s1.μ[k]? with
          | none => rw [z] at q2; cases q2
          | some t => rw [h1.r.l1]; exact (List.getElem?_eq_some_iff.mp z).1
        obtain ⟨F2, rs2, as2, h2, p2, n2, g2, r2⟩ := dm_ok q2 h1 a1 n1
        exact ⟨F2, rs2, as2, h2, p2.trans p1, n2, g1.trans g2, v, ws, rfl, r2, Reps.mono g2.fz _ _ r1⟩

/-! ### temporary things: the last one made, known to no slot, becomes data -/
def tmO (n : Nat) (s : S) (k : Nat) : Option T → S × Ar
  | none => (s, .o k)
  | some t => match t.ok && (Nat.beq (k + 1) s.μ.length && Nat.ble n k && lowB k s.ρ) with
    | true => (⟨s.ρ, s.μ.take k⟩, .d t.fr)
    | false => (s, .o k)
def tm (n : Nat) (s : S) : Ar → S × Ar
  | .d d => (s, .d d)
  | .o k => tmO n s k (s.μ[k]?)
def neO : Ar → Ar → Bool
  | .o j, .o k => !(Nat.beq j k)
  | _, _ => true
theorem tm_ok {K : PySem.W.Frag} {n : Nat} {s : S} {x : Ar} {σ : St} {H F : Hp} {rs : List V} {as : List (List Addr)} {v : V} (hd : Hd K σ H F rs as s) (a : ArOk K F rs x v) (hn : n ≤ rs.length) :
    ∃ F' rs' as', Hd K σ H F' rs' as' (tm n s x).1 ∧ rs' <+: rs ∧ n ≤ rs'.length ∧ Go as.flatten as'.flatten F H F' H ∧ ArOk K F' rs' (tm n s x).2 v ∧ ∀ z w, neO z x = true → ArOk K F rs z w → ArOk K F' rs' z w := by
  have triv : ∃ F' rs' as', Hd K σ H F' rs' as' s ∧ rs' <+: rs ∧ n ≤ rs'.length ∧ Go as.flatten as'.flatten F H F' H ∧ ArOk K F' rs' x v ∧ ∀ z w, neO z x = true → ArOk K F rs z w → ArOk K F' rs' z w := ⟨F, rs, as, hd, refl_pre _, hn, Go.refl _ _ _, a, fun _ _ _ h => h⟩
  cases x with
  | d e => exact triv
  | o k =>
    show ∃ F' rs' as', Hd K σ H F' rs' as' (tmO n s k (s.μ[k]?)).1 ∧ rs' <+: rs ∧ n ≤ rs'.length ∧ Go as.flatten as'.flatten F H F' H ∧ ArOk K F' rs' (tmO n s k (s.μ[k]?)).2 v ∧ ∀ z w, neO z (.o k) = true → ArOk K F rs z w → ArOk K F' rs' z w
    cases q : s.μ[k]? with
    | none => exact triv
    | some t =>
      dsimp only [tmO]
      cases c : (t.ok && (Nat.beq (k + 1) s.μ.length && Nat.ble n k && lowB k s.ρ)) with
      | false => exact triv
      | true =>
        rw [Bool.and_eq_true] at c
        have hdm : dm n s (.o k) = some (⟨s.ρ, s.μ.take k⟩, t.fr) := by
          show dmO n s k (s.μ[k]?) = _
          rw [q]
          dsimp only [dmO]
          rw [c.1, c.2]
        obtain ⟨F', rs', as', h1, p1, n1, g1, r1⟩ := dm_ok hdm hd a hn
        refine ⟨F', rs', as', h1, p1, n1, g1, r1, fun z w hz az => dm_ar g1.fz p1 az fun j ej => ?_⟩
        subst ej
        have hj : j ≠ k := fun e => by subst e; simp [neO] at hz
        have az' : rs[j]? = some w := az
        have l1 : j < rs.length := (List.getElem?_eq_some_iff.mp az').1
        have c2 := c.2
        rw [Bool.and_eq_true, Bool.and_eq_true] at c2
        have e1 : k + 1 = s.μ.length := Nat.eq_of_beq_eq_true c2.1.1
        have l2 := hd.r.l1
        have l3 := h1.r.l1
        have l4 : (s.μ.take k).length = k := by rw [List.length_take]; omega
        have l3 : rs'.length = (s.μ.take k).length := l3
        omega
/-- both of two -/
def tm2 (n : Nat) (s : S) (x y : Ar) : S × Ar × Ar := match neO x y with
  | false => (s, x, y)
  | true => match tm n s y with
    | (s1, y1) => match neO y1 x with
      | false => (s1, x, y1)
      | true => match tm n s1 x with
        | (s2, x2) => (s2, x2, y1)
theorem neO_comm (x y : Ar) : neO x y = neO y x := by
  cases x <;> cases y <;> first | rfl | (simp only [neO]; congr 1; exact Bool.eq_iff_iff.mpr ⟨fun h => by rw [Nat.eq_of_beq_eq_true h]; exact Nat.beq_refl _, fun h => by rw [Nat.eq_of_beq_eq_true h]; exact Nat.beq_refl _⟩)
theorem tm2_ok {K : PySem.W.Frag} {n : Nat} {s : S} {x y : Ar} {σ : St} {H F : Hp} {rs : List V} {as : List (List Addr)} {v w : V} (hd : Hd K σ H F rs as s) (a : ArOk K F rs x v) (b : ArOk K F rs y w) (hn : n ≤ rs.length) :
    ∃ F' rs' as', Hd K σ H F' rs' as' (tm2 n s x y).1 ∧ rs' <+: rs ∧ n ≤ rs'.length ∧ Go as.flatten as'.flatten F H F' H ∧ ArOk K F' rs' (tm2 n s x y).2.1 v ∧ ArOk K F' rs' (tm2 n s x y).2.2 w := by
  unfold tm2
  cases c : neO x y with
  | false => exact ⟨F, rs, as, hd, refl_pre _, hn, Go.refl _ _ _, a, b⟩
  | true =>
    obtain ⟨F1, rs1, as1, h1, p1, n1, g1, b1, k1⟩ := tm_ok hd b hn
    have a1 := k1 x v c a
    dsimp only
    cases c2 : neO (tm n s y).2 x with
    | false => exact ⟨F1, rs1, as1, h1, p1, n1, g1, a1, b1⟩
    | true =>
      obtain ⟨F2, rs2, as2, h2, p2, n2, g2, a2, k2⟩ := tm_ok h1 a1 n1
      exact ⟨F2, rs2, as2, h2, p2.trans p1, n2, g1.trans g2, a2, k2 _ _ c2 b1⟩
theorem len_le {K : PySem.W.Frag} {σ : St} {H F : Hp} {rs rs1 : List V} {as : List (List Addr)} {s : S} (hd : Hd K σ H F rs as s) (p : rs <+: rs1) : s.μ.length ≤ rs1.length := by rw [← hd.r.l1]; exact p.length_le
theorem pre_pre {rs rs1 rs2 : List V} (p1 : rs <+: rs1) (p2 : rs2 <+: rs1) (h : rs.length ≤ rs2.length) : rs <+: rs2 := List.prefix_of_prefix_length_le p1 p2 h
/-- two operands, settled -/
def Tm2 (n : Nat) (s : S) (x y : Ar) (P : S → Ar → Ar → Prop) : Prop := ∃ s' x' y', tm2 n s x y = (s', x', y') ∧ P s' x' y'
def Tm1 (n : Nat) (s : S) (x : Ar) (P : S → Ar → Prop) : Prop := ∃ s' x', tm n s x = (s', x') ∧ P s' x'
theorem tm2I {n : Nat} {s s' : S} {x y x' y' : Ar} {P : S → Ar → Ar → Prop} (k : P s' x' y') (h : tm2 n s x y = (s', x', y') := by rfl) : Tm2 n s x y P := ⟨s', x', y', h, k⟩
theorem tm1I {n : Nat} {s s' : S} {x x' : Ar} {P : S → Ar → Prop} (k : P s' x') (h : tm n s x = (s', x') := by rfl) : Tm1 n s x P := ⟨s', x', h, k⟩
/-- an operation behind it -/
theorem tm2_b {K : PySem.W.Frag} {r : R2} {n : Nat} {s : S} {x y : Ar} {Ψ : S → Ar → Prop} {σ : St} {H F : Hp} {rs0 rs : List V} {as0 as : List (List Addr)} {F0 H0 : Hp} {v w : V} {Q : VK} (h : Tm2 n s x y fun s' x' y' => B2 K r s' x' y' Ψ) (hd : Hd K σ H F rs as s) (a : ArOk K F rs x v) (b : ArOk K F rs y w)
    (hn : rs0.length = n) (p : rs0 <+: rs) (g : Go as0.flatten as.flatten F0 H0 F H) (k : VQ K σ H0 F0 rs0 as0 Ψ Q) : r v w H Q := by
  obtain ⟨s', x', y', e, h⟩ := h
  obtain ⟨F1, rs1, as1, h1, p1, n1, g1, a1, b1⟩ := tm2_ok (n := n) hd a b (by rw [← hn]; exact p.length_le)
  rw [e] at h1 a1 b1
  exact h σ H F1 rs1 as1 v w h1 a1 b1 Q (k.go (pre_pre p p1 (by omega)) (g.trans g1))

section
variable {G : Gm} {X : Cx} {s s1 s2 s3 : S} {e a b c o : Expr} {es rest : List Expr} {x y z : Ar} {xs : List Ar} {d : D} {ds : List D} {pos p apos : Pos} {nm : Str} {Ψ Ψ' : S → Ar → Prop} {Θ : S → Bool → Prop} {f : Value → Value → Sem Value} {r : R2}
theorem ey_of_ex (h : EX G.X s e Ψ) : EY G s e Ψ := fun σ H F rs as hd _ Q k => h σ H F rs as hd Q k
theorem ey_of_ea (h : EA G.X s e s1 x) (k : Ψ s1 x) : EY G s e Ψ := ey_of_ex (ex_of h k)
theorem ey_mono (h : EY G s e Ψ) (k : ∀ s1 x, Ψ s1 x → Ψ' s1 x) : EY G s e Ψ' := fun σ H F rs as hd ot Q c => h σ H F rs as hd ot Q fun s1 x q => c s1 x (k s1 x q)
theorem b2_V (ho : OpR X f r) (h : OpV X s r x y d) (k : Ψ s (.d d)) : B2 X.K (any2 X f) s x y Ψ := fun σ H F rs as v w hd a b Q c =>
  ⟨r, ho, h σ H F rs as v w hd a b Q fun u H' F' g sb rp => by
    obtain ⟨h1, g1⟩ := hd.pure g sb
    exact c _ _ k u H' F' rs as h1 (refl_pre _) g1 rp⟩
theorem b2_L (ho : OpR X f r) (h : OpL X s r x y ds) (k : Ψ (s.add (.fl ds)) (.o s.μ.length)) : B2 X.K (any2 X f) s x y Ψ := fun σ H F rs as v w hd a b Q c => by
  obtain ⟨ys, q1, q2⟩ := h σ H F rs as v w hd a b
  refine ⟨r, ho, q2 Q fun p hp => ?_⟩
  obtain ⟨h1, g1⟩ := hd.newL hp q1
  refine c _ _ k (.ref p) _ _ _ _ h1 ⟨_, rfl⟩ g1 ?_
  show (rs ++ [V.ref p])[s.μ.length]? = _
  rw [← hd.r.l1]; simp
theorem b1_V {g : Value → Sem Value} {r : V → Hp → VK → Prop} (ho : UnR X g r) (h : UnV X s r x d) (k : Ψ s (.d d)) : B1 X.K (any1 X g) s x Ψ := fun σ H F rs as v hd a Q c =>
  ⟨r, ho, h σ H F rs as v hd a Q fun u H' F' g sb rp => by
    obtain ⟨h1, g1⟩ := hd.pure g sb
    exact c _ _ k u H' F' rs as h1 (refl_pre _) g1 rp⟩
theorem bc_V {g : Value} {r : List V → Hp → VK → Prop} (ho : CallR X g r) (h : CaV X s r xs d) (k : Ψ s (.d d)) : BC X.K (anyC X g) s xs Ψ := fun σ H F rs as v hd a Q c =>
  ⟨r, ho, h σ H F rs as v hd a Q fun u H' F' g sb rp => by
    obtain ⟨h1, g1⟩ := hd.pure g sb
    exact c _ _ k u H' F' rs as h1 (refl_pre _) g1 rp⟩
theorem bc_L {g : Value} {r : List V → Hp → VK → Prop} (ho : CallR X g r) (h : CaL X s r xs ds) (k : Ψ (s.add (.fl ds)) (.o s.μ.length)) : BC X.K (anyC X g) s xs Ψ := fun σ H F rs as v hd a Q c => by
  obtain ⟨ys, q1, q2⟩ := h σ H F rs as v hd a
  refine ⟨r, ho, q2 Q fun p hp => ?_⟩
  obtain ⟨h1, g1⟩ := hd.newL hp q1
  refine c _ _ k (.ref p) _ _ _ _ h1 ⟨_, rfl⟩ g1 ?_
  show (rs ++ [V.ref p])[s.μ.length]? = _
  rw [← hd.r.l1]; simp

/-! ### expressions -/
/-- a slot's content as an operand -/
def Sl.ar : Sl → Option Ar
  | .un => none
  | .d d => some (.d d)
  | .o k => some (.o k)
theorem ey_nm (i : Nat) (x : Ar) (k : Ψ s x) (h : (s.ρ[i]?).bind Sl.ar = some x := by rfl) (hN : G.X.N[i]? = some nm := by rfl) (hv : Vis G.X.env.scope nm := by first | exact Or.inl rfl | exact Or.inr (Or.inl rfl) | exact Or.inr (Or.inr rfl))
    (h1 : (nm == ("__debug__" : Str)) = false := by decide) (h2 : (nm == ("__classdict__" : Str)) = false := by decide) : EY G s (.Name nm pos) Ψ := by
  cases q : s.ρ[i]? with
  | none => rw [q] at h; cases h
  | some l =>
    rw [q] at h
    cases l with
    | un => cases h
    | d d => cases h; exact ey_of_ea (ea_d i q hN hv h1 h2) k
    | o j => cases h; exact ey_of_ea (ea_o i q hN hv h1 h2) k
theorem ey_int {i : Int} {j} (k : Ψ s (.d (.int i))) : EY G s (.Constant (.int i) j pos) Ψ := ey_of_ea ee_int k
theorem ey_bl {i : Bool} {j} (k : Ψ s (.d (.bl i))) : EY G s (.Constant (.bool i) j pos) Ψ := ey_of_ea ee_bl k
theorem ey_non {j} (k : Ψ s (.d .non)) : EY G s (.Constant .none j pos) Ψ := ey_of_ea ee_non k
theorem ey_str {z : Str} {j} (l : List Nat) (k : Ψ s (.d (.str l))) (h : z = mk l := by decide +kernel) : EY G s (.Constant (.str z) j pos) Ψ := ey_of_ea (ee_str l h) k
theorem ey_gi {z : Int} (h : ∃ t, G.X.mg nm = some (.int z t)) (k : Ψ s (.d (.int z))) (hg : Gl G.X nm := by rfl) (hd : (nm == ("__debug__" : Str)) = false := by decide) : EY G s (.Name nm pos) Ψ := ey_of_ea (e_gi h hg hd) k
theorem ey_gs {z : Str} (l : List Nat) (h : ∃ t, G.X.mg nm = some (.str z t)) (k : Ψ s (.d (.str l))) (hz : z = mk l := by decide +kernel) (hg : Gl G.X nm := by rfl) (hd : (nm == ("__debug__" : Str)) = false := by decide) : EY G s (.Name nm pos) Ψ := ey_of_ea (e_gs l h hz hg hd) k
theorem ey_bin {op : Operator} (h : EY G s a fun s1 x => EY G s1 b fun s2 y => Tm2 s.μ.length s2 x y fun s3 x y => Bin G.X op s3 x y Ψ) : EY G s (.BinOp a op b pos) Ψ := fun σ H F rs as hd ot Q k =>
  WE.of (pe_op any2_ok pe_u pe_u) (h σ H F rs as hd ot _ fun s1 x h2 v H1 F1 rs1 as1 h1 p1 g1 r1 => h2 σ H1 F1 rs1 as1 h1 (ot.next p1 g1) _ fun s2 y q w H2 F2 rs2 as2 h2 p2 g2 r2 =>
    tm2_b q h2 (r1.mono g2.fz p2) r2 hd.r.l1 (p1.trans p2) (g1.trans g2) k)
theorem ey_cmp {op : CmpOp} (h : EY G s a fun s1 x => EY G s1 b fun s2 y => Tm2 s.μ.length s2 x y fun s3 x y => Cmp G.X op s3 x y Ψ) (hm : behindInMarks op b = false := by first | exact nomark _ | rfl) : EY G s (.Compare a [op] [b] pos) Ψ := fun σ H F rs as hd ot Q k =>
  WE.of (pe_cmpR any2_ok pe_u pe_u hm) (h σ H F rs as hd ot _ fun s1 x h2 v H1 F1 rs1 as1 h1 p1 g1 r1 => h2 σ H1 F1 rs1 as1 h1 (ot.next p1 g1) _ fun s2 y q w H2 F2 rs2 as2 h2 p2 g2 r2 =>
    tm2_b q h2 (r1.mono g2.fz p2) r2 hd.r.l1 (p1.trans p2) (g1.trans g2) k)
theorem ey_un {op : UnaryOp} (h : EY G s a fun s1 x => Uno G.X op s1 x Ψ) : EY G s (.UnaryOp op a pos) Ψ := fun σ H F rs as hd ot Q k =>
  WE.of (pe_un any1_ok pe_u) (h σ H F rs as hd ot _ fun s1 x h2 v H1 F1 rs1 as1 h1 p1 g1 r1 => h2 σ H1 F1 rs1 as1 v h1 r1 Q (k.go p1 g1))
/-! tests -/
def IsB (x : Ar) (P : Bool → Prop) : Prop := ∃ t, x = .d (.bl t) ∧ P t
theorem isb {t : Bool} {P : Bool → Prop} (h : P t) : IsB (.d (.bl t)) P := ⟨t, rfl, h⟩
theorem ty_val (h : EY G s e fun s1 x => IsB x (Θ s1)) (he : ∀ whole, isTrue e G.X.env whole = (do let v ← whole; standAt e.pos; holding [v] (truthy v)) := by intro _; rfl) : TY G s e Θ := fun σ H F rs as hd ot Q k =>
  WTt.of (pt_val pe_u he) (h σ H F rs as hd ot _ fun s1 x ⟨t, e, q⟩ v H1 F1 rs1 as1 h1 p1 g1 r1 => by subst e; exact ⟨t, r1, k s1 t q H1 F1 rs1 as1 h1 p1 g1⟩)
theorem ty_cmp {op : CmpOp} (h : EY G s a fun s1 x => EY G s1 b fun s2 y => Tm2 s.μ.length s2 x y fun s3 x y => Cmp G.X op s3 x y fun s4 z => IsB z (Θ s4)) (hm : behindInMarks op b = false := by first | exact nomark _ | rfl) : TY G s (.Compare a [op] [b] pos) Θ := fun σ H F rs as hd ot Q k =>
  WTt.of (pt_cmpR any2_ok pe_u pe_u hm) (h σ H F rs as hd ot _ fun s1 x h2 v H1 F1 rs1 as1 h1 p1 g1 r1 => h2 σ H1 F1 rs1 as1 h1 (ot.next p1 g1) _ fun s2 y q w H2 F2 rs2 as2 h2 p2 g2 r2 =>
    tm2_b q h2 (r1.mono g2.fz p2) r2 hd.r.l1 (p1.trans p2) (g1.trans g2) (as0 := as) fun s1 x ⟨t, e, q⟩ v H1 F1 rs1 as1 h1 p1 g1 r1 => by subst e; exact ⟨t, r1, k s1 t q H1 F1 rs1 as1 h1 p1 g1⟩)
theorem ty_not (h : TY G s e fun s1 t => Θ s1 (!t)) : TY G s (.UnaryOp .Not e pos) Θ := fun σ H F rs as hd ot Q k =>
  WTt.of (pt_not pt_u) (h σ H F rs as hd ot _ fun s1 t q => k s1 (!t) q)
theorem ty_w (h : TWY G s e Θ) : TY G s e Θ := fun σ H F rs as hd ot Q k => WTt.of pw_u.pt (h σ H F rs as hd ot Q k)
theorem tw_and1 (h : TY G s a Θ) : TWY G s (.BoolOp .And [a] pos) Θ := fun σ H F rs as hd ot Q k => WPt.of (pw_and1 pt_u) (h σ H F rs as hd ot Q k)
theorem tw_or1 (h : TY G s a Θ) : TWY G s (.BoolOp .Or [a] pos) Θ := fun σ H F rs as hd ot Q k => WPt.of (pw_or1 pt_u) (h σ H F rs as hd ot Q k)
theorem tw_and (h : TY G s a fun s1 t => (t = true → TWY G s1 (.BoolOp .And (b :: rest) pos) Θ) ∧ (t = false → Θ s1 false)) : TWY G s (.BoolOp .And (a :: b :: rest) pos) Θ := fun σ H F rs as hd ot Q k =>
  WPt.of (pw_and pt_u pw_u) (h σ H F rs as hd ot _ fun s1 t q H1 F1 rs1 as1 h1 p1 g1 => by
    cases t with
    | true => exact iteT (q.1 rfl σ H1 F1 rs1 as1 h1 (ot.next p1 g1) Q (k.go p1 g1))
    | false => exact iteF (k s1 false (q.2 rfl) H1 F1 rs1 as1 h1 p1 g1))
theorem tw_or (h : TY G s a fun s1 t => (t = false → TWY G s1 (.BoolOp .Or (b :: rest) pos) Θ) ∧ (t = true → Θ s1 true)) : TWY G s (.BoolOp .Or (a :: b :: rest) pos) Θ := fun σ H F rs as hd ot Q k =>
  WPt.of (pw_or pt_u pw_u) (h σ H F rs as hd ot _ fun s1 t q H1 F1 rs1 as1 h1 p1 g1 => by
    cases t with
    | true => exact iteT (k s1 true (q.2 rfl) H1 F1 rs1 as1 h1 p1 g1)
    | false => exact iteF (q.1 rfl σ H1 F1 rs1 as1 h1 (ot.next p1 g1) Q (k.go p1 g1)))
theorem ey_if (h : TY G s c fun s1 t => (t = true → EY G s1 a Ψ) ∧ (t = false → EY G s1 b Ψ)) : EY G s (.IfExp c a b pos) Ψ := fun σ H F rs as hd ot Q k =>
  WE.of (pe_ifExp pt_u pe_u pe_u) (h σ H F rs as hd ot _ fun s1 t q H1 F1 rs1 as1 h1 p1 g1 => by
    cases t with
    | true => exact iteT (q.1 rfl σ H1 F1 rs1 as1 h1 (ot.next p1 g1) Q (k.go p1 g1))
    | false => exact iteF (q.2 rfl σ H1 F1 rs1 as1 h1 (ot.next p1 g1) Q (k.go p1 g1)))
theorem ey_not (h : EY G s e fun s1 x => IsB x fun t => Ψ s1 (.d (.bl (!t)))) : EY G s (.UnaryOp .Not e pos) Ψ := fun σ H F rs as hd ot Q k =>
  WE.of (pe_not pe_u) (h σ H F rs as hd ot _ fun s1 x ⟨t, e, q⟩ v H1 F1 rs1 as1 h1 p1 g1 r1 => by subst e; exact ⟨t, r1, k s1 _ q _ H1 F1 rs1 as1 h1 p1 g1 rfl⟩)
theorem ey_one {op} (h : EY G s a Ψ) : EY G s (.BoolOp op [a] pos) Ψ := fun σ H F rs as hd ot Q k => WE.of (pe_one pe_u) (h σ H F rs as hd ot Q k)
theorem ey_and (h : EY G s a fun s1 x => IsB x fun t => (t = true → EY G s1 (.BoolOp .And (b :: rest) pos) Ψ) ∧ (t = false → Ψ s1 (.d (.bl false)))) : EY G s (.BoolOp .And (a :: b :: rest) pos) Ψ := fun σ H F rs as hd ot Q k =>
  WE.of (pe_and pe_u pe_u) (h σ H F rs as hd ot _ fun s1 x ⟨t, e, q⟩ v H1 F1 rs1 as1 h1 p1 g1 r1 => by
    subst e
    refine ⟨t, r1, ?_⟩
    cases t with
    | true => exact iteT (q.1 rfl σ H1 F1 rs1 as1 h1 (ot.next p1 g1) Q (k.go p1 g1))
    | false => exact iteF (k s1 _ (q.2 rfl) _ H1 F1 rs1 as1 h1 p1 g1 rfl))
theorem ey_or (h : EY G s a fun s1 x => IsB x fun t => (t = false → EY G s1 (.BoolOp .Or (b :: rest) pos) Ψ) ∧ (t = true → Ψ s1 (.d (.bl true)))) : EY G s (.BoolOp .Or (a :: b :: rest) pos) Ψ := fun σ H F rs as hd ot Q k =>
  WE.of (pe_or pe_u pe_u) (h σ H F rs as hd ot _ fun s1 x ⟨t, e, q⟩ v H1 F1 rs1 as1 h1 p1 g1 r1 => by
    subst e
    refine ⟨t, r1, ?_⟩
    cases t with
    | true => exact iteT (k s1 _ (q.2 rfl) _ H1 F1 rs1 as1 h1 p1 g1 rfl)
    | false => exact iteF (q.1 rfl σ H1 F1 rs1 as1 h1 (ot.next p1 g1) Q (k.go p1 g1)))
/-- a chain: what the first comparison gives, then the second -/
theorem ey_chain {op op' : CmpOp} (h : EY G s a fun s1 x => EY G s1 b fun s2 y => Cmp G.X op s2 x y fun s3 z => IsB z fun t => (t = true → EY G s3 c fun s4 w => Cmp G.X op' s4 y w Ψ) ∧ (t = false → Ψ s3 (.d (.bl false))))
    (hm : lastMarks [op, op'] [b, c] = false := by with_unfolding_all rfl) : EY G s (.Compare a [op, op'] [b, c] pos) Ψ := fun σ H F rs as hd ot Q k =>
  WE.of (pe_chain any2_ok any2_ok pe_u pe_u pe_u hm) (h σ H F rs as hd ot _ fun s1 x h2 v H1 F1 rs1 as1 h1 p1 g1 r1 => h2 σ H1 F1 rs1 as1 h1 (ot.next p1 g1) _ fun s2 y q w H2 F2 rs2 as2 h2 p2 g2 r2 =>
    q σ H2 F2 rs2 as2 v w h2 (r1.mono g2.fz p2) r2 _ fun s3 z ⟨t, ez, q⟩ u H3 F3 rs3 as3 h3 p3 g3 r3 => by
      subst ez
      refine ⟨t, r3, ?_⟩
      have ot3 := ((ot.next p1 g1).next p2 g2).next p3 g3
      have k3 := ((k.go p1 g1).go p2 g2).go p3 g3
      cases t with
      | true => exact iteT (q.1 rfl σ H3 F3 rs3 as3 h3 ot3 _ fun s4 w' q4 u4 H4 F4 rs4 as4 h4 p4 g4 r4 => q4 σ H4 F4 rs4 as4 w u4 h4 ((r2.mono g3.fz p3).mono g4.fz p4) r4 Q (k3.go p4 g4))
      | false => exact iteF (k3 s3 _ (q.2 rfl) _ H3 F3 rs3 as3 h3 (refl_pre _) (Go.refl _ _ _) rfl))
theorem ty_chain {op op' : CmpOp} (h : EY G s a fun s1 x => EY G s1 b fun s2 y => Cmp G.X op s2 x y fun s3 z => IsB z fun t => (t = true → EY G s3 c fun s4 w => Cmp G.X op' s4 y w fun s5 u => IsB u (Θ s5)) ∧ (t = false → Θ s3 false))
    (hm : lastMarks [op, op'] [b, c] = false := by with_unfolding_all rfl) : TY G s (.Compare a [op, op'] [b, c] pos) Θ := fun σ H F rs as hd ot Q k =>
  WTt.of (pt_chain any2_ok any2_ok pe_u pe_u pe_u hm) (h σ H F rs as hd ot _ fun s1 x h2 v H1 F1 rs1 as1 h1 p1 g1 r1 => h2 σ H1 F1 rs1 as1 h1 (ot.next p1 g1) _ fun s2 y q w H2 F2 rs2 as2 h2 p2 g2 r2 =>
    q σ H2 F2 rs2 as2 v w h2 (r1.mono g2.fz p2) r2 _ fun s3 z ⟨t, ez, q⟩ u H3 F3 rs3 as3 h3 p3 g3 r3 => by
      subst ez
      refine ⟨t, r3, ?_⟩
      have ot3 := ((ot.next p1 g1).next p2 g2).next p3 g3
      have k3 := ((k.go p1 g1).go p2 g2).go p3 g3
      cases t with
      | true => exact iteT (q.1 rfl σ H3 F3 rs3 as3 h3 ot3 _ fun s4 w' q4 u4 H4 F4 rs4 as4 h4 p4 g4 r4 => q4 σ H4 F4 rs4 as4 w u4 h4 ((r2.mono g3.fz p3).mono g4.fz p4) r4 _ fun s5 y5 ⟨t5, e5, q5⟩ u5 H5 F5 rs5 as5 h5 p5 g5 r5 => by
          subst e5
          exact ⟨t5, r5, (k3.go p4 g4) s5 t5 q5 H5 F5 rs5 as5 h5 p5 g5⟩)
      | false => exact iteF ⟨false, rfl, k3 s3 _ (q.2 rfl) H3 F3 rs3 as3 h3 (refl_pre _) (Go.refl _ _ _)⟩)
/-! tuples, lists, arguments -/
theorem esy_nil {Φ : S → List Ar → Prop} (k : Φ s []) : ESY G s [] Φ := fun σ H F rs as hd ot Q c => WA.of pa_nil (c s [] k [] H F rs as hd (refl_pre _) (Go.refl _ _ _) rfl)
theorem esy_cons {Φ : S → List Ar → Prop} (h : EY G s e fun s1 x => ESY G s1 es fun s2 xs => Φ s2 (x :: xs)) (hs : starEach (e :: es) G.X.env = (false, eval e G.X.env) :: starEach es G.X.env := by rfl) : ESY G s (e :: es) Φ := fun σ H F rs as hd ot Q k =>
  WA.of (pa_cons pe_u pa_u hs) (h σ H F rs as hd ot _ fun s1 x h2 v H1 F1 rs1 as1 h1 p1 g1 r1 => h2 σ H1 F1 rs1 as1 h1 (ot.next p1 g1) _ fun s2 xs q vs H2 F2 rs2 as2 h2 p2 g2 a2 =>
    k s2 (x :: xs) q (v :: vs) H2 F2 rs2 as2 h2 (p1.trans p2) (g1.trans g2) ⟨v, vs, rfl, r1.mono g2.fz p2, a2⟩)
/-- what is demanded as data -/
def Dm (n : Nat) (s : S) (x : Ar) (P : S → D → Prop) : Prop := ∃ s' d, dm n s x = some (s', d) ∧ P s' d
def Dms (n : Nat) (s : S) (xs : List Ar) (P : S → List D → Prop) : Prop := ∃ s' ds, dms n s xs = some (s', ds) ∧ P s' ds
theorem dmI {n : Nat} {s' : S} {P : S → D → Prop} (k : P s' d) (h : dm n s x = some (s', d) := by rfl) : Dm n s x P := ⟨s', d, h, k⟩
theorem dmsI {n : Nat} {s' : S} {P : S → List D → Prop} (k : P s' ds) (h : dms n s xs = some (s', ds) := by rfl) : Dms n s xs P := ⟨s', ds, h, k⟩
theorem ey_tup {x1} (h : ESY G s es fun s1 xs => Dms s.μ.length s1 xs fun s2 ds => ds.length ≤ 100000 ∧ Ψ s2 (.d (.tup ds))) : EY G s (.Tuple es x1 pos) Ψ := fun σ H F rs as hd' ot Q k =>
  WE.of (pe_tup pa_u) (h σ H F rs as hd' ot _ fun s1 xs ⟨s2, ds, hdm, hl, q⟩ vs H1 F1 rs1 as1 h1 p1 g1 a1 => by
    obtain ⟨F2, rs2, as2, h2, p2, n2, g2, rr⟩ := dms_ok hdm h1 a1 (by rw [← hd'.r.l1]; exact p1.length_le)
    refine ⟨by rw [rr.len]; exact Nat.le_trans hl (by decide), fun p hp => ?_⟩
    obtain ⟨g, sb⟩ := go_new (o := .tup vs) hp h2.sub
    exact h2.fin (fun u H' F' rs' as' h' p' g' q' => k _ _ q u H' F' rs' as' h' ((pre_pre p1 p2 (by rw [hd'.r.l1]; exact n2)).trans p') ((g1.trans g2).trans g') q') _ _ _ g sb ⟨p, vs, rfl, .inl (.inl upd_same), Reps.mono g.fz _ _ rr⟩)
theorem ey_lst (h : ESY G s es fun s1 xs => Dms s.μ.length s1 xs fun s2 ds => ds.length ≤ 100000 ∧ Ψ (s2.add (.fl ds)) (.o s2.μ.length)) : EY G s (.List es pos) Ψ := fun σ H F rs as hd' ot Q k =>
  WE.of (pe_lst pa_u) (h σ H F rs as hd' ot _ fun s1 xs ⟨s2, ds, hdm, hl, q⟩ vs H1 F1 rs1 as1 h1 p1 g1 a1 => by
    obtain ⟨F2, rs2, as2, h2, p2, n2, g2, rr⟩ := dms_ok hdm h1 a1 (by rw [← hd'.r.l1]; exact p1.length_le)
    exact ⟨by rw [rr.len]; exact Nat.le_trans hl (by decide), h2.newK rr fun u H' F' rs' as' h' p' g' q' => k _ _ q u H' F' rs' as' h' ((pre_pre p1 p2 (by rw [hd'.r.l1]; exact n2)).trans p') ((g1.trans g2).trans g') q'⟩)
theorem ey_dm (h : EY G s e fun s1 x => Dm s.μ.length s1 x fun s2 d => Ψ s2 (.d d)) : EY G s e Ψ := fun σ H F rs as hd ot Q k =>
  h σ H F rs as hd ot Q fun s1 x ⟨s2, d, e, q⟩ v H1 F1 rs1 as1 h1 p1 g1 a1 => by
    obtain ⟨F2, rs2, as2, h2, p2, n2, g2, rr⟩ := dm_ok e h1 a1 (len_le hd p1)
    exact k s2 _ q v H1 F2 rs2 as2 h2 (pre_pre p1 p2 (by rw [hd.r.l1]; exact n2)) (g1.trans g2) rr
theorem esy_dms {Φ : S → List Ar → Prop} (h : ESY G s es fun s1 xs => Dms s.μ.length s1 xs fun s2 ds => Φ s2 (ds.map .d)) : ESY G s es Φ := fun σ H F rs as hd ot Q k =>
  h σ H F rs as hd ot Q fun s1 xs ⟨s2, ds, e, q⟩ vs H1 F1 rs1 as1 h1 p1 g1 a1 => by
    obtain ⟨F2, rs2, as2, h2, p2, n2, g2, rr⟩ := dms_ok e h1 a1 (len_le hd p1)
    exact k s2 _ q vs H1 F2 rs2 as2 h2 (pre_pre p1 p2 (by rw [hd.r.l1]; exact n2)) (g1.trans g2) (ars_d rr)
/-- an expression from a fixed world, told as before -/
theorem ex_of_ey {Ξ : S → Xc → Prop} (h : EY ⟨X, none, Ξ⟩ s e Ψ) : EX X s e Ψ := fun σ H F rs as hd Q k => h σ H F rs as hd (fun _ z => nomatch z) Q k
theorem xt_of_ty {Ξ : S → Xc → Prop} (h : TY ⟨X, none, Ξ⟩ s e Θ) : XT X s e Θ := fun σ H F rs as hd Q k => h σ H F rs as hd (fun _ z => nomatch z) Q k
end
end Q
/-! Operations on values. -/
namespace Q
open PySem L2
section
variable {G : Gm} {X : Cx} {s s1 s2 s3 : S} {x y z : Ar} {xs : List Ar} {d e : D} {ds es : List D} {Ψ : S → Ar → Prop} {i j : Int} {l m : List Nat} {n : Nat}
/-! binary operators -/
theorem o_add (k : Ψ s (.d (.int (i + j)))) : Bin X .Add s (.d (.int i)) (.d (.int j)) Ψ := b2_V op_add ov_add k
theorem o_sub (k : Ψ s (.d (.int (i - j)))) : Bin X .Sub s (.d (.int i)) (.d (.int j)) Ψ := b2_V op_sub ov_sub k
theorem o_mul (h : (-(2 ^ 64) < i ∧ i < 2 ^ 64) ∨ (-(2 ^ 64) < j ∧ j < 2 ^ 64)) (k : Ψ s (.d (.int (i * j)))) : Bin X .Mult s (.d (.int i)) (.d (.int j)) Ψ := b2_V op_mul (ov_mul h) k
theorem o_mod (h : 0 < j) (k : Ψ s (.d (.int (i % j)))) : Bin X .Mod s (.d (.int i)) (.d (.int j)) Ψ := b2_V op_mod (ov_mod h) k
theorem o_div (h : 0 < j ∧ j < 1073741824) (k : Ψ s (.d (.int (i / j)))) : Bin X .FloorDiv s (.d (.int i)) (.d (.int j)) Ψ := b2_V op_fdiv (ov_div h) k
theorem o_pow (h : 0 ≤ j ∧ (Builtin.Int.intBits i : Int) * j ≤ 2 ^ 27) (k : Ψ s (.d (.int (i ^ j.toNat)))) : Bin X .Pow s (.d (.int i)) (.d (.int j)) Ψ := b2_V op_powW (ov_I (d := .int (i ^ j.toNat)) (g := fun i j => V.int (i ^ j.toNat)) h fun _ => rfl) k
theorem o_cat (h : l.length + m.length ≤ 16777216) (k : Ψ s (.d (.str (l ++ m)))) : Bin X .Add s (.d (.str l)) (.d (.str m)) Ψ := b2_V op_add_str (ov_cat h) k
theorem o_catT (h : ds.length + es.length ≤ 16777216) (k : Ψ s (.d (.tup (ds ++ es)))) : Bin X .Add s (.d (.tup ds)) (.d (.tup es)) Ψ := b2_V op_catA (ov_catT h) k
theorem o_catL (h : ds.length + es.length ≤ 16777216) (k : Ψ (s.add (.fl (ds ++ es))) (.o s.μ.length)) (hx : Ls s x ds := by rfl) (hy : Ls s y es := by rfl) : Bin X .Add s x y Ψ := b2_L op_cat (ol_cat hx hy h) k
theorem o_repS {k : Nat} (hi : i = (k : Int)) (hz : l.length * k ≤ 16777216) (h2 : k < 1073741824) (c : Ψ s (.d (.str (List.replicate k l).flatten))) : Bin X .Mult s (.d (.str l)) (.d (.int i)) Ψ := b2_V mul_strR (ov_repS hi hz h2) c
theorem o_repL {k : Nat} (hi : i = (k : Int)) (hz : ds.length * k ≤ 16777216) (h2 : k < 1073741824) (c : Ψ (s.add (.fl (List.replicate k ds).flatten)) (.o s.μ.length)) (hx : Ls s x ds := by rfl) : Bin X .Mult s x (.d (.int i)) Ψ := b2_L op_rep (ol_rep hx hz hi h2) c
theorem o_repT {k : Nat} (hi : i = (k : Int)) (h0 : ds ≠ []) (h1 : 1 ≤ k) (h2 : k ≤ 1000) (h3 : ds.length ≤ 1000) (c : Ψ s (.d (.tup (List.replicate k ds).flatten))) : Bin X .Mult s (.d (.tup ds)) (.d (.int i)) Ψ := b2_V op_repU (ov_repU hi h0 h1 h2 h3) c
/-! comparisons -/
theorem c_lt (k : Ψ s (.d (.bl (decide (i < j))))) : Cmp X .Lt s (.d (.int i)) (.d (.int j)) Ψ := b2_V op_lt ov_lt k
theorem c_le (k : Ψ s (.d (.bl (decide (i ≤ j))))) : Cmp X .LtE s (.d (.int i)) (.d (.int j)) Ψ := b2_V op_le ov_le k
theorem c_gt (k : Ψ s (.d (.bl (decide (j < i))))) : Cmp X .Gt s (.d (.int i)) (.d (.int j)) Ψ := b2_V op_gt ov_gt k
theorem c_ge (k : Ψ s (.d (.bl (decide (j ≤ i))))) : Cmp X .GtE s (.d (.int i)) (.d (.int j)) Ψ := b2_V op_ge ov_ge k
theorem c_eqI (k : Ψ s (.d (.bl (decide (i = j))))) : Cmp X .Eq s (.d (.int i)) (.d (.int j)) Ψ := b2_V op_eq ov_eqI k
theorem c_neI (k : Ψ s (.d (.bl (!decide (i = j))))) : Cmp X .NotEq s (.d (.int i)) (.d (.int j)) Ψ := b2_V op_ne ov_neI k
theorem c_eqS (k : Ψ s (.d (.bl (decide (l = m))))) : Cmp X .Eq s (.d (.str l)) (.d (.str m)) Ψ := b2_V op_eq ov_eqS k
theorem c_neS (k : Ψ s (.d (.bl (!decide (l = m))))) : Cmp X .NotEq s (.d (.str l)) (.d (.str m)) Ψ := b2_V op_ne ov_neS k
theorem c_leS (k : Ψ s (.d (.bl (!decide (m < l))))) : Cmp X .LtE s (.d (.str l)) (.d (.str m)) Ψ := b2_V op_le_str ov_leS k
theorem c_inC {c : Nat} (k : Ψ s (.d (.bl (decide (c ∈ l))))) : Cmp X .In s (.d (.str [c])) (.d (.str l)) Ψ := b2_V op_in_sign ov_inC k
theorem c_niC {c : Nat} (k : Ψ s (.d (.bl (!decide (c ∈ l))))) : Cmp X .NotIn s (.d (.str [c])) (.d (.str l)) Ψ := b2_V op_notIn_sign ov_niC k
theorem c_inS {ls : List (List Nat)} (k : Ψ s (.d (.bl (decide (l ∈ ls))))) (h : Sq s y ds := by rfl) (e : ds = ls.map D.str := by rfl) : Cmp X .In s (.d (.str l)) y Ψ := b2_V op_in_seq (ov_inS h e) k
/-- data by what it is -/
def dtO : Option T → Option D
  | none => none
  | some t => match t.ok with | true => some t.fr | false => none
def dt (s : S) : Ar → Option D
  | .d d => some d
  | .o k => dtO (s.μ[k]?)
theorem dt_ok (h : dt s x = some d) : Dt s x d := by
  cases x with
  | d e => cases h; rfl
  | o k =>
    have h : dtO (s.μ[k]?) = some d := h
    cases q : s.μ[k]? with
    | none => rw [q] at h; cases h
    | some t =>
      rw [q] at h
      dsimp only [dtO] at h
      cases ok : t.ok with
      | false => rw [ok] at h; cases h
      | true => rw [ok] at h; cases h; exact ⟨t, q, ok, rfl⟩
theorem c_eqD (hu : X.A.units + 64 < cLine) (n : Nat) (kd : Dk n d) (ke : Dk n e) (k : ∀ t : Bool, (t = true ↔ d = e) → Ψ s (.d (.bl t))) (hn : n ≤ 64 := by decide) (hx : dt s x = some d := by rfl) (hy : dt s y = some e := by rfl) : Cmp X .Eq s x y Ψ := by
  classical
  exact b2_V (op_eqD hu) (ov_eqD (t := decide (d = e)) (dt_ok hx) (dt_ok hy) kd ke hn (by simp)) (k _ (by simp))
theorem c_neD (hu : X.A.units + 64 < cLine) (n : Nat) (kd : Dk n d) (ke : Dk n e) (k : ∀ t : Bool, (t = true ↔ d = e) → Ψ s (.d (.bl (!t)))) (hn : n ≤ 64 := by decide) (hx : dt s x = some d := by rfl) (hy : dt s y = some e := by rfl) : Cmp X .NotEq s x y Ψ := by
  classical
  exact b2_V (op_neD hu) (ov_neD (t := decide (d = e)) (dt_ok hx) (dt_ok hy) kd ke hn (by simp)) (k _ (by simp))
theorem c_inD (hu : X.A.units + 65 < cLine) (n : Nat) (kd : Dk n d) (ke : ∀ z ∈ ds, Dk n z) (k : ∀ t : Bool, (t = true ↔ d ∈ ds) → Ψ s (.d (.bl t))) (hn : n ≤ 60 := by decide) (hx : dt s x = some d := by rfl) (hy : dt s y = some (.lst ds) := by rfl) : Cmp X .In s x y Ψ := by
  classical
  exact b2_V (op_inD hu) (ov_inD (t := decide (d ∈ ds)) (dt_ok hx) (dt_ok hy) kd ke hn (by simp)) (k _ (by simp))
theorem c_niD (hu : X.A.units + 65 < cLine) (n : Nat) (kd : Dk n d) (ke : ∀ z ∈ ds, Dk n z) (k : ∀ t : Bool, (t = true ↔ d ∈ ds) → Ψ s (.d (.bl (!t)))) (hn : n ≤ 60 := by decide) (hx : dt s x = some d := by rfl) (hy : dt s y = some (.lst ds) := by rfl) : Cmp X .NotIn s x y Ψ := by
  classical
  exact b2_V (op_notInD hu) (ov_niD (t := decide (d ∈ ds)) (dt_ok hx) (dt_ok hy) kd ke hn (by simp)) (k _ (by simp))
/-- is it None -/
def isNo : D → Option Bool
  | .non => some true
  | .val _ => none
  | _ => some false
theorem isNo_ok {t : Bool} (h : isNo d = some t) : (t = true ↔ d = .non) ∧ ∀ w, d ≠ .val w := by
  cases d <;> simp [isNo] at h ⊢ <;> subst h <;> simp
theorem isN_not {t : Bool} (h : isNo d = some t) : OpV X s (fun x y H Q => y = .non ∧ Q (.bl (!decide (x = .non))) H) (.d d) (.d .non) (.bl (!t)) := fun σ H F rs as v w hd a b Q k => by
  obtain ⟨h1, h2⟩ := isNo_ok h
  have b' : w = .non := b
  refine ⟨b', k _ H F go0 hd.sub ?_⟩
  show V.bl _ = V.bl _
  congr 2
  have : v = .non ↔ d = .non := by
    cases d <;> first | (exact ⟨fun _ => rfl, fun _ => a⟩) | (refine ⟨fun z => ?_, fun z => nomatch z⟩; subst z; first | (exact absurd rfl (h2 _)) | (obtain ⟨_, _, _, e, _⟩ := a; cases e; done) | (obtain ⟨_, _, e, _⟩ := a; cases e; done) | (cases a; done))
  cases t with
  | true => simp [this.mpr (h1.mp rfl)]
  | false => simp; intro z; exact absurd (h1.mpr (this.mp z)) (by decide)
theorem c_isN {t : Bool} (k : Ψ s (.d (.bl t))) (h : isNo d = some t := by rfl) : Cmp X .Is s (.d d) (.d .non) Ψ := b2_V op_isN (ov_isN (isNo_ok h).1 (isNo_ok h).2) k
theorem c_notN {t : Bool} (k : Ψ s (.d (.bl (!t)))) (h : isNo d = some t := by rfl) : Cmp X .IsNot s (.d d) (.d .non) Ψ := b2_V op_notN (isN_not h) k
/-! one operand -/
theorem u_neg (k : Ψ s (.d (.int (-i)))) : Uno X .USub s (.d (.int i)) Ψ := b1_V un_neg uv_neg k
end
end Q
/-! Subscripts, slices, fields, built-ins, methods of built-in types. -/
namespace Q
open PySem L2
def anyIx (X : Cx) : R2 := fun x y H Q => ∃ r, IxR X r ∧ r x y H Q
theorem anyIx_ok {X : Cx} : IxR X (anyIx X) := fun value slice pins s σ H x y v u Q I rx ry ⟨r, ho, q⟩ hs => ho value slice pins s σ H x y v u Q I rx ry q hs
abbrev Six (X : Cx) := B2 X.K (anyIx X)
def anySl (X : Cx) : V → Option Int → Option Int → Hp → VK → Prop := fun x lo hi H Q => ∃ r, SlR X r ∧ r x lo hi H Q
theorem anySl_ok {X : Cx} : SlR X (anySl X) := by
  intro pins s σ H x v vl vu lo hi sl Q I rx hs pl pu ⟨r, ho, q⟩
  exact ho pins s σ H x v vl vu lo hi sl Q I rx hs pl pu q
def BS (X : Cx) (s : S) (x : Ar) (lo hi : Option Int) (Ψ : S → Ar → Prop) : Prop := ∀ σ H F rs as v, Hd X.K σ H F rs as s → ArOk X.K F rs x v → ∀ Q : VK, VQ X.K σ H F rs as Ψ Q → anySl X v lo hi H Q
def OY (G : Gm) (s : S) (o : Option Expr) (P : S → Option Int → Prop) : Prop := match o with
  | none => P s none
  | some e => EY G s e fun s1 x => ∃ i, x = .d (.int i) ∧ P s1 (some i)
theorem isi {P : Int → Prop} {i : Int} (h : P i) : ∃ j, Ar.d (.int i) = .d (.int j) ∧ P j := ⟨i, rfl, h⟩
section
variable {G : Gm} {X : Cx} {s s1 s2 s3 : S} {a b e o : Expr} {es : List Expr} {x y z : Ar} {xs : List Ar} {d : D} {ds es' : List D} {Ψ : S → Ar → Prop} {i j : Int} {l m : List Nat} {n : Nat} {pos p p2 apos : Pos} {nm : Str}
theorem ey_ix (h : EY G s a fun s1 x => EY G s1 b fun s2 y => Tm2 s.μ.length s2 x y fun s3 x y => Six G.X s3 x y Ψ) (hs : PlainIx b := by exact fun _ _ => rfl) : EY G s (.Subscript a b pos) Ψ := fun σ H F rs as hd ot Q k =>
  WE.of (pe_ix anyIx_ok pe_u pe_u hs) (h σ H F rs as hd ot _ fun s1 x h2 v H1 F1 rs1 as1 h1 p1 g1 r1 => h2 σ H1 F1 rs1 as1 h1 (ot.next p1 g1) _ fun s2 y q w H2 F2 rs2 as2 h2 p2 g2 r2 =>
    tm2_b q h2 (r1.mono g2.fz p2) r2 hd.r.l1 (p1.trans p2) (g1.trans g2) k)
theorem ix_V {r : R2} (ho : IxR X r) (h : OpV X s r x y d) (k : Ψ s (.d d)) : Six X s x y Ψ := fun σ H F rs as v w hd a b Q c =>
  ⟨r, ho, h σ H F rs as v w hd a b Q fun u H' F' g sb rp => by
    obtain ⟨h1, g1⟩ := hd.pure g sb
    exact c _ _ k u H' F' rs as h1 (refl_pre _) g1 rp⟩
theorem i_L (hi : atI ds i = some d) (k : Ψ s (.d d)) (h : Ls s x ds := by rfl) : Six X s x (.d (.int i)) Ψ := ix_V ix_list (ov_ixL h hi) k
theorem i_R (hi : atI ds i = some d) (k : Ψ s (.d d)) : Six X s (.d (.rl ds)) (.d (.int i)) Ψ := ix_V ix_list (ov_ixR hi) k
theorem i_T (hi : atI ds i = some d) (k : Ψ s (.d d)) : Six X s (.d (.tup ds)) (.d (.int i)) Ψ := ix_V ix_tup (ov_ixT hi) k
theorem i_S {c : Nat} (hi : atI l i = some c) (hz : l.length ≤ 16777216) (k : Ψ s (.d (.str [c]))) : Six X s (.d (.str l)) (.d (.int i)) Ψ := ix_V ix_str (ov_ixS hz hi) k
/-! slices -/
theorem oy_PO (o : Option Expr) (P : S → Option Int → Prop) (h : OY G s o P) : ∃ t : TO, PO G.X o t ∧ ∀ σ H F rs as, Hd G.X.K σ H F rs as s → Ot G.W H F rs as → ∀ Q : Option Int → Hp → Prop,
    (∀ s1 i, P s1 i → ∀ H' F' rs' as', Hd G.X.K σ H' F' rs' as' s1 → rs <+: rs' → Go as.flatten as'.flatten F H F' H' → Q i H') → t σ H Q := by
  cases o with
  | none => exact ⟨_, po_none, fun σ H F rs as hd ot Q k => k s none h H F rs as hd (refl_pre _) (Go.refl _ _ _)⟩
  | some e => exact ⟨_, po_some pe_u, fun σ H F rs as hd ot Q k => h σ H F rs as hd ot _ fun s1 x ⟨i, ex, q⟩ v H1 F1 rs1 as1 h1 p1 g1 r1 => by
      subst ex; exact ⟨i, r1, k s1 _ q H1 F1 rs1 as1 h1 p1 g1⟩⟩
theorem ey_sl00 (h : EY G s a fun s1 x => BS G.X s1 x none none Ψ) : EY G s (.Subscript a (.Slice none none none p2) pos) Ψ := fun σ H F rs as hd ot Q k =>
  WE.of (pe_slice anySl_ok pe_u po_none po_none) (h σ H F rs as hd ot _ fun s1 x q v H1 F1 rs1 as1 h1 p1 g1 r1 => q σ H1 F1 rs1 as1 v h1 r1 Q (k.go p1 g1))
theorem ey_sl01 (h : EY G s a fun s1 x => EY G s1 b fun s2 y => ∃ j, y = .d (.int j) ∧ BS G.X s2 x none (some j) Ψ) : EY G s (.Subscript a (.Slice none (some b) none p2) pos) Ψ := fun σ H F rs as hd ot Q k =>
  WE.of (pe_slice anySl_ok pe_u po_none (po_some pe_u)) (h σ H F rs as hd ot _ fun s1 x h2 v H1 F1 rs1 as1 h1 p1 g1 r1 => h2 σ H1 F1 rs1 as1 h1 (ot.next p1 g1) _ fun s2 y ⟨j, ey, q⟩ w H2 F2 rs2 as2 h2 p2 g2 r2 => by
    subst ey
    exact ⟨j, r2, q σ H2 F2 rs2 as2 v h2 (r1.mono g2.fz p2) Q ((k.go p1 g1).go p2 g2)⟩)
theorem ey_sl10 (h : EY G s a fun s1 x => EY G s1 b fun s2 y => ∃ j, y = .d (.int j) ∧ BS G.X s2 x (some j) none Ψ) : EY G s (.Subscript a (.Slice (some b) none none p2) pos) Ψ := fun σ H F rs as hd ot Q k =>
  WE.of (pe_slice anySl_ok pe_u (po_some pe_u) po_none) (h σ H F rs as hd ot _ fun s1 x h2 v H1 F1 rs1 as1 h1 p1 g1 r1 => h2 σ H1 F1 rs1 as1 h1 (ot.next p1 g1) _ fun s2 y ⟨j, ey, q⟩ w H2 F2 rs2 as2 h2 p2 g2 r2 => by
    subst ey
    exact ⟨j, r2, q σ H2 F2 rs2 as2 v h2 (r1.mono g2.fz p2) Q ((k.go p1 g1).go p2 g2)⟩)
theorem ey_sl11 {c : Expr} (h : EY G s a fun s1 x => EY G s1 b fun s2 y => ∃ i, y = .d (.int i) ∧ EY G s2 c fun s3 z => ∃ j, z = .d (.int j) ∧ BS G.X s3 x (some i) (some j) Ψ) : EY G s (.Subscript a (.Slice (some b) (some c) none p2) pos) Ψ := fun σ H F rs as hd ot Q k =>
  WE.of (pe_slice anySl_ok pe_u (po_some pe_u) (po_some pe_u)) (h σ H F rs as hd ot _ fun s1 x h2 v H1 F1 rs1 as1 h1 p1 g1 r1 => h2 σ H1 F1 rs1 as1 h1 (ot.next p1 g1) _ fun s2 y ⟨i, ey, q⟩ w H2 F2 rs2 as2 h2 p2 g2 r2 => by
    subst ey
    exact ⟨i, r2, q σ H2 F2 rs2 as2 h2 ((ot.next p1 g1).next p2 g2) _ fun s3 z ⟨j, ez, q3⟩ w3 H3 F3 rs3 as3 h3 p3 g3 r3 => by
      subst ez
      exact ⟨j, r3, q3 σ H3 F3 rs3 as3 v h3 ((r1.mono g2.fz p2).mono g3.fz p3) Q (((k.go p1 g1).go p2 g2).go p3 g3)⟩⟩)
theorem bs_V {lo hi : Option Int} {r : V → Option Int → Option Int → Hp → VK → Prop} (ho : SlR X r) (h : SlV X s r x lo hi d) (k : Ψ s (.d d)) : BS X s x lo hi Ψ := fun σ H F rs as v hd a Q c =>
  ⟨r, ho, h σ H F rs as v hd a Q fun u H' F' g sb rp => by
    obtain ⟨h1, g1⟩ := hd.pure g sb
    exact c _ _ k u H' F' rs as h1 (refl_pre _) g1 rp⟩
theorem bs_L {lo hi : Option Int} {r : V → Option Int → Option Int → Hp → VK → Prop} (ho : SlR X r) (h : SlL X s r x lo hi ds) (k : Ψ (s.add (.fl ds)) (.o s.μ.length)) : BS X s x lo hi Ψ := fun σ H F rs as v hd a Q c => by
  obtain ⟨ys, q1, q2⟩ := h σ H F rs as v hd a
  refine ⟨r, ho, q2 Q fun p hp => ?_⟩
  obtain ⟨h1, g1⟩ := hd.newL hp q1
  refine c _ _ k (.ref p) _ _ _ _ h1 ⟨_, rfl⟩ g1 ?_
  show (rs ++ [V.ref p])[s.μ.length]? = _
  rw [← hd.r.l1]; simp
theorem s_str {lo hi : Option Int} (hz : l.length ≤ 16777216) (k : Ψ s (.d (.str (cut l lo hi)))) : BS X s (.d (.str l)) lo hi Ψ := bs_V sl_str (sv_str hz) k
theorem s_tup {lo hi : Option Int} (k : Ψ s (.d (.tup (cut ds lo hi)))) : BS X s (.d (.tup ds)) lo hi Ψ := bs_V sl_tupA sv_tup k
theorem s_lst {lo hi : Option Int} (k : Ψ (s.add (.fl (cut ds lo hi))) (.o s.μ.length)) (h : Ls s x ds := by rfl) : BS X s x lo hi Ψ := bs_L sl_list (sl_lst h) k
/-! fields -/
theorem ey_fld {f : Str} (h : EY G s e fun s1 x => ∃ C ns fs i d, x = .d (.ins C ns fs) ∧ Cls G.X.K C ∧ NoAttr G.X.K C f ∧ fs[i]? = some d ∧ ns[i]? = some f ∧ ((ns.take i).contains f) = false ∧ Ψ s1 (.d d))
    (hb : attributeBase e f G.X.env (eval e G.X.env) = eval e G.X.env := by rfl) : EY G s (.Attribute e f pos) Ψ := fun σ H F rs as hd ot Q k =>
  WE.of (pe_fld pe_u hb) (h σ H F rs as hd ot _ fun s1 x ⟨C, ns, fs, i, d, ex, cl, na, hd', hf, hn, q⟩ v H1 F1 rs1 as1 h1 p1 g1 r1 => by
    subst ex
    obtain ⟨a, dx, ys, ev, q0, hl, r⟩ := r1
    obtain ⟨w, q1, q2⟩ := zip_lookup r (i := i) (f := f) (ns := ns) (fun j g hj e z => by
      subst z
      have hm : g ∈ ns.take i := List.mem_of_getElem? (i := j) (by rw [List.getElem?_take_of_lt hj]; exact e)
      have : (ns.take i).contains g = true := by simpa using hm
      rw [hn] at this; cases this) hf hd'
    exact ⟨a, C, dx, _, w, ev, h1.sub _ _ q0, cl, na, q1, k _ _ q w H1 F1 rs1 as1 h1 p1 g1 q2⟩)
theorem f_I {f : Str} {C : Addr} {ns : List Str} {fs : List D} (i : Nat) (cl : Cls X.K C) (na : NoAttr X.K C f) (k : Ψ s (.d d)) (hd' : fs[i]? = some d := by rfl) (hf : ns[i]? = some f := by rfl) (hn : ((ns.take i).contains f) = false := by decide +kernel) :
    ∃ C' ns' fs' i d, Ar.d (.ins C ns fs) = .d (.ins C' ns' fs') ∧ Cls X.K C' ∧ NoAttr X.K C' f ∧ fs'[i]? = some d ∧ ns'[i]? = some f ∧ ((ns'.take i).contains f) = false ∧ Ψ s (.d d) := ⟨C, ns, fs, i, d, rfl, cl, na, hd', hf, hn, k⟩
/-! built-ins by their names -/
theorem ey_bi {id : String} (hm : G.X.mg nm = none) (h : ESY G s (e :: es) fun s1 xs => Cal G.X (.builtin id) s1 xs Ψ) (hv : bootBuiltins nm = some (.builtin id) := by decide +kernel) (hg : Gl G.X nm := by rfl)
    (hn : nm ≠ "__name__" := by decide) (hdb : (nm == ("__debug__" : Str)) = false := by decide) (he : starEach (e :: es) G.X.env = (false, eval e G.X.env) :: starEach es G.X.env := by rfl) (hpl : (backTo pos (starEach es G.X.env)).any (·.1) = false := by rfl) :
    EY G s (.Call (.Name nm p) (e :: es) [] pos) Ψ := fun σ H F rs as hd ot Q k =>
  WE.of (pe_callB anyC_ok hg hm hv pa_u hn hdb he hpl) (h σ H F rs as hd ot _ fun s1 xs q vs H1 F1 rs1 as1 h1 p1 g1 a1 => q σ H1 F1 rs1 as1 vs h1 a1 Q (k.go p1 g1))
theorem ey_bt {T' : String} (hm : G.X.mg nm = none) (h : ESY G s (e :: es) fun s1 xs => Cal G.X (.type T') s1 xs Ψ) (hv : bootBuiltins nm = some (.type T') := by decide +kernel) (hg : Gl G.X nm := by rfl)
    (hn : nm ≠ "__name__" := by decide) (hdb : (nm == ("__debug__" : Str)) = false := by decide) (he : starEach (e :: es) G.X.env = (false, eval e G.X.env) :: starEach es G.X.env := by rfl) (hpl : (backTo pos (starEach es G.X.env)).any (·.1) = false := by rfl) :
    EY G s (.Call (.Name nm p) (e :: es) [] pos) Ψ := fun σ H F rs as hd ot Q k =>
  WE.of (pe_callTy anyC_ok hg hm hv pa_u hn hdb he hpl) (h σ H F rs as hd ot _ fun s1 xs q vs H1 F1 rs1 as1 h1 p1 g1 a1 => q σ H1 F1 rs1 as1 vs h1 a1 Q (k.go p1 g1))
theorem ey_bi1 {id : String} (hm : G.X.mg nm = none) (h : EY G s e fun s1 x => Tm1 s.μ.length s1 x fun s2 x => Cal G.X (.builtin id) s2 [x] Ψ) (hv : bootBuiltins nm = some (.builtin id) := by decide +kernel) (hg : Gl G.X nm := by rfl)
    (hn : nm ≠ "__name__" := by decide) (hdb : (nm == ("__debug__" : Str)) = false := by decide) (he : starEach [e] G.X.env = [(false, eval e G.X.env)] := by rfl) : EY G s (.Call (.Name nm p) [e] [] pos) Ψ := fun σ H F rs as hd ot Q k =>
  WE.of (pe_callB anyC_ok hg hm hv (pa_cons pe_u pa_nil he) hn hdb he rfl) (h σ H F rs as hd ot _ fun s1 x ⟨s2, x2, e1, q⟩ v H1 F1 rs1 as1 h1 p1 g1 a1 => by
    obtain ⟨F2, rs2, as2, h2, p2, n2, g2, a2, _⟩ := tm_ok (n := s.μ.length) h1 a1 (len_le hd p1)
    rw [e1] at h2 a2
    exact q σ H1 F2 rs2 as2 [v] h2 ⟨v, [], rfl, a2, rfl⟩ Q (k.go (pre_pre p1 p2 (by rw [hd.r.l1]; exact n2)) (g1.trans g2)))
theorem ey_bt1 {T' : String} (hm : G.X.mg nm = none) (h : EY G s e fun s1 x => Tm1 s.μ.length s1 x fun s2 x => Cal G.X (.type T') s2 [x] Ψ) (hv : bootBuiltins nm = some (.type T') := by decide +kernel) (hg : Gl G.X nm := by rfl)
    (hn : nm ≠ "__name__" := by decide) (hdb : (nm == ("__debug__" : Str)) = false := by decide) (he : starEach [e] G.X.env = [(false, eval e G.X.env)] := by rfl) : EY G s (.Call (.Name nm p) [e] [] pos) Ψ := fun σ H F rs as hd ot Q k =>
  WE.of (pe_callTy anyC_ok hg hm hv (pa_cons pe_u pa_nil he) hn hdb he rfl) (h σ H F rs as hd ot _ fun s1 x ⟨s2, x2, e1, q⟩ v H1 F1 rs1 as1 h1 p1 g1 a1 => by
    obtain ⟨F2, rs2, as2, h2, p2, n2, g2, a2, _⟩ := tm_ok (n := s.μ.length) h1 a1 (len_le hd p1)
    rw [e1] at h2 a2
    exact q σ H1 F2 rs2 as2 [v] h2 ⟨v, [], rfl, a2, rfl⟩ Q (k.go (pre_pre p1 p2 (by rw [hd.r.l1]; exact n2)) (g1.trans g2)))
theorem esy_1 {Φ : S → List Ar → Prop} (h : EY G s e fun s1 x => Φ s1 [x]) (hs : starEach [e] G.X.env = [(false, eval e G.X.env)] := by rfl) : ESY G s [e] Φ := esy_cons (ey_mono h fun s1 x q => esy_nil q) hs
theorem b_len (k : Ψ s (.d (.int (ds.length : Int)))) (h : Sq s x ds := by rfl) : Cal X (.builtin "len") s [x] Ψ := bc_V call_len_seq (ca_len h) k
theorem b_lenT {ts : List T} {kk : Nat} (k : Ψ s (.d (.int (ts.length : Int)))) (h : s.μ[kk]? = some (.lst ts) := by rfl) : Cal X (.builtin "len") s [.o kk] Ψ := bc_V call_len_seq (ca_lenT h) k
theorem b_lenS (hz : l.length ≤ 16777216) (k : Ψ s (.d (.int (l.length : Int)))) : Cal X (.builtin "len") s [.d (.str l)] Ψ := bc_V call_len_str (ca_lenS hz) k
theorem b_all {bs : List Bool} (hc : X.calm = true) (k : Ψ s (.d (.bl (bs.all id)))) (h : Ls s x (bs.map D.bl) := by rfl) : Cal X (.builtin "all") s [x] Ψ := bc_V (cr_all hc) (ca_all h rfl) k
theorem b_any {bs : List Bool} (hc : X.calm = true) (k : Ψ s (.d (.bl (bs.any id)))) (h : Ls s x (bs.map D.bl) := by rfl) : Cal X (.builtin "any") s [x] Ψ := bc_V (cr_any hc) (ca_any h rfl) k
theorem b_sum {is : List Int} (hc : X.calm = true) (k : Ψ s (.d (.int is.sum))) (h : Ls s x (is.map D.int) := by rfl) : Cal X (.builtin "sum") s [x] Ψ := bc_V (cr_sum hc) (ca_sum h rfl) k
theorem b_max (hc : X.calm = true) (k : Ψ s (.d (.int (max i j)))) : Cal X (.builtin "max") s [.d (.int i), .d (.int j)] Ψ := bc_V (call_max2 hc) ca_max k
theorem b_min (hc : X.calm = true) (k : Ψ s (.d (.int (min i j)))) : Cal X (.builtin "min") s [.d (.int i), .d (.int j)] Ψ := bc_V (call_min2 hc) ca_min k
theorem b_intB {t : Bool} (k : Ψ s (.d (.int (if t then 1 else 0)))) : Cal X (.type "int") s [.d (.bl t)] Ψ := bc_V call_int1 ca_intB k
theorem b_tuple (k : Ψ s (.d (.tup ds))) (h : Ls s x ds := by rfl) : Cal X (.type "tuple") s [x] Ψ := bc_V call_tuple_of (ca_tuple h) k
theorem b_list (k : Ψ (s.add (.fl ds)) (.o s.μ.length)) (h : Sq s x ds := by rfl) : Cal X (.type "list") s [x] Ψ := bc_L call_list_of (cl_list h) k
end
end Q
/-! Loops' sources, comprehensions. -/
namespace Q
open PySem L2
theorem lc_runY {W : Option Wd} {X : Cx} {s : S} {Ψ : S → Ar → Prop} {G : TG} {is vs : List Nat} {g : D → List Sl → Option (List Sl)} {t : TT} {te : TE} {wi : TI}
    (hi : ∀ σ H F rs as, Hd X.K σ H F rs as s → Ot W H F rs as → ∀ R : It → Hp → Prop, (∀ s1 n it, (n ≤ 16777216 ∧ ∃ I : Nat → List T → List D → Prop, I 0 s1.μ [] ∧ (∀ i μ out, i < n → I i μ out → LcX X.K g t te (wipeS s1.ρ vs) (it i) μ out (I (i + 1))) ∧ ∀ μ out, I n μ out → Ψ (S.add ⟨s1.ρ, μ⟩ (.fl out)) (.o μ.length)) →
      ∀ J H' F' rs' as', Hd X.K σ H' F' rs' as' s1 → rs <+: rs' → Go as.flatten as'.flatten F H F' H' → Gives X.K J n it F' → R J H') → wi σ H R)
    (hS : GS X.K G is g) (hv : ∀ i ∈ is, i ∈ vs) : ∀ σ H F rs as, Hd X.K σ H F rs as s → Ot W H F rs as → ∀ Q : VK, VQ X.K σ H F rs as Ψ Q → tLc wi G t te vs σ H Q := fun σ H F rs as hd ot Q k => by
  refine hi σ H F rs as hd ot _ fun s1 n it ⟨hn, I, i0, hs, he⟩ J H1 F1 rs1 as1 h1 p1 g1 gv => ?_
  intro A hA
  obtain ⟨n1, n2⟩ := h1.newL (ds := []) (ys := []) hA rfl
  refine ⟨fun i m H2 => m = n - i ∧ i ≤ n ∧ ∃ μ out acc F2 rs2 as2, I i μ out ∧ HdR X.K H2 F2 (μ ++ [.fl out]) (rs2 ++ [.ref A]) (as2 ++ [[A]]) ∧ rs1 <+: rs2 ∧ Go as1.flatten (as2 ++ [[A]]).flatten F1 H1 F2 H2 ∧ H2 A = some (.lst acc) ∧ Reps X.K F2 out acc ∧ out.length ≤ i,
    ⟨n, by simp, Nat.zero_le _, s1.μ, [], [], F1, rs1, as1, i0, n1.r, refl_pre _, n2, upd_same, rfl, Nat.le_refl _⟩, ?_⟩
  rintro i m H2 ⟨rfl, hin, μ, out, acc, F2, rs2, as2, inv, hr, p2, g2, hAc, rp, ol⟩
  have rl : rs2.length = μ.length := by have := hr.l1; simp at this; exact this
  have f12 : Same F1 F2 := g2.fz
  obtain ⟨go, stop, yld⟩ := gv H2 F2 f12 hr.sub
  by_cases hlt : i < n
  · refine .inr ⟨go i hlt, fun H' => ∃ μ out acc F2 rs2 as2, I (i + 1) μ out ∧ HdR X.K H' F2 (μ ++ [.fl out]) (rs2 ++ [.ref A]) (as2 ++ [[A]]) ∧ rs1 <+: rs2 ∧ Go as1.flatten (as2 ++ [[A]]).flatten F1 H1 F2 H' ∧ H' A = some (.lst acc) ∧ Reps X.K F2 out acc ∧ out.length ≤ i + 1,
      fun H' w => ⟨n - (i + 1), by omega, rfl, hlt, w⟩, fun v H3 y => ?_⟩
    obtain ⟨F3, g3, sb3, r3⟩ := yld i v H3 hlt y
    obtain ⟨hr3, g3'⟩ := hr.pure g3 sb3
    have hi3 := hr3.init rl
    obtain ⟨ρ', e1, ht⟩ := hs i μ out hlt inv
    have sl3 : Slots X.K F3 rs2 (wipeS s1.ρ vs) (wipe σ vs) := (h1.sl.mono (f12.trans g3.fz) fun k v q => pre_get p2 k v q).wipe vs
    have hd3 : Hd X.K (wipe σ vs) H3 F3 rs2 as2 ⟨wipeS s1.ρ vs, μ⟩ := ⟨hi3, sl3⟩
    have hA3 : H3 A = some (.lst acc) := g3.keep A _ (fun z => nomatch z) hAc
    have notA : A ∉ as2.flatten := fun z => by
      obtain ⟨j, mm, e, hm⟩ := mem_fl z
      have hj := (List.getElem?_eq_some_iff.mp e).1
      have := hr3.n2 j as2.length mm [A] A (by rw [List.getElem?_append_left hj]; exact e) (by simp) hm (by simp)
      omega
    refine hS (wipe σ vs) H3 F3 rs2 as2 _ (it i) v ρ' hd3 r3 e1 _ fun σ4 h4 w4 => ?_
    have ww : ∀ (σ : St) (vs : List Nat), wipe (wipe σ vs) vs = wipe σ vs := by
      intro σ vs
      have gen : ∀ (us : List Nat), (∀ i ∈ us, i ∈ vs) → wipe (wipe σ us) vs = wipe σ vs := by
        intro us
        induction us with
        | nil => intro _; rfl
        | cons u us ih =>
          intro h
          show wipe ((wipe σ us).set u none) vs = _
          rw [wipe_set (h u List.mem_cons_self)]
          exact ih fun i hi => h i (List.mem_cons_of_mem _ hi)
      exact gen vs fun _ h => h
    refine ⟨by rw [w4 vs hv, ww], ht σ4 H3 F3 rs2 as2 h4 _ fun s2 b q H5 F5 rs5 as5 h5 p5 g5 => ?_⟩
    cases b with
    | true =>
      refine iteT (q.1 rfl σ4 H5 F5 rs5 as5 h5 _ fun s3 x ⟨yd, ex, inv'⟩ w H6 F6 rs6 as6 h6 p6 g6 r6 => ?_)
      subst ex
      have gg := g5.trans g6
      obtain ⟨fr, gf⟩ := hr3.frame rl h6.r gg
      have hA6 : H6 A = some (.lst acc) := gg.keep A _ notA hA3
      have rp6 : Reps X.K F6 out acc := Reps.mono ((g3.fz.trans g5.fz).trans g6.fz) _ _ rp
      have accl : acc.length = out.length := rp.len
      refine ⟨acc, hA6, by have : (16777216 : Nat) ≤ sizeLine := by decide
                           omega, ?_⟩
      have rl6 : rs6.length = s3.μ.length := h6.r.l1
      have al6 : as6.length = s3.μ.length := h6.r.l2
      have kE : (rs6 ++ [V.ref A])[s3.μ.length]? = some (.ref A) := by rw [← rl6]; simp
      have lE : (as6 ++ [[A]])[s3.μ.length]? = some [A] := by rw [← al6]; simp
      obtain ⟨st, gs⟩ := fr.set1 (t := .fl (out ++ [yd])) (H' := upd H6 A (.lst (acc ++ [w]))) kE lE (fun a o hna e => by rw [upd_ne (fun z => hna (by rw [z]; simp))]; exact e)
        (fun a e => by
          by_cases z : a = A
          · subst z; rw [upd_same] at e; cases e
          · rw [upd_ne z] at e; exact e)
        ⟨A, acc ++ [w], rfl, upd_same, rp6.append (.one r6), rfl⟩
      have eset : (s3.μ ++ [T.fl out]).set s3.μ.length (.fl (out ++ [yd])) = s3.μ ++ [.fl (out ++ [yd])] := by simp
      rw [eset] at st
      exact ⟨s3.μ, out ++ [yd], acc ++ [w], F6, rs6, as6, inv', st, (p2.trans p5).trans p6, ((g2.trans g3').trans gf).trans gs, upd_same, rp6.append (.one r6), by simp; omega⟩
    | false =>
      refine iteF ?_
      obtain ⟨fr, gf⟩ := hr3.frame rl h5.r g5
      exact ⟨s2.μ, out, acc, F5, rs5, as5, q.2 rfl, fr, p2.trans p5, (g2.trans g3').trans gf, g5.keep A _ notA hA3, Reps.mono (g3.fz.trans g5.fz) _ _ rp, by omega⟩
  · have e : i = n := by omega
    subst e
    refine .inl ⟨stop, ?_⟩
    refine k _ _ (he μ out inv) (V.ref A) H2 F2 (rs2 ++ [V.ref A]) (as2 ++ [[A]]) ⟨show HdR X.K H2 F2 (μ ++ [T.fl out]) (rs2 ++ [V.ref A]) (as2 ++ [[A]]) from hr, ?_⟩ ((p1.trans p2).trans ⟨_, rfl⟩) (g1.trans g2) ?_
    · exact (h1.sl.mono f12 fun k v q => pre_get p2 k v q).mono (Same.refl _) fun k v q => pre_get ⟨_, rfl⟩ k v q
    · show (rs2 ++ [V.ref A])[μ.length]? = _
      rw [← rl]; simp
theorem lc_runYT {W : Option Wd} {X : Cx} {s : S} {Ψ : S → Ar → Prop} {G : TG} {is vs : List Nat} {g : D → List Sl → Option (List Sl)} {te : TE} {wi : TI}
    (hi : ∀ σ H F rs as, Hd X.K σ H F rs as s → Ot W H F rs as → ∀ R : It → Hp → Prop, (∀ s1 n it, (n ≤ 16777216 ∧ ∃ I : Nat → List T → List T → Prop, I 0 s1.μ [] ∧ (∀ i μ out, i < n → I i μ out → LcT X.K g te (wipeS s1.ρ vs) (it i) μ out (I (i + 1))) ∧ ∀ μ out, I n μ out → Ψ (S.add ⟨s1.ρ, μ⟩ (.lst out)) (.o μ.length)) →
      ∀ J H' F' rs' as', Hd X.K σ H' F' rs' as' s1 → rs <+: rs' → Go as.flatten as'.flatten F H F' H' → Gives X.K J n it F' → R J H') → wi σ H R)
    (hS : GS X.K G is g) (hv : ∀ i ∈ is, i ∈ vs) : ∀ σ H F rs as, Hd X.K σ H F rs as s → Ot W H F rs as → ∀ Q : VK, VQ X.K σ H F rs as Ψ Q → tLc wi G tYes te vs σ H Q := fun σ H F rs as hd ot Q k => by
  refine hi σ H F rs as hd ot _ fun s1 n it ⟨hn, I, i0, hs, he⟩ J H1 F1 rs1 as1 h1 p1 g1 gv => ?_
  intro A hA
  obtain ⟨n1, n2⟩ := h1.r.snoc (t := .lst []) (v := .ref A) (o := .lst []) hA ⟨A, [], [], rfl, upd_same, ⟨rfl, rfl⟩, rfl⟩
  refine ⟨fun i m H2 => m = n - i ∧ i ≤ n ∧ ∃ μ out acc F2 rs2 as2 lA, I i μ out ∧ HdR X.K H2 F2 (μ ++ [.lst out]) (rs2 ++ [.ref A]) (as2 ++ [lA]) ∧ rs1 <+: rs2 ∧ Go as1.flatten (as2 ++ [lA]).flatten F1 H1 F2 H2 ∧ H2 A = some (.lst acc) ∧ acc.length ≤ i,
    ⟨n, by simp, Nat.zero_le _, s1.μ, [], [], F1, rs1, as1, [A], i0, n1, refl_pre _, n2, upd_same, Nat.le_refl _⟩, ?_⟩
  rintro i m H2 ⟨rfl, hin, μ, out, acc, F2, rs2, as2, lA, inv, hr, p2, g2, hAc, ol⟩
  have rl : rs2.length = μ.length := by have := hr.l1; simp at this; exact this
  have f12 : Same F1 F2 := g2.fz
  obtain ⟨go, stop, yld⟩ := gv H2 F2 f12 hr.sub
  by_cases hlt : i < n
  · refine .inr ⟨go i hlt, fun H' => ∃ μ out acc F2 rs2 as2 lA, I (i + 1) μ out ∧ HdR X.K H' F2 (μ ++ [.lst out]) (rs2 ++ [.ref A]) (as2 ++ [lA]) ∧ rs1 <+: rs2 ∧ Go as1.flatten (as2 ++ [lA]).flatten F1 H1 F2 H' ∧ H' A = some (.lst acc) ∧ acc.length ≤ i + 1,
      fun H' w => ⟨n - (i + 1), by omega, rfl, hlt, w⟩, fun v H3 y => ?_⟩
    obtain ⟨F3, g3, sb3, r3⟩ := yld i v H3 hlt y
    obtain ⟨hr3, g3'⟩ := hr.pure g3 sb3
    have hi3 := hr3.init rl
    obtain ⟨ρ', e1, ht⟩ := hs i μ out hlt inv
    have sl3 : Slots X.K F3 rs2 (wipeS s1.ρ vs) (wipe σ vs) := (h1.sl.mono (f12.trans g3.fz) fun k v q => pre_get p2 k v q).wipe vs
    have hd3 : Hd X.K (wipe σ vs) H3 F3 rs2 as2 ⟨wipeS s1.ρ vs, μ⟩ := ⟨hi3, sl3⟩
    have hA3 : H3 A = some (.lst acc) := g3.keep A _ (fun z => nomatch z) hAc
    have hal : as2.length = μ.length := by have := hr3.l2; simp at this; exact this
    have memA : A ∈ lA := by
      obtain ⟨a, xs, bs, e, _, _, el⟩ := hr3.own μ.length (.lst out) (.ref A) lA (by simp) (by rw [← rl]; simp) (by rw [← hal]; simp)
      cases e
      rw [el]; exact List.mem_cons_self
    have notA : A ∉ as2.flatten := fun z => by
      obtain ⟨j, mm, e, hm⟩ := mem_fl z
      have hj := (List.getElem?_eq_some_iff.mp e).1
      have := hr3.n2 j as2.length mm lA A (by rw [List.getElem?_append_left hj]; exact e) (by simp) hm memA
      omega
    refine hS (wipe σ vs) H3 F3 rs2 as2 _ (it i) v ρ' hd3 r3 e1 _ fun σ4 h4 w4 => ?_
    have ww : ∀ (σ : St) (vs : List Nat), wipe (wipe σ vs) vs = wipe σ vs := by
      intro σ vs
      have gen : ∀ (us : List Nat), (∀ i ∈ us, i ∈ vs) → wipe (wipe σ us) vs = wipe σ vs := by
        intro us
        induction us with
        | nil => intro _; rfl
        | cons u us ih =>
          intro h
          show wipe ((wipe σ us).set u none) vs = _
          rw [wipe_set (h u List.mem_cons_self)]
          exact ih fun i hi => h i (List.mem_cons_of_mem _ hi)
      exact gen vs fun _ h => h
    refine ⟨by rw [w4 vs hv, ww], ?_⟩
    unfold tYes
    dsimp only
    rw [if_pos rfl]
    refine (ht σ4 H3 F3 rs2 as2 h4 _ fun s3 x ⟨s4, t, e3, ex, hlen, inv'⟩ w H6 F6 rs6 as6 h6 p6 g6 r6 => ?_)
    subst e3 ex
    have hl6 : rs6.length = s4.μ.length + 1 := by have := h6.r.l1; simp [S.add] at this; exact this
    have hla6 : as6.length = s4.μ.length + 1 := by have := h6.r.l2; simp [S.add] at this; exact this
    obtain ⟨rs7, w', rfl⟩ : ∃ rs7 w', rs6 = rs7 ++ [w'] := ⟨rs6.dropLast, rs6.getLast (fun z => by rw [z] at hl6; simp at hl6), (List.dropLast_concat_getLast _).symm⟩
    obtain ⟨as7, l7, rfl⟩ : ∃ as7 l7, as6 = as7 ++ [l7] := ⟨as6.dropLast, as6.getLast (fun z => by rw [z] at hla6; simp at hla6), (List.dropLast_concat_getLast _).symm⟩
    have hl7 : rs7.length = s4.μ.length := by simpa using hl6
    have ew : w = w' := by
      have r6' : (rs7 ++ [w'])[s4.μ.length]? = some w := r6
      rw [← hl7] at r6'
      simpa using r6'.symm
    subst ew
    obtain ⟨fr, gf⟩ := hr3.frame rl h6.r g6
    have hA6 : H6 A = some (.lst acc) := g6.keep A _ notA hA3
    obtain ⟨lA', q1, q2⟩ := HdR.push (ts := s4.μ) (t := t) (out := out) fr hl7 hA6
    have p7 : rs2 <+: rs7 := by
      refine List.prefix_of_prefix_length_le p6 ⟨_, rfl⟩ ?_
      omega
    refine ⟨acc, hA6, by have : (16777216 : Nat) ≤ sizeLine := by decide
                         omega, s4.μ, out ++ [t], acc ++ [w], F6, rs7, as7, lA', inv', q1, p2.trans p7, ((g2.trans g3').trans gf).trans q2, upd_same, by simp; omega⟩
  · have e : i = n := by omega
    subst e
    refine .inl ⟨stop, ?_⟩
    refine k _ _ (he μ out inv) (V.ref A) H2 F2 (rs2 ++ [V.ref A]) (as2 ++ [lA]) ⟨show HdR X.K H2 F2 (μ ++ [T.lst out]) (rs2 ++ [V.ref A]) (as2 ++ [lA]) from hr, ?_⟩ ((p1.trans p2).trans ⟨_, rfl⟩) (g1.trans g2) ?_
    · exact (h1.sl.mono f12 fun k v q => pre_get p2 k v q).mono (Same.refl _) fun k v q => pre_get ⟨_, rfl⟩ k v q
    · show (rs2 ++ [V.ref A])[μ.length]? = _
      rw [← rl]; simp
/-- what is walked: the data one by one -/
def IY (G : Gm) (s : S) (tg e : Expr) (Ψ : S → List D → Prop) : Prop := ∃ W : TI, PI G.X tg e W ∧ ∀ σ H F rs as, Hd G.X.K σ H F rs as s → Ot G.W H F rs as → ∀ R : It → Hp → Prop,
  (∀ s1 ds, Ψ s1 ds → ∀ J H' F' rs' as', Hd G.X.K σ H' F' rs' as' s1 → rs <+: rs' → Go as.flatten as'.flatten F H F' H' → Gives G.X.K J ds.length (fun i => ds.getD i .non) F' → R J H') → W σ H R
section
variable {G : Gm} {X : Cx} {s s1 s2 s3 : S} {a b c e o tg iter elt cond : Expr} {es elts : List Expr} {x y z : Ar} {d : D} {ds es' : List D} {Ψ : S → Ar → Prop} {Φ : S → List D → Prop} {pos p tpos : Pos} {nm : Str} {kk : Nat}
theorem iy_lst (h : EY G s e fun s1 x => Dm s.μ.length s1 x fun s2 d => ∃ ds, d = .lst ds ∧ Φ s2 ds) : IY G s tg e Φ := ⟨_, pi_list pe_u, fun σ H F rs as hd ot R k =>
  (ey_dm (Ψ := fun s2 x => ∃ ds, x = .d (.lst ds) ∧ Φ s2 ds) (ey_mono h fun s1 x ⟨s2, d, e1, ds, e2, q⟩ => ⟨s2, d, e1, ds, by rw [e2], q⟩)) σ H F rs as hd ot _ fun s2 x ⟨ds, ex, q⟩ v H1 F1 rs1 as1 h1 p1 g1 r1 => by
    subst ex
    obtain ⟨a, xs, ev, qq, r⟩ := r1
    exact ⟨a, ev, ⟨xs, .of (h1.sub _ _ qq)⟩, k s2 ds q _ H1 F1 rs1 as1 h1 p1 g1 (gives_list (.of qq) r)⟩⟩
theorem iy_rl (h : EY G s e fun s1 x => ∃ ds, x = .d (.rl ds) ∧ Φ s1 ds) : IY G s tg e Φ := ⟨_, pi_list pe_u, fun σ H F rs as hd ot R k =>
  h σ H F rs as hd ot _ fun s2 x ⟨ds, ex, q⟩ v H1 F1 rs1 as1 h1 p1 g1 r1 => by
    subst ex
    obtain ⟨a, xs, ev, qq, r⟩ := r1
    exact ⟨a, ev, ⟨xs, h1.sub.seq qq⟩, k s2 ds q _ H1 F1 rs1 as1 h1 p1 g1 (gives_list qq r)⟩⟩
theorem iy_tup (h : EY G s e fun s1 x => ∃ ds, x = .d (.tup ds) ∧ Φ s1 ds) : IY G s tg e Φ := ⟨_, pi_tup pe_u, fun σ H F rs as hd ot R k =>
  h σ H F rs as hd ot _ fun s2 x ⟨ds, ex, q⟩ v H1 F1 rs1 as1 h1 p1 g1 r1 => by
    subst ex
    obtain ⟨a, xs, ev, qq, r⟩ := r1
    exact ⟨a, ev, ⟨xs, same_t h1.sub qq⟩, k s2 ds q _ H1 F1 rs1 as1 h1 p1 g1 (gives_tup qq r)⟩⟩
theorem gives_eq {K : PySem.W.Frag} {J : It} {n m : Nat} {it it' : Nat → D} {F : Hp} (h : Gives K J n it F) (e : n = m) (e2 : ∀ i, i < n → it i = it' i) : Gives K J m it' F := by
  subst e
  intro H2 F2 e3 e4
  obtain ⟨h1, h2, h3⟩ := h H2 F2 e3 e4
  refine ⟨h1, h2, fun i x H3 hi y => ?_⟩
  rw [← e2 i hi]; exact h3 i x H3 hi y
theorem iy_str (h : EY G s e fun s1 x => ∃ l, x = .d (.str l) ∧ Φ s1 (l.map fun c => .str [c])) : IY G s tg e Φ := ⟨_, pi_str pe_u, fun σ H F rs as hd ot R k =>
  h σ H F rs as hd ot _ fun s2 x ⟨l, ex, q⟩ v H1 F1 rs1 as1 h1 p1 g1 r1 => by
    subst ex
    refine ⟨mk l, r1, k s2 _ q _ H1 F1 rs1 as1 h1 p1 g1 (gives_eq gives_str (by simp) fun i hi => ?_)⟩
    simp [List.getD, List.getElem?_eq_getElem hi]⟩
/-- the numbers of a range -/
def rgD (lo : Int) (n : Nat) (st : Int) : List D := (List.range n).map fun (i : Nat) => .int (lo + i * st)
theorem iy_range1 (hm : G.X.mg "range" = none) (h : EY G s a fun s1 x => ∃ j : Int, x = .d (.int j) ∧ (-(2 ^ 62) ≤ j ∧ j < 2 ^ 62) ∧ Φ s1 ((List.range j.toNat).map fun (i : Nat) => .int (i : Int))) (hg : Gl G.X "range" := by rfl) (hs : starEach [a] G.X.env = [(false, eval a G.X.env)] := by rfl) :
    IY G s tg (.Call (.Name "range" p) [a] [] pos) Φ := ⟨_, pi_range1 hg hm pa_u hs, fun σ H F rs as hd ot R k =>
  (esy_cons (Φ := fun s2 xs => ∃ j : Int, xs = [.d (.int j)] ∧ (-(2 ^ 62) ≤ j ∧ j < 2 ^ 62) ∧ Φ s2 ((List.range j.toNat).map fun (i : Nat) => .int (i : Int))) (ey_mono h fun s1 x ⟨j, e, q⟩ => esy_nil ⟨j, by rw [e], q⟩) hs) σ H F rs as hd ot _ fun s1 xs ⟨j, e0, q1, q3⟩ vs H1 F1 rs1 as1 h1 p1 g1 a1 => by
    subst e0
    obtain ⟨v, ws, e, r, e2⟩ := a1
    cases e2; cases e; cases r
    refine ⟨j, rfl, q1.1, q1.2, k s1 _ q3 _ H1 F1 rs1 as1 h1 p1 g1 (gives_eq gives_range (by simp) fun i hi => ?_)⟩
    simp [List.getD, hi]⟩
theorem iy_range2 (hm : G.X.mg "range" = none) (h : EY G s a fun s1 x => ∃ i : Int, x = .d (.int i) ∧ EY G s1 b fun s2 y => ∃ j : Int, y = .d (.int j) ∧ (-(2 ^ 62) ≤ i ∧ i < 2 ^ 62 ∧ -(2 ^ 62) ≤ j ∧ j < 2 ^ 62) ∧ Φ s2 ((List.range (j - i).toNat).map fun (k : Nat) => .int (i + k))) (hg : Gl G.X "range" := by rfl)
    (hs : starEach [a, b] G.X.env = [(false, eval a G.X.env), (false, eval b G.X.env)] := by rfl) (hs1 : starEach [b] G.X.env = [(false, eval b G.X.env)] := by rfl) (hpl : (backTo pos (starEach [b] G.X.env)).any (·.1) = false := by rfl) :
    IY G s tg (.Call (.Name "range" p) [a, b] [] pos) Φ := ⟨_, pi_range2 hg hm pa_u hs hs1, fun σ H F rs as hd ot R k =>
  (esy_cons (Φ := fun s2 xs => ∃ i j : Int, xs = [.d (.int i), .d (.int j)] ∧ (-(2 ^ 62) ≤ i ∧ i < 2 ^ 62 ∧ -(2 ^ 62) ≤ j ∧ j < 2 ^ 62) ∧ Φ s2 ((List.range (j - i).toNat).map fun (k : Nat) => .int (i + k))) (ey_mono h fun s1 x ⟨i, ex, q⟩ => esy_cons (ey_mono q fun s2 y ⟨j, ey, q1, q2⟩ => esy_nil ⟨i, j, by rw [ex, ey], q1, q2⟩) hs1) (by rw [hs, hs1])) σ H F rs as hd ot _ fun s1 xs ⟨i, j, e0, q1, q3⟩ vs H1 F1 rs1 as1 h1 p1 g1 a1 => by
    subst e0
    obtain ⟨v, ws, e, r, v2, ws2, e3, r2, e2⟩ := a1
    cases e2; cases e3; cases e; cases r; cases r2
    refine ⟨i, j, rfl, q1, k s1 _ q3 _ H1 F1 rs1 as1 h1 p1 g1 (gives_eq gives_range (by simp) fun n hi => ?_)⟩
    simp [List.getD, hi]⟩
theorem iy_zip (hm : G.X.mg "zip" = none) (h : ESY G s [a, b] fun s1 xs => Dms s.μ.length s1 xs fun s2 ds => ∃ x y l m, ds = [x, y] ∧ sq x = some l ∧ sq y = some m ∧ Φ s2 ((l.zip m).map fun q => .tup [q.1, q.2])) (hg : Gl G.X "zip" := by rfl)
    (hs : starEach [a, b] G.X.env = (false, eval a G.X.env) :: starEach [b] G.X.env := by rfl) (hpl : (backTo pos (starEach [b] G.X.env)).any (·.1) = false := by rfl) : IY G s (.Tuple elts kk tpos) (.Call (.Name "zip" p) [a, b] [] pos) Φ := ⟨_, pi_z2 hg hm pa_u hs hpl, fun σ H F rs as hd ot R k =>
  (esy_dms (Φ := fun s2 xs => ∃ x y l m, xs = [.d x, .d y] ∧ sq x = some l ∧ sq y = some m ∧ Φ s2 ((l.zip m).map fun q => .tup [q.1, q.2])) (fun σ H F rs as hd ot Q k => h σ H F rs as hd ot Q fun s1 xs ⟨s2, ds, e, x, y, l, m, e1, q⟩ => k s1 xs ⟨s2, ds, e, x, y, l, m, by rw [e1]; rfl, q⟩)) σ H F rs as hd ot _ fun s2 zs ⟨x, y, l, m, ez, hx, hy, q⟩ vs H1 F1 rs1 as1 q1 p1 g1 r0 => by
    subst ez
    obtain ⟨v, ws, e, r, v2, ws2, e3, r2, e2⟩ := r0
    cases e2; cases e3; cases e
    obtain ⟨k1, xs, rfl, h1, r1⟩ := sq_has q1.sub hx r
    obtain ⟨k2, ys, rfl, h2, r2⟩ := sq_has q1.sub hy r2
    refine ⟨k1, k2, xs, ys, rfl, Kd.has_mono q1.sub h1, Kd.has_mono q1.sub h2, k _ _ q _ H1 F1 rs1 as1 q1 p1 g1 (gives_eq (gives_zip h1 r1 h2 r2) (by simp) fun i hi => ?_)⟩
    have i1 : i < l.length := by omega
    have i2 : i < m.length := by omega
    have i3 : i < (l.zip m).length := by simp; omega
    simp [List.getD, i1, i2, List.getElem?_eq_getElem i3]⟩
/-- numbered -/
def enD (ds : List D) : List D := ds.zipIdx.map fun q => .tup [.int (q.2 : Nat), q.1]
theorem iy_en (hm : G.X.mg "enumerate" = none) (h : EY G s a fun s1 x => Dm s.μ.length s1 x fun s2 d => ∃ l, sq d = some l ∧ Φ s2 (enD l)) (hg : Gl G.X "enumerate" := by rfl) (hs : starEach [a] G.X.env = [(false, eval a G.X.env)] := by rfl) :
    IY G s (.Tuple elts kk tpos) (.Call (.Name "enumerate" p) [a] [] pos) Φ := ⟨_, pi_e hg hm pa_u hs, fun σ H F rs as hd ot R k =>
  (esy_cons (Φ := fun s2 xs => ∃ d l, xs = [.d d] ∧ sq d = some l ∧ Φ s2 (enD l)) (ey_dm (Ψ := fun s2 x => ESY G s2 [] fun s2 xs => ∃ d l, x :: xs = [.d d] ∧ sq d = some l ∧ Φ s2 (enD l)) (ey_mono h fun s1 x ⟨s2, d, e1, l, q1, q2⟩ => ⟨s2, d, e1, esy_nil ⟨d, l, rfl, q1, q2⟩⟩)) hs) σ H F rs as hd ot _ fun s2 xs ⟨d, l, e0, hx, q⟩ vs H1 F1 rs1 as1 q1 p1 g1 a1 => by
    subst e0
    obtain ⟨v, ws, e, r, e2⟩ := a1
    cases e2; cases e
    obtain ⟨k1, xs, rfl, h1, r1⟩ := sq_has q1.sub hx r
    refine ⟨k1, xs, rfl, Kd.has_mono q1.sub h1, k _ _ q _ H1 F1 rs1 as1 q1 p1 g1 (gives_eq (gives_en h1 r1) (by simp [enD]) fun i hi => ?_)⟩
    simp [List.getD, enD, hi]⟩
end
end Q
/-! Comprehensions, statements. -/
namespace Q
open PySem L2
/-- a comprehension's block -/
def gb (X : Cx) (scope : Scope) (sh : Shared) (H0 : Hp) (C : Addr) (cl : List (Str × Addr)) (fp : List Addr) : Gm := ⟨X.blk sh H0 scope (PySem.compEnvC scope cl C X.env) fp, none, fun _ _ => False⟩
def Blk (X : Cx) (scope : Scope) (P : Gm → Prop) : Prop := ∀ (sh : Shared) (H0 : Hp) (C : Addr) (cl : List (Str × Addr)) (fp : List Addr), P (gb X scope sh H0 C cl fp)
/-- a target: the slots it stores to, what it stores -/
def Tg (X : Cx) (tg : Expr) (is : List Nat) (g : D → List Sl → Option (List Sl)) : Prop := ∃ Gt, PG X tg Gt ∧ GS X.K Gt is g
def TgB (X : Cx) (scope : Scope) (tg : Expr) (is : List Nat) (g : D → List Sl → Option (List Sl)) : Prop := ∃ Gt, (∀ (sh : Shared) (H0 : Hp) (C : Addr) (cl : List (Str × Addr)) (fp : List Addr), PG (X.blk sh H0 scope (PySem.compEnvC scope cl C X.env) fp) tg Gt) ∧ GS X.K Gt is g
/-- the world from here on -/
def W1Y (G : Gm) (s : S) (st : Stmt) (D : Ds) : Prop := ∀ σ H F rs as, Hd G.X.K σ H F rs as s → Ot G.W H F rs as → WSt G.X st (D.raw G.X.K ⟨H, F, as.flatten, rs⟩) σ H
def WY (G : Gm) (s : S) (st : List Stmt) (D : Ds) : Prop := ∀ σ H F rs as, Hd G.X.K σ H F rs as s → Ot G.W H F rs as → WSs G.X st (D.raw G.X.K ⟨H, F, as.flatten, rs⟩) σ H
section
variable {G : Gm} {X : Cx} {s s1 s2 s3 : S} {a b c e o tg iter elt cond : Expr} {es elts : List Expr} {x y z : Ar} {d : D} {ds es' : List D} {Ψ : S → Ar → Prop} {Φ : S → List D → Prop} {pos p tpos : Pos} {nm : Str} {kk : Nat} {scope : Scope} {is : List Nat} {g : D → List Sl → Option (List Sl)} {D' : Ds}
/-- a comprehension: what follows its list -/
def LCY (G : Gm) (s : S) (own : List (Str × Nat)) (tg iter : Expr) (ifs : List Expr) (elt : Expr) (scope : Scope) (Ψ : S → Ar → Prop) : Prop := ∃ (wi : TI) (Gt : TG) (t : TT), PI G.X tg iter wi ∧
  (∀ (sh : Shared) (H0 : Hp) (C : Addr) (cl : List (Str × Addr)) (fp : List Addr), PG (G.X.blk sh H0 scope (PySem.compEnvC scope cl C G.X.env) fp) tg Gt) ∧
  (∀ (sh : Shared) (H0 : Hp) (C : Addr) (cl : List (Str × Addr)) (fp : List Addr), PTs (G.X.blk sh H0 scope (PySem.compEnvC scope cl C G.X.env) fp) ifs t) ∧
  ∀ σ H F rs as, Hd G.X.K σ H F rs as s → Ot G.W H F rs as → ∀ Q : VK, VQ G.X.K σ H F rs as Ψ Q → tLc wi Gt t (bE G.X scope elt) (own.map (·.2)) σ H Q
theorem ey_lc (own : List (Str × Nat)) {ifs : List Expr} (hN : G.X.N.Nodup) (h : LCY G s own tg iter ifs elt scope Ψ) (ok : BlkOk G.X.N G.X.env.scope scope own := by exact blk_of) (hc : G.X.calm = true := by rfl) (hf : ∀ x, foldedSetIterable iter G.X.env x = pure x := by intro _; rfl) :
    EY G s (.ListComp elt [⟨tg, iter, ifs, 0⟩] scope pos) Ψ := fun σ H F rs as hd ot Q k => by
  obtain ⟨wi, Gt, t, pi, hG, hT, h⟩ := h
  exact WE.of (pe_lc hc hN pi ok hG hT pe_b hf) (h σ H F rs as hd ot Q k)
/-- y = [..] -/
theorem w_lc (i : Nat) {py spos : Pos} (own : List (Str × Nat)) {ifs : List Expr} (hN : G.X.N.Nodup) (h : LCY G s own tg iter ifs elt scope fun s2 x => D'.nx ⟨s2.ρ.set i x.sl, s2.μ⟩)
    (hsw : swapsWith (.ListComp elt [⟨tg, iter, ifs, 0⟩] scope pos) (some (.Name nm py)) spos.line G.X.env = pure true := by exact sw_true rfl rfl rfl (by decide +kernel)) (ok : BlkOk G.X.N G.X.env.scope scope own := by exact blk_of)
    (hy : G.X.N[i]? = some nm := by rfl) (hyl : G.X.env.scope.names.lookup nm = some .local := by rfl) (hc : G.X.calm = true := by rfl) (hf : ∀ x, foldedSetIterable iter G.X.env x = pure x := by intro _; rfl) :
    W1Y G s (.Assign [.Name nm py] (.ListComp elt [⟨tg, iter, ifs, 0⟩] scope pos) spos) D' := fun σ H F rs as hd ot => by
  obtain ⟨wi, Gt, t, pi, hG, hT, h⟩ := h
  refine WSt.of (ps_setLc hc hN hy hyl hsw pi ok hG hT pe_b hf) (h σ H F rs as hd ot _ fun s2 x q v H1 F1 rs1 as1 h1 p1 g1 r1 => ⟨F1, rs1, as1, ⟨s2.ρ.set i x.sl, s2.μ⟩, ⟨h1.r, h1.sl.set i ?_⟩, g1, p1, q⟩)
  cases x with
  | d d => exact ⟨v, rfl, r1⟩
  | o k => exact ⟨v, rfl, r1⟩
theorem lcy (own : List (Str × Nat)) (ht : TgB G.X scope tg is g)
    (hi : IY G s tg iter fun s1 ds => ds.length ≤ 16777216 ∧ ∃ I : Nat → List T → List D → Prop, I 0 s1.μ [] ∧ (∀ i d μ out, ds[i]? = some d → I i μ out → ∃ ρ', g d (wipeS s1.ρ (own.map (·.2))) = some ρ' ∧ Blk G.X scope fun Gb => EY Gb ⟨ρ', μ⟩ elt fun s3 x => Dm μ.length s3 x fun s4 y => I (i + 1) s4.μ (out ++ [y])) ∧ ∀ μ out, I ds.length μ out → Ψ (S.add ⟨s1.ρ, μ⟩ (.fl out)) (.o μ.length))
    (hv : ∀ i ∈ is, i ∈ own.map (·.2) := by decide) : LCY G s own tg iter [] elt scope Ψ := by
  obtain ⟨wi, pi, hi⟩ := hi
  obtain ⟨Gt, hG, hS⟩ := ht
  refine ⟨wi, Gt, _, pi, hG, fun _ _ _ _ _ => pts_nil, fun σ H F rs as hd ot Q k => lc_runY (W := G.W) (fun σ H F rs as hd ot R c => hi σ H F rs as hd ot R fun s1 ds ⟨hn, I, i0, hs, he⟩ => c s1 ds.length _ ⟨hn, I, i0, fun i μ out hlt hI => ?_, he⟩) hS hv σ H F rs as hd ot Q k⟩
  obtain ⟨ρ', e1, q⟩ := hs i _ μ out (getD_of hlt) hI
  refine ⟨ρ', e1, ttx_yes ⟨fun _ => tex_b fun sh H0 C cl fp => ex_of_ey (ey_dm (ey_mono (q sh H0 C cl fp) fun s3 x ⟨s4, y, e2, q2⟩ => ⟨s4, y, e2, y, rfl, q2⟩)), fun z => nomatch z⟩⟩
theorem lcyi (own : List (Str × Nat)) (ht : TgB G.X scope tg is g)
    (hi : IY G s tg iter fun s1 ds => ds.length ≤ 16777216 ∧ ∃ I : Nat → List T → List D → Prop, I 0 s1.μ [] ∧ (∀ i d μ out, ds[i]? = some d → I i μ out → ∃ ρ', g d (wipeS s1.ρ (own.map (·.2))) = some ρ' ∧ Blk G.X scope fun Gb => TY Gb ⟨ρ', μ⟩ cond fun s2 t => (t = true → Blk G.X scope fun Gb => EY Gb s2 elt fun s3 x => Dm s2.μ.length s3 x fun s4 y => I (i + 1) s4.μ (out ++ [y])) ∧ (t = false → I (i + 1) s2.μ out)) ∧ ∀ μ out, I ds.length μ out → Ψ (S.add ⟨s1.ρ, μ⟩ (.fl out)) (.o μ.length))
    (hv : ∀ i ∈ is, i ∈ own.map (·.2) := by decide) : LCY G s own tg iter [cond] elt scope Ψ := by
  obtain ⟨wi, pi, hi⟩ := hi
  obtain ⟨Gt, hG, hS⟩ := ht
  refine ⟨wi, Gt, _, pi, hG, pts_b, fun σ H F rs as hd ot Q k => lc_runY (W := G.W) (fun σ H F rs as hd ot R c => hi σ H F rs as hd ot R fun s1 ds ⟨hn, I, i0, hs, he⟩ => c s1 ds.length _ ⟨hn, I, i0, fun i μ out hlt hI => ?_, he⟩) hS hv σ H F rs as hd ot Q k⟩
  obtain ⟨ρ', e1, q⟩ := hs i _ μ out (getD_of hlt) hI
  exact ⟨ρ', e1, ttx_b fun sh H0 C cl fp => xt_of_ty (fun σ H F rs as hd ot Q k => q sh H0 C cl fp σ H F rs as hd ot Q fun s2 t q2 => k s2 t ⟨fun z => tex_b fun sh H0 C cl fp => ex_of_ey (ey_dm (ey_mono (q2.1 z sh H0 C cl fp) fun s3 x ⟨s4, y, e2, q3⟩ => ⟨s4, y, e2, y, rfl, q3⟩)), q2.2⟩)⟩
/-- its elements are new lists, kept apart -/
theorem lcyT (own : List (Str × Nat)) (ht : TgB G.X scope tg is g)
    (hi : IY G s tg iter fun s1 ds => ds.length ≤ 16777216 ∧ ∃ I : Nat → List T → List T → Prop, I 0 s1.μ [] ∧ (∀ i d μ out, ds[i]? = some d → I i μ out → ∃ ρ', g d (wipeS s1.ρ (own.map (·.2))) = some ρ' ∧ Blk G.X scope fun Gb => EY Gb ⟨ρ', μ⟩ elt fun s3 x => ∃ s4 t, s3 = S.add s4 t ∧ x = .o s4.μ.length ∧ μ.length ≤ s4.μ.length ∧ I (i + 1) s4.μ (out ++ [t])) ∧ ∀ μ out, I ds.length μ out → Ψ (S.add ⟨s1.ρ, μ⟩ (.lst out)) (.o μ.length))
    (hv : ∀ i ∈ is, i ∈ own.map (·.2) := by decide) : LCY G s own tg iter [] elt scope Ψ := by
  obtain ⟨wi, pi, hi⟩ := hi
  obtain ⟨Gt, hG, hS⟩ := ht
  refine ⟨wi, Gt, _, pi, hG, fun _ _ _ _ _ => pts_nil, fun σ H F rs as hd ot Q k => lc_runYT (W := G.W) (fun σ H F rs as hd ot R c => hi σ H F rs as hd ot R fun s1 ds ⟨hn, I, i0, hs, he⟩ => c s1 ds.length _ ⟨hn, I, i0, fun i μ out hlt hI => ?_, he⟩) hS hv σ H F rs as hd ot Q k⟩
  obtain ⟨ρ', e1, q⟩ := hs i _ μ out (getD_of hlt) hI
  exact ⟨ρ', e1, tex_b fun sh H0 C cl fp => ex_of_ey (q sh H0 C cl fp)⟩
/-! statements -/
theorem WY.at {st : List Stmt} (h : WY G s st D') {W : Wd} {σ : St} {H F : Hp} {rs : List V} {as : List (List Addr)} (hd : Hd G.X.K σ H F rs as s) (ot : Ot G.W H F rs as) (g0 : Go W.as as.flatten W.F W.H F H) (p : W.rs <+: rs) : WSs G.X st (D'.raw G.X.K W) σ H :=
  (h σ H F rs as hd ot).mono (At.join g0 p) (AtR.join g0 p) (At.join g0 p) (At.join g0 p)
theorem wy_mono {D1 : Ds} {st : List Stmt} (h : WY G s st D1) (h1 : ∀ s, D1.nx s → D'.nx s) (h2 : ∀ s x, D1.rt s x → D'.rt s x) (h3 : ∀ s, D1.bk s → D'.bk s) (h4 : ∀ s, D1.ct s → D'.ct s) : WY G s st D' := fun σ H F rs as hd ot =>
  (h σ H F rs as hd ot).mono (At.mono h1) (AtR.mono h2) (At.mono h3) (At.mono h4)
theorem wy_nil (h : D'.nx s) : WY G s [] D' := fun σ H F rs as hd ot => WSs.of pss_nil ⟨F, rs, as, s, hd, Go.refl _ _ _, refl_pre _, h⟩
theorem wy_cons {st : Stmt} {rest : List Stmt} (h : W1Y G s st { D' with nx := fun s1 => WY G s1 rest D' }) : WY G s (st :: rest) D' := fun σ H F rs as hd ot =>
  WSs.of (pss_cons ps_u pss_u) ((h σ H F rs as hd ot).mono (fun _ _ ⟨F1, rs1, as1, s1, h1, g1, p1, q⟩ => q.at h1 (ot.next p1 g1) g1 p1) (fun _ _ q => q) (fun _ _ q => q) (fun _ _ q => q))
theorem wy_if {body orelse : List Stmt} (h : TY G s c fun s1 t => (t = true → WY G s1 body D') ∧ (t = false → WY G s1 orelse D')) : W1Y G s (.If c body orelse pos) D' := fun σ H F rs as hd ot =>
  WSt.of (ps_if pt_u pss_u pss_u) (h σ H F rs as hd ot _ fun s1 t q H1 F1 rs1 as1 h1 p1 g1 => by
    cases t with
    | true => exact iteT ((q.1 rfl).at h1 (ot.next p1 g1) g1 p1)
    | false => exact iteF ((q.2 rfl).at h1 (ot.next p1 g1) g1 p1))
theorem w_ret (h : EY G s e D'.rt) : W1Y G s (.Return (some e) pos) D' := fun σ H F rs as hd ot =>
  WSt.of (ps_ret pe_u) (h σ H F rs as hd ot _ fun s1 x k v H1 F1 rs1 as1 h1 p1 g1 r1 => ⟨σ, F1, rs1, as1, s1, x, h1, g1, p1, r1, k⟩)
theorem w_retN (k : D'.rt s (.d .non)) : W1Y G s (.Return none pos) D' := fun σ H F rs as hd ot => WSt.of ps_retN ⟨σ, F, rs, as, s, .d .non, hd, Go.refl _ _ _, refl_pre _, rfl, k⟩
theorem w_expr (h : EY G s e fun s1 _ => D'.nx s1) (hs : swapsWith e none pos.line G.X.env = pure false := by rfl) : W1Y G s (.Expr e pos) D' := fun σ H F rs as hd ot =>
  WSt.of (ps_expr pe_u hs) (h σ H F rs as hd ot _ fun s1 x k v H1 F1 rs1 as1 h1 p1 g1 r1 => ⟨F1, rs1, as1, s1, h1, g1, p1, k⟩)
theorem w_pass (k : D'.nx s) : W1Y G s (.Pass pos) D' := fun σ H F rs as hd ot => WSt.of ps_pass ⟨F, rs, as, s, hd, Go.refl _ _ _, refl_pre _, k⟩
theorem w_break (k : D'.bk s) : W1Y G s (.Break pos) D' := fun σ H F rs as hd ot => WSt.of ps_break ⟨F, rs, as, s, hd, Go.refl _ _ _, refl_pre _, k⟩
theorem w_cont (k : D'.ct s) : W1Y G s (.Continue pos) D' := fun σ H F rs as hd ot => WSt.of ps_continue ⟨F, rs, as, s, hd, Go.refl _ _ _, refl_pre _, k⟩
theorem sl_ok {K : PySem.W.Frag} {F : Hp} {rs : List V} {v : V} (r : ArOk K F rs x v) : SlOk K F rs x.sl (some v) := by
  cases x with
  | d d => exact ⟨v, rfl, r⟩
  | o k => exact ⟨v, rfl, r⟩
theorem w_set (i : Nat) {pos' : Pos} (hN : G.X.N.Nodup) (h : EY G s e fun s1 x => D'.nx ⟨s1.ρ.set i x.sl, s1.μ⟩) (hi : G.X.N[i]? = some nm := by rfl) (hx : Loc G.X.env.scope nm := by first | exact Or.inl rfl | exact Or.inr rfl)
    (hs : swapsWith e (some (.Name nm pos')) pos.line G.X.env = pure false := by rfl) (hf : G.X.fn nm = true ∨ G.X.env.scope.names.lookup nm = some .local := by first | exact .inl rfl | exact .inr rfl | assumption) :
    W1Y G s (.Assign [.Name nm pos'] e pos) D' := fun σ H F rs as hd ot =>
  WSt.of (ps_set hN hi hx pe_u hs hf) (h σ H F rs as hd ot _ fun s1 x k v H1 F1 rs1 as1 h1 p1 g1 r1 => ⟨F1, rs1, as1, ⟨s1.ρ.set i x.sl, s1.μ⟩, ⟨h1.r, h1.sl.set i (sl_ok r1)⟩, g1, p1, k⟩)
theorem w_par (i j : Nat) (hN : G.X.N.Nodup) {px py pt pt2 : Pos} {nm2 : Str} {kt k2} (h : EY G s a fun s1 x => EY G s1 b fun s2 y => D'.nx ⟨(s2.ρ.set i x.sl).set j y.sl, s2.μ⟩) (hi : G.X.N[i]? = some nm := by rfl) (hj : G.X.N[j]? = some nm2 := by rfl) (hij : i ≠ j := by decide)
    (hc : G.X.calm = true := by rfl) (hx : G.X.env.scope.names.lookup nm = some .local := by rfl) (hy : G.X.env.scope.names.lookup nm2 = some .local := by rfl)
    (hw : swappedStores [.Tuple [.Name nm px, .Name nm2 py] kt pt] (.Tuple [a, b] k2 pt2) G.X.env = pure (some [nm, nm2]) := by rfl)
    (hs : swapsWithSole [.Tuple [.Name nm px, .Name nm2 py] kt pt] (.Tuple [a, b] k2 pt2) pos.line G.X.env = pure false := by rfl)
    (he1 : starEach [a, b] G.X.env = (false, eval a G.X.env) :: starEach [b] G.X.env := by rfl) (he2 : starEach [b] G.X.env = [(false, eval b G.X.env)] := by rfl) :
    W1Y G s (.Assign [.Tuple [.Name nm px, .Name nm2 py] kt pt] (.Tuple [a, b] k2 pt2) pos) D' := fun σ H F rs as hd ot =>
  WSt.of (ps_par hc hN hi hj hij hx hy pa_u hw hs) ((esy_cons (Φ := fun s2 xs => ∃ x y, xs = [x, y] ∧ D'.nx ⟨(s2.ρ.set i x.sl).set j y.sl, s2.μ⟩) (ey_mono h fun s1 x q => esy_cons (ey_mono q fun s2 y q2 => esy_nil ⟨x, y, rfl, q2⟩) he2) he1) σ H F rs as hd ot _ fun s1 xs ⟨x, y, ex, k⟩ vs H1 F1 rs1 as1 h1 p1 g1 a1 => by
    subst ex
    obtain ⟨v, ws, e1, r1, w, ws2, e2, r2, e3⟩ := a1
    cases e3; cases e2; cases e1
    exact ⟨v, w, rfl, F1, rs1, as1, ⟨(s1.ρ.set i x.sl).set j y.sl, s1.μ⟩, ⟨h1.r, (h1.sl.set i (sl_ok r1)).set j (sl_ok r2)⟩, g1, p1, k⟩)
/-- a target of names, from data -/
theorem w_asg (ht : Tg G.X tg is g) (h : EY G s e fun s1 x => ∃ d ρ', x = .d d ∧ g d s1.ρ = some ρ' ∧ D'.nx ⟨ρ', s1.μ⟩)
    (hs : swapsWithSole [tg] e pos.line G.X.env = pure false := by rfl) (hw : swappedStores [tg] e G.X.env = pure none := by rfl) (h1 : (assignEach [tg] G.X.env).map (·.2) = [assign tg G.X.env] := by rfl) : W1Y G s (.Assign [tg] e pos) D' := fun σ H F rs as hd ot => by
  obtain ⟨Gt, hG, hS⟩ := ht
  refine WSt.of (ps_asg pe_u hG hs hw h1) (h σ H F rs as hd ot _ fun s1 x ⟨d, ρ', ex, hr, k⟩ v H1 F1 rs1 as1 h1 p1 g1 r1 => ?_)
  subst ex
  exact hS σ H1 F1 rs1 as1 s1 d v ρ' h1 r1 hr _ fun σ' h' _ => ⟨F1, rs1, as1, ⟨ρ', s1.μ⟩, h', g1, p1, k⟩
/-! targets -/
theorem tg_name (i : Nat) (hN : X.N.Nodup) (hi : X.N[i]? = some nm := by rfl) (hx : Loc X.env.scope nm := by first | exact Or.inl rfl | exact Or.inr rfl) (hf : X.fn nm = true ∨ X.env.scope.names.lookup nm = some .local := by first | exact .inl rfl | exact .inr rfl | assumption) : Tg X (.Name nm pos) [i] (tn i) := ⟨_, pg_name hN hi hx hf, gs_name i⟩
end
end Q
/-! Targets, loops. -/
namespace Q
open PySem L2
def Tgs (X : Cx) (es : List Expr) (is : List Nat) (g : List D → List Sl → Option (List Sl)) (n : Nat) : Prop := ∃ Gs, PGs X es Gs ∧ GSs X.K Gs is g ∧ ∀ ds ρ ρ', g ds ρ = some ρ' → ds.length = n
def TgsB (X : Cx) (scope : Scope) (es : List Expr) (is : List Nat) (g : List D → List Sl → Option (List Sl)) (n : Nat) : Prop := ∃ Gs, (∀ (sh : Shared) (H0 : Hp) (C : Addr) (cl : List (Str × Addr)) (fp : List Addr), PGs (X.blk sh H0 scope (PySem.compEnvC scope cl C X.env) fp) es Gs) ∧ GSs X.K Gs is g ∧ ∀ ds ρ ρ', g ds ρ = some ρ' → ds.length = n
section
variable {G : Gm} {X : Cx} {s s1 s2 s3 : S} {a b c e o tg iter elt cond : Expr} {es elts : List Expr} {x y z : Ar} {d : D} {ds es' : List D} {Ψ : S → Ar → Prop} {Φ : S → List D → Prop} {pos p tpos : Pos} {nm : Str} {kk n : Nat} {scope : Scope} {is js : List Nat} {g : D → List Sl → Option (List Sl)} {h : List D → List Sl → Option (List Sl)} {D' : Ds}
theorem tgs_nil : Tgs X [] [] tnil 0 := ⟨_, pgs_nil, gss_nil, tnil_len⟩
theorem tgs_cons (a : Tg X e is g) (b : Tgs X es js h n) (hs : (assignEach (e :: es) X.env).map (·.2) = assign e X.env :: (assignEach es X.env).map (·.2) := by rfl) : Tgs X (e :: es) (is ++ js) (tcons g h) (n + 1) := by
  obtain ⟨G1, p1, s1⟩ := a
  obtain ⟨G2, p2, s2, l2⟩ := b
  exact ⟨_, pgs_cons p1 p2 hs, gss_cons s1 s2, tcons_len l2⟩
theorem tg_tup (a : Tgs X es is h n) (hc : X.calm = true := by rfl) (hn : (assignEach es X.env).length = n := by rfl) (hst : (assignEach es X.env).findIdx? (·.1) = none := by rfl) : Tg X (.Tuple es kk pos) is (tt h) := by
  obtain ⟨G1, p1, s1, l1⟩ := a
  exact ⟨_, pg_tup hc p1 hn hst, gs_tup s1 l1⟩
theorem tgb_name (i : Nat) (hN : X.N.Nodup) (hi : X.N[i]? = some nm := by rfl) (hx : ∀ (sh : Shared) (H0 : Hp) (C : Addr) (cl : List (Str × Addr)) (fp : List Addr), Loc (X.blk sh H0 scope (PySem.compEnvC scope cl C X.env) fp).env.scope nm := by first | exact fun _ _ _ _ _ => Or.inl rfl | exact fun _ _ _ _ _ => Or.inr rfl)
    (hf : ∀ (sh : Shared) (H0 : Hp) (C : Addr) (cl : List (Str × Addr)) (fp : List Addr), (X.blk sh H0 scope (PySem.compEnvC scope cl C X.env) fp).fn nm = true ∨ (X.blk sh H0 scope (PySem.compEnvC scope cl C X.env) fp).env.scope.names.lookup nm = some .local := by first | exact fun _ _ _ _ _ => .inl rfl | exact fun _ _ _ _ _ => .inr rfl) : TgB X scope (.Name nm pos) [i] (tn i) := ⟨_, fun sh H0 C cl fp => pg_name hN hi (hx sh H0 C cl fp) (hf sh H0 C cl fp), gs_name i⟩
theorem tgsb_nil : TgsB X scope [] [] tnil 0 := ⟨_, fun _ _ _ _ _ => pgs_nil, gss_nil, tnil_len⟩
theorem tgsb_cons (a : TgB X scope e is g) (b : TgsB X scope es js h n) (hs : ∀ (sh : Shared) (H0 : Hp) (C : Addr) (cl : List (Str × Addr)) (fp : List Addr), (assignEach (e :: es) (X.blk sh H0 scope (PySem.compEnvC scope cl C X.env) fp).env).map (·.2) = assign e (X.blk sh H0 scope (PySem.compEnvC scope cl C X.env) fp).env :: (assignEach es (X.blk sh H0 scope (PySem.compEnvC scope cl C X.env) fp).env).map (·.2) := by intros; rfl) : TgsB X scope (e :: es) (is ++ js) (tcons g h) (n + 1) := by
  obtain ⟨G1, p1, s1⟩ := a
  obtain ⟨G2, p2, s2, l2⟩ := b
  exact ⟨_, fun sh H0 C cl fp => pgs_cons (p1 sh H0 C cl fp) (p2 sh H0 C cl fp) (hs sh H0 C cl fp), gss_cons s1 s2, tcons_len l2⟩
theorem tgb_tup (a : TgsB X scope es is h n) (hc : X.calm = true := by rfl) (hn : ∀ (sh : Shared) (H0 : Hp) (C : Addr) (cl : List (Str × Addr)) (fp : List Addr), (assignEach es (X.blk sh H0 scope (PySem.compEnvC scope cl C X.env) fp).env).length = n := by intros; rfl)
    (hst : ∀ (sh : Shared) (H0 : Hp) (C : Addr) (cl : List (Str × Addr)) (fp : List Addr), (assignEach es (X.blk sh H0 scope (PySem.compEnvC scope cl C X.env) fp).env).findIdx? (·.1) = none := by intros; rfl) : TgB X scope (.Tuple es kk pos) is (tt h) := by
  obtain ⟨G1, p1, s1, l1⟩ := a
  exact ⟨_, fun sh H0 C cl fp => pg_tup (X := X.blk sh H0 scope (PySem.compEnvC scope cl C X.env) fp) hc (p1 sh H0 C cl fp) (hn sh H0 C cl fp) (hst sh H0 C cl fp), gs_tup s1 l1⟩
/-! loops: what a turn makes is dropped behind it, slots unknown at the begin are unknown again -/
def maskOf : List Sl → List Bool
  | [] => []
  | .un :: ρ => false :: maskOf ρ
  | _ :: ρ => true :: maskOf ρ
def cutS (n : Nat) : Sl → Sl
  | .o k => match Nat.blt k n with | true => .o k | false => .un
  | p => p
def trimL (s0 s : S) : S := ⟨(keepM (maskOf s0.ρ) s.ρ).map (cutS s0.μ.length), s.μ.take s0.μ.length⟩
theorem HdR.takeN {K : PySem.W.Frag} {H F : Hp} {ts : List T} {rs : List V} {as : List (List Addr)} {n : Nat} (h : HdR K H F ts rs as) (hn : n ≤ ts.length) : HdR K H F (ts.take n) (rs.take n) (as.take n) := by
  have hp := h.part (ks := List.range n) List.nodup_range (fun k hk => by have := List.mem_range.mp hk; omega)
  rwa [pick_range _ _ _ hn, pick_range _ _ _ (by rw [h.l1]; exact hn), pick_range _ _ _ (by rw [h.l2]; exact hn)] at hp
theorem slots_cut {K : PySem.W.Frag} {F : Hp} {rs : List V} {n : Nat} : ∀ {ρ : List Sl} {σ : St}, Slots K F rs ρ σ → Slots K F (rs.take n) (ρ.map (cutS n)) σ
  | [], _, h => h
  | p :: ρ, _, ⟨x, σ', e, h2, h3⟩ => by
    refine ⟨x, σ', e, ?_, slots_cut h3⟩
    cases p with
    | un => trivial
    | d d => exact h2
    | o k =>
      show SlOk K F (rs.take n) (match Nat.blt k n with | true => .o k | false => .un) x
      cases q : Nat.blt k n with
      | false => trivial
      | true =>
        obtain ⟨w, e1, e2⟩ := h2
        have : k < n := by unfold Nat.blt at q; exact Nat.le_of_ble_eq_true q
        exact ⟨w, e1, by rw [List.getElem?_take_of_lt this]; exact e2⟩
theorem Hd.trim {K : PySem.W.Frag} {σ : St} {H F : Hp} {rs : List V} {as : List (List Addr)} {s0 s : S} (hd : Hd K σ H F rs as s) (hn : s0.μ.length ≤ s.μ.length) : Hd K σ H F (rs.take s0.μ.length) (as.take s0.μ.length) (trimL s0 s) :=
  ⟨hd.r.takeN hn, slots_cut (hd.sl.weak (weak_keep _ _))⟩
theorem take_fl {as : List (List Addr)} {n : Nat} : ∀ a ∈ (as.take n).flatten, a ∈ as.flatten := fun a ha => by
  obtain ⟨l, hl, h⟩ := List.mem_flatten.mp ha
  exact List.mem_flatten.mpr ⟨l, List.mem_of_mem_take hl, h⟩
theorem at_trim {K : PySem.W.Frag} {H F : Hp} {as : List (List Addr)} {rs : List V} {s0 : S} {Φ : S → Prop} (hl : rs.length = s0.μ.length) : ∀ σ' H', At K ⟨H, F, as.flatten, rs⟩ (fun s4 => Φ (trimL s0 s4)) σ' H' → At K ⟨H, F, as.flatten, rs⟩ Φ σ' H' := fun σ' H' ⟨F1, rs1, as1, s1, h1, g1, p1, q⟩ => by
  have n1 : s0.μ.length ≤ s1.μ.length := by rw [← hl, ← h1.r.l1]; exact p1.length_le
  refine ⟨F1, _, _, _, h1.trim n1, g1.sub take_fl, ?_, q⟩
  obtain ⟨zs, e⟩ := p1
  refine ⟨[], ?_⟩
  show rs ++ [] = rs1.take _
  have e : rs ++ zs = rs1 := e
  rw [← e, ← hl]; simp
theorem w_for {body : List Stmt} (ht : Tg G.X tg is g) (hp : PassesOwn (model G.X.prog G.X.w) G.X.A G.X.env G.X.xe)
    (hi : IY G s tg iter fun s1 ds => ∃ I : Nat → S → Prop, I 0 s1 ∧ (∀ i d s2, ds[i]? = some d → I i s2 → ∃ ρ', g d s2.ρ = some ρ' ∧ WY G ⟨ρ', s2.μ⟩ body { nx := fun s4 => I (i + 1) (trimL s1 s4), rt := D'.rt, bk := D'.nx, ct := fun s4 => I (i + 1) (trimL s1 s4) }) ∧ ∀ s2, I ds.length s2 → D'.nx s2)
    (hc : G.X.calm = true := by rfl) (hf : ∀ x, foldedSetIterable iter G.X.env x = pure x := by intro _; rfl) : W1Y G s (.For tg iter body [] pos) D' := fun σ H F rs as hd ot => by
  obtain ⟨wi, pi, hi⟩ := hi
  obtain ⟨Gt, hG, hS⟩ := ht
  refine WSt.of (ps_for hp hc pi hG pss_u hf) (hi σ H F rs as hd ot _ fun s1 ds ⟨I, i0, hs, he⟩ J H1 F1 rs1 as1 h1 p1 g1 gv => ?_)
  have hl1 : rs1.length = s1.μ.length := h1.r.l1
  refine ⟨fun i m σ2 H2 => m = ds.length - i ∧ i ≤ ds.length ∧ At G.X.K ⟨H1, F1, as1.flatten, rs1⟩ (I i) σ2 H2, ⟨ds.length, by simp, Nat.zero_le _, F1, rs1, as1, s1, h1, Go.refl _ _ _, refl_pre _, i0⟩, ?_⟩
  rintro i m σ2 H2 ⟨rfl, hin, F2, rs2, as2, s2, h2, g2, p2, inv⟩
  obtain ⟨go, stop, yld⟩ := gv H2 F2 g2.fz h2.sub
  by_cases hlt : i < ds.length
  · refine .inr ⟨go i hlt, At G.X.K ⟨H1, F1, as1.flatten, rs1⟩ (I (i + 1)), fun σ' H' a => ⟨ds.length - (i + 1), by omega, rfl, hlt, a⟩, fun v H3 y => ?_⟩
    obtain ⟨F3, g3, sb3, r3⟩ := yld i v H3 hlt y
    obtain ⟨ρ', e1, w⟩ := hs i _ s2 (getD_of hlt) inv
    obtain ⟨h3, g3'⟩ := h2.pure g3 sb3
    refine hS σ2 H3 F3 rs2 as2 s2 _ v ρ' h3 r3 e1 _ fun σ4 h4 _ => ?_
    have w4 := w.at (W := ⟨H1, F1, as1.flatten, rs1⟩) h4 ((ot.next p1 g1).next p2 (g2.trans g3')) (g2.trans g3') p2
    exact w4.mono (at_trim hl1) (AtR.join g1 p1) (At.join g1 p1) (at_trim hl1)
  · have e : i = ds.length := by omega
    subst e
    exact .inl ⟨stop, At.join g1 p1 _ _ ⟨F2, rs2, as2, s2, h2, g2, p2, he s2 inv⟩⟩
theorem w_while {body : List Stmt} (I : S → Prop) (m : S → Nat) (h0 : I s)
    (hs : ∀ s2, I s2 → TY G s2 c fun s3 t => (t = true → WY G s3 body { nx := fun s4 => I (trimL s s4) ∧ m (trimL s s4) < m s2, rt := D'.rt, bk := D'.nx, ct := fun s4 => I (trimL s s4) ∧ m (trimL s s4) < m s2 }) ∧ (t = false → D'.nx s3))
    (hp : PassesOwn (model G.X.prog G.X.w) G.X.A G.X.env G.X.xe) : W1Y G s (.While c body [] pos) D' := fun σ H F rs as hd ot => by
  have hl : rs.length = s.μ.length := hd.r.l1
  refine WSt.of (ps_while hp pt_u pss_u) ⟨fun k σ2 H2 => At G.X.K ⟨H, F, as.flatten, rs⟩ (fun s2 => I s2 ∧ m s2 = k) σ2 H2, ⟨m s, F, rs, as, s, hd, Go.refl _ _ _, refl_pre _, h0, rfl⟩, ?_⟩
  rintro k σ2 H2 ⟨F2, rs2, as2, s2, h2, g2, p2, inv, rfl⟩
  refine hs s2 inv σ2 H2 F2 rs2 as2 h2 (ot.next p2 g2) _ fun s3 b q H3 F3 rs3 as3 h3 p3 g3 => ?_
  cases b with
  | true =>
    have w4 := (q.1 rfl).at (W := ⟨H, F, as.flatten, rs⟩) h3 ((ot.next p2 g2).next p3 g3) (g2.trans g3) (p2.trans p3)
    refine ⟨fun σ4 H4 => At G.X.K ⟨H, F, as.flatten, rs⟩ (fun s4 => I s4 ∧ m s4 < m s2) σ4 H4, ?_, w4.mono (at_trim (Φ := fun s4 => I s4 ∧ m s4 < m s2) hl) (fun _ _ q => q) (fun _ _ q => q) (at_trim (Φ := fun s4 => I s4 ∧ m s4 < m s2) hl)⟩
    rintro σ4 H4 ⟨F4, rs4, as4, s4, h4, g4, p4, i4, l4⟩
    exact ⟨m s4, l4, F4, rs4, as4, s4, h4, g4, p4, i4, rfl⟩
  | false => exact ⟨F3, rs3, as3, s3, h3, g2.trans g3, p2.trans p3, q.2 rfl⟩
end
end Q
/-! Defs and their calls, with what they raise. -/
namespace Q
open PySem L2
/-- a contract: arguments, what is asked of them, what it gives, what it raises -/
structure Cn where
  ι : Type
  args : ι → List Ag
  pre : ι → Prop
  post : ι → T → List T → Prop
  exc : ι → Xc → List T → Prop := fun _ _ _ => False
def spY (K : PySem.W.Frag) (Φ : Cn) : Sp := fun vs H Q E => ∃ F ass, ∃ i : Φ.ι, HdR K H F (agsT (Φ.args i)) (agV (Φ.args i) vs) ass ∧ AgD K F (Φ.args i) vs ∧ Φ.pre i ∧
  (∀ r outs, Φ.post i r outs → ∀ v H' F' ass', HdR K H' F' (outs ++ [r]) (agV (Φ.args i) vs ++ [v]) ass' → Go ass.flatten ass'.flatten F H F' H' → Q v H') ∧
  ∀ x outs, Φ.exc i x outs → ∀ cls d H' F' ass', HdR K H' F' outs (agV (Φ.args i) vs) ass' → Go ass.flatten ass'.flatten F H F' H' → XcOk K F' x cls d → E cls d H'
/-- how a body raises -/
def Rx (m : Nat) (exc : Xc → List T → Prop) : S → Xc → Prop := fun s x => ∃ outs, exc x outs ∧ s.μ.take m = outs ∧ m ≤ s.μ.length
section
variable {P : Program} {w : World} {K : PySem.W.Frag} {mg : Str → Option Value} {base : Heap}
theorem fn_y {x qual : Str} {st : Stmt} {f : Addr} {fd : FuncData} {N ps : List Str} {k : Nat} {Φ : Cn} (F : Fun K x qual st f fd) (S : FnScope N ps (defScope st)) (hl : ∀ i, (Φ.args i).length = ps.length)
    (hb : ∀ (cdv : Value) (A : Around) (outer : List Env) (s : Shared) (H : Hp) (E : XK), Room k (A.deeper (PyProof.Rows.envOfC qual (defScope st) s.heap.objs.size f cdv)) → ∀ i, Φ.pre i → ∀ W : Option Wd,
      Gm.tk ⟨cxOf (L2.CX P w) P w K mg base N qual (defScope st) f cdv A outer s H E, W, Rx (agsT (Φ.args i)).length (Φ.exc i)⟩ →
      PassesOwn (model P w) (A.deeper (PyProof.Rows.envOfC qual (defScope st) s.heap.objs.size f cdv)) (PyProof.Rows.envOfC qual (defScope st) s.heap.objs.size f cdv) (cxOf (L2.CX P w) P w K mg base N qual (defScope st) f cdv A outer s H E).xe →
      WY ⟨cxOf (L2.CX P w) P w K mg base N qual (defScope st) f cdv A outer s H E, W, Rx (agsT (Φ.args i)).length (Φ.exc i)⟩ (st0 N.length (Φ.args i)) (defBody st) (rets (agsT (Φ.args i)).length (Φ.post i))) : FnOk P w K mg base (L2.CX P w) (k + 1) f fd ps (spY K Φ) := by
  refine F.okX S (fun vs H Q E h => ?_) (fun cdv A outer s H vs Q E hr h => ?_)
  · obtain ⟨F0, ass, i, _, h2, _⟩ := h
    rw [h2.len, hl i]
  · obtain ⟨F0, ass, i, h1, h2, h3, c, ce⟩ := h
    refine ⟨_, pss_u, ?_⟩
    have sl : Slots K F0 (agV (Φ.args i) vs) (st0 N.length (Φ.args i)).ρ (start N vs) := by
      have q := slots0_ok [] h2
      refine q.app ?_
      rw [h2.len]
      exact Slots.uns _
    have tk : Gm.tk ⟨cxOf (L2.CX P w) P w K mg base N qual (defScope st) f cdv A outer s H E, some ⟨H, F0, ass.flatten, agV (Φ.args i) vs⟩, Rx (agsT (Φ.args i)).length (Φ.exc i)⟩ := by
      refine Takes.imp (takes_of (E := E) rfl rfl rfl rfl) fun cls d σ H' ⟨F', rs, as, s', x, hd, ot, ox, outs, he, ht, hm⟩ => ?_
      obtain ⟨g, p⟩ := ot _ rfl
      have lv := agV_len h2
      have q := hd.r.takeN hm
      rw [ht] at q
      have er : rs.take (agsT (Φ.args i)).length = agV (Φ.args i) vs := by
        obtain ⟨zs, e⟩ := p
        have e : agV (Φ.args i) vs ++ zs = rs := e
        rw [← e, ← lv]; simp
      rw [er] at q
      exact ce x outs he cls d H' F' _ q (g.sub take_fl) ox
    have w0 := hb cdv A outer s H E hr i h3 (some ⟨H, F0, ass.flatten, agV (Φ.args i) vs⟩) tk (passes_of rfl) (start N vs) H F0 (agV (Φ.args i) vs) ass ⟨h1, sl⟩ (fun w e => by cases e; exact ⟨Go.refl _ _ _, refl_pre _⟩)
    rw [← agV_len h2] at w0
    refine w0.mono (fun σ' H' q => ?_) (fun v H' q => ?_) (fun _ _ q => ?_) (fun _ _ q => ?_)
    · obtain ⟨F', rs', as', s', hd, g, p, r, outs, hp, rt⟩ := q
      obtain ⟨as2, q1, q2⟩ := ret_out (x := .d .non) (v := V.non) hd g p rfl rt
      exact c r outs hp _ _ _ _ q1 q2
    · obtain ⟨σ', F', rs', as', s', x', hd, g, p, a, r, outs, hp, rt⟩ := q
      obtain ⟨as2, q1, q2⟩ := ret_out hd g p a rt
      exact c r outs hp _ _ _ _ q1 q2
    · obtain ⟨_, _, _, _, _, _, _, z⟩ := q; exact z
    · obtain ⟨_, _, _, _, _, _, _, z⟩ := q; exact z
end
/-! calls: some arguments become data -/
def dmM (n : Nat) (s : S) : List Bool → List Ar → Option (S × List Ar)
  | true :: m, x :: xs => match dmM n s m xs with
    | none => none
    | some (s1, ys) => match dm n s1 x with
      | none => none
      | some (s2, d) => some (s2, .d d :: ys)
  | false :: m, x :: xs => match dmM n s m xs with
    | none => none
    | some (s1, ys) => some (s1, x :: ys)
  | [], xs => some (s, xs)
  | _ :: _, [] => some (s, [])
def okB (n : Nat) : List Ar → Bool
  | [] => true
  | .d _ :: xs => okB n xs
  | .o k :: xs => Nat.blt k n && okB n xs
def dmC (n : Nat) (s : S) (m : List Bool) (xs : List Ar) : Option (S × List Ar) := match dmM n s m xs with
  | none => none
  | some (s', ys) => match okB s'.μ.length ys with | true => some (s', ys) | false => none
/-- arguments as they were, as far as their objects are still told -/
def ArsW (K : PySem.W.Frag) (F : Hp) (rs : List V) : List Ar → List V → Prop
  | [], vs => vs = []
  | x :: xs, vs => ∃ v ws, vs = v :: ws ∧ (∀ k, x = .o k → k < rs.length → ArOk K F rs x v) ∧ (∀ d, x = .d d → Rep K F d v) ∧ ArsW K F rs xs ws
theorem ArsW.of {K : PySem.W.Frag} {F : Hp} {rs : List V} : ∀ {xs : List Ar} {vs : List V}, ArsOk K F rs xs vs → ArsW K F rs xs vs
  | [], _, h => h
  | x :: xs, _, ⟨v, ws, e, a, b⟩ => ⟨v, ws, e, fun _ _ _ => a, fun d e => by subst e; exact a, ArsW.of b⟩
theorem ArsW.mono {K : PySem.W.Frag} {F F' : Hp} {rs rs' : List V} (e : Same F F') (p : rs' <+: rs) : ∀ {xs : List Ar} {vs : List V}, ArsW K F rs xs vs → ArsW K F' rs' xs vs
  | [], _, h => h
  | x :: xs, _, ⟨v, ws, e1, a, b, c⟩ => ⟨v, ws, e1, fun k ek hk => by
      have hk' : k < rs.length := Nat.lt_of_lt_of_le hk p.length_le
      exact dm_ar e p (a k ek hk') fun j ej => by rw [ek] at ej; cases ej; exact hk, fun d ed => Rep.mono e d v (b d ed), ArsW.mono e p c⟩
theorem ArsW.ok {K : PySem.W.Frag} {F : Hp} {rs : List V} {n : Nat} (hn : rs.length = n) : ∀ {xs : List Ar} {vs : List V}, okB n xs = true → ArsW K F rs xs vs → ArsOk K F rs xs vs
  | [], _, _, h => h
  | .d d :: xs, _, o, ⟨v, ws, e1, a, b, c⟩ => ⟨v, ws, e1, b d rfl, ArsW.ok hn o c⟩
  | .o k :: xs, _, o, ⟨v, ws, e1, a, b, c⟩ => by
    have o' : (Nat.blt k n && okB n xs) = true := o
    rw [Bool.and_eq_true] at o'
    have hk : k < n := by have := o'.1; unfold Nat.blt at this; exact Nat.le_of_ble_eq_true this
    exact ⟨v, ws, e1, a k rfl (by omega), ArsW.ok hn o'.2 c⟩
theorem dmM_ok {K : PySem.W.Frag} {n : Nat} {σ : St} {H : Hp} {s : S} : ∀ {m : List Bool} {xs : List Ar} {s' : S} {ys : List Ar} {F : Hp} {rs : List V} {as : List (List Addr)} {vs : List V}, dmM n s m xs = some (s', ys) → Hd K σ H F rs as s → ArsOk K F rs xs vs → n ≤ rs.length →
    ∃ F' rs' as', Hd K σ H F' rs' as' s' ∧ rs' <+: rs ∧ n ≤ rs'.length ∧ Go as.flatten as'.flatten F H F' H ∧ ArsW K F' rs' ys vs
  | [], xs, _, _, F, rs, as, _, h, hd, a, hn => by cases h; exact ⟨F, rs, as, hd, refl_pre _, hn, Go.refl _ _ _, ArsW.of a⟩
  | b :: m, [], s', ys, F, rs, as, _, h, hd, a, hn => by
    have e : dmM n s (b :: m) [] = some (s, []) := by cases b <;> rfl
    rw [e] at h
    cases h; cases a; exact ⟨F, rs, as, hd, refl_pre _, hn, Go.refl _ _ _, rfl⟩
  | false :: m, x :: xs, s', ys, F, rs, as, _, h, hd, ⟨v, ws, e, a, b⟩, hn => by
    subst e
    have h : (match dmM n s m xs with | none => none | some (s1, ys) => some (s1, x :: ys)) = some (s', ys) := h
    cases q : dmM n s m xs with
    | none => rw [q] at h; cases h
    | some z =>
      obtain ⟨s1, ys1⟩ := z
      rw [q] at h
      cases h
      obtain ⟨F1, rs1, as1, h1, p1, n1, g1, r1⟩ := dmM_ok q hd b hn
      exact ⟨F1, rs1, as1, h1, p1, n1, g1, v, ws, rfl, fun k ek hk => dm_ar g1.fz p1 a fun j ej => by rw [ek] at ej; cases ej; exact hk, fun d ed => by subst ed; exact Rep.mono g1.fz d v a, r1⟩
  | true :: m, x :: xs, s', ys, F, rs, as, _, h, hd, ⟨v, ws, e, a, b⟩, hn => by
    subst e
    have h : (match dmM n s m xs with | none => none | some (s1, ys) => match dm n s1 x with | none => none | some (s2, d) => some (s2, Ar.d d :: ys)) = some (s', ys) := h
    cases q : dmM n s m xs with
    | none => rw [q] at h; cases h
    | some z =>
      obtain ⟨s1, ys1⟩ := z
      rw [q] at h
      have h : (match dm n s1 x with | none => none | some (s2, d) => some (s2, Ar.d d :: ys1)) = some (s', ys) := h
      obtain ⟨F1, rs1, as1, h1, p1, n1, g1, r1⟩ := dmM_ok q hd b hn
      cases q2 : dm n s1 x with
      | none => rw [q2] at h; cases h
      | some z =>
        obtain ⟨s2, d⟩ := z
        rw [q2] at h
        cases h
        have a1 : ArOk K F1 rs1 x v := dm_ar g1.fz p1 a fun k e => by
          subst e
          have q2 : dmO n s1 k (s1.μ[k]?) = some (s', d) := q2
          cases z : s1.μ[k]? with
          | none => rw [z] at q2; cases q2
          | some t => rw [h1.r.l1]; exact (List.getElem?_eq_some_iff.mp z).1
        obtain ⟨F2, rs2, as2, h2, p2, n2, g2, r2⟩ := dm_ok q2 h1 a1 n1
        exact ⟨F2, rs2, as2, h2, p2.trans p1, n2, g1.trans g2, v, ws, rfl, fun k ek => (by cases ek), fun e ee => by cases ee; exact r2, r1.mono g2.fz p2⟩
theorem dmC_ok {K : PySem.W.Frag} {n : Nat} {σ : St} {H : Hp} {s : S} {m : List Bool} {xs : List Ar} {s' : S} {ys : List Ar} {F : Hp} {rs : List V} {as : List (List Addr)} {vs : List V} (h : dmC n s m xs = some (s', ys)) (hd : Hd K σ H F rs as s) (a : ArsOk K F rs xs vs) (hn : n ≤ rs.length) :
    ∃ F' rs' as', Hd K σ H F' rs' as' s' ∧ rs' <+: rs ∧ n ≤ rs'.length ∧ Go as.flatten as'.flatten F H F' H ∧ ArsOk K F' rs' ys vs := by
  unfold dmC at h
  cases q : dmM n s m xs with
  | none => rw [q] at h; cases h
  | some z =>
    obtain ⟨s1, ys1⟩ := z
    rw [q] at h
    have h : (match okB s1.μ.length ys1 with | true => some (s1, ys1) | false => none) = some (s', ys) := h
    cases o : okB s1.μ.length ys1 with
    | false => rw [o] at h; cases h
    | true =>
      rw [o] at h
      cases h
      obtain ⟨F1, rs1, as1, h1, p1, n1, g1, r1⟩ := dmM_ok q hd a hn
      exact ⟨F1, rs1, as1, h1, p1, n1, g1, ArsW.ok h1.r.l1 o r1⟩
def DmC (n : Nat) (s : S) (m : List Bool) (xs : List Ar) (P : S → List Ar → Prop) : Prop := ∃ s' ys, dmC n s m xs = some (s', ys) ∧ P s' ys
theorem dmcI {n : Nat} {s s' : S} {m : List Bool} {xs ys : List Ar} {P : S → List Ar → Prop} (k : P s' ys) (h : dmC n s m xs = some (s', ys) := by rfl) : DmC n s m xs P := ⟨s', ys, h, k⟩
/-- a def that can be called by its name, with its contract -/
def ClY (P : Program) (w : World) (K : PySem.W.Frag) (mg : Str → Option Value) (base : Heap) (nm : Str) (n k : Nat) (Φ : Cn) : Prop :=
  ∃ (f : Addr) (fd : FuncData) (ps : List Str), FnOk P w K mg base (L2.CX P w) k f fd ps (spY K Φ) ∧ mg nm = some (.ref f) ∧ PySem.W.keepIn K (.ref f) = true ∧ Binds K fd ps [] ∧ ps.length = n
theorem ClY.mono {P : Program} {w : World} {K : PySem.W.Frag} {mg : Str → Option Value} {base : Heap} {nm : Str} {n j k : Nat} {Φ : Cn} (h : ClY P w K mg base nm n j Φ) (l : j ≤ k) : ClY P w K mg base nm n k Φ := by
  obtain ⟨f, fd, ps, a, b, c, d, e⟩ := h
  exact ⟨f, fd, ps, a.mono l, b, c, d, e⟩
theorem cly_of {P : Program} {w : World} {K : PySem.W.Frag} {mg : Str → Option Value} {base : Heap} {x qual nm : Str} {st : Stmt} {f : Addr} {fd : FuncData} {ps : List Str} {k : Nat} {Φ : Cn} (F : Fun K x qual st f fd) (g : mg nm = some (.ref f)) (h : FnOk P w K mg base (L2.CX P w) k f fd ps (spY K Φ)) (b : Binds K fd ps []) : ClY P w K mg base nm ps.length k Φ :=
  ⟨f, fd, ps, h, g, F.kp, b, rfl⟩
section
variable {G : Gm} {s s1 : S} {Φ : Cn} {xs ys : List Ar} {e o : Expr} {es : List Expr} {pos p apos : Pos} {nm : Str} {n k : Nat} {Ψ : S → Ar → Prop} {m : List Bool}
/-- what a callee's promise gives to the caller's state -/
theorem call_inY {σ : St} {H F : Hp} {rs : List V} {as : List (List Addr)} {vs : List V} {Q : VK} {E' : XK} (i : Φ.ι) (hd : Hd G.X.K σ H F rs as s) (ot : Ot G.W H F rs as) (a : ArsOk G.X.K F rs xs vs) (hg : agOf s.μ xs = some (Φ.args i)) (hp : Φ.pre i) (nd : (oks xs).Nodup)
    (c : ∀ r outs, Φ.post i r outs → outs.length = (oks xs).length ∧ ∀ v H' F' as', Hd G.X.K σ H' F' (rs ++ [v]) as' ⟨s.ρ, setAll s.μ (oks xs) outs ++ [r]⟩ → Go as.flatten as'.flatten F H F' H' → Q v H')
    (ce : ∀ x outs, Φ.exc i x outs → outs.length = (oks xs).length ∧ ∀ cls d H' F' as', Hd G.X.K σ H' F' rs as' ⟨s.ρ, setAll s.μ (oks xs) outs⟩ → Go as.flatten as'.flatten F H F' H' → XcOk G.X.K F' x cls d → E' cls d H') : spY G.X.K Φ vs H Q E' := by
  obtain ⟨q1, q2, q3, q4⟩ := agOf_ok hg a
  refine ⟨F, pick as (oks xs) [], i, ?_, q3, hp, fun r outs ho v H' F' ass' h' g => ?_, fun x outs ho cls d H' F' ass' h' g ox => ?_⟩
  · rw [q1, q2]
    exact hd.r.part nd q4
  · rw [q2] at h'
    obtain ⟨lo, c⟩ := c r outs ho
    have l2 : ass'.length = (oks xs).length + 1 := by have := h'.l2; simp at this; omega
    have es2 : ass' = ass'.take (oks xs).length ++ ass'.drop (oks xs).length := (List.take_append_drop _ _).symm
    rw [es2] at h' g
    obtain ⟨m1, m2⟩ := hd.r.merge nd q4 lo (by rw [List.length_take]; omega) h' g
    exact c v H' F' _ ⟨m1, hd.sl.mono m2.fz fun k v q => pre_get ⟨_, rfl⟩ k v q⟩ m2
  · rw [q2] at h'
    obtain ⟨lo, ce⟩ := ce x outs ho
    have l2 : ass'.length = (oks xs).length := by have := h'.l2; omega
    have h2 : HdR G.X.K H' F' (outs ++ []) (pick rs (oks xs) .non ++ []) (ass' ++ []) := by simpa using h'
    have g2 : Go (pick as (oks xs) []).flatten (ass' ++ []).flatten F H F' H' := by simpa using g
    obtain ⟨m1, m2⟩ := hd.r.merge nd q4 lo l2 h2 g2
    simp only [List.append_nil] at m1 m2
    exact ce cls d H' F' _ ⟨m1, hd.sl.mono m2.fz fun k v q => q⟩ m2 ox
/-- what follows a call -/
def After (G : Gm) (Φ : Cn) (s : S) (ys : List Ar) (Ψ : S → Ar → Prop) : Prop := ∃ i, agOf s.μ ys = some (Φ.args i) ∧ Φ.pre i ∧ (oks ys).Nodup ∧
  (∀ r outs, Φ.post i r outs → outs.length = (oks ys).length ∧ ((∃ d, r = .fz d ∧ Ψ ⟨s.ρ, setAll s.μ (oks ys) outs⟩ (.d d)) ∨ Ψ ⟨s.ρ, setAll s.μ (oks ys) outs ++ [r]⟩ (.o s.μ.length))) ∧
  ∀ x outs, Φ.exc i x outs → outs.length = (oks ys).length ∧ G.Ξ ⟨s.ρ, setAll s.μ (oks ys) outs⟩ x
/-- the wish for what a callee raises, at the caller -/
def wishE (G : Gm) (σ : St) : XK := fun cls d H' => WxOf G.X.K G.W G.Ξ cls d σ H'
theorem passE (tk : G.tk) (σ : St) : PassesAt (L2.CX G.X.prog G.X.w) G.X σ (wishE G σ) := fun _ _ _ e s' I c => tk e s' (XE.of_call I (fun _ _ _ h => h) c)
end
end Q
namespace Q
open PySem PySem.Spec PyProof.Rows L2
section
variable {X : Cx} {CX : CXT} {k n : Nat} {f C : Addr} {fd : FuncData} {ps ks : List Str} {sp : Sp} {E : XK} {nm m : Str} {p pos apos : Pos} {e o : Expr} {es : List Expr} {kws : List Keyword} {σ : L2.St} {H : Hp} {R : VK} {g : List Value → List Value → List Value} {gV : List V → List V → List V}
/-- a call, at fixed slots -/
theorem we_call (F : FnOk X.prog X.w X.K X.mg X.base CX k f fd ps sp) (hr : Room k X.A) (hg : Gl X nm) (hm : X.mg nm = some (.ref f)) (hk : PySem.W.keepIn X.K (.ref f) = true) (hb : Binds X.K fd ps []) (hx : PassesAt CX X σ E)
    (ha : WA X (e :: es) σ H fun vs H1 => sp vs H1 R E) (hdb : (nm == ("__debug__" : Str)) = false := by decide) (he : starEach (e :: es) X.env = (false, eval e X.env) :: starEach es X.env := by rfl) (hpl : (backTo pos (starEach es X.env)).any (·.1) = false := by rfl) :
    WE X (.Call (.Name nm p) (e :: es) [] pos) σ H R := fun pins s I => by
  refine wpAny_Call_Name_kw (ld_glob I hg hm ?_ hdb)
  refine PySem.W.callWith_K (h₀ := X.base) I.ok.mod.kin hk (thn (ha pos pins s I) fun us s1 ⟨vs, H1, I1, r, q⟩ => ⟨I1.kIn, ?_⟩) he hpl
  exact run_fnS (E := fun _ => E) F hr hb hx I1 r q
theorem we_call0 (F : FnOk X.prog X.w X.K X.mg X.base CX k f fd ps sp) (hr : Room k X.A) (hg : Gl X nm) (hm : X.mg nm = some (.ref f)) (hk : PySem.W.keepIn X.K (.ref f) = true) (hb : Binds X.K fd ps []) (hx : PassesAt CX X σ E)
    (ha : sp [] H R E) (hdb : (nm == ("__debug__" : Str)) = false := by decide) : WE X (.Call (.Name nm p) [] [] pos) σ H R := fun pins s I => by
  refine wpAny_Call_Name_kw (ld_glob I hg hm ?_ hdb)
  exact PySem.W.callWith_K0 I.kIn hk (run_fnS (us := []) (E := fun _ => E) F hr hb hx I .nil ha)
theorem we_meth {pl : Sem Bool} (c : Cls X.K C) (hm : Meth X.K C m f) (F : FnOk X.prog X.w X.K X.mg X.base CX k f fd ps sp) (hr : Room k X.A) (hb : Binds X.K fd ps []) (hx : PassesAt CX X σ E)
    (h : WE X o σ H fun x H1 => ∃ a dx fs, x = .ref a ∧ H1 a = some (.ins C dx fs) ∧ fs.lookup m = none ∧ WA X (e :: es) σ H1 fun vs H2 => sp (x :: vs) H2 R E)
    (hst : starEach (e :: es) X.env = (false, eval e X.env) :: starEach es X.env := by rfl) (hpl : (backTo pos (starEach es X.env)).any (·.1) = false := by rfl)
    (ht : eval (.Call (.Attribute o m apos) (e :: es) [] pos) X.env = (do
      let ov ← eval o X.env
      standAt apos.atName
      let (f, first) ← holding [ov] (getMethod ov m pl)
      callWith pos f first (backTo pos (starEach (e :: es) X.env)) (backToKw pos (keywordEach [] X.env))) := by rfl) :
    WE X (.Call (.Attribute o m apos) (e :: es) [] pos) σ H R := fun pins s I => by
  refine PySem.W.methodCall_KW (pl := pl) (thn (h pins s I) fun u s1 ⟨x, H1, I1, rx, a, dx, fs, ex, ea, l, q⟩ => ?_) ht
  subst ex
  obtain rfl : u = Value.ref a := rx
  refine getmeth_ok I1 ea c hm l ?_
  refine PySem.W.callWith_K (first := [.ref a]) (h₀ := X.base) I.ok.mod.kin hm.kp (thn (q pos pins s1 I1) fun us s2 ⟨vs, H2, I2, r, q2⟩ => ⟨I2.kIn, ?_⟩) hst hpl
  exact run_fnS (us := .ref a :: us) (vs := .ref a :: vs) (E := fun _ => E) F hr hb hx I2 (.cons rfl r) q2
theorem we_meth0 {pl : Sem Bool} (c : Cls X.K C) (hm : Meth X.K C m f) (F : FnOk X.prog X.w X.K X.mg X.base CX k f fd ps sp) (hr : Room k X.A) (hb : Binds X.K fd ps []) (hx : PassesAt CX X σ E)
    (h : WE X o σ H fun x H1 => ∃ a dx fs, x = .ref a ∧ H1 a = some (.ins C dx fs) ∧ fs.lookup m = none ∧ sp [x] H1 R E)
    (ht : eval (.Call (.Attribute o m apos) [] [] pos) X.env = (do
      let ov ← eval o X.env
      standAt apos.atName
      let (f, first) ← holding [ov] (getMethod ov m pl)
      callWith pos f first (backTo pos (starEach [] X.env)) (backToKw pos (keywordEach [] X.env))) := by rfl) :
    WE X (.Call (.Attribute o m apos) [] [] pos) σ H R := fun pins s I => by
  refine PySem.W.methodCall_KW (pl := pl) (thn (h pins s I) fun u s1 ⟨x, H1, I1, rx, a, dx, fs, ex, ea, l, q⟩ => ?_) ht
  subst ex
  obtain rfl : u = Value.ref a := rx
  refine getmeth_ok I1 ea c hm l ?_
  exact PySem.W.callWith_K0 (first := [.ref a]) I1.kIn hm.kp (run_fnS (us := [.ref a]) (vs := [.ref a]) (E := fun _ => E) F hr hb hx I1 (.cons rfl .nil) q)
theorem run_makeS {pins : List (Addr × Obj)} {s : Shared} {us : List Value} {vs : List V} (M : Mk X.K C f) (F : FnOk X.prog X.w X.K X.mg X.base CX k f fd ps sp) (hr : Room (k + 1) X.A) (hb : Binds X.K fd ps [])
    (hx : PassesAt CX X σ E) (I : Inv X pins σ H s) (r : Vals vs us)
    (h : ∀ x dx, H x = none → H dx = none → dx ≠ x → sp (.ref x :: vs) (upd (upd H dx (.own x)) x (.ins C dx [])) (fun v H2 => v = .non ∧ R (.ref x) H2) E) :
    wpAny (model X.prog X.w) X.A (call (.ref C) us) (L2.EP X pins σ R) X.xe s := by
  have hq := h (s.heap.objs.size + 1) s.heap.objs.size (I.hok.fresh (Nat.le_succ _)) (I.hok.fresh (Nat.le_refl _)) (Nat.ne_of_lt (Nat.lt_succ_self _))
  have I2 := Inv.made (C := C) I
  have r2 : Vals (V.ref (s.heap.objs.size + 1) :: vs) (Value.ref (s.heap.objs.size + 1) :: us) := .cons rfl r
  have hl : (Value.ref (s.heap.objs.size + 1) :: us).length = ps.length := by
    have e := r2.length
    rw [F.len _ _ _ _ hq] at e
    exact e.symm
  have b0 := hb _ (Value.ref (s.heap.objs.size + 1) :: us) I2.kIn (by rw [List.append_nil]; exact hl)
  rw [List.append_nil] at b0
  refine wpAny_call (make_map (f := f) I.kIn M.makes M.init (beq_iff_eq.mp M.fn) (codeAny_mono (F.run _ X.stack _ _ ⟨Value.ref (s.heap.objs.size + 1) :: us, []⟩ (Value.ref (s.heap.objs.size + 1) :: us) _ _ E (hr.make C us [])
    (I2.env0.make C us []) b0 r2 hq) fun r s' hq' => ?_))
  cases r with
  | error e => exact hx pins _ _ e s' I2 hq'
  | ok fl =>
    cases fl with
    | ret u =>
      obtain ⟨v, H', I3, rv, ev, q3⟩ := I2.after hq'
      subst ev
      exact ⟨rv, ⟨V.ref (s.heap.objs.size + 1), H', I3, rfl, q3⟩⟩
    | next => exact False.elim hq'
    | brk => exact False.elim hq'
    | cont => exact False.elim hq'
theorem we_make (M : Mk X.K C f) (F : FnOk X.prog X.w X.K X.mg X.base CX k f fd ps sp) (hr : Room (k + 1) X.A) (hg : Gl X nm) (hm : X.mg nm = some (.ref C)) (hb : Binds X.K fd ps []) (hx : PassesAt CX X σ E)
    (ha : WA X (e :: es) σ H fun vs H1 => ∀ x dx, H1 x = none → H1 dx = none → dx ≠ x → sp (.ref x :: vs) (upd (upd H1 dx (.own x)) x (.ins C dx [])) (fun v H2 => v = .non ∧ R (.ref x) H2) E)
    (hdb : (nm == ("__debug__" : Str)) = false := by decide) (he : starEach (e :: es) X.env = (false, eval e X.env) :: starEach es X.env := by rfl) (hpl : (backTo pos (starEach es X.env)).any (·.1) = false := by rfl) :
    WE X (.Call (.Name nm p) (e :: es) [] pos) σ H R := fun pins s I => by
  refine wpAny_Call_Name_kw (ld_glob I hg hm ?_ hdb)
  refine PySem.W.callWith_K (h₀ := X.base) I.ok.mod.kin M.kp (thn (ha pos pins s I) fun us s1 ⟨vs, H1, I1, r, q⟩ => ⟨I1.kIn, ?_⟩) he hpl
  exact run_makeS M F hr hb hx I1 r q
theorem run_fnNS {pins : List (Addr × Obj)} {s : Shared} {us ws : List Value} {vs zs : List V} (F : FnOk X.prog X.w X.K X.mg X.base CX k f fd ps sp) (hr : Room k X.A) (hb : KBn X.K fd ps n ks g gV) (hx : PassesAt CX X σ E)
    (I : Inv X pins σ H s) (r : Vals vs us) (rz : Vals zs ws) (l1 : vs.length = n) (l2 : zs.length = ks.length) (h : sp (gV vs zs) H R E) : wpAny (model X.prog X.w) X.A (call (.ref f) us (ks.zip ws)) (L2.EP X pins σ R) X.xe s := by
  have r2 := hb.rel r rz
  refine wpAny_call (codeAny_mono (F.run X.A X.stack s H ⟨us, ks.zip ws⟩ (g us ws) (gV vs zs) R E hr I.env0 (hb.to s us ws I.kIn (r.length.symm.trans l1) (rz.length.symm.trans l2)) r2 h) fun r s' hq => ?_)
  cases r with
  | error e => exact hx pins H s e s' I hq
  | ok fl =>
    cases fl with
    | ret u => exact I.after hq
    | next => exact False.elim hq
    | brk => exact False.elim hq
    | cont => exact False.elim hq
theorem we_callN (F : FnOk X.prog X.w X.K X.mg X.base CX k f fd ps sp) (hr : Room k X.A) (hg : Gl X nm) (hm : X.mg nm = some (.ref f)) (hk : PySem.W.keepIn X.K (.ref f) = true) (hb : KBn X.K fd ps n ks g gV) (hx : PassesAt CX X σ E)
    (ha : WA X (e :: es) σ H fun vs H1 => WK X kws σ H1 fun zs H2 => vs.length = n ∧ zs.length = ks.length ∧ sp (gV vs zs) H2 R E) (hall : (backToKw pos (keywordEach kws X.env)).all (·.1.isSome) = true := by rfl) (hks : (backToKw pos (keywordEach kws X.env)).filterMap (·.1) = ks := by rfl)
    (hdb : (nm == ("__debug__" : Str)) = false := by decide) (he : starEach (e :: es) X.env = (false, eval e X.env) :: starEach es X.env := by rfl)
    (hpl : ((backTo pos (starEach (e :: es) X.env)).any (·.1) || (backToKw pos (keywordEach kws X.env)).any (·.1.isNone)) = false := by rfl) :
    WE X (.Call (.Name nm p) (e :: es) kws pos) σ H R := fun pins s I => by
  refine wpAny_Call_Name_kw (ld_glob I hg hm ?_ hdb)
  refine PySem.W.callWith_KW (h₀ := X.base) I.ok.mod.kin hk hall (thn (ha pos pins s I) fun us s1 ⟨vs, H1, I1, r, q⟩ => ?_) hpl he
  refine thn (q pos pins s1 I1) fun ws s2 ⟨zs, H2, I2, rz, l1, l2, q2⟩ => ⟨I2.kIn, ?_⟩
  rw [hks]
  exact run_fnNS F hr hb hx I2 r rz l1 l2 q2
end
end Q
/-! Calls of defs, methods, classes; raise, try. -/
namespace Q
open PySem L2
theorem tk_gb {X : Cx} {scope : Scope} {sh : Shared} {H0 : Hp} {C : Addr} {cl : List (Str × Addr)} {fp : List Addr} : (gb X scope sh H0 C cl fp).tk := fun _ _ x => by
  obtain ⟨_, _, _, _, _, _, _, _, _, _, _, _, _, _, _, _, _, _, _, _, _, _, _, _, z⟩ := x
  exact z.elim
section
variable {G : Gm} {s s1 : S} {Φ : Cn} {xs ys : List Ar} {e o : Expr} {es : List Expr} {kws : List Keyword} {pos p apos : Pos} {nm : Str} {n k : Nat} {Ψ : S → Ar → Prop} {C : Addr} {d : D} {ds : List D} {x : Ar}
theorem after_in {σ : L2.St} {H F : Hp} {rs rs0 : List V} {as as0 : List (List Addr)} {F0 H0 : Hp} {vs : List V} {Q : VK} (h : After G Φ s ys Ψ) (hd : Hd G.X.K σ H F rs as s) (ot : Ot G.W H F rs as) (a : ArsOk G.X.K F rs ys vs) (p : rs0 <+: rs) (g : Go as0.flatten as.flatten F0 H0 F H) (k : VQ G.X.K σ H0 F0 rs0 as0 Ψ Q) :
    spY G.X.K Φ vs H Q (wishE G σ) := by
  obtain ⟨i, hgs, hp, nd, c, ce⟩ := h
  refine call_inY i hd ot a hgs hp nd (fun r outs ho => ⟨(c r outs ho).1, fun v H' F' as' h' g' => ?_⟩) fun x outs ho => ⟨(ce x outs ho).1, fun cls d H' F' as' h' g' ox => ⟨F', rs, as', _, x, h', ot.next (refl_pre _) g', ox, (ce x outs ho).2⟩⟩
  rcases (c r outs ho).2 with ⟨d, rfl, q⟩ | q
  · obtain ⟨as2, q1, q2, q3⟩ := h'.dropFz (hd.sl.mono g'.fz fun _ _ q => q)
    exact k _ _ q v H' F' _ as2 q1 p (g.trans (g'.sub q2)) q3
  · refine k _ _ q v H' F' (rs ++ [v]) as' h' (p.trans ⟨[v], rfl⟩) (g.trans g') ?_
    show (rs ++ [v])[s.μ.length]? = _
    rw [← hd.r.l1]; simp
theorem ey_call (m : List Bool) (c : ClY G.X.prog G.X.w G.X.K G.X.mg G.X.base nm n k Φ) (hr : Room k G.X.A) (tk : G.tk) (h : ESY G s (e :: es) fun s1 xs => DmC s.μ.length s1 m xs fun s2 ys => After G Φ s2 ys Ψ)
    (hg : Gl G.X nm := by rfl) (hdb : (nm == ("__debug__" : Str)) = false := by decide) (he : starEach (e :: es) G.X.env = (false, eval e G.X.env) :: starEach es G.X.env := by rfl) (hpl : (backTo pos (starEach es G.X.env)).any (·.1) = false := by rfl) :
    EY G s (.Call (.Name nm p) (e :: es) [] pos) Ψ := fun σ H F rs as hd ot Q kk => by
  obtain ⟨f, fd, ps, F0, hm, hk, hb, _⟩ := c
  refine we_call F0 hr hg hm hk hb (passE tk σ) (h σ H F rs as hd ot _ fun s1 xs ⟨s2, ys, e1, q⟩ vs H1 F1 rs1 as1 h1 p1 g1 a1 => ?_) hdb he hpl
  obtain ⟨F2, rs2, as2, h2, p2, n2, g2, a2⟩ := dmC_ok e1 h1 a1 (len_le hd p1)
  have p02 := pre_pre p1 p2 (by rw [hd.r.l1]; exact n2)
  exact after_in q h2 (ot.next p02 (g1.trans g2)) a2 p02 (g1.trans g2) kk
theorem ey_call0 (c : ClY G.X.prog G.X.w G.X.K G.X.mg G.X.base nm 0 k Φ) (hr : Room k G.X.A) (tk : G.tk) (h : After G Φ s [] Ψ) (hg : Gl G.X nm := by rfl) (hdb : (nm == ("__debug__" : Str)) = false := by decide) :
    EY G s (.Call (.Name nm p) [] [] pos) Ψ := fun σ H F rs as hd ot Q kk => by
  obtain ⟨f, fd, ps, F0, hm, hk, hb, _⟩ := c
  exact we_call0 F0 hr hg hm hk hb (passE tk σ) (after_in h hd ot (by exact rfl) (refl_pre _) (Go.refl _ _ _) kk) hdb
/-- a method, with its contract; self is the first argument -/
def McY (P : Program) (w : World) (K : PySem.W.Frag) (mg : Str → Option Value) (base : Heap) (C : Addr) (nm : Str) (n k : Nat) (Φ : Cn) : Prop :=
  ∃ (f : Addr) (fd : FuncData) (ps : List Str), FnOk P w K mg base (L2.CX P w) k f fd ps (spY K Φ) ∧ Meth K C nm f ∧ Binds K fd ps [] ∧ ps.length = n
/-- an instance of the class at C without a field of that name -/
def InsN (s : S) (C : Addr) (nm : Str) : Ar → Prop
  | .d (.ins C' ns _) => C' = C ∧ nm ∉ ns
  | .o k => (∃ ns ds, s.μ[k]? = some (.ob C ns ds) ∧ nm ∉ ns) ∨ ∃ ns ts, s.μ[k]? = some (.ins C ns ts) ∧ nm ∉ ns
  | _ => False
theorem InsN.get {K : PySem.W.Frag} {σ : L2.St} {H F : Hp} {rs : List V} {as : List (List Addr)} {v : V} (h : InsN s C nm x) (hd : Hd K σ H F rs as s) (a : ArOk K F rs x v) : ∃ b dx fs, v = .ref b ∧ H b = some (.ins C dx fs) ∧ fs.lookup nm = none := by
  cases x with
  | d d =>
    cases d <;> try exact h.elim
    obtain ⟨rfl, hn⟩ := h
    obtain ⟨b, dx, ys, ev, q, hl, r⟩ := a
    exact ⟨b, dx, _, ev, hd.sub _ _ q, zip_none hn⟩
  | o k =>
    have a' : rs[k]? = some v := a
    rcases h with ⟨ns, ds, hk, hn⟩ | ⟨ns, ts, hk, hn⟩
    · obtain ⟨v', l, e1, e2, b, dx, xs, ev, q, hl, r, el⟩ := hd.r.at hk
      rw [a'] at e1; cases e1
      exact ⟨b, dx, _, ev, q, zip_none hn⟩
    · obtain ⟨v', l, e1, e2, b, dx, xs, bs, ev, q, hl, r, el⟩ := hd.r.at hk
      rw [a'] at e1; cases e1
      exact ⟨b, dx, _, ev, q, zip_none hn⟩
theorem ey_meth (m : List Bool) {pl : Sem Bool} (M : McY G.X.prog G.X.w G.X.K G.X.mg G.X.base C nm n k Φ) (cl : Cls G.X.K C) (hr : Room k G.X.A) (tk : G.tk)
    (h : EY G s o fun s1 x => InsN s1 C nm x ∧ ESY G s1 (e :: es) fun s2 xs => DmC s.μ.length s2 m (x :: xs) fun s3 ys => After G Φ s3 ys Ψ)
    (h4 : starEach (e :: es) G.X.env = (false, eval e G.X.env) :: starEach es G.X.env := by rfl) (h5 : (backTo pos (starEach es G.X.env)).any (·.1) = false := by rfl)
    (ht : eval (.Call (.Attribute o nm apos) (e :: es) [] pos) G.X.env = (do
      let ov ← eval o G.X.env
      standAt apos.atName
      let (f, first) ← holding [ov] (getMethod ov nm pl)
      callWith pos f first (backTo pos (starEach (e :: es) G.X.env)) (backToKw pos (keywordEach [] G.X.env))) := by rfl) :
    EY G s (.Call (.Attribute o nm apos) (e :: es) [] pos) Ψ := fun σ H F rs as hd ot Q kk => by
  obtain ⟨f, fd, ps, F0, hm, hb, _⟩ := M
  refine we_meth cl hm F0 hr hb (passE tk σ) (h σ H F rs as hd ot _ fun s1 x ⟨hi, h2⟩ v H1 F1 rs1 as1 h1 p1 g1 a1 => ?_) h4 h5 ht
  obtain ⟨b, dx, fs, ev, q, l⟩ := hi.get h1 a1
  refine ⟨b, dx, fs, ev, q, l, h2 σ H1 F1 rs1 as1 h1 (ot.next p1 g1) _ fun s2 xs ⟨s3, ys, e1, q⟩ vs H2 F2 rs2 as2 h2 p2 g2 a2 => ?_⟩
  obtain ⟨F3, rs3, as3, h3, p3, n3, g3, a3⟩ := dmC_ok e1 h2 (xs := x :: xs) (vs := v :: vs) ⟨v, vs, rfl, a1.mono g2.fz p2, a2⟩ (len_le hd (p1.trans p2))
  have p03 := pre_pre (p1.trans p2) p3 (by rw [hd.r.l1]; exact n3)
  exact after_in q h3 (ot.next p03 ((g1.trans g2).trans g3)) a3 p03 ((g1.trans g2).trans g3) kk
theorem ey_meth0 (m : List Bool) {pl : Sem Bool} (M : McY G.X.prog G.X.w G.X.K G.X.mg G.X.base C nm n k Φ) (cl : Cls G.X.K C) (hr : Room k G.X.A) (tk : G.tk)
    (h : EY G s o fun s1 x => InsN s1 C nm x ∧ DmC s.μ.length s1 m [x] fun s3 ys => After G Φ s3 ys Ψ)
    (ht : eval (.Call (.Attribute o nm apos) [] [] pos) G.X.env = (do
      let ov ← eval o G.X.env
      standAt apos.atName
      let (f, first) ← holding [ov] (getMethod ov nm pl)
      callWith pos f first (backTo pos (starEach [] G.X.env)) (backToKw pos (keywordEach [] G.X.env))) := by rfl) :
    EY G s (.Call (.Attribute o nm apos) [] [] pos) Ψ := fun σ H F rs as hd ot Q kk => by
  obtain ⟨f, fd, ps, F0, hm, hb, _⟩ := M
  refine we_meth0 cl hm F0 hr hb (passE tk σ) (h σ H F rs as hd ot _ fun s1 x ⟨hi, s3, ys, e1, q⟩ v H1 F1 rs1 as1 h1 p1 g1 a1 => ?_) ht
  obtain ⟨b, dx, fs, ev, q2, l⟩ := hi.get h1 a1
  obtain ⟨F3, rs3, as3, h3, p3, n3, g3, a3⟩ := dmC_ok e1 h1 (xs := [x]) (vs := [v]) ⟨v, [], rfl, a1, rfl⟩ (len_le hd p1)
  have p03 := pre_pre p1 p3 (by rw [hd.r.l1]; exact n3)
  exact ⟨b, dx, fs, ev, q2, l, after_in q h3 (ot.next p03 (g1.trans g3)) a3 p03 (g1.trans g3) kk⟩
/-- C(..): its __init__ by a contract whose first argument is the empty instance -/
theorem ey_make (m : List Bool) {f : Addr} {fd : FuncData} {ps : List Str} (M : Mk G.X.K C f) (F0 : FnOk G.X.prog G.X.w G.X.K G.X.mg G.X.base (L2.CX G.X.prog G.X.w) k f fd ps (spY G.X.K Φ)) (hb : Binds G.X.K fd ps []) (hm : G.X.mg nm = some (.ref C)) (hr : Room (k + 1) G.X.A) (tk : G.tk)
    (h : ESY G s (e :: es) fun s1 xs => DmC s.μ.length s1 m xs fun s2 ys => ∃ i, agOf (s2.μ ++ [.ob C [] []]) (.o s2.μ.length :: ys) = some (Φ.args i) ∧ Φ.pre i ∧ (s2.μ.length :: oks ys).Nodup ∧
      (∀ r outs, Φ.post i r outs → outs.length = (oks ys).length + 1 ∧ r = .fz .non ∧ Ψ ⟨s2.ρ, setAll (s2.μ ++ [.ob C [] []]) (s2.μ.length :: oks ys) outs⟩ (.o s2.μ.length)) ∧
      ∀ x outs, Φ.exc i x outs → outs.length = (oks ys).length + 1 ∧ G.Ξ ⟨s2.ρ, setAll (s2.μ ++ [.ob C [] []]) (s2.μ.length :: oks ys) outs⟩ x)
    (hg : Gl G.X nm := by rfl) (hdb : (nm == ("__debug__" : Str)) = false := by decide) (he : starEach (e :: es) G.X.env = (false, eval e G.X.env) :: starEach es G.X.env := by rfl) (hpl : (backTo pos (starEach es G.X.env)).any (·.1) = false := by rfl) :
    EY G s (.Call (.Name nm p) (e :: es) [] pos) Ψ := fun σ H F rs as hd ot Q c => by
  refine we_make M F0 hr hg hm hb (passE tk σ) (h σ H F rs as hd ot _ fun s1 xs ⟨s2, ys, e1, i, hgs, hp, nd, q, qe⟩ vs H1 F1 rs1 as1 h1 p1 g1 a1 => ?_) hdb he hpl
  obtain ⟨F2, rs2, as2, h2, p2, n2, g2, a2⟩ := dmC_ok e1 h1 a1 (len_le hd p1)
  have p02 := pre_pre p1 p2 (by rw [hd.r.l1]; exact n2)
  intro x dx hx0 hdx hne
  obtain ⟨ha, ga⟩ := h2.grow (u := .own x) hdx
  have hx1 : upd H1 dx (.own x) x = none := by rw [upd_ne (fun z => hne z.symm)]; exact hx0
  obtain ⟨hb1, gb1⟩ := ha.r.snoc (t := .ob C [] []) (v := .ref x) (o := .ins C dx []) hx1 ⟨x, dx, [], rfl, upd_same, rfl, rfl, rfl⟩
  have hd2 : Hd G.X.K σ (upd (upd H1 dx (.own x)) x (.ins C dx [])) F2 (rs2 ++ [V.ref x]) (as2 ++ [[x]]) ⟨s2.ρ, s2.μ ++ [.ob C [] []]⟩ := ⟨hb1, ha.sl.mono (Same.refl _) fun k v q => pre_get ⟨_, rfl⟩ k v q⟩
  have hself : (rs2 ++ [V.ref x])[s2.μ.length]? = some (V.ref x) := by rw [← h2.r.l1]; simp
  have gg := ((g1.trans g2).trans ga).trans gb1
  have pp : rs <+: rs2 ++ [V.ref x] := p02.trans ⟨_, rfl⟩
  refine call_inY (xs := .o s2.μ.length :: ys) i hd2 (ot.next pp gg) ⟨_, _, rfl, hself, ArsOk.mono (Same.refl _) ⟨_, rfl⟩ a2⟩ hgs hp nd (fun r outs ho => ⟨(q r outs ho).1, fun v H' F' as' h' g' => ?_⟩) fun x outs ho => ⟨(qe x outs ho).1, fun cls d H' F' as' h' g' ox => ⟨F', _, as', _, x, h', (ot.next pp gg).next (refl_pre _) g', ox, (qe x outs ho).2⟩⟩
  obtain ⟨_, er, q⟩ := q r outs ho
  subst er
  obtain ⟨as3, q1, q3, q4⟩ := h'.dropFz (hd2.sl.mono g'.fz fun _ _ q => q)
  have q4 : v = .non := q4
  exact ⟨q4, c _ _ q (V.ref x) H' F' (rs2 ++ [V.ref x]) as3 q1 pp (gg.trans (g'.sub q3)) hself⟩
/-! keywords -/
def KY (G : Gm) (s : S) (kws : List Keyword) (Ψ : S → List Ar → Prop) : Prop := ∀ σ H F rs as, Hd G.X.K σ H F rs as s → Ot G.W H F rs as → ∀ Q : List V → Hp → Prop,
  (∀ s1 xs, Ψ s1 xs → ∀ vs H' F' rs' as', Hd G.X.K σ H' F' rs' as' s1 → rs <+: rs' → Go as.flatten as'.flatten F H F' H' → ArsOk G.X.K F' rs' xs vs → Q vs H') → WK G.X kws σ H Q
theorem ky_nil {Θ : S → List Ar → Prop} (k : Θ s []) : KY G s [] Θ := fun σ H F rs as hd ot Q c => WK.of pk_nil (c s [] k [] H F rs as hd (refl_pre _) (Go.refl _ _ _) rfl)
theorem ky_cons {Θ : S → List Ar → Prop} {kn : Option Str} {kpos : Pos} (h : EY G s e fun s1 x => KY G s1 kws fun s2 xs => Θ s2 (x :: xs)) : KY G s (⟨kn, e, kpos⟩ :: kws) Θ := fun σ H F rs as hd ot Q k =>
  WK.of (pk_cons pe_u pk_u) (h σ H F rs as hd ot _ fun s1 x h2 v H1 F1 rs1 as1 h1 p1 g1 r1 => h2 σ H1 F1 rs1 as1 h1 (ot.next p1 g1) _ fun s2 xs q vs H2 F2 rs2 as2 h2 p2 g2 a2 =>
    k s2 (x :: xs) q (v :: vs) H2 F2 rs2 as2 h2 (p1.trans p2) (g1.trans g2) ⟨v, vs, rfl, r1.mono g2.fz p2, a2⟩)
/-- with n values by place and the keywords ks: g puts them in order -/
def ClYK (P : Program) (w : World) (K : PySem.W.Frag) (mg : Str → Option Value) (base : Heap) (nm : Str) (n k : Nat) (ks : List Str) (gV : List V → List V → List V) (Φ : Cn) : Prop :=
  ∃ (f : Addr) (fd : FuncData) (ps : List Str) (g : List Value → List Value → List Value), FnOk P w K mg base (L2.CX P w) k f fd ps (spY K Φ) ∧ mg nm = some (.ref f) ∧ PySem.W.keepIn K (.ref f) = true ∧ KBn K fd ps n ks g gV
/-- f(e, .., k = v, ..): all data -/
theorem ey_callK {ks : List Str} {gV : List V → List V → List V} (c : ClYK G.X.prog G.X.w G.X.K G.X.mg G.X.base nm n k ks gV Φ) (hr : Room k G.X.A) (tk : G.tk)
    (h : ESY G s (e :: es) fun s1 xs => KY G s1 kws fun s2 zs => Dms s.μ.length s2 (xs ++ zs) fun s3 ds => ∃ as bs cs, ds = as ++ bs ∧ as.length = n ∧ xs.length = n ∧ bs.length = ks.length ∧ (∀ (F : Hp) vs ws, Reps G.X.K F as vs → Reps G.X.K F bs ws → Reps G.X.K F cs (gV vs ws)) ∧ After G Φ s3 (cs.map .d) Ψ)
    (hg : Gl G.X nm := by rfl) (hall : (backToKw pos (keywordEach kws G.X.env)).all (·.1.isSome) = true := by rfl) (hks : (backToKw pos (keywordEach kws G.X.env)).filterMap (·.1) = ks := by rfl)
    (hdb : (nm == ("__debug__" : Str)) = false := by decide) (he : starEach (e :: es) G.X.env = (false, eval e G.X.env) :: starEach es G.X.env := by rfl)
    (hpl : ((backTo pos (starEach (e :: es) G.X.env)).any (·.1) || (backToKw pos (keywordEach kws G.X.env)).any (·.1.isNone)) = false := by rfl) :
    EY G s (.Call (.Name nm p) (e :: es) kws pos) Ψ := fun σ H F rs as hd ot Q kk => by
  obtain ⟨f, fd, ps, g, F0, hm, hk, hb⟩ := c
  refine we_callN F0 hr hg hm hk hb (passE tk σ) (h σ H F rs as hd ot _ fun s1 xs h2 vs H1 F1 rs1 as1 h1 p1 g1 a1 => h2 σ H1 F1 rs1 as1 h1 (ot.next p1 g1) _ fun s2 zs ⟨s3, ds, e1, as_, bs, cs, ed, l1, lx, l2, hgv, q⟩ ws H2 F2 rs2 as2 h2 p2 g2 a2 => ?_) hall hks hdb he hpl
  have app : ∀ {xs zs : List Ar} {vs ws : List V}, ArsOk G.X.K F2 rs2 xs vs → ArsOk G.X.K F2 rs2 zs ws → ArsOk G.X.K F2 rs2 (xs ++ zs) (vs ++ ws) := by
    intro xs
    induction xs with
    | nil => intro zs vs ws a b; cases a; exact b
    | cons x xs ih => intro zs vs ws ⟨v, vs', e, a, a'⟩ b; subst e; exact ⟨v, vs' ++ ws, rfl, a, ih a' b⟩
  have len : ∀ {xs : List Ar} {vs : List V} {F : Hp} {rs : List V}, ArsOk G.X.K F rs xs vs → vs.length = xs.length := by
    intro xs
    induction xs with
    | nil => intro vs F rs a; cases a; rfl
    | cons x xs ih => intro vs F rs ⟨v, vs', e, a, a'⟩; subst e; simp [ih a']
  obtain ⟨F3, rs3, as3, h3, p3, n3, g3, r3⟩ := dms_ok e1 h2 (app (a1.mono g2.fz p2) a2) (len_le hd (p1.trans p2))
  have p03 := pre_pre (p1.trans p2) p3 (by rw [hd.r.l1]; exact n3)
  have gg := (g1.trans g2).trans g3
  have lv : vs.length = n := by rw [len a1, lx]
  have split : ∀ {as bs : List D} {vs ws : List V}, as.length = vs.length → Reps G.X.K F3 (as ++ bs) (vs ++ ws) → Reps G.X.K F3 as vs ∧ Reps G.X.K F3 bs ws := by
    intro as
    induction as with
    | nil => intro bs vs ws l r; cases vs with
      | nil => exact ⟨rfl, r⟩
      | cons _ _ => simp at l
    | cons a as ih => intro bs vs ws l r; cases vs with
      | nil => simp at l
      | cons v vs =>
        obtain ⟨v', vs', e, r1, r2⟩ := r
        cases e
        obtain ⟨q1, q2⟩ := ih (by simpa using l) r2
        exact ⟨⟨v, vs, rfl, r1, q1⟩, q2⟩
  rw [ed] at r3
  obtain ⟨ra, rb⟩ := split (l1.trans lv.symm) r3
  exact ⟨lv, by rw [rb.len]; exact l2, after_in q h3 (ot.next p03 gg) (ars_d (hgv F3 vs ws ra rb)) p03 gg kk⟩
end
end Q
/-! From the older contracts; functions of data; methods of lists and texts. -/
namespace Q
open PySem PySem.Spec PyProof.Rows L2
section
variable {P : Program} {w : World} {K : PySem.W.Frag} {mg : Str → Option Value} {base : Heap} {k : Nat} {f : Addr} {fd : FuncData} {ps : List Str}
/-- an older contract as one of the new kind -/
def Ct.cn (Φ : Ct) : Cn := ⟨Φ.ι, Φ.args, Φ.pre, Φ.post, fun _ _ _ => False⟩
theorem fnok_cn {Φ : Ct} (F : FnOk P w K mg base CX0 k f fd ps (spOf K Φ)) : FnOk P w K mg base (L2.CX P w) k f fd ps (spY K Φ.cn) := by
  have sp : ∀ {vs H Q E}, spY K Φ.cn vs H Q E → spOf K Φ vs H Q E0 := fun ⟨F0, ass, i, h1, h2, h3, c, _⟩ => ⟨F0, ass, i, h1, h2, h3, c⟩
  refine ⟨fun vs H Q E h => F.len vs H Q E0 (sp h), fun A outer s H args us vs Q E hr he hb hv hs => codeAny_mono (F.run A outer s H args us vs Q E0 hr he hb hv (sp hs)) fun r s' hq => ?_⟩
  cases r with
  | ok fl => cases fl <;> exact hq
  | error e => exact hq.elim
/-- a def that raises nothing, as one of the older kind -/
theorem fnok_ct {Φ : Cn} {Ψ : Ct} (F : FnOk P w K mg base (L2.CX P w) k f fd ps (spY K Φ)) (h : ∀ vs H Q, spOf K Ψ vs H Q E0 → spY K Φ vs H Q E0) : FnOk P w K mg base CX0 k f fd ps (spOf K Ψ) := by
  have e0 : ∀ {vs H Q E}, spOf K Ψ vs H Q E → spOf K Ψ vs H Q E0 := fun h => h
  refine ⟨fun vs H Q E q => F.len vs H Q E0 (h _ _ _ (e0 q)), fun A outer s H args us vs Q E hr he hb hv hs => codeAny_mono (F.run A outer s H args us vs Q E0 hr he hb hv (h _ _ _ (e0 hs))) fun r s' hq => ?_⟩
  cases r with
  | ok fl => cases fl <;> exact hq
  | error e =>
    obtain ⟨_, _, _, _, _, _, _, _, _, _, _, _, z⟩ := hq
    exact z.elim
theorem cly_cl {nm : Str} {n : Nat} {Φ : Ct} (c : Cl P w K mg base nm n k Φ) : ClY P w K mg base nm n k Φ.cn := by
  obtain ⟨f, fd, ps, F, a, b, d, e⟩ := c
  exact ⟨f, fd, ps, fnok_cn F, a, b, d, e⟩
theorem mcy_mc {C : Addr} {nm : Str} {n : Nat} {Φ : Ct} (c : Mc P w K mg base C nm n k Φ) : McY P w K mg base C nm n k Φ.cn := by
  obtain ⟨f, fd, ps, F, a, b, d⟩ := c
  exact ⟨f, fd, ps, fnok_cn F, a, b, d⟩
/-! functions of data: an answer, or what is raised -/
def pcn {ι : Type} (args : ι → List D) (pre : ι → Prop) (val : ι → Except Xc T) : Cn := ⟨ι, fun i => (args i).map .d, pre, fun i r outs => outs = [] ∧ val i = .ok r, fun i x outs => outs = [] ∧ val i = .error x⟩
/-- how the body of such a def ends -/
def rtv (v : Except Xc T) : Ds := { nx := fun _ => v = .ok (.fz .non), rt := fun s x => (∃ d, x = .d d ∧ v = .ok (.fz d)) ∨ ∃ k t, x = .o k ∧ s.μ[k]? = some t ∧ v = .ok t }
theorem fn_pcn {ι : Type} {args : ι → List D} {pre : ι → Prop} {val : ι → Except Xc T} {x qual : Str} {st : Stmt} {N : List Str} (F : Fun K x qual st f fd) (Sc : FnScope N ps (defScope st)) (hl : ∀ i, (args i).length = ps.length)
    (hb : ∀ (cdv : Value) (A : Around) (outer : List Env) (s : Shared) (H : Hp) (E : XK), Room k (A.deeper (PyProof.Rows.envOfC qual (defScope st) s.heap.objs.size f cdv)) → ∀ i, pre i → ∀ (W : Option Wd) (Ξ : S → Xc → Prop), (∀ s x, val i = .error x → Ξ s x) →
      Gm.tk ⟨cxOf (L2.CX P w) P w K mg base N qual (defScope st) f cdv A outer s H E, W, Ξ⟩ →
      PassesOwn (model P w) (A.deeper (PyProof.Rows.envOfC qual (defScope st) s.heap.objs.size f cdv)) (PyProof.Rows.envOfC qual (defScope st) s.heap.objs.size f cdv) (cxOf (L2.CX P w) P w K mg base N qual (defScope st) f cdv A outer s H E).xe →
      WY ⟨cxOf (L2.CX P w) P w K mg base N qual (defScope st) f cdv A outer s H E, W, Ξ⟩ ⟨(args i).map Sl.d ++ List.replicate (N.length - ps.length) .un, []⟩ (defBody st) (rtv (val i))) : FnOk P w K mg base (L2.CX P w) (k + 1) f fd ps (spY K (pcn args pre val)) := by
  refine fn_y F Sc (fun i => by show ((args i).map Ag.d).length = _; rw [List.length_map]; exact hl i) fun cdv A outer s H E hr i hp W tk po => ?_
  have e : (agsT ((pcn args pre val).args i)).length = 0 := by rw [show agsT ((pcn args pre val).args i) = [] from agsT_d _]; rfl
  rw [e] at tk ⊢
  have hw := hb cdv A outer s H E hr i hp W _ (fun s x hx => ⟨[], ⟨rfl, hx⟩, rfl, Nat.zero_le _⟩) tk po
  unfold st0
  rw [show (pcn args pre val).args i = (args i).map Ag.d from rfl, slots0_d, agsT_d, List.length_map, hl i]
  refine wy_mono hw ?_ ?_ (fun _ z => z) fun _ z => z
  · intro s1 q
    exact ⟨.fz .non, [], ⟨rfl, q⟩, rfl, Nat.zero_le _, rfl⟩
  · intro s1 x q
    rcases q with ⟨d, rfl, q⟩ | ⟨k, t, rfl, h1, q⟩
    · exact ⟨_, [], ⟨rfl, q⟩, rfl, Nat.zero_le _, rfl⟩
    · exact ⟨t, [], ⟨rfl, q⟩, rfl, Nat.zero_le _, Nat.zero_le _, h1⟩
end
section
variable {G : Gm} {X : Cx} {s s1 s2 s3 : S} {e o : Expr} {es : List Expr} {x y : Ar} {xs ys : List Ar} {d : D} {ds es' : List D} {pos p apos : Pos} {nm : Str} {n k : Nat} {Ψ : S → Ar → Prop} {l : List Nat}
/-- the answer t: data, or a new owned thing -/
def Rv (t : T) (s : S) (Ψ : S → Ar → Prop) : Prop := (∃ d, t = .fz d ∧ Ψ s (.d d)) ∨ Ψ (s.add t) (.o s.μ.length)
theorem rv_d (h : Ψ s (.d d)) : Rv (.fz d) s Ψ := .inl ⟨d, rfl, h⟩
theorem rv_o {t : T} (h : Ψ (s.add t) (.o s.μ.length)) : Rv t s Ψ := .inr h
theorem okB_d : ∀ ds : List D, okB n (ds.map Ar.d) = true
  | [] => rfl
  | _ :: ds => okB_d ds
theorem dmC_d : dmC n s [] (ds.map Ar.d) = some (s, ds.map Ar.d) := by
  have e : dmM n s [] (ds.map Ar.d) = some (s, ds.map Ar.d) := by cases ds <;> rfl
  unfold dmC
  rw [e]
  dsimp only
  rw [okB_d]
theorem ey_pu {ι : Type} {args : ι → List D} {pre : ι → Prop} {val : ι → Except Xc T} (c : ClY G.X.prog G.X.w G.X.K G.X.mg G.X.base nm n k (pcn args pre val)) (hr : Room k G.X.A) (tk : G.tk)
    (h : ESY G s (e :: es) fun s1 xs => Dms s.μ.length s1 xs fun s2 ds => ∃ i, args i = ds ∧ pre i ∧ ((∃ t, val i = .ok t ∧ Rv t s2 Ψ) ∨ ∃ x, val i = .error x ∧ G.Ξ s2 x))
    (hg : Gl G.X nm := by rfl) (hdb : (nm == ("__debug__" : Str)) = false := by decide) (he : starEach (e :: es) G.X.env = (false, eval e G.X.env) :: starEach es G.X.env := by rfl) (hpl : (backTo pos (starEach es G.X.env)).any (·.1) = false := by rfl) :
    EY G s (.Call (.Name nm p) (e :: es) [] pos) Ψ := by
  refine ey_call [] c hr tk (esy_dms (fun σ H F rs as hd ot Q kk => h σ H F rs as hd ot Q fun s1 xs ⟨s2, ds, e1, i, ea, hp, q⟩ => kk s1 xs ⟨s2, ds, e1, _, _, dmC_d, i, ?_⟩)) hg hdb he hpl
  obtain ⟨q1, q2⟩ := ag_d (μ := s2.μ) ds
  refine ⟨by rw [q1, ← ea]; rfl, hp, by rw [q2]; exact .nil, fun r outs ⟨z1, z2⟩ => ?_, fun x outs ⟨z1, z2⟩ => ?_⟩
  · subst z1
    rw [q2]
    refine ⟨rfl, ?_⟩
    rcases q with ⟨t, e2, rv⟩ | ⟨x, e2, _⟩
    · rw [z2] at e2
      cases e2
      exact rv
    · rw [z2] at e2; cases e2
  · subst z1
    rw [q2]
    refine ⟨rfl, ?_⟩
    rcases q with ⟨t, e2, rv⟩ | ⟨x', e2, q⟩
    · rw [z2] at e2; cases e2
    · rw [z2] at e2; cases e2; exact q
/-! methods of built-in types -/
def anyM (X : Cx) (id : String) : V → List V → Hp → VK → Prop := fun x xs H Q => ∃ r, MtR X id r ∧ r x xs H Q
theorem anyM_ok {X : Cx} {id : String} : MtR X id (anyM X id) := fun pins s σ H x xs v us Q I rx rs ⟨r, ho, h⟩ => ho pins s σ H x xs v us Q I rx rs h
def BM (X : Cx) (id : String) (s : S) (x : Ar) (xs : List Ar) (Ψ : S → Ar → Prop) : Prop := ∀ σ H F rs as v vs, Hd X.K σ H F rs as s → ArOk X.K F rs x v → ArsOk X.K F rs xs vs → ∀ Q : VK, VQ X.K σ H F rs as Ψ Q → anyM X id v vs H Q
theorem bm_V {id : String} {r : V → List V → Hp → VK → Prop} (ho : MtR X id r) (h : MtV X s r x xs s1 y) (k : Ψ s1 y) : BM X id s x xs Ψ := fun σ H F rs as v vs hd a b Q c => ⟨r, ho, h σ H F rs as v vs hd a b Q fun u H' F' rs' as' h1 p1 g1 r1 => c _ _ k u H' F' rs' as' h1 p1 g1 r1⟩
theorem ey_bm {T' id : String} (pa : PlainAttrs T') (slot : Slot T' nm id) (hty : typeOf (.builtin id) = pure (.type "method_descriptor")) (h : EY G s o fun s1 x => TyA G.X s1 T' x ∧ ESY G s1 (e :: es) fun s2 xs => BM G.X id s2 x xs Ψ)
    (hbase : attributeBase o nm G.X.env (eval o G.X.env) = eval o G.X.env := by rfl)
    (hfew : ((backTo pos (starEach (e :: es) G.X.env)).all (fun x => !x.1) && (backToKw pos (keywordEach [] G.X.env)).all (fun x => x.1.isSome) && decide ((e :: es).length + ([] : List Keyword).length + (if ([] : List Keyword).isEmpty then 0 else 1) < 30)) = true := by rfl)
    (hline : (apos.endLine == pos.line) = true := by rfl) (hs : starEach (e :: es) G.X.env = (false, eval e G.X.env) :: starEach es G.X.env := by rfl) (hplain : (backTo pos (starEach es G.X.env)).any (·.1) = false := by rfl) :
    EY G s (.Call (.Attribute o nm apos) (e :: es) [] pos) Ψ := fun σ H F rs as hd ot Q k =>
  WE.of (pe_bm pa slot hty anyM_ok pe_u pa_u hbase hfew hline hs hplain) (h σ H F rs as hd ot _ fun s1 x ⟨ty, h2⟩ v H1 F1 rs1 as1 h1 p1 g1 r1 => ⟨ty σ H1 F1 rs1 as1 v h1 r1, h2 σ H1 F1 rs1 as1 h1 (ot.next p1 g1) _ fun s2 xs q vs H2 F2 rs2 as2 h2 p2 g2 r2 =>
    q σ H2 F2 rs2 as2 v vs h2 (r1.mono g2.fz p2) r2 Q ((k.go p1 g1).go p2 g2)⟩)
theorem ey_bm0 {T' id : String} (pa : PlainAttrs T') (slot : Slot T' nm id) (hty : typeOf (.builtin id) = pure (.type "method_descriptor")) (h : EY G s o fun s1 x => TyA G.X s1 T' x ∧ BM G.X id s1 x [] Ψ)
    (hbase : attributeBase o nm G.X.env (eval o G.X.env) = eval o G.X.env := by rfl) (hline : (apos.endLine == pos.line) = true := by rfl) : EY G s (.Call (.Attribute o nm apos) [] [] pos) Ψ := fun σ H F rs as hd ot Q k =>
  WE.of (pe_bm0 pa slot hty anyM_ok pe_u hbase hline) (h σ H F rs as hd ot _ fun s1 x ⟨ty, q⟩ v H1 F1 rs1 as1 h1 p1 g1 r1 => ⟨ty σ H1 F1 rs1 as1 v h1 r1, q σ H1 F1 rs1 as1 v [] h1 r1 rfl Q (k.go p1 g1)⟩)
/-- xs.append(e), of data -/
theorem ey_append (h : EY G s o fun s1 x => ∃ k, x = .o k ∧ (∃ es, s1.μ[k]? = some (.fl es)) ∧ EY G s1 e fun s2 y => Dm s1.μ.length s2 y fun s3 d => ∃ ds, s3.μ[k]? = some (.fl ds) ∧ ds.length < 16777216 ∧ Ψ ⟨s3.ρ, s3.μ.set k (.fl (ds ++ [d]))⟩ (.d .non))
    (hbase : attributeBase o "append" G.X.env (eval o G.X.env) = eval o G.X.env := by rfl) (hfew : ((backTo pos (starEach [e] G.X.env)).all (fun x => !x.1) && (backToKw pos (keywordEach [] G.X.env)).all (fun x => x.1.isSome) && decide ([e].length + ([] : List Keyword).length + (if ([] : List Keyword).isEmpty then 0 else 1) < 30)) = true := by rfl)
    (hline : (apos.endLine == pos.line) = true := by rfl) (hs : starEach [e] G.X.env = [(false, eval e G.X.env)] := by rfl) : EY G s (.Call (.Attribute o "append" apos) [e] [] pos) Ψ :=
  ey_bm PySem.F.plainAttrs_list PySem.F.slot_list_append PySem.F.type_list_append (ey_mono h fun s1 x ⟨k, ex, ⟨es, hk⟩, q⟩ => by
    subst ex
    refine ⟨ty_list (ds := es) hk, esy_cons (ey_dm (Ψ := fun s3 y => ESY G s3 [] fun s4 ys => BM G.X _ s4 (.o k) (y :: ys) Ψ) (ey_mono q fun s2 y ⟨s3, d, e1, ds, h1, h2, h3⟩ => ⟨s3, d, e1, esy_nil (bm_V mt_append (mv_append h1 h2) h3)⟩)) hs⟩) hbase hfew hline hs rfl
theorem ey_reverse (h : EY G s o fun s1 x => ∃ k ds, x = .o k ∧ s1.μ[k]? = some (.fl ds) ∧ Ψ ⟨s1.ρ, s1.μ.set k (.fl ds.reverse)⟩ (.d .non)) (hbase : attributeBase o "reverse" G.X.env (eval o G.X.env) = eval o G.X.env := by rfl) (hline : (apos.endLine == pos.line) = true := by rfl) : EY G s (.Call (.Attribute o "reverse" apos) [] [] pos) Ψ :=
  ey_bm0 PySem.F.plainAttrs_list PySem.F.slot_list_reverse PySem.F.type_list_reverse (ey_mono h fun s1 x ⟨k, ds, ex, hk, q⟩ => by subst ex; exact ⟨ty_list (ds := ds) hk, bm_V mt_reverse (mv_reverse hk) q⟩) hbase hline
theorem ey_pop (h : EY G s o fun s1 x => ∃ k ds d, x = .o k ∧ s1.μ[k]? = some (.fl ds) ∧ ds[ds.length - 1]? = some d ∧ Ψ ⟨s1.ρ, s1.μ.set k (.fl ds.dropLast)⟩ (.d d)) (hbase : attributeBase o "pop" G.X.env (eval o G.X.env) = eval o G.X.env := by rfl) (hline : (apos.endLine == pos.line) = true := by rfl) : EY G s (.Call (.Attribute o "pop" apos) [] [] pos) Ψ :=
  ey_bm0 PySem.F.plainAttrs_list PySem.F.slot_list_pop PySem.F.type_list_pop (ey_mono h fun s1 x ⟨k, ds, d, ex, hk, hz, q⟩ => by subst ex; exact ⟨ty_list (ds := ds) hk, bm_V mt_pop (mv_pop hk hz) q⟩) hbase hline
theorem sep_len {ls : List (List Nat)} : (List.map (fun x => x.length) (List.map mk ls)) = ls.map List.length := by rw [List.map_map]; exact List.map_congr_left fun a _ => mk_len a
/-- sep.join(texts) -/
theorem ey_join (h : EY G s o fun s1 x => ∃ l, x = .d (.str l) ∧ EY G s1 e fun s2 y => Tm1 s1.μ.length s2 y fun s3 y => ∃ ls : List (List Nat), Sq s3 y (ls.map D.str) ∧ (ls.map List.length).sum + ls.length * l.length ≤ 16777216 ∧ Ψ s3 (.d (.str (TL.joinL l ls))))
    (hs : starEach [e] G.X.env = [(false, eval e G.X.env)] := by rfl) (hbase : attributeBase o "join" G.X.env (eval o G.X.env) = eval o G.X.env := by rfl) (hline : (apos.endLine == pos.line) = true := by rfl) :
    EY G s (.Call (.Attribute o "join" apos) [e] [] pos) Ψ := fun σ H F rs as hd ot Q k =>
  WE.of (pe_join pe_u pe_u hs hbase hline) (h σ H F rs as hd ot _ fun s1 x ⟨l, ex, h2⟩ v H1 F1 rs1 as1 h1 p1 g1 r1 => by
    subst ex
    refine ⟨⟨_, r1⟩, h2 σ H1 F1 rs1 as1 h1 (ot.next p1 g1) _ fun s2 y ⟨s3, y3, e3, ls, sq, hz, q⟩ w H2 F2 rs2 as2 h2 p2 g2 r2 => ?_⟩
    obtain ⟨F3, rs3, as3, h3, p3, n3, g3, r3, _⟩ := tm_ok (n := s1.μ.length) h2 r2 (len_le h1 p2)
    rw [e3] at h3 r3
    obtain ⟨p, xs, rfl, q', r⟩ := sq.get h3 r3
    cases r.strs
    refine ⟨mk l, p, ls.map mk, r1, rfl, q', by rw [sep_len, List.length_map, mk_len]; exact hz, h3.fin (fun u H' F' rs' as' h' p' g' q'' => (((k.go p1 g1).go (pre_pre p2 p3 (by rw [h1.r.l1]; exact n3)) (g2.trans g3))) s3 _ q u H' F' rs' as' h' p' g' q'') _ H2 F3 go0 h3.sub ?_⟩
    show V.str _ = V.str _
    congr 1
    rw [TL.join_eq]
    have := TL.tl_join (mk l) (ls.map mk)
    rw [mk_of (Str.join (mk l) (ls.map mk))]
    show mk (TL.tl _) = _
    rw [this]
    congr 1
    show TL.joinL (mk l).cps.toList _ = _
    rw [mk_cps, List.map_map]
    congr 1
    conv => rhs; rw [← List.map_id ls]
    exact List.map_congr_left fun a _ => mk_cps a)
/-- xs[i] = e -/
theorem w_setix {i : Expr} {p2 : Pos} {D' : Ds} (h : EY G s e fun s1 x => Dm s.μ.length s1 x fun s1 d => EY G s1 o fun s2 y => ∃ k, y = .o k ∧ EY G s2 i fun s3 z => ∃ (j : Int) (ds : List D) (m : Nat), z = .d (.int j) ∧ s3.μ[k]? = some (.fl ds) ∧ ixN ds.length j = some m ∧ D'.nx ⟨s3.ρ, s3.μ.set k (.fl (ds.set m d))⟩)
    (ha : ∀ v, assign (.Subscript o i p2) G.X.env v = (do
      let ov ← holding [v] (eval o G.X.env)
      let iv ← holding [v, ov] (eval i G.X.env)
      standAt p2
      holding [v, ov, iv] (setItem ov iv v)
      release [v, ov, iv] []) := by intro _; rfl)
    (hs : swapsWithSole [.Subscript o i p2] e pos.line G.X.env = pure false := by rfl) (hw : swappedStores [.Subscript o i p2] e G.X.env = pure none := by rfl) (h1 : (assignEach [.Subscript o i p2] G.X.env).map (·.2) = [assign (.Subscript o i p2) G.X.env] := by rfl) :
    W1Y G s (.Assign [.Subscript o i p2] e pos) D' := fun σ H F rs as hd ot =>
  WSt.of (ps_asg pe_u (pg_sub pe_u pe_u set_list ha) hs hw h1) ((ey_dm (Ψ := fun s1 x => ∃ d, x = .d d ∧ EY G s1 o fun s2 y => ∃ k, y = .o k ∧ EY G s2 i fun s3 z => ∃ (j : Int) (ds : List D) (m : Nat), z = .d (.int j) ∧ s3.μ[k]? = some (.fl ds) ∧ ixN ds.length j = some m ∧ D'.nx ⟨s3.ρ, s3.μ.set k (.fl (ds.set m d))⟩) (ey_mono h fun s1 x ⟨s2, d, e1, q⟩ => ⟨s2, d, e1, d, rfl, q⟩)) σ H F rs as hd ot _ fun s1 x ⟨d, ex, q1⟩ v H1 F1 rs1 as1 h1 p1 g1 r1 => by
    subst ex
    refine q1 σ H1 F1 rs1 as1 h1 (ot.next p1 g1) _ fun s2 y ⟨k, ey, q2⟩ u H2 F2 rs2 as2 h2 p2 g2 r2 => ?_
    subst ey
    refine q2 σ H2 F2 rs2 as2 h2 ((ot.next p1 g1).next p2 g2) _ fun s3 z ⟨j, ds, m, ez, hk, hm, c⟩ w H3 F3 rs3 as3 h3 p3 g3 r3 => ?_
    subst ez
    cases r3
    obtain ⟨q, xs, rfl, hq, r, up⟩ := h3.lst hk (pre_get p3 _ _ r2)
    obtain ⟨a, b⟩ := up _ _ (r.set m (Rep.mono (g2.fz.trans g3.fz) _ _ r1))
    exact ⟨q, xs, j, m, rfl, rfl, hq, by rw [r.len]; exact hm, F3, rs3, as3, ⟨s3.ρ, s3.μ.set k (.fl (ds.set m d))⟩, a, (((g1).trans g2).trans g3).trans b, ((p1).trans p2).trans p3, c⟩)
/-- xs[i][j] = e, an owned list of lists -/
theorem w_setix2 {i b : Expr} {p2 p3 : Pos} {t1 t2 : TE} {D' : Ds} (pi : PE G.X i t1) (pj : PE G.X b t2) (he : EY G s e fun s1 x => ∃ d, x = .d d ∧ EY G s1 o fun s2 y => ∃ (k : Nat) (ii jj : Int) (m m2 : Nat) (ts : List T) (ds : List D), y = .o k ∧ PVt G.X.K t1 s2 ii ∧ PVt G.X.K t2 s2 jj ∧ s2.μ[k]? = some (.lst ts) ∧ ixN ts.length ii = some m ∧ ts[m]? = some (.fl ds) ∧ ixN ds.length jj = some m2 ∧ D'.nx ⟨s2.ρ, s2.μ.set k (.lst (ts.set m (.fl (ds.set m2 d))))⟩)
    (ha : ∀ v, assign (.Subscript (.Subscript o i p2) b p3) G.X.env v = (do
      let ov ← holding [v] (eval (.Subscript o i p2) G.X.env)
      let iv ← holding [v, ov] (eval b G.X.env)
      standAt p3
      holding [v, ov, iv] (setItem ov iv v)
      release [v, ov, iv] []) := by intro _; rfl) (hs : PlainIx i := by exact fun _ _ => rfl)
    (hs2 : swapsWithSole [.Subscript (.Subscript o i p2) b p3] e pos.line G.X.env = pure false := by rfl) (hw : swappedStores [.Subscript (.Subscript o i p2) b p3] e G.X.env = pure none := by rfl) (h1 : (assignEach [.Subscript (.Subscript o i p2) b p3] G.X.env).map (·.2) = [assign (.Subscript (.Subscript o i p2) b p3) G.X.env] := by rfl) :
    W1Y G s (.Assign [.Subscript (.Subscript o i p2) b p3] e pos) D' := fun σ H F rs as hd ot =>
  WSt.of (ps_asg pe_u (pg_sub (pe_ix ix_list pe_u pi hs) pj set_list ha) hs2 hw h1) (he σ H F rs as hd ot _ fun s1 x ⟨d, ex, q1⟩ v H1 F1 rs1 as1 h1 p1 g1 r1 => by
    subst ex
    refine q1 σ H1 F1 rs1 as1 h1 (ot.next p1 g1) _ fun s2 y ⟨k, ii, jj, m, m2, ts, ds, ey, qi, qj, hk, hm, ht, hm2, c⟩ u H2 F2 rs2 as2 h2 p2 g2 r2 => ?_
    subst ey
    obtain ⟨P, xs, Q2, ys, e1, e2, e3, e4, e5, e6, up⟩ := h2.lst2 hk ht r2
    refine qi σ H2 F2 rs2 as2 h2 _ ⟨P, xs, ii, .ref Q2, e1, rfl, .of e2, by unfold atI; rw [e3, hm]; exact e4, ?_⟩
    refine qj σ H2 F2 rs2 as2 h2 _ ?_
    obtain ⟨a, b⟩ := up _ _ (e6.set m2 (Rep.mono g2.fz _ _ r1))
    exact ⟨Q2, ys, jj, m2, rfl, rfl, e5, by rw [e6.len]; exact hm2, F2, rs2, as2, ⟨s2.ρ, s2.μ.set k (.lst (ts.set m (.fl (ds.set m2 d))))⟩, a, (g1.trans g2).trans b, p1.trans p2, c⟩)
end
end Q
/-! Short-circuits of pure operands; comprehensions of data. -/
namespace Q
open PySem L2
section
variable {G : Gm} {X : Cx} {s s1 s2 s3 : S} {a b c e o tg iter elt cond : Expr} {es rest elts : List Expr} {x y z : Ar} {xs : List Ar} {d : D} {ds : List D} {pos p : Pos} {nm : Str} {Ψ : S → Ar → Prop} {Θ : S → Bool → Prop} {scope : Scope} {is : List Nat} {g : D → List Sl → Option (List Sl)} {D' : Ds}
/-- it leaves the state and comes to x -/
abbrev Is (s : S) (x : Ar) : S → Ar → Prop := fun s2 y => s2 = s ∧ y = x
abbrev IsT (s : S) (u : Bool) : S → Bool → Prop := fun s2 t => s2 = s ∧ t = u
theorem ey_andP (h : EY G s a fun s1 x => IsB x fun t => ∃ u, (t = true → EY G s1 (.BoolOp .And (b :: rest) pos) (Is s1 (.d (.bl u)))) ∧ Ψ s1 (.d (.bl (t && u)))) : EY G s (.BoolOp .And (a :: b :: rest) pos) Ψ :=
  ey_and (ey_mono h fun s1 x ⟨t, ex, u, h1, h2⟩ => ⟨t, ex, fun e => by subst e; exact ey_mono (h1 rfl) fun s2 y ⟨e1, e2⟩ => by subst e1 e2; exact h2, fun e => by subst e; exact h2⟩)
theorem ey_orP (h : EY G s a fun s1 x => IsB x fun t => ∃ u, (t = false → EY G s1 (.BoolOp .Or (b :: rest) pos) (Is s1 (.d (.bl u)))) ∧ Ψ s1 (.d (.bl (t || u)))) : EY G s (.BoolOp .Or (a :: b :: rest) pos) Ψ :=
  ey_or (ey_mono h fun s1 x ⟨t, ex, u, h1, h2⟩ => ⟨t, ex, fun e => by subst e; exact ey_mono (h1 rfl) fun s2 y ⟨e1, e2⟩ => by subst e1 e2; exact h2, fun e => by subst e; exact h2⟩)
theorem tw_andP (h : TY G s a fun s1 t => ∃ u, (t = true → TWY G s1 (.BoolOp .And (b :: rest) pos) (IsT s1 u)) ∧ Θ s1 (t && u)) : TWY G s (.BoolOp .And (a :: b :: rest) pos) Θ := fun σ H F rs as hd ot Q k =>
  tw_and (Θ := Θ) (fun σ H F rs as hd ot Q k => h σ H F rs as hd ot Q fun s1 t ⟨u, h1, h2⟩ => k s1 t ⟨fun e => fun σ H F rs as hd ot Q k => (h1 e) σ H F rs as hd ot Q fun s2 v ⟨e1, e2⟩ => by subst e1 e2 e; exact k s2 v h2, fun e => by subst e; exact h2⟩) σ H F rs as hd ot Q k
theorem tw_orP (h : TY G s a fun s1 t => ∃ u, (t = false → TWY G s1 (.BoolOp .Or (b :: rest) pos) (IsT s1 u)) ∧ Θ s1 (t || u)) : TWY G s (.BoolOp .Or (a :: b :: rest) pos) Θ := fun σ H F rs as hd ot Q k =>
  tw_or (Θ := Θ) (fun σ H F rs as hd ot Q k => h σ H F rs as hd ot Q fun s1 t ⟨u, h1, h2⟩ => k s1 t ⟨fun e => fun σ H F rs as hd ot Q k => (h1 e) σ H F rs as hd ot Q fun s2 v ⟨e1, e2⟩ => by subst e1 e2 e; exact k s2 v h2, fun e => by subst e; exact h2⟩) σ H F rs as hd ot Q k
theorem ty_and (h : TY G s a fun s1 t => ∃ u, (t = true → TWY G s1 (.BoolOp .And (b :: rest) pos) (IsT s1 u)) ∧ Θ s1 (t && u)) : TY G s (.BoolOp .And (a :: b :: rest) pos) Θ := ty_w (tw_andP h)
theorem ty_or (h : TY G s a fun s1 t => ∃ u, (t = false → TWY G s1 (.BoolOp .Or (b :: rest) pos) (IsT s1 u)) ∧ Θ s1 (t || u)) : TY G s (.BoolOp .Or (a :: b :: rest) pos) Θ := ty_w (tw_orP h)
/-- chains: the last operand is asked without changing anything -/
theorem ey_chainP {op op' : CmpOp} (h : EY G s a fun s1 x => EY G s1 b fun s2 y => Cmp G.X op s2 x y fun s3 z => IsB z fun t => ∃ u, (t = true → EY G s3 c fun s4 w => Cmp G.X op' s4 y w (Is s3 (.d (.bl u)))) ∧ Ψ s3 (.d (.bl (t && u))))
    (hm : lastMarks [op, op'] [b, c] = false := by with_unfolding_all rfl) : EY G s (.Compare a [op, op'] [b, c] pos) Ψ :=
  ey_chain (ey_mono h fun s1 x q => ey_mono q fun s2 y q σ H F rs as v w hd av aw Q k => q σ H F rs as v w hd av aw Q fun s3 z ⟨t, ez, u, h1, h2⟩ => k s3 z ⟨t, ez, fun e => by subst e; exact ey_mono (h1 rfl) fun s4 w q σ H F rs as v w' hd av aw Q k => q σ H F rs as v w' hd av aw Q fun s5 r ⟨e1, e2⟩ => by subst e1 e2; exact k s5 _ h2, fun e => by subst e; exact h2⟩) hm
theorem ty_chainP {op op' : CmpOp} (h : EY G s a fun s1 x => EY G s1 b fun s2 y => Cmp G.X op s2 x y fun s3 z => IsB z fun t => ∃ u, (t = true → EY G s3 c fun s4 w => Cmp G.X op' s4 y w (Is s3 (.d (.bl u)))) ∧ Θ s3 (t && u))
    (hm : lastMarks [op, op'] [b, c] = false := by with_unfolding_all rfl) : TY G s (.Compare a [op, op'] [b, c] pos) Θ :=
  ty_chain (ey_mono h fun s1 x q => ey_mono q fun s2 y q σ H F rs as v w hd av aw Q k => q σ H F rs as v w hd av aw Q fun s3 z ⟨t, ez, u, h1, h2⟩ => k s3 z ⟨t, ez, fun e => by subst e; exact ey_mono (h1 rfl) fun s4 w q σ H F rs as v w' hd av aw Q k => q σ H F rs as v w' hd av aw Q fun s5 r ⟨e1, e2⟩ => by subst e1 e2; exact k s5 _ ⟨_, rfl, h2⟩, fun e => by subst e; exact h2⟩) hm
/-! comprehensions whose elements change nothing -/
theorem lcyP {α : Type} (own : List (Str × Nat)) (ht : TgB G.X scope tg is g)
    (hi : IY G s tg iter fun s1 ds => ds.length ≤ 16777216 ∧ ∃ (xs : List α) (it f : α → D), ds = xs.map it ∧ (∀ a ∈ xs, ∃ ρ', g (it a) (wipeS s1.ρ (own.map (·.2))) = some ρ' ∧ Blk G.X scope fun Gb => EY Gb ⟨ρ', s1.μ⟩ elt fun s3 x => Dm s1.μ.length s3 x fun s4 y => s4.μ = s1.μ ∧ y = f a) ∧ Ψ (S.add s1 (.fl (xs.map f))) (.o s1.μ.length))
    (hv : ∀ i ∈ is, i ∈ own.map (·.2) := by decide) : LCY G s own tg iter [] elt scope Ψ := by
  obtain ⟨wi, pi, hi⟩ := hi
  refine lcy own ht ⟨wi, pi, fun σ H F rs as hd ot R k => hi σ H F rs as hd ot R fun s1 ds ⟨hl, xs, it, f, e, hs, hk⟩ => k s1 ds ⟨hl, fun i μ out => μ = s1.μ ∧ out = (xs.take i).map f, ⟨rfl, rfl⟩, ?_, ?_⟩⟩ hv
  · rintro i d μ out hd ⟨rfl, rfl⟩
    rw [e] at hd
    rw [List.getElem?_map] at hd
    cases q : xs[i]? with
    | none => rw [q] at hd; cases hd
    | some a =>
      rw [q] at hd; cases hd
      obtain ⟨ρ', e1, h⟩ := hs a (List.mem_of_getElem? q)
      refine ⟨ρ', e1, fun sh H0 C cl fp => ey_mono (h sh H0 C cl fp) fun s3 x ⟨s4, y, e2, e3, e4⟩ => ⟨s4, y, e2, e3, ?_⟩⟩
      rw [e4, take_succ_map q]
  · rintro μ out ⟨rfl, rfl⟩
    subst e
    rw [List.length_map, List.take_length]
    exact hk
theorem lcyF {α : Type} (own : List (Str × Nat)) (ht : TgB G.X scope tg is g)
    (hi : IY G s tg iter fun s1 ds => ds.length ≤ 16777216 ∧ ∃ (xs : List α) (it f : α → D) (p : α → Bool), ds = xs.map it ∧ (∀ a ∈ xs, ∃ ρ', g (it a) (wipeS s1.ρ (own.map (·.2))) = some ρ' ∧ Blk G.X scope fun Gb => TY Gb ⟨ρ', s1.μ⟩ cond fun s2 t => t = p a ∧ s2.μ = s1.μ ∧ (t = true → Blk G.X scope fun Gb => EY Gb s2 elt fun s3 x => Dm s1.μ.length s3 x fun s4 y => s4.μ = s1.μ ∧ y = f a)) ∧ Ψ (S.add s1 (.fl ((xs.filter p).map f))) (.o s1.μ.length))
    (hv : ∀ i ∈ is, i ∈ own.map (·.2) := by decide) : LCY G s own tg iter [cond] elt scope Ψ := by
  obtain ⟨wi, pi, hi⟩ := hi
  refine lcyi own ht ⟨wi, pi, fun σ H F rs as hd ot R k => hi σ H F rs as hd ot R fun s1 ds ⟨hl, xs, it, f, p, e, hs, hk⟩ => k s1 ds ⟨hl, fun i μ out => μ = s1.μ ∧ out = ((xs.take i).filter p).map f, ⟨rfl, rfl⟩, ?_, ?_⟩⟩ hv
  · rintro i d μ out hd ⟨rfl, rfl⟩
    rw [e] at hd
    rw [List.getElem?_map] at hd
    cases q : xs[i]? with
    | none => rw [q] at hd; cases hd
    | some a =>
      rw [q] at hd; cases hd
      obtain ⟨ρ', e1, h⟩ := hs a (List.mem_of_getElem? q)
      refine ⟨ρ', e1, fun sh H0 C cl fp σ H F rs as hd ot Q k => h sh H0 C cl fp σ H F rs as hd ot Q fun s2 t ⟨et, eμ, h2⟩ => k s2 t ⟨fun z => fun sh H0 C cl fp => ey_mono (h2 z sh H0 C cl fp) fun s3 x ⟨s4, y, e2, e3, e4⟩ => ?_, fun z => ?_⟩⟩
      · rw [eμ]
        refine ⟨s4, y, e2, e3, ?_⟩
        rw [e4, take_succ_filter q, if_pos (by rw [← et, z])]
      · refine ⟨eμ, ?_⟩
        rw [take_succ_filter q, if_neg (by rw [← et, z]; decide), List.append_nil]
  · rintro μ out ⟨rfl, rfl⟩
    subst e
    rw [List.length_map, List.take_length]
    exact hk
/-- the parts of a comprehension of data; use it by apply: f (and p) come out of the elements -/
theorem lcp {α : Type} {R : List α → (α → D) → Prop} {own : List (Str × Nat)} (xs : List α) (it : α → D) {f : α → D} (e : ds = xs.map it) (hl : ds.length ≤ 16777216)
    (h : ∀ a ∈ xs, ∃ ρ', g (it a) (wipeS s1.ρ (own.map (·.2))) = some ρ' ∧ Blk X scope fun Gb => EY Gb ⟨ρ', s1.μ⟩ elt fun s3 x => Dm s1.μ.length s3 x fun s4 y => s4.μ = s1.μ ∧ y = f a) (k : R xs f) :
    ds.length ≤ 16777216 ∧ ∃ (xs : List α) (it f : α → D), ds = xs.map it ∧ (∀ a ∈ xs, ∃ ρ', g (it a) (wipeS s1.ρ (own.map (·.2))) = some ρ' ∧ Blk X scope fun Gb => EY Gb ⟨ρ', s1.μ⟩ elt fun s3 x => Dm s1.μ.length s3 x fun s4 y => s4.μ = s1.μ ∧ y = f a) ∧ R xs f := ⟨hl, xs, it, f, e, h, k⟩
theorem lcf {α : Type} {R : List α → (α → D) → (α → Bool) → Prop} {own : List (Str × Nat)} (xs : List α) (it : α → D) {f : α → D} {p : α → Bool} (e : ds = xs.map it) (hl : ds.length ≤ 16777216)
    (h : ∀ a ∈ xs, ∃ ρ', g (it a) (wipeS s1.ρ (own.map (·.2))) = some ρ' ∧ Blk X scope fun Gb => TY Gb ⟨ρ', s1.μ⟩ cond fun s2 t => t = p a ∧ s2.μ = s1.μ ∧ (t = true → Blk X scope fun Gb => EY Gb s2 elt fun s3 x => Dm s1.μ.length s3 x fun s4 y => s4.μ = s1.μ ∧ y = f a)) (k : R xs f p) :
    ds.length ≤ 16777216 ∧ ∃ (xs : List α) (it f : α → D) (p : α → Bool), ds = xs.map it ∧ (∀ a ∈ xs, ∃ ρ', g (it a) (wipeS s1.ρ (own.map (·.2))) = some ρ' ∧ Blk X scope fun Gb => TY Gb ⟨ρ', s1.μ⟩ cond fun s2 t => t = p a ∧ s2.μ = s1.μ ∧ (t = true → Blk X scope fun Gb => EY Gb s2 elt fun s3 x => Dm s1.μ.length s3 x fun s4 y => s4.μ = s1.μ ∧ y = f a)) ∧ R xs f p := ⟨hl, xs, it, f, p, e, h, k⟩
/-- a call of a function of data, by an older contract -/
theorem ey_pc {n k : Nat} {ι : Type} {args : ι → List D} {pre : ι → Prop} {val : ι → T} (c : ClY G.X.prog G.X.w G.X.K G.X.mg G.X.base nm n k (pu args pre val).cn) (hr : Room k G.X.A) (tk : G.tk)
    (h : ESY G s (e :: es) fun s1 xs => Dms s.μ.length s1 xs fun s2 ds => ∃ i, args i = ds ∧ pre i ∧ Rv (val i) s2 Ψ)
    (hg : Gl G.X nm := by rfl) (hdb : (nm == ("__debug__" : Str)) = false := by decide) (he : starEach (e :: es) G.X.env = (false, eval e G.X.env) :: starEach es G.X.env := by rfl) (hpl : (backTo pos (starEach es G.X.env)).any (·.1) = false := by rfl) :
    EY G s (.Call (.Name nm p) (e :: es) [] pos) Ψ := by
  refine ey_call [] c hr tk (esy_dms (fun σ H F rs as hd ot Q kk => h σ H F rs as hd ot Q fun s1 xs ⟨s2, ds, e1, i, ea, hp, q⟩ => kk s1 xs ⟨s2, ds, e1, _, _, dmC_d, i, ?_⟩)) hg hdb he hpl
  obtain ⟨q1, q2⟩ := ag_d (μ := s2.μ) ds
  refine ⟨by rw [q1, ← ea]; rfl, hp, by rw [q2]; exact .nil, fun r outs ⟨z1, z2⟩ => ?_, fun x outs z => z.elim⟩
  subst z1 z2
  rw [q2]
  exact ⟨rfl, q⟩
theorem frs_fl (ls : List (List D)) : T.frs (ls.map .fl) = ls.map .lst := by
  induction ls with
  | nil => rfl
  | cons l ls ih => show T.fr (.fl l) :: T.frs (ls.map .fl) = _; rw [ih]; rfl
theorem oks_fl (ls : List (List D)) : T.oks (ls.map .fl) = true := by
  induction ls with
  | nil => rfl
  | cons l ls ih => show (T.ok (.fl l) && T.oks (ls.map .fl)) = true; rw [ih]; rfl
theorem y_len (hm : G.X.mg "len" = none) (h : EY G s e fun s1 x => Tm1 s.μ.length s1 x fun s2 x => Cal G.X (.builtin "len") s2 [x] Ψ) (hg : Gl G.X "len" := by rfl) (he : starEach [e] G.X.env = [(false, eval e G.X.env)] := by rfl) : EY G s (.Call (.Name "len" p) [e] [] pos) Ψ := ey_bi1 hm h (by decide +kernel) hg (by decide) (by decide) he
theorem y_all (hm : G.X.mg "all" = none) (h : EY G s e fun s1 x => Tm1 s.μ.length s1 x fun s2 x => Cal G.X (.builtin "all") s2 [x] Ψ) (hg : Gl G.X "all" := by rfl) (he : starEach [e] G.X.env = [(false, eval e G.X.env)] := by rfl) : EY G s (.Call (.Name "all" p) [e] [] pos) Ψ := ey_bi1 hm h (by decide +kernel) hg (by decide) (by decide) he
theorem y_any (hm : G.X.mg "any" = none) (h : EY G s e fun s1 x => Tm1 s.μ.length s1 x fun s2 x => Cal G.X (.builtin "any") s2 [x] Ψ) (hg : Gl G.X "any" := by rfl) (he : starEach [e] G.X.env = [(false, eval e G.X.env)] := by rfl) : EY G s (.Call (.Name "any" p) [e] [] pos) Ψ := ey_bi1 hm h (by decide +kernel) hg (by decide) (by decide) he
theorem y_sum (hm : G.X.mg "sum" = none) (h : EY G s e fun s1 x => Tm1 s.μ.length s1 x fun s2 x => Cal G.X (.builtin "sum") s2 [x] Ψ) (hg : Gl G.X "sum" := by rfl) (he : starEach [e] G.X.env = [(false, eval e G.X.env)] := by rfl) : EY G s (.Call (.Name "sum" p) [e] [] pos) Ψ := ey_bi1 hm h (by decide +kernel) hg (by decide) (by decide) he
theorem y_max1 (hm : G.X.mg "max" = none) (h : EY G s e fun s1 x => Tm1 s.μ.length s1 x fun s2 x => Cal G.X (.builtin "max") s2 [x] Ψ) (hg : Gl G.X "max" := by rfl) (he : starEach [e] G.X.env = [(false, eval e G.X.env)] := by rfl) : EY G s (.Call (.Name "max" p) [e] [] pos) Ψ := ey_bi1 hm h (by decide +kernel) hg (by decide) (by decide) he
theorem y_min1 (hm : G.X.mg "min" = none) (h : EY G s e fun s1 x => Tm1 s.μ.length s1 x fun s2 x => Cal G.X (.builtin "min") s2 [x] Ψ) (hg : Gl G.X "min" := by rfl) (he : starEach [e] G.X.env = [(false, eval e G.X.env)] := by rfl) : EY G s (.Call (.Name "min" p) [e] [] pos) Ψ := ey_bi1 hm h (by decide +kernel) hg (by decide) (by decide) he
theorem y_abs (hm : G.X.mg "abs" = none) (h : EY G s e fun s1 x => Tm1 s.μ.length s1 x fun s2 x => Cal G.X (.builtin "abs") s2 [x] Ψ) (hg : Gl G.X "abs" := by rfl) (he : starEach [e] G.X.env = [(false, eval e G.X.env)] := by rfl) : EY G s (.Call (.Name "abs" p) [e] [] pos) Ψ := ey_bi1 hm h (by decide +kernel) hg (by decide) (by decide) he
theorem y_sorted (hm : G.X.mg "sorted" = none) (h : EY G s e fun s1 x => Tm1 s.μ.length s1 x fun s2 x => Cal G.X (.builtin "sorted") s2 [x] Ψ) (hg : Gl G.X "sorted" := by rfl) (he : starEach [e] G.X.env = [(false, eval e G.X.env)] := by rfl) : EY G s (.Call (.Name "sorted" p) [e] [] pos) Ψ := ey_bi1 hm h (by decide +kernel) hg (by decide) (by decide) he
theorem y_int (hm : G.X.mg "int" = none) (h : EY G s e fun s1 x => Tm1 s.μ.length s1 x fun s2 x => Cal G.X (.type "int") s2 [x] Ψ) (hg : Gl G.X "int" := by rfl) (he : starEach [e] G.X.env = [(false, eval e G.X.env)] := by rfl) : EY G s (.Call (.Name "int" p) [e] [] pos) Ψ := ey_bt1 hm h (by decide +kernel) hg (by decide) (by decide) he
theorem y_tuple (hm : G.X.mg "tuple" = none) (h : EY G s e fun s1 x => Tm1 s.μ.length s1 x fun s2 x => Cal G.X (.type "tuple") s2 [x] Ψ) (hg : Gl G.X "tuple" := by rfl) (he : starEach [e] G.X.env = [(false, eval e G.X.env)] := by rfl) : EY G s (.Call (.Name "tuple" p) [e] [] pos) Ψ := ey_bt1 hm h (by decide +kernel) hg (by decide) (by decide) he
theorem y_list (hm : G.X.mg "list" = none) (h : EY G s e fun s1 x => Tm1 s.μ.length s1 x fun s2 x => Cal G.X (.type "list") s2 [x] Ψ) (hg : Gl G.X "list" := by rfl) (he : starEach [e] G.X.env = [(false, eval e G.X.env)] := by rfl) : EY G s (.Call (.Name "list" p) [e] [] pos) Ψ := ey_bt1 hm h (by decide +kernel) hg (by decide) (by decide) he
theorem y_str (hm : G.X.mg "str" = none) (h : EY G s e fun s1 x => Tm1 s.μ.length s1 x fun s2 x => Cal G.X (.type "str") s2 [x] Ψ) (hg : Gl G.X "str" := by rfl) (he : starEach [e] G.X.env = [(false, eval e G.X.env)] := by rfl) : EY G s (.Call (.Name "str" p) [e] [] pos) Ψ := ey_bt1 hm h (by decide +kernel) hg (by decide) (by decide) he
theorem y_bool (hm : G.X.mg "bool" = none) (h : EY G s e fun s1 x => Tm1 s.μ.length s1 x fun s2 x => Cal G.X (.type "bool") s2 [x] Ψ) (hg : Gl G.X "bool" := by rfl) (he : starEach [e] G.X.env = [(false, eval e G.X.env)] := by rfl) : EY G s (.Call (.Name "bool" p) [e] [] pos) Ψ := ey_bt1 hm h (by decide +kernel) hg (by decide) (by decide) he
theorem y_set (hm : G.X.mg "set" = none) (h : EY G s e fun s1 x => Tm1 s.μ.length s1 x fun s2 x => Cal G.X (.type "set") s2 [x] Ψ) (hg : Gl G.X "set" := by rfl) (he : starEach [e] G.X.env = [(false, eval e G.X.env)] := by rfl) : EY G s (.Call (.Name "set" p) [e] [] pos) Ψ := ey_bt1 hm h (by decide +kernel) hg (by decide) (by decide) he
theorem y_dict (hm : G.X.mg "dict" = none) (h : EY G s e fun s1 x => Tm1 s.μ.length s1 x fun s2 x => Cal G.X (.type "dict") s2 [x] Ψ) (hg : Gl G.X "dict" := by rfl) (he : starEach [e] G.X.env = [(false, eval e G.X.env)] := by rfl) : EY G s (.Call (.Name "dict" p) [e] [] pos) Ψ := ey_bt1 hm h (by decide +kernel) hg (by decide) (by decide) he
theorem y_max (hm : G.X.mg "max" = none) (h : ESY G s [e, a] fun s1 xs => Cal G.X (.builtin "max") s1 xs Ψ) (hg : Gl G.X "max" := by rfl) (he : starEach [e, a] G.X.env = (false, eval e G.X.env) :: starEach [a] G.X.env := by rfl) (hpl : (backTo pos (starEach [a] G.X.env)).any (·.1) = false := by rfl) : EY G s (.Call (.Name "max" p) [e, a] [] pos) Ψ := ey_bi hm h (by decide +kernel) hg (by decide) (by decide) he hpl
theorem y_min (hm : G.X.mg "min" = none) (h : ESY G s [e, a] fun s1 xs => Cal G.X (.builtin "min") s1 xs Ψ) (hg : Gl G.X "min" := by rfl) (he : starEach [e, a] G.X.env = (false, eval e G.X.env) :: starEach [a] G.X.env := by rfl) (hpl : (backTo pos (starEach [a] G.X.env)).any (·.1) = false := by rfl) : EY G s (.Call (.Name "min" p) [e, a] [] pos) Ψ := ey_bi hm h (by decide +kernel) hg (by decide) (by decide) he hpl
theorem y_isinstance (hm : G.X.mg "isinstance" = none) (h : ESY G s [e, a] fun s1 xs => Cal G.X (.builtin "isinstance") s1 xs Ψ) (hg : Gl G.X "isinstance" := by rfl) (he : starEach [e, a] G.X.env = (false, eval e G.X.env) :: starEach [a] G.X.env := by rfl) (hpl : (backTo pos (starEach [a] G.X.env)).any (·.1) = false := by rfl) : EY G s (.Call (.Name "isinstance" p) [e, a] [] pos) Ψ := ey_bi hm h (by decide +kernel) hg (by decide) (by decide) he hpl
end
/-- the list in slot i changes no more -/
theorem wy_fs {G : Gm} {s : S} {sts : List Stmt} {D' : Ds} {k : Nat} {t : T} (i : Nat) (h : WY G ⟨frzS k t.fr s.ρ, s.μ.set k (.fz t.fr)⟩ sts D') (h1 : s.ρ[i]? = some (.o k) := by rfl) (hk : s.μ[k]? = some t := by rfl) (ok : t.ok = true := by rfl) : WY G s sts D' := fun σ H F rs as hd ot => by
  obtain ⟨F', as', h2, g2⟩ := hd.frz hk ok
  exact h.at h2 (ot.next (refl_pre _) g2) g2 (refl_pre _)
/-- use it by apply: u comes out of the second operand -/
theorem sc {H R : Bool → Prop} {u : Bool} (h : H u) (k : R u) : ∃ u, H u ∧ R u := ⟨u, h, k⟩
/-- the j-th number of a range -/
theorem rg1_get {n j : Nat} {e : D} (h : ((List.range n).map fun (i : Nat) => D.int (i : Int))[j]? = some e) : e = .int (j : Int) ∧ j < n := by
  have hj : j < n := by have := (List.getElem?_eq_some_iff.mp h).1; simpa using this
  rw [List.getElem?_map, List.getElem?_range hj] at h
  cases h; exact ⟨rfl, hj⟩
theorem rg2_get {lo hi : Int} {j : Nat} {e : D} (h : ((List.range (hi - lo).toNat).map fun (k : Nat) => D.int (lo + k))[j]? = some e) : e = .int (lo + j) ∧ lo ≤ lo + j ∧ lo + j < hi := by
  have hj : j < (hi - lo).toNat := by have := (List.getElem?_eq_some_iff.mp h).1; simpa using this
  rw [List.getElem?_map, List.getElem?_range hj] at h
  cases h; exact ⟨rfl, by omega, by omega⟩
theorem rg2_nat {lo hi : Int} {j : Nat} {e : D} (h : ((List.range (hi - lo).toNat).map fun (k : Nat) => D.int (lo + k))[j]? = some e) (h0 : 0 ≤ lo) : ∃ k : Nat, e = .int (k : Int) ∧ lo ≤ (k : Int) ∧ (k : Int) < hi ∧ (k : Int) = lo + j := by
  obtain ⟨h1, h2, h3⟩ := rg2_get h
  exact ⟨(lo + j).toNat, by rw [h1]; congr 1; omega, by omega, by omega, by omega⟩
end Q
/-! isinstance, the law's own loop, types. -/
namespace Q
open PySem L2
section
variable {G : Gm} {X : Cx} {s s1 s2 s3 : S} {a b c e o tg iter elt cond : Expr} {es rest elts : List Expr} {x y z : Ar} {xs : List Ar} {d : D} {ds : List D} {pos p apos : Pos} {nm : Str} {Ψ : S → Ar → Prop} {Θ : S → Bool → Prop} {Φ : S → List D → Prop} {n : Nat} {it : Nat → D}
theorem ey_ty {T' : String} (hm : G.X.mg nm = none) (k : Ψ s (.d (.val (.ty T')))) (hv : bootBuiltins nm = some (.type T') := by decide +kernel) (hg : Gl G.X nm := by rfl) (hn : nm ≠ "__name__" := by decide) (hd : (nm == ("__debug__" : Str)) = false := by decide) : EY G s (.Name nm pos) Ψ := ey_of_ea (ee_ty hg hm hv hn hd) k
theorem ca_isi' {T t : String} {r : Bool} (hx : dt s x = some d) (ht : tyD d = some t) (hk : kitB t T = some r) : CaV X s (rIsi X.K) [x, .d (.val (.ty T))] (.bl r) := fun σ H F rs as vs hd ⟨v, ws, e, a, v2, ws2, e3, a2, e2⟩ Q k => by
  cases e2; cases e3; cases e; cases a2
  exact ⟨v, _, _, _, r, rfl, .ty T, tyD_ok (Same.refl H) ((dt_ok hx).get hd a) ht, kit_ty hk, k _ H F go0 hd.sub rfl⟩
theorem b_isi {T t : String} (r : Bool) (k : Ψ s (.d (.bl r))) (hx : dt s x = some d := by rfl) (ht : tyD d = some t := by rfl) (hk : kitB t T = some r := by decide +kernel) : Cal X (.builtin "isinstance") s [x, .d (.val (.ty T))] Ψ := bc_V call_isi (ca_isi' hx ht hk) k
theorem iy_of_it (h : IT G.X s tg e s1 n it) (ds : List D) (hl : ds.length = n) (he : ∀ i, i < n → ds.getD i .non = it i) (k : Φ s1 ds) : IY G s tg e Φ := by
  obtain ⟨W, pi, h⟩ := h
  exact ⟨W, pi, fun σ H F rs as hd ot R c => h σ H F rs as hd R fun J H1 F1 rs1 as1 h1 p1 g1 gv => c s1 ds k J H1 F1 rs1 as1 h1 p1 g1 (gives_eq gv hl.symm fun i hi => (he i hi).symm)⟩
theorem enD_get {ds : List D} {i : Nat} {d : D} (h : (enD ds)[i]? = some d) : ∃ e, ds[i]? = some e ∧ d = .tup [.int (i : Int), e] := by
  unfold enD at h
  rw [List.getElem?_map] at h
  cases q : ds[i]? with
  | none => rw [List.getElem?_zipIdx, q] at h; cases h
  | some e =>
    rw [List.getElem?_zipIdx, q] at h
    cases h
    exact ⟨e, rfl, by simp⟩
theorem enD_len {ds : List D} : (enD ds).length = ds.length := by simp [enD]
theorem enD_it {ds : List D} : ∀ i, i < ds.length → (enD ds).getD i .non = .tup [.int (i : Nat), ds.getD i .non] := fun i hi => by
  simp [enD, List.getD, List.getElem?_zipIdx, List.getElem?_eq_getElem hi]
/-- the cells that a law goes through -/
def cells (ns : List Int) (k : Nat) : List Int := (if ns.isEmpty = true then [5] else ns).take k
theorem cells_len {ns : List Int} {k : Nat} : (cells ns k).length ≤ k := by unfold cells; rw [List.length_take]; omega
theorem cells_sl {ns : List Int} {k : Nat} : SlL X s (rSlL X.K) (.d (orR (ns.map .int) [.int 5])) none (some (k : Int)) ((cells ns k).map .int) := by
  have ci : cut (if (ns.map D.int).isEmpty = true then [D.int 5] else ns.map D.int) none (some (k : Int)) = (cells ns k).map D.int := by
    unfold cells
    rw [cut_to, List.map_take]
    cases ns <;> rfl
  rw [← ci]; exact sl_or
end
theorem valsRev {vs : List V} {us : List Value} (h : Vals vs us) : Vals vs.reverse us.reverse := by
  induction h with
  | nil => exact .nil
  | cons r _ ih => rw [List.reverse_cons, List.reverse_cons]; exact ih.append (.cons r .nil)
abbrev ct_lawN : Cn := pcn (ι := List Int) (fun ns => [.rl (ns.map .int)]) (fun ns => ns.length ≤ 63) fun _ => .ok (.fz (.bl true))
theorem law_old {P : Program} {w : World} {K : PySem.W.Frag} {mg : Str → Option Value} {base : Heap} {k : Nat} {f : Addr} {fd : FuncData} {ps : List Str} (F : FnOk P w K mg base (L2.CX P w) k f fd ps (spY K ct_lawN)) : FnOk P w K mg base CX0 k f fd ps (spOf K ct_law0) :=
  fnok_ct F fun vs H Q ⟨F0, ass, i, h1, h2, h3, c⟩ => ⟨F0, ass, i, h1, h2, h3, fun r outs ⟨e1, e2⟩ => c r outs ⟨e1, by cases e2; rfl⟩, fun x outs ⟨_, e2⟩ => (nomatch e2)⟩
end Q
namespace K39
open PySem L2 Q
def top (i : Nat) : Stmt := PySem.Challenge.pw_dotread_k39_lines_in_boxes.main.body.getD i (.Pass ⟨0, 0, 0, 0⟩)
/-! ## data -/
def isNum : D → Int → Int → Bool
  | .int i, lo, hi => decide (lo ≤ i) && decide (i ≤ hi)
  | _, _, _ => false
/-- no kind of thing but plain data, texts not too long -/
def ok1 : D → Prop
  | .str l => l.length ≤ 16777216
  | .ins .. => False
  | .val _ => False
  | _ => True
theorem ok1.ty {d : D} (h : ok1 d) : ∃ t, tyD d = some t := by
  cases d <;> first | exact ⟨_, rfl⟩ | exact h.elim
def isRow : D → Bool
  | .str l => (decide ((1 : Int) ≤ (l.length : Nat)) && decide (((l.length : Nat) : Int) ≤ 120)) && (l.map fun c => decide ([c] ∈ [[35], [46]])).all id
  | _ => false
def dlen : D → Nat
  | .str l => l.length
  | .tup ds => ds.length
  | .lst ds => ds.length
  | .rl ds => ds.length
  | _ => 0
def isPic : D → Bool
  | .tup ds => (decide ((1 : Int) ≤ (ds.length : Nat)) && decide (((ds.length : Nat) : Int) ≤ 60)) && ((ds.map isRow).all id && (ds.map fun d => decide ((dlen d : Int) = (dlen (ds.getD 0 .non) : Nat))).all id)
  | _ => false
theorem isRow_str (l : List Nat) : isRow (.str l) = ((decide ((1 : Int) ≤ (l.length : Nat)) && decide (((l.length : Nat) : Int) ≤ 120)) && (l.map fun c => decide ([c] ∈ [[35], [46]])).all id) := rfl
theorem isPic_tup (ds : List D) : isPic (.tup ds) = ((decide ((1 : Int) ≤ (ds.length : Nat)) && decide (((ds.length : Nat) : Int) ≤ 60)) && ((ds.map isRow).all id && (ds.map fun d => decide ((dlen d : Int) = (dlen (ds.getD 0 .non) : Nat))).all id)) := rfl
theorem isRow_is {d : D} (h : isRow d = true) : ∃ l, d = .str l := by
  cases d <;> first | exact ⟨_, rfl⟩ | cases h
abbrev ct_num : Ct := pu (ι := D × Int × Int) (fun (d, lo, hi) => [d, .int lo, .int hi]) (fun (d, _, _) => ok1 d) fun (d, lo, hi) => .fz (.bl (isNum d lo hi))
structure En (mg : Str → Option Value) : Prop where
  isinstance : mg "isinstance" = none
  int : mg "int" = none
  str : mg "str" = none
  bool : mg "bool" = none
  tuple : mg "tuple" = none
  list : mg "list" = none
  len : mg "len" = none
  all : mg "all" = none
  any : mg "any" = none
  range : mg "range" = none
  enumerate : mg "enumerate" = none
  max : mg "max" = none
  min : mg "min" = none
  DOT : ∃ t, mg "DOT" = some (.str ("#" : Str) t)
  WHITE : ∃ t, mg "WHITE" = some (.str ("." : Str) t)
  MOST_ROWS : ∃ t, mg "MOST_ROWS" = some (.int 60 t)
  MOST_COLUMNS : ∃ t, mg "MOST_COLUMNS" = some (.int 120 t)
  MOST : ∃ t, mg "MOST" = some (.int 60 t)
  MOST_HIGH : ∃ t, mg "MOST_HIGH" = some (.int 9 t)
section
variable {P : Program} {w : World} {K : PySem.W.Frag} {mg : Str → Option Value} {base : Heap} {C : Addr}
theorem sc_num : FnScope ["thing", "low", "high"] ["thing", "low", "high"] (defScope (top 13)) := ⟨rfl, rfl, rfl, by decide +kernel, rfl, by decide +kernel, by decide +kernel⟩
theorem ok_num (E : En mg) {f : Addr} {fd : FuncData} (F : Fun K "is_number" "is_number" (top 13) f fd) : FnOk P w K mg base CX0 1 f fd ["thing", "low", "high"] (spOf K ct_num) := by
  refine fn_pu F sc_num (fun _ => rfl) fun cdv A outer s H Eh hr (d, lo, hi) hp => ?_
  refine ws_cons ?_
  cases d with
  | int i => exact w1_ret (ee_and (ee_isi "int" true E.isinstance E.int (ea_d 0) rfl) fun _ => ee_and (ee_not (ee_isi "bool" false E.isinstance E.bool (ea_d 0) rfl)) fun _ => ee_one (ee_chain op_le op_le (ea_d 1) (ea_d 0) ov_le (ea_d 2) ov_le)) rt_d
  | bl b => exact w1_ret (ee_and (u := false) (ee_isi "int" true E.isinstance E.int (ea_d 0) rfl) fun _ => ee_and (u := false) (ee_not (ee_isi "bool" true E.isinstance E.bool (ea_d 0) rfl)) fun z => nomatch z) rt_d
  | ins C ns ds => exact hp.elim
  | val v => exact hp.elim
  | non => exact w1_ret (ee_and (u := false) (ee_isi "int" false E.isinstance E.int (ea_d 0) rfl) fun z => nomatch z) rt_d
  | str l => exact w1_ret (ee_and (u := false) (ee_isi "int" false E.isinstance E.int (ea_d 0) rfl) fun z => nomatch z) rt_d
  | lst l => exact w1_ret (ee_and (u := false) (ee_isi "int" false E.isinstance E.int (ea_d 0) rfl) fun z => nomatch z) rt_d
  | tup l => exact w1_ret (ee_and (u := false) (ee_isi "int" false E.isinstance E.int (ea_d 0) rfl) fun z => nomatch z) rt_d
  | rl l => exact w1_ret (ee_and (u := false) (ee_isi "int" false E.isinstance E.int (ea_d 0) rfl) fun z => nomatch z) rt_d
/-! is_row -/
abbrev ct_row : Ct := pu (ι := D) (fun d => [d]) ok1 fun d => .fz (.bl (isRow d))
theorem sc_row : FnScope ["thing", "sign"] ["thing"] (defScope (top 10)) := ⟨rfl, rfl, rfl, by decide +kernel, rfl, by decide +kernel, by decide +kernel⟩
theorem ok_row (E : En mg) {f : Addr} {fd : FuncData} (F : Fun K "is_row" "is_row" (top 10) f fd) : FnOk P w K mg base CX0 1 f fd ["thing"] (spOf K ct_row) := by
  refine fn_pu F sc_row (fun _ => rfl) fun cdv A outer s H Eh hr d hp => ?_
  have no : ∀ t, tyD d = some t → kitB t "str" = some false → isRow d = false → WS (cxOf CX0 P w K mg base ["thing", "sign"] "is_row" (defScope (top 10)) f cdv A outer s H Eh).nox ⟨[Sl.d d, .un], []⟩ (defBody (top 10)) (rtp (.fz (.bl (isRow d)))) := fun t ht hk e => by
    rw [e]
    refine ws_cons (w1_if (b := true) (et_of_w (ew_or (t := true) (u := false) (et_not (t := false) (et_val (ee_isi "str" false E.isinstance E.str (ea_d 0) ht hk))) fun z => nomatch z)) (fun _ => ?_) fun z => nomatch z)
    exact ws_cons (w1_ret ee_bl rt_d)
  cases d with
  | str l =>
    have hz : l.length ≤ 16777216 := hp
    refine ws_cons (w1_if (et_of_w (ew_or (et_not (et_val (ee_isi "str" true E.isinstance E.str (ea_d 0) rfl))) fun _ => ew_or1 (et_not (et_chain op_le op_le ee_int (e_lenS E.len (ea_d 0) hz) ov_le (e_gi E.MOST_COLUMNS) ov_le)))) (fun h => ?_) (fun h => ?_))
    · have h' : (!(decide ((1 : Int) ≤ (l.length : Nat)) && decide (((l.length : Nat) : Int) ≤ 120))) = true := h
      exact ws_cons (w1_ret ee_bl (rt_b (by rw [isRow_str, nt h']; rfl)))
    · have h' : (!(decide ((1 : Int) ≤ (l.length : Nat)) && decide (((l.length : Nat) : Int) ≤ 120))) = false := h
      refine ws_nil ?_
      refine ws_cons (w1_ret (e_all (bs := l.map fun c => decide ([c] ∈ [[35], [46]])) E.all (ee_lcP l (fun c => .str [c]) (fun c => .bl (decide ([c] ∈ [[35], [46]]))) [("sign", 1)] (it_str (ea_d 0)) rfl (fun i a h => by rw [getD_some h]) sc_row.nd blk_of (fun _ _ _ _ _ => pg_name (i := 1) sc_row.nd rfl (Or.inl rfl)) (gs_name 1) (fun c _ => ⟨_, rfl, _, fun _ _ _ _ _ => ea_cmp op_in_seq (ea_d 1) (ee_tup (es_cons (e_gs [35] E.DOT) (es_cons (e_gs [46] E.WHITE) es_nil))) (ov_inS (ls := [[35], [46]]) rfl)⟩) hz) (by show _ = _; rw [List.map_map]; rfl)) (rt_b ?_))
      rw [isRow_str, nf h']; rfl
  | ins C ns ds => exact hp.elim
  | val v => exact hp.elim
  | _ => exact no _ rfl (by decide +kernel) rfl
/-! is_picture -/
def okP (d : D) : Prop := ok1 d ∧ ∀ ds, d = .tup ds → ds.length ≤ 16777216 ∧ ∀ e ∈ ds, ok1 e
abbrev ct_pic : Ct := pu (ι := D) (fun d => [d]) okP fun d => .fz (.bl (isPic d))
theorem sc_pic : FnScope ["thing", "row"] ["thing"] (defScope (top 11)) := ⟨rfl, rfl, rfl, by decide +kernel, rfl, by decide +kernel, by decide +kernel⟩
theorem ok_pic (E : En mg) (Crow : Cl P w K mg base "is_row" 1 1 ct_row) {f : Addr} {fd : FuncData} (F : Fun K "is_picture" "is_picture" (top 11) f fd) : FnOk P w K mg base CX0 4 f fd ["thing"] (spOf K ct_pic) := by
  refine fn_pu F sc_pic (fun _ => rfl) fun cdv A outer s H Eh hr d hp => ?_
  have no : ∀ t, tyD d = some t → kitB t "tuple" = some false → isPic d = false → WS (cxOf CX0 P w K mg base ["thing", "row"] "is_picture" (defScope (top 11)) f cdv A outer s H Eh).nox ⟨[Sl.d d, .un], []⟩ (defBody (top 11)) (rtp (.fz (.bl (isPic d)))) := fun t ht hk e => by
    rw [e]
    refine ws_cons (w1_if (b := true) (et_of_w (ew_or (t := true) (u := false) (et_not (t := false) (et_val (ee_isi "tuple" false E.isinstance E.tuple (ea_d 0) ht hk))) fun z => nomatch z)) (fun _ => ?_) fun z => nomatch z)
    exact ws_cons (w1_ret ee_bl rt_d)
  cases d with
  | tup ds =>
    obtain ⟨hz, hall⟩ := hp.2 ds rfl
    refine ws_cons (w1_if (et_of_w (ew_or (et_not (et_val (ee_isi "tuple" true E.isinstance E.tuple (ea_d 0) rfl))) fun _ => ew_or1 (et_not (et_chain op_le op_le ee_int (e_len (ds := ds) E.len (ea_d 0)) ov_le (e_gi E.MOST_ROWS) ov_le)))) (fun h => ?_) (fun h => ?_))
    · have h' : (!(decide ((1 : Int) ≤ (ds.length : Nat)) && decide (((ds.length : Nat) : Int) ≤ 60))) = true := h
      exact ws_cons (w1_ret ee_bl (rt_b (by rw [isPic_tup, nt h']; rfl)))
    · have h' : (!(decide ((1 : Int) ≤ (ds.length : Nat)) && decide (((ds.length : Nat) : Int) ≤ 60))) = false := h
      have h2 := nf h'
      refine ws_nil ?_
      refine ws_cons (w1_ret (ee_and (e_all (bs := ds.map isRow) E.all (ee_lcP ds (fun d => d) (fun d => .bl (isRow d)) [("row", 1)] (it_tup (ea_d 0)) rfl (fun i a h => by rw [getD_some h]) sc_pic.nd blk_of (fun _ _ _ _ _ => pg_name (i := 1) sc_pic.nd rfl (Or.inl rfl)) (gs_name 1) (fun c hc => ⟨_, rfl, _, fun _ _ _ _ _ => ea_pu Crow (hr.mono (by decide)) c (es_cons (ea_d 1) es_nil) (hall c hc)⟩) hz) (by show _ = _; rw [List.map_map]; rfl)) fun hA => ee_one (e_all (bs := ds.map fun d => decide ((dlen d : Int) = (dlen (ds.getD 0 .non) : Nat))) E.all (ee_lcP ds (fun d => d) (fun d => .bl (decide ((dlen d : Int) = (dlen (ds.getD 0 .non) : Nat)))) [("row", 1)] (it_tup (ea_d 0)) rfl (fun i a h => by rw [getD_some h]) sc_pic.nd blk_of (fun _ _ _ _ _ => pg_name (i := 1) sc_pic.nd rfl (Or.inl rfl)) (gs_name 1) (fun c hc => ?_) hz) (by show _ = _; rw [List.map_map]; rfl))) (rt_b ?_))
      · have rw_ : ∀ e ∈ ds, isRow e = true := fun e he => by
          have := List.all_eq_true.mp hA (isRow e) (List.mem_map_of_mem he)
          exact this
        obtain ⟨l, rfl⟩ := isRow_is (rw_ c hc)
        have h1 : 0 < ds.length := List.length_pos_of_mem hc
        have e0 : ds[0]? = some ds[0] := List.getElem?_eq_getElem h1
        obtain ⟨l0, q0⟩ := isRow_is (rw_ ds[0] (List.getElem_mem h1))
        rw [q0] at e0
        have z0 : l0.length ≤ 16777216 := hall (.str l0) (List.mem_of_getElem? e0)
        have z1 : l.length ≤ 16777216 := hall _ hc
        have e2 : dlen (ds.getD 0 .non) = l0.length := by rw [getD_some e0]; rfl
        simp only [e2]
        exact ⟨_, rfl, _, fun _ _ _ _ _ => e_eqI (e_lenS E.len (ea_d 1) z1) (e_lenS E.len (e_ixT (ea_d 0) ee_int (atN (k := 0) e0)) z0)⟩
      · rw [isPic_tup, h2]; rfl
  | ins C ns ds => exact hp.1.elim
  | val v => exact hp.1.elim
  | _ => exact no _ rfl (by decide +kernel) rfl
end
end K39
namespace K39
open PySem L2 Q
/-- a picture of rows of codes -/
def pc (p : List (List Nat)) : D := .tup (p.map .str)
structure IsP (p : List (List Nat)) (h w : Nat) : Prop where
  len : p.length = h
  h1 : 1 ≤ h
  h2 : h ≤ 60
  w1 : 1 ≤ w
  w2 : w ≤ 120
  row : ∀ r ∈ p, r.length = w
  sg : ∀ r ∈ p, ∀ c ∈ r, c = 35 ∨ c = 46
def colt (p : List (List Nat)) : List (List Nat) := (List.range (p.getD 0 []).length).map fun k => p.map fun r => r.getD k 0
theorem IsP.isRow {p : List (List Nat)} {h w : Nat} (q : IsP p h w) {r : List Nat} (hr : r ∈ p) : isRow (.str r) = true := by
  rw [isRow_str]
  have e := q.row r hr
  have := q.w1
  have := q.w2
  rw [show (r.map fun c => decide ([c] ∈ [[35], [46]])).all id = true from by rw [List.all_map, List.all_eq_true]; intro c hc; rcases q.sg r hr c hc with rfl | rfl <;> decide]
  simp [e]; omega
theorem IsP.pic {p : List (List Nat)} {h w : Nat} (q : IsP p h w) : isPic (pc p) = true := by
  have := q.h1
  have := q.h2
  have hl := q.len
  have e0 : ∃ r0, p[0]? = some r0 := ⟨_, List.getElem?_eq_getElem (by omega)⟩
  obtain ⟨r0, e0⟩ := e0
  have w0 := q.row r0 (List.mem_of_getElem? e0)
  rw [pc, isPic_tup, all_map fun r hr => q.isRow hr, all_map fun r hr => ?_]
  · simp [hl]; omega
  · rw [getD_map e0]
    show decide (((r.length : Nat) : Int) = ((r0.length : Nat) : Int)) = true
    rw [q.row r hr, w0]; simp
theorem IsP.ok {p : List (List Nat)} {h w : Nat} (q : IsP p h w) : okP (pc p) := ⟨trivial, fun ds e => by
  cases e
  have hl := q.len
  have := q.h2
  refine ⟨by rw [List.length_map]; omega, fun e he => ?_⟩
  obtain ⟨r, hr, rfl⟩ := List.mem_map.mp he
  have := q.row r hr
  have := q.w2
  show r.length ≤ 16777216
  omega⟩
theorem flat1 {α : Type} {f : α → Nat} : ∀ xs : List α, (xs.map fun x => [f x]).flatten = xs.map f
  | [] => rfl
  | x :: xs => by rw [List.map_cons, List.flatten_cons, flat1 xs]; rfl
theorem len1 {α : Type} {f : α → Nat} : ∀ xs : List α, (xs.map (List.length ∘ fun x => [f x])).sum = xs.length
  | [] => rfl
  | x :: xs => by rw [List.map_cons, List.sum_cons, len1 xs]; simp; omega
def dr (a b : Int) (c : Nat) : T := .fl [.int a, .int b, .int (c : Int)]
/-- a draw's state, at most n numbers mixed -/
def Dr (n : Nat) (t : T) : Prop := ∃ a b c, t = dr a b c ∧ c ≤ n
theorem Dr.mono {n m : Nat} {t : T} (h : Dr n t) (l : n ≤ m) : Dr m t := let ⟨a, b, c, e, q⟩ := h; ⟨a, b, c, e, Nat.le_trans q l⟩
theorem bits_le {i : Int} {k : Nat} (h0 : 0 ≤ i) (h : i < 2 ^ k) : Builtin.Int.intBits i ≤ k := by
  unfold Builtin.Int.intBits
  split
  · exact Nat.zero_le _
  · rename_i h1
    have h1' : i ≠ 0 := fun e => h1 (by rw [e]; rfl)
    have n0 : i.natAbs ≠ 0 := by omega
    have hlt : i.natAbs < 2 ^ k := by
      have e : ((i.natAbs : Nat) : Int) = i := by omega
      have : ((i.natAbs : Nat) : Int) < ((2 ^ k : Nat) : Int) := by rw [e]; simpa using h
      exact Int.ofNat_lt.mp this
    exact (Nat.log2_lt n0).mpr hlt
section
variable {P : Program} {w : World} {K : PySem.W.Frag} {mg : Str → Option Value} {base : Heap} {C : Addr}
abbrev ct_begun : Ct := pu (ι := Int × Nat) (fun (cell, k) => [.int cell, .int (k : Int)]) (fun (_, k) => k ≤ 1000) fun (cell, k) => dr (max 0 (cell - 10 ^ 18)) (cell + 977 * k) 0
theorem sc_begun : FnScope ["cell", "k"] ["cell", "k"] (defScope (top 25)) := ⟨rfl, rfl, rfl, by decide +kernel, rfl, by decide +kernel, by decide +kernel⟩
theorem ok_begun (E : En mg) {f : Addr} {fd : FuncData} (F : Fun K "_law_begun" "_law_begun" (top 25) f fd) : FnOk P w K mg base CX0 1 f fd ["cell", "k"] (spOf K ct_begun) := by
  refine fn_pu F sc_begun (fun _ => rfl) fun cdv A outer s H Eh hr (cell, k) hp => ?_
  have hk : k ≤ 1000 := hp
  exact ws_cons (w1_ret (ea_lst (es_cons (e_max E.max ee_int (e_sub (ea_d 0) (ea_op op_powW ee_int ee_int (ov_I (i := 10) (j := 18) (d := .int (10 ^ 18)) ⟨by decide, by decide +kernel⟩ fun _ => rfl)))) (es_cons (e_add (ea_d 0) (ea_op op_mul ee_int (ea_d 1) (ov_mul (.inr ⟨by omega, by omega⟩)))) (es_cons ee_int es_nil)))) rt_o)
def ct_next : Ct where
  ι := Nat × T × Int
  args := fun (n, t, j) => [.o t, .d (.int j)]
  pre := fun (n, t, j) => Dr n t ∧ n < 1073741824 ∧ 0 < j ∧ j < 1073741824
  post := fun (n, t, j) r outs => ∃ v t', r = .fz (.int v) ∧ 0 ≤ v ∧ v < j ∧ outs = [t'] ∧ Dr (n + 1) t'
theorem sc_next : FnScope ["draw", "below", "found"] ["draw", "below"] (defScope (top 26)) := ⟨rfl, rfl, rfl, by decide +kernel, rfl, by decide +kernel, by decide +kernel⟩
theorem ok_next {f : Addr} {fd : FuncData} (F : Fun K "_law_next" "_law_next" (top 26) f fd) : FnOk P w K mg base CX0 1 f fd ["draw", "below"] (spOf K ct_next) := by
  refine fn_ok F sc_next (fun _ => rfl) fun cdv A outer s H E hr i hp => ?_
  obtain ⟨n, t, j⟩ := i
  obtain ⟨⟨a, b, c, rfl, hc⟩, hn, hj, hj2⟩ : Dr n t ∧ n < 1073741824 ∧ 0 < j ∧ j < 1073741824 := hp
  show WS _ ⟨[.o 0, .d (.int j), .un], [dr a b c]⟩ _ (rets 1 _)
  have g0 : ∀ c' : Int, atI [D.int a, .int b, .int c'] 0 = some (.int a) := fun _ => rfl
  have g1 : ∀ c' : Int, atI [D.int a, .int b, .int c'] 1 = some (.int b) := fun _ => rfl
  have g2 : ∀ c' : Int, atI [D.int a, .int b, .int c'] 2 = some (.int c') := fun _ => rfl
  refine ws_cons (w1_if (t_gt (e_ixL (ea_o 0 (k := 0)) ee_int (g0 c)) ee_int) (fun h => ?_) (fun h => ?_))
  · refine ws_cons (w1_set 2 (ea_op op_mod (e_ixL (ea_o 0 (k := 0)) ee_int (g0 c)) (ea_d 1) (ov_mod hj)) ?_ sc_next.nd)
    refine ws_cons (w1_setix (ea_op op_fdiv (e_ixL (ea_o 0 (k := 0)) ee_int (g0 c)) (ea_d 1) (ov_div ⟨hj, hj2⟩)) (ea_o 0 (k := 0)) ee_int (ds := [.int a, .int b, .int c]) (m := 0) rfl (by rfl) ?_)
    refine ws_cons (w1_ret (ea_d 2) ?_)
    exact ⟨.fz (.int (a % j)), [dr (a / j) b c], ⟨_, _, rfl, Int.emod_nonneg _ (by omega), Int.emod_lt_of_pos _ hj, rfl, _, _, _, rfl, by omega⟩, rfl, Nat.le_of_ble_eq_true rfl, rfl⟩
  · refine ws_nil ?_
    have m1 : 0 ≤ b % 2147483629 ∧ b % 2147483629 < 2147483629 := ⟨Int.emod_nonneg _ (by decide), Int.emod_lt_of_pos _ (by decide)⟩
    have m2 : 0 ≤ b % 2147483587 ∧ b % 2147483587 < 2147483587 := ⟨Int.emod_nonneg _ (by decide), Int.emod_lt_of_pos _ (by decide)⟩
    refine ws_cons (w1_setix (e_add (e_ixL (ea_o 0 (k := 0)) ee_int (g2 c)) ee_int) (ea_o 0 (k := 0)) ee_int (ds := [.int a, .int b, .int c]) (m := 2) rfl (by rfl) ?_)
    show WS _ ⟨[.o 0, .d (.int j), .un], [.fl [.int a, .int b, .int ((c : Int) + 1)]]⟩ _ _
    generalize hc1 : ((c : Int) + 1) = c1
    have b1 : 0 ≤ c1 ∧ c1 ≤ 1073741824 := by omega
    refine ws_cons (w1_set 2 (e_add (ea_op op_mod (e_ixL (ea_o 0 (k := 0)) ee_int (g1 c1)) ee_int (ov_mod (by decide))) (ea_op op_mul ee_int (e_ixL (ea_o 0 (k := 0)) ee_int (g2 c1)) (ov_mul (.inl ⟨by decide, by decide⟩)))) ?_ sc_next.nd)
    show WS _ ⟨[.o 0, .d (.int j), .d (.int (b % 2147483629 + 104729 * c1))], [.fl [.int a, .int b, .int c1]]⟩ _ _
    generalize hx : b % 2147483629 + 104729 * c1 = x
    have bx : 0 ≤ x ∧ x < 2 ^ 48 := by omega
    have c2 : 0 ≤ 7919 * c1 * c1 ∧ 7919 * c1 * c1 ≤ 7919 * 1073741824 * 1073741824 := by
      refine ⟨Int.mul_nonneg (by omega) b1.1, ?_⟩
      exact Int.mul_le_mul (by omega) b1.2 b1.1 (by omega)
    refine ws_cons (w1_set 2 (ea_op op_mul (ea_d 2) (e_add (e_add (ea_op op_mod (e_ixL (ea_o 0 (k := 0)) ee_int (g1 c1)) ee_int (ov_mod (by decide))) (ea_op op_mul (ea_op op_mul ee_int (e_ixL (ea_o 0 (k := 0)) ee_int (g2 c1)) (ov_mul (.inl ⟨by decide, by decide⟩))) (e_ixL (ea_o 0 (k := 0)) ee_int (g2 c1)) (ov_mul (.inr ⟨by omega, by omega⟩)))) ee_int) (ov_mul (.inl ⟨by omega, by omega⟩))) ?_ sc_next.nd)
    show WS _ ⟨[.o 0, .d (.int j), .d (.int (x * (b % 2147483587 + 7919 * c1 * c1 + 11)))], [.fl [.int a, .int b, .int c1]]⟩ _ _
    generalize hy : b % 2147483587 + 7919 * c1 * c1 + 11 = y
    have by_ : 0 ≤ y ∧ y < 2 ^ 80 := by omega
    have bz : 0 ≤ x * y ∧ x * y < 2 ^ 128 := by
      refine ⟨Int.mul_nonneg bx.1 by_.1, ?_⟩
      have := Int.mul_lt_mul' (Int.le_of_lt bx.2) by_.2 by_.1 (by decide : (0 : Int) < 2 ^ 48)
      exact this
    have bb := bits_le bz.1 bz.2
    refine ws_cons (w1_ret (ea_op op_mod (ea_op op_fdiv (ea_op op_mod (ea_op op_powW (ea_d 2) ee_int (ov_I (i := x * y) (j := 3) (d := .int ((x * y) ^ (3 : Int).toNat)) ⟨by decide, by omega⟩ fun _ => rfl)) ee_int (ov_mod (by decide))) ee_int (ov_div (by decide))) (ea_d 1) (ov_mod hj)) ?_)
    exact ⟨.fz (.int ((x * y) ^ (3 : Int).toNat % 2147483647 / 11 % j)), [dr a b (c + 1)], ⟨_, _, rfl, Int.emod_nonneg _ (by omega), Int.emod_lt_of_pos _ hj, rfl, _, _, _, rfl, by omega⟩, by rw [← hc1]; rfl, Nat.le_of_ble_eq_true rfl, rfl⟩
end
/-- how many numbers may be mixed -/
abbrev lim : Nat := 1073741824
section
variable {X : Cx} {s s1 : S} {e e0 : Expr} {p pos : Pos} {k k0 n : Nat} {Ψ : S → Ar → Prop}
theorem x_next (Cn : Cl X.prog X.w X.K X.mg X.base "_law_next" 2 1 ct_next) (hr : Room k X.A) (hd : EA X s e0 s (.o k0)) (hk : 1 ≤ k)
    (h : EX X s e fun s1 x => ∃ (j : Int) (t : T) (n : Nat), x = .d (.int j) ∧ s1.μ[k0]? = some t ∧ Dr n t ∧ n < lim ∧ 0 < j ∧ j < 1073741824 ∧ ∀ v t', 0 ≤ v → v < j → Dr (n + 1) t' → Ψ ⟨s1.ρ, s1.μ.set k0 t'⟩ (.d (.int v)))
    (hg : Gl X "_law_next" := by rfl) (hx : X.xe = fun _ _ => False := by rfl) (he : starEach (e0 :: [e]) X.env = (false, eval e0 X.env) :: starEach [e] X.env := by rfl) (he2 : starEach [e] X.env = (false, eval e X.env) :: starEach [] X.env := by rfl) (hpl : (backTo pos (starEach [e] X.env)).any (·.1) = false := by rfl) :
    EX X s (.Call (.Name "_law_next" p) [e0, e] [] pos) Ψ :=
  ex_cl (Φ := ct_next) Cn (hr.mono hk) (xs_cons (ex_of hd (xs_cons (ex_mono h fun s1 x ⟨j, t, n, ex, ht, d, hn, h1, h2, c⟩ => xs_nil (by
    subst ex
    refine ⟨(n, t, j), by show (s1.μ[k0]?).bind _ = _; rw [ht]; rfl, ⟨d, hn, h1, h2⟩, by simp [oks], fun r outs ⟨v, t', q⟩ => by rw [q.2.2.2.1]; rfl, fun r outs ⟨v, t', e1, q1, q2, e2, q3⟩ => .inl ⟨.int v, e1, ?_⟩⟩
    subst e2
    exact c v t' q1 q2 q3)) (hs := he2))) (hs := he)) hg hx (by decide) he hpl
/-! _law_pick -/
def items : Ag → Option (List D)
  | .d d => sq d
  | .o (.fl ds) => some ds
  | _ => none
def rest : Ag → List T
  | .d _ => []
  | .o t => [t]
def ct_pick : Ct where
  ι := Nat × T × Ag × List D
  args := fun (n, t, g, _) => [.o t, g]
  pre := fun (n, t, g, ds) => Dr n t ∧ n < lim ∧ items g = some ds ∧ 0 < ds.length ∧ ds.length ≤ 1000000 ∧ ∀ d', g ≠ .d (.rl d')
  post := fun (n, t, g, ds) r outs => ∃ x t', r = .fz x ∧ x ∈ ds ∧ outs = t' :: rest g ∧ Dr (n + 1) t'
end
section
variable {P : Program} {w : World} {K : PySem.W.Frag} {mg : Str → Option Value} {base : Heap} {C : Addr}
theorem sc_pick : FnScope ["draw", "some"] ["draw", "some"] (defScope (top 27)) := ⟨rfl, rfl, rfl, by decide +kernel, rfl, by decide +kernel, by decide +kernel⟩
theorem atI_in {ds : List D} {v : Int} (h0 : 0 ≤ v) (h1 : v < (ds.length : Nat)) : ∃ x, atI ds v = some x ∧ x ∈ ds := by
  obtain ⟨k, rfl⟩ := Int.eq_ofNat_of_zero_le h0
  have hk : k < ds.length := by omega
  exact ⟨ds[k], atN (List.getElem?_eq_getElem hk), List.getElem_mem hk⟩
theorem ok_pick (E : En mg) (Cn : Cl P w K mg base "_law_next" 2 1 ct_next) {f : Addr} {fd : FuncData} (F : Fun K "_law_pick" "_law_pick" (top 27) f fd) : FnOk P w K mg base CX0 2 f fd ["draw", "some"] (spOf K ct_pick) := by
  refine fn_ok F sc_pick (fun _ => rfl) fun cdv A outer s H Eh hr i hp => ?_
  obtain ⟨n, t, g, ds⟩ := i
  obtain ⟨d, hn, hi, h0, h1, nr⟩ : Dr n t ∧ n < lim ∧ items g = some ds ∧ 0 < ds.length ∧ ds.length ≤ 1000000 ∧ ∀ d', g ≠ .d (.rl d') := hp
  cases g with
  | o u =>
    cases u with
    | fl es =>
      cases hi
      show WS _ ⟨[.o 0, .o 1], [t, .fl ds]⟩ _ (rets 2 _)
      refine ws_cons (w1x_ret (ex_ix ix_list (ex_of (ea_o 1 (k := 1)) (x_next Cn hr (ea_o 0 (k := 0)) (Nat.le_refl _) (ex_of (e_len (ds := ds) E.len (ea_o 1 (k := 1))) ⟨_, t, n, rfl, rfl, d, hn, by omega, by omega, fun v t' q1 q2 q3 => ?_⟩)))))
      obtain ⟨x, e1, e2⟩ := atI_in q1 q2
      refine ⟨x, ov_ixL (ds := ds) rfl e1, .fz x, _, ⟨x, t', rfl, e2, rfl, q3⟩, rfl, Nat.le_of_ble_eq_true rfl, rfl⟩
    | _ => cases hi
  | d y =>
    show WS _ ⟨[.o 0, .d y], [t]⟩ _ (rets 1 _)
    cases y with
    | lst es =>
      cases hi
      refine ws_cons (w1x_ret (ex_ix ix_list (ex_of (ea_d 1) (x_next Cn hr (ea_o 0 (k := 0)) (Nat.le_refl _) (ex_of (e_len (ds := ds) E.len (ea_d 1)) ⟨_, t, n, rfl, rfl, d, hn, by omega, by omega, fun v t' q1 q2 q3 => ?_⟩)))))
      obtain ⟨x, e1, e2⟩ := atI_in q1 q2
      refine ⟨x, ov_ixL (ds := ds) rfl e1, .fz x, _, ⟨x, t', rfl, e2, rfl, q3⟩, rfl, Nat.le_of_ble_eq_true rfl, rfl⟩
    | str l =>
      cases hi
      rw [List.length_map] at h0 h1
      refine ws_cons (w1x_ret (ex_ix ix_str (ex_of (ea_d 1) (x_next Cn hr (ea_o 0 (k := 0)) (Nat.le_refl _) (ex_of (e_lenS E.len (ea_d 1) (by omega)) ⟨_, t, n, rfl, rfl, d, hn, by omega, by omega, fun v t' q1 q2 q3 => ?_⟩)))))
      obtain ⟨k, rfl⟩ := Int.eq_ofNat_of_zero_le q1
      have hk : k < l.length := by omega
      refine ⟨.str [l[k]], ov_ixS (by omega) (atN (List.getElem?_eq_getElem hk)), .fz (.str [l[k]]), _, ⟨_, t', rfl, List.mem_map.mpr ⟨_, List.getElem_mem hk, rfl⟩, rfl, q3⟩, rfl, Nat.le_of_ble_eq_true rfl, rfl⟩
    | tup es =>
      cases hi
      refine ws_cons (w1x_ret (ex_ix ix_tup (ex_of (ea_d 1) (x_next Cn hr (ea_o 0 (k := 0)) (Nat.le_refl _) (ex_of (e_len (ds := ds) E.len (ea_d 1)) ⟨_, t, n, rfl, rfl, d, hn, by omega, by omega, fun v t' q1 q2 q3 => ?_⟩)))))
      obtain ⟨x, e1, e2⟩ := atI_in q1 q2
      refine ⟨x, ov_ixT e1, .fz x, _, ⟨x, t', rfl, e2, rfl, q3⟩, rfl, Nat.le_of_ble_eq_true rfl, rfl⟩
    | rl es => exact absurd rfl (nr es)
    | _ => cases hi
end
section
variable {X : Cx} {s s1 : S} {e e0 : Expr} {p pos : Pos} {k k0 n : Nat} {Ψ : S → Ar → Prop}
theorem x_pickD (Cn : Cl X.prog X.w X.K X.mg X.base "_law_pick" 2 2 ct_pick) (hr : Room k X.A) (hd : EA X s e0 s (.o k0)) (hk : 2 ≤ k)
    (h : EX X s e fun s1 x => ∃ (y : D) (ds : List D) (t : T) (n : Nat), x = .d y ∧ sq y = some ds ∧ (∀ d', y ≠ .rl d') ∧ s1.μ[k0]? = some t ∧ Dr n t ∧ n < lim ∧ 0 < ds.length ∧ ds.length ≤ 1000000 ∧ ∀ z t', z ∈ ds → Dr (n + 1) t' → Ψ ⟨s1.ρ, s1.μ.set k0 t'⟩ (.d z))
    (hg : Gl X "_law_pick" := by rfl) (hx : X.xe = fun _ _ => False := by rfl) (he : starEach (e0 :: [e]) X.env = (false, eval e0 X.env) :: starEach [e] X.env := by rfl) (he2 : starEach [e] X.env = (false, eval e X.env) :: starEach [] X.env := by rfl) (hpl : (backTo pos (starEach [e] X.env)).any (·.1) = false := by rfl) :
    EX X s (.Call (.Name "_law_pick" p) [e0, e] [] pos) Ψ :=
  ex_cl (Φ := ct_pick) Cn (hr.mono hk) (xs_cons (ex_of hd (xs_cons (ex_mono h fun s1 x ⟨y, ds, t, n, ex, hs, nr, ht, d, hn, h1, h2, c⟩ => xs_nil (by
    subst ex
    refine ⟨(n, t, .d y, ds), by show (s1.μ[k0]?).bind _ = _; rw [ht]; rfl, ⟨d, hn, hs, h1, h2, fun d' e => nr d' (Ag.d.inj e)⟩, by simp [oks], fun r outs ⟨x, t', q⟩ => by rw [q.2.2.1]; rfl, fun r outs ⟨x, t', e1, q1, e2, q3⟩ => .inl ⟨x, e1, ?_⟩⟩
    subst e2
    exact c x t' q1 q3)) (hs := he2))) (hs := he)) hg hx (by decide) he hpl
theorem x_pickO (Cn : Cl X.prog X.w X.K X.mg X.base "_law_pick" 2 2 ct_pick) (hr : Room k X.A) (hd : EA X s e0 s (.o k0)) (hk : 2 ≤ k)
    (h : EX X s e fun s1 x => ∃ (k1 : Nat) (ds : List D) (t : T) (n : Nat), x = .o k1 ∧ k0 ≠ k1 ∧ s1.μ[k1]? = some (.fl ds) ∧ s1.μ[k0]? = some t ∧ Dr n t ∧ n < lim ∧ 0 < ds.length ∧ ds.length ≤ 1000000 ∧ ∀ z t', z ∈ ds → Dr (n + 1) t' → Ψ ⟨s1.ρ, s1.μ.set k0 t'⟩ (.d z))
    (hg : Gl X "_law_pick" := by rfl) (hx : X.xe = fun _ _ => False := by rfl) (he : starEach (e0 :: [e]) X.env = (false, eval e0 X.env) :: starEach [e] X.env := by rfl) (he2 : starEach [e] X.env = (false, eval e X.env) :: starEach [] X.env := by rfl) (hpl : (backTo pos (starEach [e] X.env)).any (·.1) = false := by rfl) :
    EX X s (.Call (.Name "_law_pick" p) [e0, e] [] pos) Ψ :=
  ex_cl (Φ := ct_pick) Cn (hr.mono hk) (xs_cons (ex_of hd (xs_cons (ex_mono h fun s1 x ⟨k1, ds, t, n, ex, ne, hs, ht, d, hn, h1, h2, c⟩ => xs_nil (by
    subst ex
    refine ⟨(n, t, .o (.fl ds), ds), by show (s1.μ[k0]?).bind (fun t => ((s1.μ[k1]?).bind _).map _) = _; rw [ht, hs]; rfl, ⟨d, hn, rfl, h1, h2, fun d' e => nomatch e⟩, by simp [oks, ne], fun r outs ⟨x, t', q⟩ => by rw [q.2.2.1]; rfl, fun r outs ⟨x, t', e1, q1, e2, q3⟩ => .inl ⟨x, e1, ?_⟩⟩
    subst e2
    have es : setAll s1.μ (oks [.o k0, .o k1]) [t', .fl ds] = s1.μ.set k0 t' := by
      show (s1.μ.set k0 t').set k1 (.fl ds) = _
      refine List.ext_getElem? fun m => ?_
      by_cases h : k1 = m
      · subst h
        have l1 : k1 < s1.μ.length := (List.getElem?_eq_some_iff.mp hs).1
        rw [List.getElem?_set_self (by simpa using l1), List.getElem?_set_ne ne, hs]
      · rw [List.getElem?_set_ne h]
    show Ψ ⟨s1.ρ, setAll s1.μ (oks [.o k0, .o k1]) [t', .fl ds]⟩ (.d x)
    rw [es]
    exact c x t' q1 q3)) (hs := he2))) (hs := he)) hg hx (by decide) he hpl
end
end K39
namespace K39
open PySem L2 Q
/-- the rows within a box -/
def rowsW (p : List (List Nat)) (t l h w : Nat) : List (List Nat) := ((p.drop t).take h).map fun r => (r.drop l).take w
def bx (t l h w : Nat) : D := .tup [.int (t : Int), .int (l : Int), .int (h : Int), .int (w : Int)]
/-- a box of a picture -/
structure InP (p : List (List Nat)) (H W t l h w : Nat) : Prop where
  p : IsP p H W
  h1 : 1 ≤ h
  w1 : 1 ≤ w
  th : t + h ≤ H
  lw : l + w ≤ W
section
variable {P : Program} {w : World} {K : PySem.W.Frag} {mg : Str → Option Value} {base : Heap} {C : Addr}
abbrev ct_rowsW : Ct := pu (ι := List (List Nat) × Nat × Nat × Nat × Nat) (fun (p, t, l, h, w) => [pc p, bx t l h w]) (fun (p, t, l, h, w) => ∃ H W, InP p H W t l h w) fun (p, t, l, h, w) => .fl ((rowsW p t l h w).map .str)
theorem sc_rowsW : FnScope ["picture", "box", "top", "left", "high", "wide", "row"] ["picture", "box"] (defScope (top 18)) := ⟨rfl, rfl, rfl, by decide +kernel, rfl, by decide +kernel, by decide +kernel⟩
theorem ok_rowsW {f : Addr} {fd : FuncData} (F : Fun K "rows_within" "rows_within" (top 18) f fd) : FnOk P w K mg base CX0 1 f fd ["picture", "box"] (spOf K ct_rowsW) := by
  refine fn_pu F sc_rowsW (fun _ => rfl) fun cdv A outer s H Eh hr (p, t, l, h, wd) ⟨HH, WW, q⟩ => ?_
  have ip := q.p
  have lp := ip.len
  have th := q.th
  have lw := q.lw
  have := ip.w2
  have := ip.h2
  refine ws_cons (w1_asg (d := bx t l h wd) (ea_d 1) (pg_tup rfl (pgs_cons (pg_name (i := 2) sc_rowsW.nd rfl (Or.inl rfl)) (pgs_cons (pg_name (i := 3) sc_rowsW.nd rfl (Or.inr rfl)) (pgs_cons (pg_name (i := 4) sc_rowsW.nd rfl (Or.inl rfl)) (pgs_cons (pg_name (i := 5) sc_rowsW.nd rfl (Or.inr rfl)) pgs_nil))))) (gs_tup (gss_cons (gs_name 2) (gss_cons (gs_name 3) (gss_cons (gs_name 4) (gss_cons (gs_name 5) gss_nil)))) (tcons_len (tcons_len (tcons_len (tcons_len tnil_len))))) rfl ?_)
  have ec : cut (p.map D.str) (some (t : Int)) (some ((t : Int) + (h : Nat))) = ((p.drop t).take h).map .str := by
    rw [cut_nat (by rw [List.length_map]; omega), List.map_take, List.map_drop]
  have sl : ∀ (X : Cx) (s : S), SlV X s (rSlA X.K) (.d (pc p)) (some (t : Int)) (some ((t : Int) + (h : Nat))) (.tup (((p.drop t).take h).map .str)) := fun X s => by rw [← ec]; exact sv_tup
  have rl : ∀ r ∈ (p.drop t).take h, r.length = WW := fun r hr => ip.row r (List.mem_of_mem_drop (List.mem_of_mem_take hr))
  refine ws_cons (w1_ret (ea_lcP ((p.drop t).take h) (fun r => .str r) (fun r => .str (cut r (some (l : Int)) (some ((l : Int) + (wd : Nat))))) [("row", 6)] (it_tup (ee_sl sl_tupA (ea_d 0) (ep_some (ea_d 2)) (ep_some (e_add (ea_d 2) (ea_d 4))) (sl _ _))) (by simp) (fun i a h => by rw [getD_map h]) sc_rowsW.nd blk_of (fun _ _ _ _ _ => pg_name (i := 6) sc_rowsW.nd rfl (Or.inl rfl)) (gs_name 6)
    (fun r hr => ⟨_, rfl, _, fun _ _ _ _ _ => ee_sl sl_str (ea_d 6) (ep_some (ea_d 3)) (ep_some (e_add (ea_d 3) (ea_d 5))) (sv_str (by rw [rl r hr]; omega))⟩) (by simp; omega)) (rt_o' rfl ?_))
  show T.fl _ = T.fl ((((p.drop t).take h).map fun r => (r.drop l).take wd).map D.str)
  rw [List.map_map]
  exact congrArg T.fl (List.map_congr_left fun r hr => by rw [cut_nat (by rw [rl r hr]; omega)]; rfl)
theorem rowsW_row {p : List (List Nat)} {H W t l h w : Nat} (q : InP p H W t l h w) : (rowsW p t l h w).length = h ∧ ∀ r ∈ rowsW p t l h w, r.length = w := by
  have lp := q.p.len
  have th := q.th
  have lw := q.lw
  refine ⟨by unfold rowsW; simp; omega, fun r hr => ?_⟩
  obtain ⟨r0, h0, rfl⟩ := List.mem_map.mp hr
  have := q.p.row r0 (List.mem_of_mem_drop (List.mem_of_mem_take h0))
  simp; omega
def colsW (p : List (List Nat)) (t l h w : Nat) : List (List Nat) := (List.range w).map fun k => (rowsW p t l h w).map fun r => r.getD k 0
abbrev ct_colsW : Ct := pu (ι := List (List Nat) × Nat × Nat × Nat × Nat) (fun (p, t, l, h, w) => [pc p, bx t l h w]) (fun (p, t, l, h, w) => ∃ H W, InP p H W t l h w) fun (p, t, l, h, w) => .fl ((colsW p t l h w).map .str)
theorem sc_colsW : FnScope ["picture", "box", "rows", "row", "at"] ["picture", "box"] (defScope (top 19)) := ⟨rfl, rfl, rfl, by decide +kernel, rfl, by decide +kernel, by decide +kernel⟩
theorem ok_colsW (E : En mg) (Cr : Cl P w K mg base "rows_within" 2 1 ct_rowsW) {f : Addr} {fd : FuncData} (F : Fun K "columns_within" "columns_within" (top 19) f fd) : FnOk P w K mg base CX0 2 f fd ["picture", "box"] (spOf K ct_colsW) := by
  refine fn_pu F sc_colsW (fun _ => rfl) fun cdv A outer s H Eh hr (p, t, l, h, wd) ⟨HH, WW, q⟩ => ?_
  obtain ⟨hR, wR⟩ := rowsW_row q
  have := q.p.w2
  have := q.p.h2
  have := q.lw
  have := q.th
  refine ws_cons (w1_set 2 (ea_puT Cr hr (p, t, l, h, wd) (es_cons (ea_d 0) (es_cons (ea_d 1) es_nil)) ⟨HH, WW, q⟩) ?_ sc_colsW.nd)
  show WS _ ⟨[.d (pc p), .d (bx t l h wd), .o 0, .un, .un], [.fl ((rowsW p t l h wd).map .str)]⟩ _ _
  refine ws_frz 0 rfl rfl ?_
  show WS _ ⟨[.d (pc p), .d (bx t l h wd), .d (.lst ((rowsW p t l h wd).map .str)), .un, .un], [.fz (.lst ((rowsW p t l h wd).map .str))]⟩ _ _
  have ix : ∀ r ∈ rowsW p t l h wd, ∀ k ∈ List.range wd, r[k]? = some (r.getD k 0) := fun r hr k hk => getD_at (by rw [wR r hr]; exact List.mem_range.mp hk)
  have sz : ∀ k, (((rowsW p t l h wd).map fun r => [r.getD k 0]).map List.length).sum + ((rowsW p t l h wd).map fun r => [r.getD k 0]).length * ([] : List Nat).length ≤ 16777216 := fun k => by
    rw [List.map_map, show ((rowsW p t l h wd).map (List.length ∘ fun r => [r.getD k 0])).sum = (rowsW p t l h wd).length from len1 _]
    simp; omega
  refine ws_cons (w1_ret (ea_lcP (List.range wd) (fun k => .int (k : Nat)) (fun k => .str (TL.joinL [] ((rowsW p t l h wd).map fun r => [r.getD k 0]))) [("at", 4)] (it_range1 rfl E.range (e_ixT (ea_d 1 (d := bx t l h wd)) ee_int (d := .int (wd : Int)) rfl) (by omega) (by omega)) (by simp) (fun i a h => by rw [(range_get h).2]; simp) sc_colsW.nd blk_of (fun _ _ _ _ _ => pg_name (i := 4) sc_colsW.nd rfl (Or.inr rfl)) (gs_name 4)
    (fun k hk => ⟨_, rfl, _, fun _ _ _ _ _ => ee_join (ls := (rowsW p t l h wd).map fun r => [r.getD k 0]) (ee_str []) (ee_lcP (rowsW p t l h wd) (fun r => .str r) (fun r => .str [r.getD k 0]) [("row", 3)] (it_list (ea_d 2)) (by simp) (fun i a h => by rw [getD_map h]) sc_colsW.nd blk_of (fun _ _ _ _ _ => pg_name (i := 3) sc_colsW.nd rfl (Or.inl rfl)) (gs_name 3)
      (fun r hr => ⟨_, rfl, _, fun _ _ _ _ _ => e_ixS (ea_d 3) (ea_d 4) (atN (ix r hr k hk)) (by rw [wR r hr]; omega)⟩) (by omega)) rfl (sz k) (by rw [List.map_map]; rfl)⟩) (by simp; omega)) (rt_o' rfl ?_))
  show T.fl _ = T.fl ((colsW p t l h wd).map D.str)
  unfold colsW
  rw [List.map_map]
  exact congrArg T.fl (List.map_congr_left fun k _ => by rw [joinL_nil, flat1]; rfl)
end
end K39
namespace K39
open PySem L2 Q
def hits (ts : List (List Nat)) : List Nat := (List.range ts.length).filter fun k => decide (35 ∈ ts.getD k [])
def fal (ts : List (List Nat)) : D := match hits ts with
  | [] => .non
  | k :: ks => .tup [.int (k : Nat), .int (((k :: ks).getD ks.length 0 : Nat) : Int)]
section
variable {P : Program} {w : World} {K : PySem.W.Frag} {mg : Str → Option Value} {base : Heap} {C : Addr}
abbrev ct_fal : Ct := pu (ι := List (List Nat)) (fun ts => [.lst (ts.map .str)]) (fun ts => ts.length ≤ 1000) fun ts => .fz (fal ts)
theorem sc_fal : FnScope ["texts", "found", "at", "text"] ["texts"] (defScope (top 20)) := ⟨rfl, rfl, rfl, by decide +kernel, rfl, by decide +kernel, by decide +kernel⟩
theorem ok_fal (E : En mg) {f : Addr} {fd : FuncData} (F : Fun K "first_and_last" "first_and_last" (top 20) f fd) : FnOk P w K mg base CX0 1 f fd ["texts"] (spOf K ct_fal) := by
  refine fn_pu F sc_fal (fun _ => rfl) fun cdv A outer s H Eh hr ts hp => ?_
  have hp : ts.length ≤ 1000 := hp
  refine ws_cons (w1_setLcF 1 (List.range ts.length) (fun k => .tup [.int (k : Nat), .str (ts.getD k [])]) (fun k => .int (k : Nat)) (fun k => decide (35 ∈ ts.getD k [])) [("at", 2), ("text", 3)] (it_en (ds := ts.map .str) rfl E.enumerate (ea_d 0)) (by simp) (fun i a h => by
    obtain ⟨h1, rfl⟩ := range_get h
    rw [getD_map (getD_at (d := []) h1)]) sc_fal.nd rfl blk_of (fun _ _ _ _ _ => pg_tup rfl (pgs_cons (pg_name (i := 2) sc_fal.nd rfl (Or.inl rfl)) (pgs_cons (pg_name (i := 3) sc_fal.nd rfl (Or.inl rfl)) pgs_nil))) (gs_tup (gss_cons (gs_name 2) (gss_cons (gs_name 3) gss_nil)) (tcons_len (tcons_len tnil_len)))
    (fun k hk => ⟨_, rfl, _, fun _ _ _ _ _ => t_inC (ee_str [35]) (ea_d 3), _, fun _ _ _ _ _ _ => ea_d 2⟩) (by simp; omega) ?_)
  show WS _ ⟨[.d (.lst (ts.map .str)), .o 0, .un, .un], [.fl ((hits ts).map fun k => .int (k : Nat))]⟩ _ _
  show WS _ ⟨[.d (.lst (ts.map .str)), .o 0, .un, .un], [.fl ((hits ts).map fun k => .int (k : Nat))]⟩ _ (rtp (.fz (fal ts)))
  unfold fal
  generalize hits ts = hs
  have dk : ∀ z ∈ hs.map fun k => D.int (k : Nat), Dk 0 z := fun z hz => by
    obtain ⟨k, _, rfl⟩ := List.mem_map.mp hz
    trivial
  cases hs with
  | nil => exact ws_cons (w1_ret (ee_if (t := false) (et_cmp (op_neD (Room.eq hr)) (ea_o 1 (k := 0)) (ee_fl (ea_lst es_nil)) (ov_neD (t := true) (n := 1) (d := .lst []) (e := .lst []) ⟨_, rfl, rfl, rfl⟩ rfl (fun _ z => nomatch z) (fun _ z => nomatch z) (ht := ⟨fun _ => rfl, fun _ => rfl⟩))) (fun z => nomatch z) fun _ => ee_non) rt_d)
  | cons k ks =>
    have el : atI (((k :: ks).map fun k => D.int (k : Nat))) (-1) = some (.int (((k :: ks).getD ks.length 0 : Nat) : Int)) := by
      unfold atI ixN
      rw [if_neg (by decide), if_pos (by simp; omega)]
      show ((k :: ks).map fun k => D.int (k : Nat))[(-1 + (((k :: ks).map fun k => D.int (k : Nat)).length : Int)).toNat]? = _
      rw [show (-1 + (((k :: ks).map fun k => D.int (k : Nat)).length : Int)).toNat = ks.length from by simp; omega, List.getElem?_map, getD_at (d := 0) (show ks.length < (k :: ks).length by simp)]
      rfl
    exact ws_cons (w1_ret (ee_if (t := true) (et_cmp (op_neD (Room.eq hr)) (ea_o 1 (k := 0)) (ee_fl (ea_lst es_nil)) (ov_neD (t := false) (n := 1) (d := .lst ((k :: ks).map fun k => D.int (k : Nat))) (e := .lst []) ⟨_, rfl, rfl, rfl⟩ rfl dk (fun _ z => nomatch z) (ht := ⟨fun z => (nomatch z), fun z => by simp at z⟩))) (fun _ => ee_tup (es_cons (e_ixL (ds := (k :: ks).map fun k => D.int (k : Nat)) (ea_o 1 (k := 0)) ee_int (atN (k := 0) rfl)) (es_cons (e_ixL (ds := (k :: ks).map fun k => D.int (k : Nat)) (ea_o 1 (k := 0)) (ee_un un_neg ee_int uv_neg) el) es_nil))) fun z => nomatch z) rt_d)
end
end K39
namespace K39
open PySem L2 Q
theorem mem_hits {ts : List (List Nat)} {k : Nat} : k ∈ hits ts ↔ k < ts.length ∧ 35 ∈ ts.getD k [] := by
  unfold hits
  rw [List.mem_filter, List.mem_range, decide_eq_true_eq]
theorem hits_ne {ts : List (List Nat)} : hits ts ≠ [] ↔ ∃ r ∈ ts, 35 ∈ r := by
  constructor
  · intro h
    obtain ⟨k, hk⟩ := List.exists_mem_of_ne_nil _ h
    obtain ⟨h1, h2⟩ := mem_hits.mp hk
    exact ⟨_, List.mem_of_getElem? (getD_at h1), h2⟩
  · rintro ⟨r, hr, h35⟩ e
    obtain ⟨k, hk⟩ := List.mem_iff_getElem?.mp hr
    have hl := (List.getElem?_eq_some_iff.mp hk).1
    have : k ∈ hits ts := mem_hits.mpr ⟨hl, by rw [getD_some hk]; exact h35⟩
    rw [e] at this; cases this
theorem cols_ne {p : List (List Nat)} {H W t l h w : Nat} (q : InP p H W t l h w) (hr : hits (rowsW p t l h w) ≠ []) : hits (colsW p t l h w) ≠ [] := by
  obtain ⟨r, hr1, hr2⟩ := hits_ne.mp hr
  obtain ⟨k, hk⟩ := List.mem_iff_getElem?.mp hr2
  have hl := (List.getElem?_eq_some_iff.mp hk).1
  have lw := (rowsW_row q).2 r hr1
  refine hits_ne.mpr ⟨(rowsW p t l h w).map fun r => r.getD k 0, List.mem_map.mpr ⟨k, List.mem_range.mpr (by omega), rfl⟩, List.mem_map.mpr ⟨r, hr1, getD_some hk⟩⟩
def fst (ts : List (List Nat)) : Nat := (hits ts).getD 0 0
def lst (ts : List (List Nat)) : Nat := (hits ts).getD ((hits ts).length - 1) 0
theorem fal_nil {ts : List (List Nat)} (h : hits ts = []) : fal ts = .non := by unfold fal; rw [h]
theorem fal_cons {ts : List (List Nat)} (h : hits ts ≠ []) : fal ts = .tup [.int (fst ts : Nat), .int (lst ts : Nat)] := by
  unfold fal fst lst
  cases e : hits ts with
  | nil => exact absurd e h
  | cons k ks => simp
def trim (p : List (List Nat)) (t l h w : Nat) : D := if hits (rowsW p t l h w) = [] then .non else
  .tup [.int ((t : Int) + (fst (rowsW p t l h w) : Nat)), .int ((l : Int) + (fst (colsW p t l h w) : Nat)), .int ((lst (rowsW p t l h w) : Nat) - (fst (rowsW p t l h w) : Nat) + 1), .int ((lst (colsW p t l h w) : Nat) - (fst (colsW p t l h w) : Nat) + 1)]
section
variable {P : Program} {w : World} {K : PySem.W.Frag} {mg : Str → Option Value} {base : Heap} {C : Addr}
abbrev ct_trim : Ct := pu (ι := List (List Nat) × Nat × Nat × Nat × Nat) (fun (p, t, l, h, w) => [pc p, bx t l h w]) (fun (p, t, l, h, w) => ∃ H W, InP p H W t l h w) fun (p, t, l, h, w) => .fz (trim p t l h w)
theorem sc_trim : FnScope ["picture", "box", "down", "across", "top", "left", "size"] ["picture", "box"] (defScope (top 21)) := ⟨rfl, rfl, rfl, by decide +kernel, rfl, by decide +kernel, by decide +kernel⟩
theorem ok_trim (Cr : Cl P w K mg base "rows_within" 2 1 ct_rowsW) (Cc : Cl P w K mg base "columns_within" 2 2 ct_colsW) (Cf : Cl P w K mg base "first_and_last" 1 1 ct_fal) {f : Addr} {fd : FuncData} (F : Fun K "trimmed" "trimmed" (top 21) f fd) : FnOk P w K mg base CX0 3 f fd ["picture", "box"] (spOf K ct_trim) := by
  refine fn_pu F sc_trim (fun _ => rfl) fun cdv A outer s H Eh hr (p, t, l, h, wd) ⟨HH, WW, q⟩ => ?_
  obtain ⟨hR, wR⟩ := rowsW_row q
  have := q.p.w2
  have := q.p.h2
  have := q.lw
  have := q.th
  have lC : (colsW p t l h wd).length = wd := by simp [colsW]
  refine ws_cons (w1_par 2 3 (es_cons (ea_pu (d := fal (rowsW p t l h wd)) Cf (hr.mono (by decide)) (rowsW p t l h wd) (es_cons (ee_fl (ea_puT Cr (hr.mono (by decide)) (p, t, l, h, wd) (es_cons (ea_d 0) (es_cons (ea_d 1) es_nil)) ⟨HH, WW, q⟩)) es_nil) (by show _ ≤ 1000; omega)) (es_cons (ea_pu (d := fal (colsW p t l h wd)) Cf (hr.mono (by decide)) (colsW p t l h wd) (es_cons (ee_fl (ea_puT Cc (hr.mono (by decide)) (p, t, l, h, wd) (es_cons (ea_d 0) (es_cons (ea_d 1) es_nil)) ⟨HH, WW, q⟩)) es_nil) (by show _ ≤ 1000; omega)) es_nil)) ?_ sc_trim.nd)
  show WS _ ⟨[.d (pc p), .d (bx t l h wd), .d (fal (rowsW p t l h wd)), .d (fal (colsW p t l h wd)), .un, .un, .un], []⟩ _ (rtp (.fz (trim p t l h wd)))
  unfold trim
  by_cases hn : hits (rowsW p t l h wd) = []
  · rw [fal_nil hn, if_pos hn]
    exact ws_cons (w1_if (b := true) (et_cmp op_isN (ea_d 2) ee_non (ov_isN (t := true) ⟨fun _ => rfl, fun _ => rfl⟩)) (fun _ => ws_cons (w1_ret ee_non rt_d)) fun z => nomatch z)
  · rw [fal_cons hn, fal_cons (cols_ne q hn), if_neg hn]
    refine ws_cons (w1_if (b := false) (et_cmp op_isN (ea_d 2 (d := .tup [.int (fst (rowsW p t l h wd) : Nat), .int (lst (rowsW p t l h wd) : Nat)])) ee_non (ov_isN (t := false) ⟨fun z => (nomatch z), fun z => (nomatch z)⟩)) (fun z => nomatch z) fun _ => ws_nil ?_)
    refine ws_cons (w1_star2 4 5 6 (x := .int (t : Int)) (y := .int (l : Int)) (ds := [.int (h : Int), .int (wd : Int)]) (ea_d 1) ?_ sc_trim.nd)
    exact ws_cons (w1_ret (ee_tup (es_cons (e_add (ea_d 4) (e_ixT (ea_d 2 (d := .tup [.int (fst (rowsW p t l h wd) : Nat), .int (lst (rowsW p t l h wd) : Nat)])) ee_int (by rfl))) (es_cons (e_add (ea_d 5) (e_ixT (ea_d 3 (d := .tup [.int (fst (colsW p t l h wd) : Nat), .int (lst (colsW p t l h wd) : Nat)])) ee_int (by rfl))) (es_cons (e_add (e_sub (e_ixT (ea_d 2 (d := .tup [.int (fst (rowsW p t l h wd) : Nat), .int (lst (rowsW p t l h wd) : Nat)])) ee_int (by rfl)) (e_ixT (ea_d 2 (d := .tup [.int (fst (rowsW p t l h wd) : Nat), .int (lst (rowsW p t l h wd) : Nat)])) ee_int (by rfl))) ee_int) (es_cons (e_add (e_sub (e_ixT (ea_d 3 (d := .tup [.int (fst (colsW p t l h wd) : Nat), .int (lst (colsW p t l h wd) : Nat)])) ee_int (by rfl)) (e_ixT (ea_d 3 (d := .tup [.int (fst (colsW p t l h wd) : Nat), .int (lst (colsW p t l h wd) : Nat)])) ee_int (by rfl))) ee_int) es_nil))))) rt_d)
end
end K39
namespace K39
open PySem L2 Q
theorem IsP.get0 {p : List (List Nat)} {H W : Nat} (q : IsP p H W) : ∃ r0, p[0]? = some r0 ∧ r0.length = W ∧ (p.map D.str)[0]? = some (.str r0) := by
  have := q.h1
  have hl := q.len
  obtain ⟨r0, e0⟩ : ∃ r0, p[0]? = some r0 := ⟨_, List.getElem?_eq_getElem (by omega)⟩
  exact ⟨r0, e0, q.row r0 (List.mem_of_getElem? e0), by rw [List.getElem?_map, e0]; rfl⟩
section
variable {P : Program} {w : World} {K : PySem.W.Frag} {mg : Str → Option Value} {base : Heap} {C : Addr}
abbrev ct_needp : Ct := pu (ι := List (List Nat)) (fun p => [pc p]) (fun p => ∃ H W, IsP p H W) fun _ => .fz .non
theorem sc_needp : FnScope ["thing"] ["thing"] (defScope (top 17)) := ⟨rfl, rfl, rfl, by decide +kernel, rfl, by decide +kernel, by decide +kernel⟩
theorem ok_needp (Cp : Cl P w K mg base "is_picture" 1 4 ct_pic) {f : Addr} {fd : FuncData} (F : Fun K "need_picture" "need_picture" (top 17) f fd) : FnOk P w K mg base CX0 5 f fd ["thing"] (spOf K ct_needp) := by
  refine fn_pu F sc_needp (fun _ => rfl) fun cdv A outer s H Eh hr p ⟨HH, WW, q⟩ => ?_
  exact ws_cons (w1_if (b := false) (et_not (t := true) (et_val (ea_pu Cp hr (pc p) (es_cons (ea_d 0) es_nil) q.ok (by rw [q.pic])))) (fun z => nomatch z) (fun _ => ws_nil (ws_nil rfl)))
abbrev ct_needb : Ct := pu (ι := List (List Nat) × Nat × Nat × Nat × Nat) (fun (p, t, l, h, w) => [pc p, bx t l h w]) (fun (p, t, l, h, w) => ∃ H W, InP p H W t l h w) fun _ => .fz .non
theorem sc_needb : FnScope ["picture", "thing", "top", "left", "high", "wide", "one"] ["picture", "thing"] (defScope (top 22)) := ⟨rfl, rfl, rfl, by decide +kernel, rfl, by decide +kernel, by decide +kernel⟩
theorem num_ok {n : Nat} (h : n ≤ 120) : isNum (.int (n : Int)) 0 120 = true := by
  unfold isNum
  simp; omega
theorem ok_needb (E : En mg) (Cn : Cl P w K mg base "is_number" 3 1 ct_num) {f : Addr} {fd : FuncData} (F : Fun K "need_box" "need_box" (top 22) f fd) : FnOk P w K mg base CX0 2 f fd ["picture", "thing"] (spOf K ct_needb) := by
  refine fn_pu F sc_needb (fun _ => rfl) fun cdv A outer s H Eh hr (p, t, l, h, wd) ⟨HH, WW, q⟩ => ?_
  have ip := q.p
  have lp := ip.len
  have hh := q.h1
  have hw := q.w1
  have th := q.th
  have lw := q.lw
  have p2 := ip.h2
  have p3 := ip.w2
  obtain ⟨r0, e0, w0, e2⟩ := ip.get0
  have al : ([D.int (t : Int), .int (l : Int), .int (h : Int), .int (wd : Int)].map fun d => isNum d 0 120).all id = true := by
    simp only [List.map_cons, List.map_nil, num_ok (show t ≤ 120 by omega), num_ok (show l ≤ 120 by omega), num_ok (show h ≤ 120 by omega), num_ok (show wd ≤ 120 by omega)]
    rfl
  refine ws_cons (w1_if (b := false) (et_of_w (ew_or (t := false) (u := false) (et_not (t := true) (et_val (ee_isi "tuple" true E.isinstance E.tuple (ea_d 1 (d := bx t l h wd)) rfl))) fun _ => ew_or (t := false) (u := false) (ty0 (t_neI (e_len (ds := [D.int (t : Int), .int (l : Int), .int (h : Int), .int (wd : Int)]) E.len (ea_d 1 (d := bx t l h wd))) ee_int) rfl) fun _ => ew_or1 (et_not (t := true) (et_val (y1 (e_all (bs := [D.int (t : Int), .int (l : Int), .int (h : Int), .int (wd : Int)].map fun d => isNum d 0 120) E.all (ee_lcP [D.int (t : Int), .int (l : Int), .int (h : Int), .int (wd : Int)] (fun d => d) (fun d => .bl (isNum d 0 120)) [("one", 6)] (it_tup (ea_d 1 (d := bx t l h wd))) rfl (fun i a h => by rw [getD_some h]) sc_needb.nd blk_of (fun _ _ _ _ _ => pg_name (i := 6) sc_needb.nd rfl (Or.inl rfl)) (gs_name 6) (fun d hd => ⟨_, rfl, _, fun _ _ _ _ _ => ea_pu Cn (hr.mono (by decide)) (d, 0, 120) (es_cons (ea_d 6) (es_cons ee_int (es_cons ee_int es_nil))) ?_⟩) (by show 4 ≤ 16777216; decide)) (by rfl)) al))))) (fun z => nomatch z) fun _ => ws_nil ?_)
  · simp only [List.mem_cons, List.not_mem_nil, or_false] at hd
    rcases hd with rfl | rfl | rfl | rfl
    all_goals trivial
  refine ws_cons (w1_asg (d := bx t l h wd) (ea_d 1) (pg_tup rfl (pgs_cons (pg_name (i := 2) sc_needb.nd rfl (Or.inl rfl)) (pgs_cons (pg_name (i := 3) sc_needb.nd rfl (Or.inl rfl)) (pgs_cons (pg_name (i := 4) sc_needb.nd rfl (Or.inl rfl)) (pgs_cons (pg_name (i := 5) sc_needb.nd rfl (Or.inl rfl)) pgs_nil))))) (gs_tup (gss_cons (gs_name 2) (gss_cons (gs_name 3) (gss_cons (gs_name 4) (gss_cons (gs_name 5) gss_nil)))) (tcons_len (tcons_len (tcons_len (tcons_len tnil_len))))) rfl ?_)
  refine ws_cons (w1_if (b := false) (et_of_w (ew_or (t := false) (u := false) (ty0 (t_lt (ea_d 4) ee_int) (decide_eq_false (by omega))) fun _ => ew_or (t := false) (u := false) (ty0 (t_lt (ea_d 5) ee_int) (decide_eq_false (by omega))) fun _ => ew_or (t := false) (u := false) (ty0 (t_gt (e_add (ea_d 2) (ea_d 4)) (e_len (ds := p.map D.str) E.len (ea_d 0))) (decide_eq_false (by simp; omega))) fun _ => ew_or1 (ty0 (t_gt (e_add (ea_d 3) (ea_d 5)) (e_lenS E.len (e_ixT (ea_d 0 (d := pc p)) ee_int (atN (k := 0) e2)) (by omega))) (decide_eq_false (by omega))))) (fun z => nomatch z) fun _ => ws_nil (ws_nil rfl))
end
end K39
namespace K39
open PySem L2 Q
/-- how many begins there are -/
def cnt (m pi ab : Nat) : Nat := (ab + m - 1) / pi + 1
/-- the k-th begin, its rows from the first to behind the last -/
def bg (t pi ab k : Nat) : Int := (t : Int) - (ab : Nat) + (k : Nat) * (pi : Int)
def fs (t pi ab k : Nat) : Nat := (max (bg t pi ab k) (t : Int)).toNat
def bh (t m hi pi ab k : Nat) : Nat := (min (bg t pi ab k + (hi : Nat)) ((t : Int) + (m : Nat))).toNat
def lineD (t l m w hi pi ab k : Nat) : D := bx (fs t pi ab k) l (bh t m hi pi ab k - fs t pi ab k) w
def seen (p : List (List Nat)) (t l m w hi pi ab k : Nat) : Bool := !(hits (rowsW p (fs t pi ab k) l (bh t m hi pi ab k - fs t pi ab k) w)).isEmpty
def linesN (p : List (List Nat)) (t l m w hi pi ab : Nat) : List D := ((List.range (cnt m pi ab)).filter (seen p t l m w hi pi ab)).map (lineD t l m w hi pi ab)
structure IsL (p : List (List Nat)) (H W t l m w hi pi ab : Nat) : Prop where
  q : InP p H W t l m w
  hi1 : 1 ≤ hi
  hi2 : hi ≤ 9
  p1 : hi ≤ pi
  p2 : pi ≤ 60
  ab : ab < hi
theorem bg_lt {m pi ab k t : Nat} (h : k < cnt m pi ab) (h1 : 1 ≤ pi) (hm : 1 ≤ m) : bg t pi ab k < (t : Int) + (m : Nat) := by
  have : k ≤ (ab + m - 1) / pi := by unfold cnt at h; omega
  have h2 : k * pi ≤ ab + m - 1 := (Nat.le_div_iff_mul_le (by omega)).mp this
  have h3 : ((k : Nat) : Int) * (pi : Int) = ((k * pi : Nat) : Int) := by simp
  unfold bg
  rw [h3]; omega
theorem bg_ge {pi ab k t : Nat} : (t : Int) - (ab : Nat) ≤ bg t pi ab k := by
  have h3 : ((k : Nat) : Int) * (pi : Int) = ((k * pi : Nat) : Int) := by simp
  unfold bg
  rw [h3]; omega
theorem IsL.inp {p : List (List Nat)} {H W t l m w hi pi ab k : Nat} (q : IsL p H W t l m w hi pi ab) (h : k < cnt m pi ab) : InP p H W (fs t pi ab k) l (bh t m hi pi ab k - fs t pi ab k) w ∧ ((fs t pi ab k : Nat) : Int) = max (bg t pi ab k) (t : Int) ∧ ((bh t m hi pi ab k : Nat) : Int) = min (bg t pi ab k + (hi : Nat)) ((t : Int) + (m : Nat)) ∧ fs t pi ab k < bh t m hi pi ab k := by
  have a := bg_lt (t := t) (k := k) h (by have := q.hi1; have := q.p1; omega) q.q.h1
  have b := bg_ge (pi := pi) (ab := ab) (k := k) (t := t)
  have := q.ab
  have := q.q.th
  have := q.q.h1
  have := q.hi1
  have e1 : ((fs t pi ab k : Nat) : Int) = max (bg t pi ab k) (t : Int) := by unfold fs; omega
  have e2 : ((bh t m hi pi ab k : Nat) : Int) = min (bg t pi ab k + (hi : Nat)) ((t : Int) + (m : Nat)) := by unfold bh; omega
  exact ⟨⟨q.q.p, by omega, q.q.w1, by omega, q.q.lw⟩, e1, e2, by omega⟩
theorem rgc {t m pi ab : Nat} (ht : t ≤ 1000) (hm : 1 ≤ m) (hm2 : m ≤ 1000) (hp : 1 ≤ pi) (hp2 : pi ≤ 1000) (ha : ab ≤ 1000) : RgC ((t : Int) - (ab : Nat)) ((t : Int) + (m : Nat)) (pi : Int) (cnt m pi ab) := by
  have e : Builtin.Range.rangeSize ((t : Int) - (ab : Nat)) ((t : Int) + (m : Nat)) (pi : Int) = (cnt m pi ab : Nat) := by
    unfold Builtin.Range.rangeSize cnt
    rw [if_pos (by omega), if_pos (by omega)]
    rw [show ((t : Int) + (m : Nat) - ((t : Int) - (ab : Nat)) - 1) = ((ab + m - 1 : Nat) : Int) from by omega]
    simp
  have hc : cnt m pi ab ≤ 2001 := by unfold cnt; have := Nat.div_le_self (ab + m - 1) pi; omega
  refine ⟨by omega, by omega, ?_, e⟩
  unfold Builtin.Range.small
  rw [e]
  simp only [Builtin.Range.rangeFitsLong, Bool.and_eq_true, Bool.or_eq_true, decide_eq_true_eq, beq_iff_eq, show (pi : Int) > 0 by omega, if_true]
  omega
section
variable {P : Program} {w : World} {K : PySem.W.Frag} {mg : Str → Option Value} {base : Heap} {C : Addr}
abbrev ct_lines : Ct := pu (ι := List (List Nat) × Nat × Nat × Nat × Nat × Nat × Nat × Nat) (fun (p, t, l, m, w, hi, pi, ab) => [pc p, bx t l m w, .int (hi : Int), .int (pi : Int), .int (ab : Int)]) (fun (p, t, l, m, w, hi, pi, ab) => ∃ H W, IsL p H W t l m w hi pi ab) fun (p, t, l, m, w, hi, pi, ab) => .fl (linesN p t l m w hi pi ab)
theorem sc_lines : FnScope ["picture", "box", "high", "pitch", "above", "top", "left", "many", "wide", "found", "begin", "first", "behind", "line"] ["picture", "box", "high", "pitch", "above"] (defScope (top 23)) := ⟨rfl, rfl, rfl, by decide +kernel, rfl, by decide +kernel, by decide +kernel⟩
theorem ok_lines (E : En mg) (Cn : Cl P w K mg base "is_number" 3 1 ct_num) (Cp : Cl P w K mg base "need_picture" 1 5 ct_needp) (Cb : Cl P w K mg base "need_box" 2 2 ct_needb) (Ct : Cl P w K mg base "trimmed" 2 3 ct_trim) {f : Addr} {fd : FuncData} (F : Fun K "lines_of" "lines_of" (top 23) f fd) : FnOk P w K mg base CX0 6 f fd ["picture", "box", "high", "pitch", "above"] (spOf K ct_lines) := by
  refine fn_pu F sc_lines (fun _ => rfl) fun cdv A outer s H Eh hr (p, t, l, m, wd, hi, pi, ab) ⟨HH, WW, q⟩ => ?_
  have ip := q.q.p
  have := q.hi1
  have := q.hi2
  have := q.p1
  have := q.p2
  have := q.ab
  have := q.q.th
  have hm1 := q.q.h1
  have := ip.h2
  refine ws_cons (w1_expr (ea_pu Cp hr p (es_cons (ea_d 0) es_nil) ⟨HH, WW, ip⟩) ?_)
  refine ws_cons (w1_expr (ea_pu Cb (hr.mono (by decide)) (p, t, l, m, wd) (es_cons (ea_d 0) (es_cons (ea_d 1) es_nil)) ⟨HH, WW, q.q⟩) ?_)
  have n1 : isNum (.int (hi : Int)) 1 9 = true := by unfold isNum; simp; omega
  have n2 : isNum (.int (pi : Int)) (hi : Int) 60 = true := by unfold isNum; simp; omega
  have n3 : isNum (.int (ab : Int)) 0 ((hi : Int) - 1) = true := by unfold isNum; simp; omega
  refine ws_cons (w1_if (b := false) (et_of_w (ew_or (t := false) (u := false) (et_not (t := true) (et_val (ea_pu Cn (hr.mono (by decide)) (.int (hi : Int), 1, 9) (es_cons (ea_d 2) (es_cons ee_int (es_cons (e_gi E.MOST_HIGH) es_nil))) trivial (by rw [← n1])))) fun _ => ew_or (t := false) (u := false) (et_not (t := true) (et_val (ea_pu Cn (hr.mono (by decide)) (.int (pi : Int), (hi : Int), 60) (es_cons (ea_d 3) (es_cons (ea_d 2) (es_cons (e_gi E.MOST) es_nil))) trivial (by rw [← n2])))) fun _ => ew_or1 (et_not (t := true) (et_val (ea_pu Cn (hr.mono (by decide)) (.int (ab : Int), 0, (hi : Int) - 1) (es_cons (ea_d 4) (es_cons ee_int (es_cons (e_sub (ea_d 2) ee_int) es_nil))) trivial (by rw [← n3])))))) (fun z => nomatch z) fun _ => ws_nil ?_)
  refine ws_cons (w1_asg (d := bx t l m wd) (ea_d 1) (pg_tup rfl (pgs_cons (pg_name (i := 5) sc_lines.nd rfl (Or.inl rfl)) (pgs_cons (pg_name (i := 6) sc_lines.nd rfl (Or.inl rfl)) (pgs_cons (pg_name (i := 7) sc_lines.nd rfl (Or.inl rfl)) (pgs_cons (pg_name (i := 8) sc_lines.nd rfl (Or.inl rfl)) pgs_nil))))) (gs_tup (gss_cons (gs_name 5) (gss_cons (gs_name 6) (gss_cons (gs_name 7) (gss_cons (gs_name 8) gss_nil)))) (tcons_len (tcons_len (tcons_len (tcons_len tnil_len))))) rfl ?_)
  refine ws_cons (w1_set 9 (ea_lst es_nil) ?_ sc_lines.nd)
  show WS _ ⟨[.d (pc p), .d (bx t l m wd), .d (.int (hi : Int)), .d (.int (pi : Int)), .d (.int (ab : Int)), .d (.int (t : Int)), .d (.int (l : Int)), .d (.int (m : Int)), .d (.int (wd : Int)), .o 0, .un, .un, .un, .un], [.fl []]⟩ _ (rtp (.fl (linesN p t l m wd hi pi ab)))
  refine ws_cons (w1_for (fun i s2 => s2 = ⟨[.d (pc p), .d (bx t l m wd), .d (.int (hi : Int)), .d (.int (pi : Int)), .d (.int (ab : Int)), .d (.int (t : Int)), .d (.int (l : Int)), .d (.int (m : Int)), .d (.int (wd : Int)), .o 0, .un, .un, .un, .un], [.fl ((((List.range (cnt m pi ab)).take i).filter (seen p t l m wd hi pi ab)).map (lineD t l m wd hi pi ab))]⟩) (it_range3 rfl E.range (e_sub (ea_d 5) (ea_d 4)) (e_add (ea_d 5) (ea_d 7)) (ea_d 3) (rgc (by omega) hm1 (by omega) (by omega) (by omega) (by omega))) (pg_name (i := 10) sc_lines.nd rfl (Or.inl rfl)) (gs_name 10) rfl ?_ ?_)
  · rintro k _ hk rfl
    obtain ⟨iq, e1, e2, e3⟩ := q.inp hk
    refine ⟨_, rfl, ?_⟩
    have hx : (List.range (cnt m pi ab))[k]? = some k := by rw [List.getElem?_range hk]
    generalize hf : (((List.range (cnt m pi ab)).take k).filter (seen p t l m wd hi pi ab)).map (lineD t l m wd hi pi ab) = fd0
    have lf : fd0.length ≤ k := by
      rw [← hf, List.length_map]
      refine Nat.le_trans (List.length_filter_le _ _) ?_
      rw [List.length_take]; omega
    have hc : cnt m pi ab ≤ 2001 := by unfold cnt; have := Nat.div_le_self (ab + m - 1) pi; omega
    show WS _ ⟨[.d (pc p), .d (bx t l m wd), .d (.int (hi : Int)), .d (.int (pi : Int)), .d (.int (ab : Int)), .d (.int (t : Int)), .d (.int (l : Int)), .d (.int (m : Int)), .d (.int (wd : Int)), .o 0, .d (.int (bg t pi ab k)), .un, .un, .un], [.fl fd0]⟩ _ _
    refine ws_cons (w1_par 11 12 (es_cons (e_max E.max (ea_d 10) (ea_d 5)) (es_cons (e_min E.min (e_add (ea_d 10) (ea_d 2)) (e_add (ea_d 5) (ea_d 7))) es_nil)) ?_ sc_lines.nd)
    rw [← e1, ← e2]
    show WS _ ⟨[.d (pc p), .d (bx t l m wd), .d (.int (hi : Int)), .d (.int (pi : Int)), .d (.int (ab : Int)), .d (.int (t : Int)), .d (.int (l : Int)), .d (.int (m : Int)), .d (.int (wd : Int)), .o 0, .d (.int (bg t pi ab k)), .d (.int (fs t pi ab k : Nat)), .d (.int (bh t m hi pi ab k : Nat)), .un], [.fl fd0]⟩ _ _
    refine ws_cons (w1_set 13 (ee_tup (es_cons (ea_d 11) (es_cons (ea_d 6) (es_cons (e_sub (ea_d 12) (ea_d 11)) (es_cons (ea_d 8) es_nil))))) ?_ sc_lines.nd)
    rw [show ((bh t m hi pi ab k : Nat) : Int) - (fs t pi ab k : Nat) = ((bh t m hi pi ab k - fs t pi ab k : Nat) : Int) from by omega]
    show WS _ ⟨[.d (pc p), .d (bx t l m wd), .d (.int (hi : Int)), .d (.int (pi : Int)), .d (.int (ab : Int)), .d (.int (t : Int)), .d (.int (l : Int)), .d (.int (m : Int)), .d (.int (wd : Int)), .o 0, .d (.int (bg t pi ab k)), .d (.int (fs t pi ab k : Nat)), .d (.int (bh t m hi pi ab k : Nat)), .d (lineD t l m wd hi pi ab k)], [.fl fd0]⟩ _ _
    by_cases hs : hits (rowsW p (fs t pi ab k) l (bh t m hi pi ab k - fs t pi ab k) wd) = []
    · have sf : seen p t l m wd hi pi ab k = false := by unfold seen; rw [hs]; rfl
      have tn : trim p (fs t pi ab k) l (bh t m hi pi ab k - fs t pi ab k) wd = .non := by unfold trim; rw [if_pos hs]
      refine ws_cons (w1_if (b := false) (et_cmp op_notN (ea_pu (d := .non) Ct (hr.mono (by decide)) (p, fs t pi ab k, l, bh t m hi pi ab k - fs t pi ab k, wd) (es_cons (ea_d 0) (es_cons (ea_d 13) es_nil)) ⟨HH, WW, iq⟩ (by rw [← tn])) ee_non (ov_notN (t := true) ⟨fun _ => rfl, fun _ => rfl⟩)) (fun z => nomatch z) fun _ => ws_nil ?_)
      refine ws_keep [true, true, true, true, true, true, true, true, true, true] (ws_nil ?_)
      rw [take_succ_filter hx, if_neg (by rw [sf]; decide), List.append_nil, hf]; rfl
    · have sf : seen p t l m wd hi pi ab k = true := by
        unfold seen
        cases e : hits (rowsW p (fs t pi ab k) l (bh t m hi pi ab k - fs t pi ab k) wd) with
        | nil => exact absurd e hs
        | cons _ _ => rfl
      obtain ⟨td, tn⟩ : ∃ td, trim p (fs t pi ab k) l (bh t m hi pi ab k - fs t pi ab k) wd = .tup td := by unfold trim; rw [if_neg hs]; exact ⟨_, rfl⟩
      refine ws_cons (w1_if (b := true) (et_cmp op_notN (ea_pu (d := .tup td) Ct (hr.mono (by decide)) (p, fs t pi ab k, l, bh t m hi pi ab k - fs t pi ab k, wd) (es_cons (ea_d 0) (es_cons (ea_d 13) es_nil)) ⟨HH, WW, iq⟩ (by rw [← tn])) ee_non (ov_notN (t := false) ⟨fun z => (nomatch z), fun z => (nomatch z)⟩)) (fun _ => ?_) (fun z => nomatch z))
      refine ws_cons (w1_expr (e_append (ea_o 9 (k := 0)) (ea_d 13) rfl (by omega)) ?_)
      refine ws_nil (ws_keep [true, true, true, true, true, true, true, true, true, true] (ws_nil ?_))
      rw [take_succ_filter hx, if_pos sf, hf]; rfl
  · rintro _ rfl
    rw [show (List.range (cnt m pi ab)).take (cnt m pi ab) = List.range (cnt m pi ab) from by
      have := List.take_length (l := List.range (cnt m pi ab)); rwa [List.length_range] at this]
    exact ws_cons (w1_ret (ea_o 9 (k := 0)) rt_o)
end
end K39
namespace K39
open PySem L2 Q
theorem rep1 {α : Type} (x : α) : ∀ h : Nat, (List.replicate h [x]).flatten = List.replicate h x
  | 0 => rfl
  | h + 1 => by rw [List.replicate_succ, List.flatten_cons, rep1 x h]; rfl
section
variable {P : Program} {w : World} {K : PySem.W.Frag} {mg : Str → Option Value} {base : Heap} {C : Addr}
abbrev ct_blank : Ct := pu (ι := Nat × Nat) (fun (d, w) => [.int (d : Int), .int (w : Int)]) (fun (d, w) => d ≤ 1000 ∧ w ≤ 1000) fun (d, w) => .lst (List.replicate d (.fl (List.replicate w (.str [46]))))
theorem sc_blank : FnScope ["deep", "wide", "turn"] ["deep", "wide"] (defScope (top 28)) := ⟨rfl, rfl, rfl, by decide +kernel, rfl, by decide +kernel, by decide +kernel⟩
theorem ok_blank (E : En mg) {f : Addr} {fd : FuncData} (F : Fun K "_law_blank" "_law_blank" (top 28) f fd) : FnOk P w K mg base CX0 1 f fd ["deep", "wide"] (spOf K ct_blank) := by
  refine fn_pu F sc_blank (fun _ => rfl) fun cdv A outer s H Eh hr (d, wd) hp => ?_
  obtain ⟨h1, h2⟩ : d ≤ 1000 ∧ wd ≤ 1000 := hp
  refine ws_cons (w1x_ret (ex_lcT [("turn", 2)] sc_blank.nd blk_of (fun _ _ _ _ _ => pg_name (i := 2) sc_blank.nd rfl (Or.inl rfl)) (gs_name 2) (ix_of (it_range1 rfl E.range (ea_d 0) (by omega) (by omega)) ⟨by omega, fun m μ out => μ = [] ∧ out = List.replicate m (.fl (List.replicate wd (.str [46]))), ⟨rfl, rfl⟩, ?_, ?_⟩)))
  · rintro m _ _ hm ⟨rfl, rfl⟩
    refine ⟨_, rfl, tex_b fun _ _ _ _ _ => ex_of (ea_opL op_rep (ee_fl (ea_lst (es_cons (ee_str [46]) es_nil))) (ea_d 1) (ol_rep (ds := [.str [46]]) (k := wd) rfl (by show 1 * wd ≤ 16777216; omega) rfl (by omega))) ⟨⟨_, _⟩, _, rfl, rfl, Nat.le_refl _, rfl, ?_⟩⟩
    rw [rep1, List.replicate_succ']
  · rintro _ _ ⟨rfl, rfl⟩
    exact .inr ⟨0, rfl, by simp [S.add]⟩
abbrev ct_told : Ct := pu (ι := List (List Nat)) (fun p => [.lst (p.map fun r => .lst (r.map fun c => .str [c]))]) (fun p => p.length ≤ 1000 ∧ ∀ r ∈ p, r.length ≤ 1000) fun p => .fz (pc p)
theorem sc_told : FnScope ["page", "line"] ["page"] (defScope (top 29)) := ⟨rfl, rfl, rfl, by decide +kernel, rfl, by decide +kernel, by decide +kernel⟩
def jn (r : List Nat) : D := .str (TL.joinL [] (r.map fun c => [c]))
theorem ok_told (E : En mg) {f : Addr} {fd : FuncData} (F : Fun K "_law_told" "_law_told" (top 29) f fd) : FnOk P w K mg base CX0 1 f fd ["page"] (spOf K ct_told) := by
  refine fn_pu F sc_told (fun _ => rfl) fun cdv A outer s H Eh hr p hp => ?_
  obtain ⟨h1, h2⟩ : p.length ≤ 1000 ∧ ∀ r ∈ p, r.length ≤ 1000 := hp
  have ej : p.map jn = p.map .str := List.map_congr_left fun r _ => by
    rw [jn, joinL_nil, show (r.map fun c => [c]).flatten = r from by rw [flat1 (f := fun c => c)]; simp]
  refine ws_cons (w1_ret (e_tuple (ds := p.map jn) E.tuple (ea_lcP p (fun r => .lst (r.map fun c => .str [c])) jn [("line", 1)] (it_list (ea_d 0)) (by simp) (fun i a h => by rw [getD_map h]) sc_told.nd blk_of (fun _ _ _ _ _ => pg_name (i := 1) sc_told.nd rfl (Or.inl rfl)) (gs_name 1)
      (fun r hr => ⟨_, rfl, _, fun _ _ _ _ _ => ee_join (ls := r.map fun c => [c]) (ee_str []) (ea_d 1 (d := .lst (r.map fun c => .str [c]))) rfl (by
        have := h2 r hr
        rw [List.map_map, show (r.map (List.length ∘ fun c => [c])).sum = r.length from len1 r]
        simp; omega) (by rw [List.map_map]; rfl)⟩) (by omega)) rfl) (.inl ⟨_, rfl, ?_⟩))
  show T.fz (pc p) = _
  rw [ej]; rfl
end
end K39
namespace K39
open PySem L2 Q
theorem filter_range (a : Nat) : ∀ (n c : Nat), c ≤ n → ((List.range n).filter fun j => decide (a ≤ j) && decide (j < c)) = (List.range (c - a)).map (a + ·)
  | 0, c, h => by
    obtain rfl : c = 0 := by omega
    simp
  | n + 1, c, h => by
    rw [List.range_succ, List.filter_append]
    by_cases hc : c = n + 1
    · subst hc
      have e : ((List.range n).filter fun j => decide (a ≤ j) && decide (j < n + 1)) = ((List.range n).filter fun j => decide (a ≤ j) && decide (j < n)) := by
        refine List.filter_congr fun j hj => ?_
        have := List.mem_range.mp hj
        rw [decide_eq_true (show j < n + 1 by omega), decide_eq_true this]
      rw [e, filter_range a n n (Nat.le_refl _)]
      by_cases ha : a ≤ n
      · rw [show n + 1 - a = (n - a) + 1 from by omega, List.range_succ, List.map_append]
        simp [ha]
      · rw [show n + 1 - a = 0 from by omega, show n - a = 0 from by omega]
        simp; omega
    · rw [filter_range a n c (by omega)]
      have : ¬ n < c := by omega
      simp [this]
theorem inside_eq {b : Int} {hi t m f e : Nat} (hf : (f : Int) = max b (t : Int)) (he : (e : Int) = min (b + (hi : Nat)) ((t : Int) + (m : Nat))) (h : f < e) : ((List.range hi).filter fun j => decide ((t : Int) ≤ b + (j : Nat)) && decide (b + (j : Nat) < (t : Int) + (m : Nat))).map (fun j => b + (j : Nat)) = (List.range (e - f)).map fun j => ((f + j : Nat) : Int) := by
  have e1 : ((List.range hi).filter fun j => decide ((t : Int) ≤ b + (j : Nat)) && decide (b + (j : Nat) < (t : Int) + (m : Nat))) = ((List.range hi).filter fun j => decide (((f : Int) - b).toNat ≤ j) && decide (j < ((e : Int) - b).toNat)) := by
    refine List.filter_congr fun j hj => ?_
    have := List.mem_range.mp hj
    have q1 : decide ((t : Int) ≤ b + (j : Nat)) = decide (((f : Int) - b).toNat ≤ j) := decide_eq_decide.mpr (by omega)
    have q2 : decide (b + (j : Nat) < (t : Int) + (m : Nat)) = decide (j < ((e : Int) - b).toNat) := decide_eq_decide.mpr (by omega)
    rw [q1, q2]
  rw [e1, filter_range _ hi _ (by omega), List.map_map]
  rw [show ((e : Int) - b).toNat - ((f : Int) - b).toNat = e - f from by omega]
  exact List.map_congr_left fun j _ => by show b + ((((f : Int) - b).toNat + j : Nat) : Int) = _; omega
end K39
namespace K39
open PySem L2 Q
theorem dms_o {n k : Nat} {s : S} {t : T} {d : D} {ρ' : List Sl} (h : s.μ[k]? = some t) (ok : t.ok = true) (e : t.fr = d) (hr : frzS k d s.ρ = ρ') (hl : (Nat.beq (k + 1) s.μ.length && Nat.ble n k && lowB k s.ρ) = false := by rfl) : dms n s [.o k] = some (⟨ρ', s.μ.set k (.fz d)⟩, [d]) := by
  subst e hr
  have : dm n s (.o k) = some (⟨frzS k t.fr s.ρ, s.μ.set k (.fz t.fr)⟩, t.fr) := by
    show dmO n s k (s.μ[k]?) = _
    rw [h]
    dsimp only [dmO]
    rw [ok, hl]
  show (match dm n s (.o k) with | none => none | some (s2, d) => some (s2, [d])) = _
  rw [this]
theorem dmC_od {n k0 : Nat} {s s2 : S} {x : Ar} {y : D} {t : T} (hd : dm n s x = some (s2, y)) (ht : s2.μ[k0]? = some t) : dmC n s [false, true] [.o k0, x] = some (s2, [.o k0, .d y]) := by
  have e : dmM n s [false, true] [.o k0, x] = some (s2, [.o k0, .d y]) := by
    show (match (match dm n s x with | none => none | some (s2, d) => some (s2, [Ar.d d])) with | none => none | some (s1, ys) => some (s1, Ar.o k0 :: ys)) = _
    rw [hd]
  unfold dmC
  rw [e]
  dsimp only
  have hk0 := (List.getElem?_eq_some_iff.mp ht).1
  have : okB s2.μ.length [.o k0, .d y] = true := by
    show (Nat.blt k0 s2.μ.length && true) = true
    rw [Bool.and_true]; exact Nat.ble_eq_true_of_le hk0
  rw [this]
section
variable {G : Gm} {s s1 : S} {e e0 : Expr} {p pos : Pos} {k k0 n : Nat} {Ψ : S → Ar → Prop}
theorem y_next (C : ClY G.X.prog G.X.w G.X.K G.X.mg G.X.base "_law_next" 2 1 ct_next.cn) (hr : Room k G.X.A) (hk : 1 ≤ k) (tk : G.tk)
    (h : EY G s e0 fun s0 x0 => ∃ k0, x0 = .o k0 ∧ EY G s0 e fun s1 x => ∃ (j : Int) (t : T) (n : Nat), x = .d (.int j) ∧ s1.μ[k0]? = some t ∧ Dr n t ∧ n < lim ∧ 0 < j ∧ j < 1073741824 ∧ ∀ v t', 0 ≤ v → v < j → Dr (n + 1) t' → Ψ ⟨s1.ρ, s1.μ.set k0 t'⟩ (.d (.int v)))
    (hg : Gl G.X "_law_next" := by rfl) (he : starEach (e0 :: [e]) G.X.env = (false, eval e0 G.X.env) :: starEach [e] G.X.env := by rfl) (he2 : starEach [e] G.X.env = (false, eval e G.X.env) :: starEach [] G.X.env := by rfl) (hpl : (backTo pos (starEach [e] G.X.env)).any (·.1) = false := by rfl) :
    EY G s (.Call (.Name "_law_next" p) [e0, e] [] pos) Ψ :=
  ey_call (m := [false, true]) C (hr.mono hk) tk (esy_cons (ey_mono h fun s0 x0 ⟨k0, e0', q⟩ => esy_cons (ey_mono q fun s1 x ⟨j, t, n, ex, ht, d, hn, h1, h2, c⟩ => esy_nil (by
    subst ex e0'
    refine ⟨s1, [.o k0, .d (.int j)], dmC_od rfl ht, (n, t, j), by show (s1.μ[k0]?).bind _ = _; rw [ht]; rfl, ⟨d, hn, h1, h2⟩, by simp [oks], fun r outs ⟨v, t', e1, q1, q2, e2, q3⟩ => ?_, fun _ _ z => z.elim⟩
    subst e2
    exact ⟨rfl, .inl ⟨.int v, e1, c v t' q1 q2 q3⟩⟩)) he2) he) hg (by decide) he hpl
theorem y_pick (C : ClY G.X.prog G.X.w G.X.K G.X.mg G.X.base "_law_pick" 2 2 ct_pick.cn) (hr : Room k G.X.A) (hk : 2 ≤ k) (tk : G.tk)
    (h : EY G s e0 fun s0 x0 => ∃ k0, x0 = .o k0 ∧ EY G s0 e fun s1 x => Dm s.μ.length s1 x fun s2 y => ∃ (ds : List D) (t : T) (n : Nat), sq y = some ds ∧ (∀ d', y ≠ .rl d') ∧ s2.μ[k0]? = some t ∧ Dr n t ∧ n < lim ∧ 0 < ds.length ∧ ds.length ≤ 1000000 ∧ ∀ z t', z ∈ ds → Dr (n + 1) t' → Ψ ⟨s2.ρ, s2.μ.set k0 t'⟩ (.d z))
    (hg : Gl G.X "_law_pick" := by rfl) (he : starEach (e0 :: [e]) G.X.env = (false, eval e0 G.X.env) :: starEach [e] G.X.env := by rfl) (he2 : starEach [e] G.X.env = (false, eval e G.X.env) :: starEach [] G.X.env := by rfl) (hpl : (backTo pos (starEach [e] G.X.env)).any (·.1) = false := by rfl) :
    EY G s (.Call (.Name "_law_pick" p) [e0, e] [] pos) Ψ :=
  ey_call (m := [false, true]) C (hr.mono hk) tk (esy_cons (ey_mono h fun s0 x0 ⟨k0, e0', q⟩ => esy_cons (ey_mono q fun s1 x ⟨s2, y, ed, ds, t, n, hs, nr, ht, d, hn, h1, h2, c⟩ => esy_nil (by
    subst e0'
    refine ⟨s2, [.o k0, .d y], dmC_od ed ht, (n, t, .d y, ds), by show (s2.μ[k0]?).bind _ = _; rw [ht]; rfl, ⟨d, hn, hs, h1, h2, fun d' e => nr d' (Ag.d.inj e)⟩, by simp [oks], fun r outs ⟨x, t', e1, q1, e2, q3⟩ => ?_, fun _ _ z => z.elim⟩
    subst e2
    exact ⟨rfl, .inl ⟨x, e1, c x t' q1 q3⟩⟩)) he2) he) hg (by decide) he hpl
end
section
variable {P : Program} {w : World} {K : PySem.W.Frag} {mg : Str → Option Value} {base : Heap} {C : Addr}
/-- the pages drawn -/
def ct_page : Cn where
  ι := Nat × T
  args := fun (n, t) => [.o t]
  pre := fun (n, t) => Dr n t ∧ n + 3000 < lim
  post := fun (n, t) r outs => ∃ p h wd t', r = .fz (pc p) ∧ IsP p h wd ∧ h ≤ 30 ∧ wd ≤ 50 ∧ outs = [t'] ∧ Dr (n + 3000) t'
theorem sc_page : FnScope ["draw", "deep", "wide", "page", "way", "dense", "turn", "column", "top", "left", "down", "across", "at"] ["draw"] (defScope (top 30)) := ⟨rfl, rfl, rfl, by decide +kernel, rfl, by decide +kernel, by decide +kernel⟩

abbrev dots (l : List Nat) : List D := l.map fun c => .str [c]
theorem replL (d w : Nat) : (List.replicate d (T.fl (List.replicate w (D.str [46])))) = (List.replicate d (List.replicate w 46)).map fun r => T.fl (dots r) := by
  simp [dots]
/-- rows of dots and white -/
def Rows (w : Nat) (p : List (List Nat)) : Prop := ∀ r ∈ p, r.length = w ∧ ∀ c ∈ r, c = 35 ∨ c = 46
theorem Rows.isP {p : List (List Nat)} {h w : Nat} (r : Rows w p) (hl : p.length = h) (h1 : 1 ≤ h) (h2 : h ≤ 60) (w1 : 1 ≤ w) (w2 : w ≤ 120) : IsP p h w := ⟨hl, h1, h2, w1, w2, fun x hx => (r x hx).1, fun x hx => (r x hx).2⟩
theorem Rows.set {p : List (List Nat)} {w : Nat} {r : List Nat} (h : Rows w p) (k : Nat) (hr : r.length = w ∧ ∀ c ∈ r, c = 35 ∨ c = 46) : Rows w (p.set k r) := fun x hx => by
  rcases List.mem_or_eq_of_mem_set hx with h' | rfl
  · exact h x h'
  · exact hr
set_option maxRecDepth 1000000 in
theorem ok_page (E : En mg) (Cn : ClY P w K mg base "_law_next" 2 1 ct_next.cn) (Cp : ClY P w K mg base "_law_pick" 2 2 ct_pick.cn) (Cb : ClY P w K mg base "_law_blank" 2 1 (ct_blank).cn) (Ct : ClY P w K mg base "_law_told" 1 1 (ct_told).cn) {f : Addr} {fd : FuncData} (F : Fun K "_law_page" "_law_page" (top 30) f fd) : FnOk P w K mg base (L2.CX P w) 3 f fd ["draw"] (spY K ct_page) := by
  refine fn_y F sc_page (fun _ => rfl) fun cdv A outer s H Eh hr i hp W tk po => ?_
  obtain ⟨n, t⟩ := i
  obtain ⟨d0, hn⟩ : Dr n t ∧ n + 3000 < lim := hp
  have nd := sc_page.nd
  show WY _ ⟨[.o 0, .un, .un, .un, .un, .un, .un, .un, .un, .un, .un, .un, .un], [t]⟩ _ (rets 1 _)
  refine wy_cons <| w_par 1 2 nd <| ey_bin <| ey_int <| y_next Cn hr (by decide) tk <| ey_nm 0 _ ⟨_, rfl, y_pick Cp hr (by decide) tk <| ey_nm 0 _ ⟨_, rfl, ey_lst <| esy_cons <| ey_int <| esy_cons <| ey_int <| esy_cons <| ey_int <| esy_nil ?_⟩⟩
  refine dmsI ?_
  refine ⟨by decide, dmI ?_⟩
  refine ⟨_, _, _, rfl, (fun _ z => nomatch z), rfl, d0, by omega, by decide, by decide, fun z1 t1 m1 d1 => ?_⟩
  obtain ⟨i1, rfl, hi1, hi1'⟩ : ∃ i : Int, z1 = .int i ∧ 0 < i ∧ i ≤ 30 := by simp at m1; rcases m1 with rfl | rfl | rfl <;> exact ⟨_, rfl, by decide, by decide⟩
  refine ⟨_, _, _, rfl, rfl, d1, by omega, by omega, by omega, fun v2 t2 lo2 hi2 d2 => ?_⟩
  refine tm2I (o_add ?_)
  refine ey_bin <| ey_int <| y_next Cn hr (by decide) tk <| ey_nm 0 _ ⟨_, rfl, y_pick Cp hr (by decide) tk <| ey_nm 0 _ ⟨_, rfl, ey_lst <| esy_cons <| ey_int <| esy_cons <| ey_int <| esy_cons <| ey_int <| esy_nil ?_⟩⟩
  refine dmsI ?_
  refine ⟨by decide, dmI ?_⟩
  refine ⟨_, _, _, rfl, (fun _ z => nomatch z), rfl, d2, by omega, by decide, by decide, fun z3 t3 m3 d3 => ?_⟩
  obtain ⟨i3, rfl, hi3, hi3'⟩ : ∃ i : Int, z3 = .int i ∧ 0 < i ∧ i ≤ 50 := by simp at m3; rcases m3 with rfl | rfl | rfl <;> exact ⟨_, rfl, by decide, by decide⟩
  refine ⟨_, _, _, rfl, rfl, d3, by omega, by omega, by omega, fun v4 t4 lo4 hi4 d4 => ?_⟩
  refine tm2I (o_add ?_)
  obtain ⟨dp, edp, dp1, dp2⟩ : ∃ dp : Nat, (1 + v2 : Int) = dp ∧ 1 ≤ dp ∧ dp ≤ 30 := ⟨(1 + v2).toNat, by omega, by omega, by omega⟩
  obtain ⟨wd, ewd, wd1, wd2⟩ : ∃ wd : Nat, (1 + v4 : Int) = wd ∧ 1 ≤ wd ∧ wd ≤ 50 := ⟨(1 + v4).toNat, by omega, by omega, by omega⟩
  rw [edp, ewd]
  show WY _ ⟨[.o 0, .d (.int (dp : Int)), .d (.int (wd : Int)), .un, .un, .un, .un, .un, .un, .un, .un, .un, .un], [t4]⟩ _ (rets 1 _)
  refine wy_cons <| w_par 3 4 nd <| ey_pc Cb (hr.mono (by decide)) tk <| esy_cons <| ey_nm 1 _ <| esy_cons <| ey_nm 2 _ <| esy_nil ?_
  refine dmsI ?_
  refine ⟨(dp, wd), rfl, ⟨by omega, by omega⟩, rv_o ?_⟩
  refine y_next Cn hr (by decide) tk <| ey_nm 0 _ ⟨_, rfl, ey_int ?_⟩
  refine ⟨_, _, _, rfl, rfl, d4, by omega, by omega, by omega, fun v5 t5 lo5 hi5 d5 => ?_⟩
  show WY _ ⟨[.o 0, .d (.int (dp : Int)), .d (.int (wd : Int)), .o 1, .d (.int v5), .un, .un, .un, .un, .un, .un, .un, .un], [t5, .lst (List.replicate dp (.fl (List.replicate wd (.str [46]))))]⟩ _ (rets 1 _)
  refine wy_cons <| wy_if <| ty_cmp <| ey_nm 4 _ <| ey_int ?_
  refine tm2I ?_
  refine c_eqI ?_
  refine isb ?_
  refine ⟨fun hc => ?_, fun hc => ?_⟩
  · refine wy_cons <| w_set 5 nd <| ey_bin <| ey_int <| y_next Cn hr (by decide) tk <| ey_nm 0 _ ⟨_, rfl, ey_int ?_⟩
    refine ⟨_, _, _, rfl, rfl, d5, by omega, by omega, by omega, fun v6 t6 lo6 hi6 d6 => ?_⟩
    refine tm2I <| o_add ?_
    refine wy_cons <| w_set 3 nd <| ey_lst <| esy_nil <| dmsI ?_
    refine ⟨by decide, ?_⟩
    show WY _ ⟨[.o 0, .d (.int (dp : Int)), .d (.int (wd : Int)), .o 2, .d (.int v5), .d (.int (1 + v6)), .un, .un, .un, .un, .un, .un, .un], [t6, .lst (List.replicate dp (.fl (List.replicate wd (.str [46])))), .fl []]⟩ _ _
    generalize hB : List.replicate dp (T.fl (List.replicate wd (.str [46]))) = B
    refine wy_cons <| w_for (tg_name 6 nd) po <| iy_range1 E.range <| ey_nm 1 _ ?_
    refine isi ⟨by omega, ?_⟩
    refine ⟨fun i s2 => ∃ t' p, Dr (n + 10 + 50 * i) t' ∧ p.length = i ∧ Rows wd p ∧ s2 = ⟨[.o 0, .d (.int (dp : Int)), .d (.int (wd : Int)), .o 2, .d (.int v5), .d (.int (1 + v6)), .un, .un, .un, .un, .un, .un, .un], [t', .lst B, .fl (p.map fun r => .lst (dots r))]⟩, ⟨t6, [], d6.mono (by omega), rfl, (fun _ z => nomatch z), rfl⟩, fun i d s2 hd hI => ?_, fun s2 hI => ?_⟩
    · obtain ⟨t', p, dd, pl, rr, rfl⟩ := hI
      have hi : i < dp := by have := (List.getElem?_eq_some_iff.mp hd).1; simpa using this
      refine ⟨_, rfl, ?_⟩
      refine wy_cons <| w_expr <| ey_append <| ey_nm 3 _ ⟨_, rfl, ⟨_, rfl⟩, ey_lc [("column", 7)] nd <| lcy _ (tgb_name 7 nd) <| iy_range1 E.range <| ey_nm 2 _ ?_⟩
      refine isi ⟨by omega, ?_⟩
      refine ⟨by simp; omega, fun j μ out => ∃ t'' r, Dr (n + 10 + 50 * i + j) t'' ∧ r.length = j ∧ (∀ c ∈ r, c = 35 ∨ c = 46) ∧ μ = [t'', .lst B, .fl (p.map fun r => .lst (dots r))] ∧ out = dots r, ⟨t', [], dd, rfl, (fun _ z => nomatch z), rfl, rfl⟩, ?_, ?_⟩
      · rintro j d μ out hj ⟨t'', r, d2, rl, rc, rfl, rfl⟩
        have hj' : j < wd := by have := (List.getElem?_eq_some_iff.mp hj).1; simpa using this
        refine ⟨_, rfl, fun sh H0 C cl fp => ?_⟩
        refine ey_ix <| ey_str [46, 35] <| y_int E.int <| ey_cmp <| y_next Cn hr (by decide) tk_gb <| ey_nm 0 _ ⟨_, rfl, ey_int ?_⟩
        refine ⟨_, _, _, rfl, rfl, d2, by omega, by omega, by omega, fun v7 t7 lo7 hi7 d7 => ?_⟩
        refine ey_nm 5 _ ?_
        refine tm2I <| c_lt ?_
        refine tm1I <| b_intB ?_
        refine tm2I ?_
        cases h : decide (v7 < 1 + v6)
        · refine i_S (c := 46) rfl (by decide) <| dmI ?_
          refine ⟨t7, r ++ [46], d7, by simp [rl], fun c hc => ?_, rfl, by simp [dots]⟩
          rcases List.mem_append.mp hc with h | h
          · exact rc c h
          · simp at h; exact .inr h
        · refine i_S (c := 35) rfl (by decide) <| dmI ?_
          refine ⟨t7, r ++ [35], d7, by simp [rl], fun c hc => ?_, rfl, by simp [dots]⟩
          rcases List.mem_append.mp hc with h | h
          · exact rc c h
          · simp at h; exact .inl h
      · rintro μ out ⟨t'', r, d2, rl, rc, rfl, rfl⟩
        refine dmI ?_
        refine ⟨_, rfl, by simp; omega, ?_⟩
        refine wy_nil ⟨t'', p ++ [r], d2.mono (by simp at *; omega), by simp [pl], fun x hx => ?_, ?_⟩
        · rcases List.mem_append.mp hx with h | h
          · exact rr x h
          · simp at h; subst h; exact ⟨by simpa using rl, rc⟩
        · rw [List.map_append]; rfl
    · obtain ⟨t', p, dd, pl, rr, rfl⟩ := hI
      have pl : p.length = dp := by simpa using pl
      simp only [List.length_map, List.length_range] at dd
      refine wy_nil <| wy_cons <| w_ret <| ey_pc Ct (hr.mono (by decide)) tk <| esy_cons <| ey_nm 3 _ <| esy_nil ?_
      refine dmsI ?_
      refine ⟨p, rfl, ⟨by omega, fun r hr => by have := (rr r hr).1; omega⟩, rv_d ?_⟩
      exact ⟨_, [t'], ⟨p, dp, wd, t', rfl, rr.isP pl (by omega) (by omega) (by omega) (by omega), by omega, by omega, rfl, dd.mono (by omega)⟩, rfl, Nat.le_of_ble_eq_true rfl, rfl⟩
  · rw [replL]
    refine wy_cons <| w_for (tg_name 6 nd) po <| iy_range1 E.range <| y_next Cn hr (by decide) tk <| ey_nm 0 _ ⟨_, rfl, ey_int ?_⟩
    refine ⟨_, _, _, rfl, rfl, d5, by omega, by omega, by omega, fun v6 t6 lo6 hi6 d6 => ?_⟩
    refine isi ⟨by omega, ?_⟩
    refine ⟨fun i s2 => ∃ t' p, Dr (n + 10 + 10 * i) t' ∧ p.length = dp ∧ Rows wd p ∧ s2 = ⟨[.o 0, .d (.int (dp : Int)), .d (.int (wd : Int)), .o 1, .d (.int v5), .un, .un, .un, .un, .un, .un, .un, .un], [t', .lst (p.map fun r => .fl (dots r))]⟩, ⟨t6, List.replicate dp (List.replicate wd 46), d6.mono (by omega), by simp, fun x hx => ?_, rfl⟩, fun i d s2 hd hI => ?_, fun s2 hI => ?_⟩
    · rw [List.eq_of_mem_replicate hx]
      exact ⟨by simp, fun c hc => .inr (List.eq_of_mem_replicate hc)⟩
    · obtain ⟨t', p, dd, pl, rr, rfl⟩ := hI
      have hi : i < 12 := by have := (List.getElem?_eq_some_iff.mp hd).1; simp at this; omega
      refine ⟨_, rfl, ?_⟩
      refine wy_cons <| w_par 8 9 nd <| y_next Cn hr (by decide) tk <| ey_nm 0 _ ⟨_, rfl, ey_nm 1 _ ?_⟩
      refine ⟨_, _, _, rfl, rfl, dd, by omega, by omega, by omega, fun v7 t7 lo7 hi7 d7 => ?_⟩
      refine y_next Cn hr (by decide) tk <| ey_nm 0 _ ⟨_, rfl, ey_nm 2 _ ?_⟩
      refine ⟨_, _, _, rfl, rfl, d7, by omega, by omega, by omega, fun v8 t8 lo8 hi8 d8 => ?_⟩
      refine wy_cons <| w_par 10 11 nd <| ey_bin <| ey_int <| y_next Cn hr (by decide) tk <| ey_nm 0 _ ⟨_, rfl, ey_int ?_⟩
      refine ⟨_, _, _, rfl, rfl, d8, by omega, by omega, by omega, fun v9 t9 lo9 hi9 d9 => ?_⟩
      refine tm2I <| o_add ?_
      refine ey_bin <| ey_int <| y_next Cn hr (by decide) tk <| ey_nm 0 _ ⟨_, rfl, ey_int ?_⟩
      refine ⟨_, _, _, rfl, rfl, d9, by omega, by omega, by omega, fun v10 t10 lo10 hi10 d10 => ?_⟩
      refine tm2I <| o_add ?_
      show WY _ ⟨[.o 0, .d (.int (dp : Int)), .d (.int (wd : Int)), .o 1, .d (.int v5), .un, .d d, .un, .d (.int v7), .d (.int v8), .d (.int (1 + v9)), .d (.int (1 + v10)), .un], [t10, .lst (p.map fun r => .fl (dots r))]⟩ _ _
      refine wy_cons <| w_for (tg_name 12 nd) po <| iy_range2 E.range <| ey_nm 8 _ ?_
      refine isi ?_
      refine y_min E.min <| esy_cons <| ey_nm 1 _ <| esy_cons <| ey_bin <| ey_nm 8 _ <| ey_nm 10 _ ?_
      refine tm2I <| o_add ?_
      refine esy_nil <| b_min rfl <| isi ⟨by omega, ?_⟩
      refine ⟨fun j s2 => ∃ p, p.length = dp ∧ Rows wd p ∧ s2 = ⟨[.o 0, .d (.int (dp : Int)), .d (.int (wd : Int)), .o 1, .d (.int v5), .un, .d d, .un, .d (.int v7), .d (.int v8), .d (.int (1 + v9)), .d (.int (1 + v10)), .un], [t10, .lst (p.map fun r => .fl (dots r))]⟩, ⟨p, pl, rr, rfl⟩, fun j e s2 he hI => ?_, fun s2 hI => ?_⟩
      · obtain ⟨p, pl, rr, rfl⟩ := hI
        obtain ⟨k, rfl, hk1, hk2, _⟩ := rg2_nat he (by omega)
        have hk : k < dp := by omega
        refine ⟨_, rfl, ?_⟩
        show WY _ ⟨[.o 0, .d (.int (dp : Int)), .d (.int (wd : Int)), .o 1, .d (.int v5), .un, .d d, .un, .d (.int v7), .d (.int v8), .d (.int (1 + v9)), .d (.int (1 + v10)), .d (.int (k : Int))], [t10, .lst (p.map fun r => .fl (dots r))]⟩ _ _
        refine wy_cons <| w_for (tg_name 7 nd) po <| iy_range2 E.range <| ey_nm 9 _ ?_
        refine isi ?_
        refine y_min E.min <| esy_cons <| ey_nm 2 _ <| esy_cons <| ey_bin <| ey_nm 9 _ <| ey_nm 11 _ ?_
        refine tm2I <| o_add ?_
        refine esy_nil <| b_min rfl <| isi ⟨by omega, ?_⟩
        refine ⟨fun j s2 => ∃ p, p.length = dp ∧ Rows wd p ∧ s2 = ⟨[.o 0, .d (.int (dp : Int)), .d (.int (wd : Int)), .o 1, .d (.int v5), .un, .d d, .un, .d (.int v7), .d (.int v8), .d (.int (1 + v9)), .d (.int (1 + v10)), .d (.int (k : Int))], [t10, .lst (p.map fun r => .fl (dots r))]⟩, ⟨p, pl, rr, rfl⟩, fun j e s2 he hI => ?_, fun s2 hI => ?_⟩
        · obtain ⟨p, pl, rr, rfl⟩ := hI
          obtain ⟨c, rfl, hc1, hc2, _⟩ := rg2_nat he (by omega)
          have hc : c < wd := by omega
          refine ⟨_, rfl, ?_⟩
          show WY _ ⟨[.o 0, .d (.int (dp : Int)), .d (.int (wd : Int)), .o 1, .d (.int v5), .un, .d d, .d (.int (c : Int)), .d (.int v7), .d (.int v8), .d (.int (1 + v9)), .d (.int (1 + v10)), .d (.int (k : Int))], [t10, .lst (p.map fun r => .fl (dots r))]⟩ _ _
          have hr1 : p[k]? = some p[k] := List.getElem?_eq_getElem (by omega)
          have hrk := rr p[k] (List.getElem_mem (by omega))
          refine wy_cons <| w_setix2 (pv 12) (pv 7) <| ey_str [35] ⟨_, rfl, ey_nm 3 _ ⟨1, (k : Int), (c : Int), k, c, _, dots p[k], rfl, pvt_d, pvt_d, rfl, ixM (by rw [List.length_map]; omega), by rw [List.getElem?_map, hr1]; rfl, ixM (by rw [List.length_map, hrk.1]; exact hc), ?_⟩⟩
          refine wy_nil ⟨p.set k (p[k].set c 35), by simpa using pl, rr.set k ⟨by simpa using hrk.1, fun x hx => ?_⟩, ?_⟩
          · rcases List.mem_or_eq_of_mem_set hx with h | rfl
            · exact hrk.2 x h
            · exact .inl rfl
          · rw [List.map_set, show dots (p[k].set c 35) = (dots p[k]).set c (.str [35]) from by simp [dots, List.map_set]]; rfl
        · obtain ⟨p, pl, rr, rfl⟩ := hI
          exact wy_nil ⟨p, pl, rr, rfl⟩
      · obtain ⟨p, pl, rr, rfl⟩ := hI
        exact wy_nil ⟨t10, p, d10.mono (by omega), pl, rr, rfl⟩
    · obtain ⟨t', p, dd, pl, rr, rfl⟩ := hI
      refine wy_nil <| wy_cons <| w_ret <| ey_pc Ct (hr.mono (by decide)) tk <| esy_cons <| ey_nm 3 _ <| esy_nil ?_
      simp only [List.length_map, List.length_range] at dd
      refine ⟨⟨[.o 0, .d (.int (dp : Int)), .d (.int (wd : Int)), .d (.lst (p.map fun r => .lst (dots r))), .d (.int v5), .un, .un, .un, .un, .un, .un, .un, .un], [t', .fz (.lst (p.map fun r => .lst (dots r)))]⟩, [.lst (p.map fun r => .lst (dots r))], ?_, p, rfl, ⟨by omega, fun r hr => by have := (rr r hr).1; omega⟩, rv_d ?_⟩
      · have e1 : T.ok (.lst (p.map fun r => .fl (dots r))) = true := by
          show T.oks (p.map fun r => T.fl (dots r)) = true
          rw [show (p.map fun r => T.fl (dots r)) = (p.map dots).map T.fl from by simp]; exact oks_fl _
        have e2 : T.fr (.lst (p.map fun r => .fl (dots r))) = .lst (p.map fun r => .lst (dots r)) := by
          show D.lst (T.frs (p.map fun r => T.fl (dots r))) = _
          rw [show (p.map fun r => T.fl (dots r)) = (p.map dots).map T.fl from by simp, frs_fl, List.map_map]; rfl
        exact dms_o rfl e1 e2 rfl
      · exact ⟨_, [t'], ⟨p, dp, wd, t', rfl, rr.isP pl (by omega) (by omega) (by omega) (by omega), by omega, by omega, rfl, dd.mono (by omega)⟩, rfl, Nat.le_of_ble_eq_true rfl, rfl⟩
end
end K39
namespace K39
open PySem L2 Q
theorem any_filter {α : Type} (f : α → Bool) : ∀ xs : List α, xs.any f = !(xs.filter f).isEmpty
  | [] => rfl
  | x :: xs => by
    cases h : f x with
    | true => simp [h]
    | false => simp [h, any_filter f xs]
theorem any_rows {p : List (List Nat)} {H W f l n w : Nat} (iq : InP p H W f l n w) : ((List.range n).any fun a => decide (35 ∈ cut (p.getD (f + a) []) (some (l : Int)) (some ((l : Int) + (w : Nat))))) = !(hits (rowsW p f l n w)).isEmpty := by
  obtain ⟨q1, q2⟩ := rowsW_row iq
  have hp := iq.p.len
  have ht := iq.th
  have hl := iq.lw
  rw [any_filter]
  unfold hits
  rw [q1]
  congr 2
  refine List.filter_congr fun a ha => ?_
  have ha : a < n := List.mem_range.mp ha
  have hr : p[f + a]? = some (p.getD (f + a) []) := getD_at (by omega)
  have hlen := iq.p.row _ (List.mem_of_getElem? hr)
  have e : (rowsW p f l n w).getD a [] = ((p.getD (f + a) []).drop l).take w := by
    unfold rowsW
    rw [List.getD, List.getElem?_map, List.getElem?_take_of_lt ha, List.getElem?_drop, hr]; rfl
  rw [e, cut_nat (by omega)]
end K39
namespace K39
open PySem L2 Q
def part (p : List (List Nat)) (t l m w hi pi ab k : Nat) : List D := ((List.range k).filter (seen p t l m w hi pi ab)).map (lineD t l m w hi pi ab)
def sl10 : Option Sl → Int
  | some (.d (.int i)) => i
  | _ => 0
theorem bg_cnt {m pi ab k t : Nat} (h1 : 1 ≤ pi) (hm : 1 ≤ m) (h : bg t pi ab k < (t : Int) + (m : Nat)) : k < cnt m pi ab := by
  have h3 : ((k : Nat) : Int) * (pi : Int) = ((k * pi : Nat) : Int) := by simp
  unfold bg at h
  rw [h3] at h
  unfold cnt
  have : k * pi ≤ ab + m - 1 := by omega
  have := (Nat.le_div_iff_mul_le (show 0 < pi by omega)).mpr this
  omega
theorem seen_eq {p : List (List Nat)} {H W t l m w hi pi ab k : Nat} (q : IsL p H W t l m w hi pi ab) (h : k < cnt m pi ab) : ((List.range (bh t m hi pi ab k - fs t pi ab k)).any fun a => decide (35 ∈ cut (p.getD (fs t pi ab k + a) []) (some (l : Int)) (some ((l : Int) + (w : Nat))))) = seen p t l m w hi pi ab k :=
  any_rows (q.inp h).1
theorem cnt_bg {m pi ab k t : Nat} (h1 : 1 ≤ pi) (hm : 1 ≤ m) (h : ¬ bg t pi ab k < (t : Int) + (m : Nat)) : cnt m pi ab ≤ k := by
  rcases Nat.lt_or_ge k (cnt m pi ab) with q | q
  · exact absurd (bg_lt q h1 hm) h
  · exact q
section
variable {P : Program} {w : World} {K : PySem.W.Frag} {mg : Str → Option Value} {base : Heap} {C : Addr}
abbrev ct_due : Cn := pcn (ι := List (List Nat) × Nat × Nat × Nat × Nat × Nat × Nat × Nat) (fun (p, t, l, m, w, hi, pi, ab) => [pc p, bx t l m w, .int (hi : Int), .int (pi : Int), .int (ab : Int)]) (fun (p, t, l, m, w, hi, pi, ab) => ∃ H W, IsL p H W t l m w hi pi ab) fun (p, t, l, m, w, hi, pi, ab) => .ok (.fl (linesN p t l m w hi pi ab))
theorem sc_due : FnScope ["picture", "box", "tall", "far", "lead", "top", "left", "down", "across", "found", "begin", "inside", "at"] ["picture", "box", "tall", "far", "lead"] (defScope (top 32)) := ⟨rfl, rfl, rfl, by decide +kernel, rfl, by decide +kernel, by decide +kernel⟩
set_option maxRecDepth 1000000 in
theorem ok_due (E : En mg) {f : Addr} {fd : FuncData} (F : Fun K "_law_due" "_law_due" (top 32) f fd) : FnOk P w K mg base (L2.CX P w) 1 f fd ["picture", "box", "tall", "far", "lead"] (spY K ct_due) := by
  have nd := sc_due.nd
  refine fn_pcn F sc_due (fun _ => rfl) fun cdv A outer s H Eh hr (p, t, l, m, wd, hi, pi, ab) ⟨HH, WW, q⟩ W Ξ hΞ tk po => ?_
  have := q.hi1
  have := q.p1
  have hm1 := q.q.h1
  have ip := q.q.p
  have := ip.h2
  have := ip.w2
  have := q.hi2
  have := q.p2
  have := q.ab
  have := q.q.th
  refine wy_cons <| w_asg (tg_tup (tgs_cons (tg_name 5 nd) (tgs_cons (tg_name 6 nd) (tgs_cons (tg_name 7 nd) (tgs_cons (tg_name 8 nd) tgs_nil))))) <| ey_nm 1 (.d (bx t l m wd)) ⟨_, _, rfl, rfl, ?_⟩
  refine wy_cons <| w_par 9 10 nd <| ey_lst <| esy_nil <| dmsI ?_
  refine ⟨by decide, ?_⟩
  refine ey_bin <| ey_nm 5 _ <| ey_nm 4 _ ?_
  refine tm2I <| o_sub ?_
  have b0 : (t : Int) - (ab : Nat) = bg t pi ab 0 := by unfold bg; simp
  show WY _ ⟨[.d (pc p), .d (bx t l m wd), .d (.int (hi : Int)), .d (.int (pi : Int)), .d (.int (ab : Int)), .d (.int (t : Int)), .d (.int (l : Int)), .d (.int (m : Int)), .d (.int (wd : Int)), .o 0, .d (.int ((t : Int) - (ab : Nat))), .un, .un], [.fl (part p t l m wd hi pi ab 0)]⟩ _ _
  rw [b0]
  refine wy_cons <| w_while (fun s2 => ∃ k, s2 = ⟨[.d (pc p), .d (bx t l m wd), .d (.int (hi : Int)), .d (.int (pi : Int)), .d (.int (ab : Int)), .d (.int (t : Int)), .d (.int (l : Int)), .d (.int (m : Int)), .d (.int (wd : Int)), .o 0, .d (.int (bg t pi ab k)), .un, .un], [.fl (part p t l m wd hi pi ab k)]⟩ ∧ k ≤ cnt m pi ab) (fun s2 => ((t : Int) + (m : Nat) - sl10 s2.ρ[10]?).toNat) ⟨0, rfl, Nat.zero_le _⟩ (fun s2 hI => ?_) po
  obtain ⟨k, rfl, hk⟩ := hI
  have hge := bg_ge (pi := pi) (ab := ab) (k := k) (t := t)
  refine ty_cmp <| ey_nm 10 _ <| ey_bin <| ey_nm 5 _ <| ey_nm 7 _ ?_
  refine tm2I <| o_add ?_
  refine tm2I <| c_lt ?_
  refine isb ?_
  refine ⟨fun hc => ?_, fun hc => ?_⟩
  rotate_left
  · have hb : ¬ bg t pi ab k < (t : Int) + (m : Nat) := of_decide_eq_false hc
    have := cnt_bg (by omega) hm1 hb
    obtain rfl : k = cnt m pi ab := by omega
    refine wy_cons <| w_ret <| ey_nm 9 _ ?_
    exact .inr ⟨0, _, rfl, rfl, rfl⟩
  · have hb : bg t pi ab k < (t : Int) + (m : Nat) := of_decide_eq_true hc
    have kc := bg_cnt (by omega) hm1 hb
    obtain ⟨iq, e1, e2, e3⟩ := q.inp kc
    have ie := inside_eq e1 e2 e3
    refine wy_cons <| w_lc 11 [("at", 12)] nd <| lcyF (α := Nat) _ (tgb_name 12 nd) <| iy_range2 E.range <| ey_nm 10 _ ?_
    refine isi ?_
    refine ey_bin <| ey_nm 10 _ <| ey_nm 2 _ ?_
    refine tm2I <| o_add ?_
    refine isi ⟨by omega, ?_⟩
    rw [show (bg t pi ab k + (hi : Int) - bg t pi ab k).toNat = hi from by omega]
    apply lcf (List.range hi) (fun j => .int (bg t pi ab k + (j : Nat))) rfl (by simp; omega)
    · refine fun a ha => ⟨_, rfl, fun sh H0 C cl fp => ?_⟩
      refine ty_chainP <| ey_nm 5 _ <| ey_nm 12 _ ?_
      refine c_le ?_
      refine isb ?_
      apply sc
      · intro hc
        refine ey_bin <| ey_nm 5 _ <| ey_nm 7 _ ?_
        refine tm2I <| o_add ?_
        refine c_lt ?_
        exact ⟨rfl, rfl⟩
      refine ⟨rfl, rfl, fun hc sh H0 C cl fp => ?_⟩
      refine ey_nm 12 _ ?_
      refine dmI ?_
      exact ⟨rfl, rfl⟩
    have ie2 : ((List.range hi).filter fun j => decide ((t : Int) ≤ bg t pi ab k + (j : Nat)) && decide (bg t pi ab k + (j : Nat) < (t : Int) + (m : Nat))).map (fun j => D.int (bg t pi ab k + (j : Nat))) = (List.range (bh t m hi pi ab k - fs t pi ab k)).map fun j => D.int ((fs t pi ab k + j : Nat) : Int) := by
      have := congrArg (List.map D.int) ie
      rw [List.map_map, List.map_map] at this
      exact this
    rw [ie2]
    generalize hn : bh t m hi pi ab k - fs t pi ab k = nn at iq
    have nn1 : 1 ≤ nn := by omega
    have nnh : nn ≤ 60 := by have := iq.th; have := iq.p.h2; omega
    generalize hl0 : part p t l m wd hi pi ab k = pk
    generalize hins : ((List.range nn).map fun j => D.int ((fs t pi ab k + j : Nat) : Int)) = ins
    show WY _ ⟨[.d (pc p), .d (bx t l m wd), .d (.int (hi : Int)), .d (.int (pi : Int)), .d (.int (ab : Int)), .d (.int (t : Int)), .d (.int (l : Int)), .d (.int (m : Int)), .d (.int (wd : Int)), .o 0, .d (.int (bg t pi ab k)), .o 1, .un], [.fl pk, .fl ins]⟩ _ _
    refine wy_fs 11 ?_
    show WY _ ⟨[.d (pc p), .d (bx t l m wd), .d (.int (hi : Int)), .d (.int (pi : Int)), .d (.int (ab : Int)), .d (.int (t : Int)), .d (.int (l : Int)), .d (.int (m : Int)), .d (.int (wd : Int)), .o 0, .d (.int (bg t pi ab k)), .d (.lst ins), .un], [.fl pk, .fz (.lst ins)]⟩ _ _
    refine wy_cons <| wy_if <| ty_and <| ty_cmp <| ey_nm 11 _ <| ey_lst <| esy_nil ?_
    refine dmsI ?_
    refine ⟨by simp, ?_⟩
    refine tm2I ?_
    refine c_neD (Room.eq hr) 4 (d := .lst ins) (e := .lst []) (by rw [← hins]; intro d hd; obtain ⟨_, _, rfl⟩ := List.mem_map.mp hd; trivial) (fun _ z => nomatch z) fun tt ht => ?_
    refine isb ?_
    have htt : tt = false := by
      cases tt with
      | false => rfl
      | true => have := ht.mp rfl; rw [← hins] at this; simp at this; omega
    subst htt
    apply sc (u := seen p t l m wd hi pi ab k)
    · intro hc
      refine tw_and1 <| ty_val <| y_any E.any <| ey_lc [("at", 12)] nd <| lcyP (α := Nat) _ (tgb_name 12 nd) <| iy_lst <| ey_nm 11 _ ?_
      refine dmI ?_
      refine ⟨_, rfl, ?_⟩
      apply lcp (List.range nn) (fun j => D.int ((fs t pi ab k + j : Nat) : Int)) hins.symm (by rw [← hins]; simp; omega)
      · refine fun a ha => ⟨_, rfl, fun sh H0 C cl fp => ?_⟩
        have ha : a < nn := List.mem_range.mp ha
        have hin := iq.th
        have hpl := ip.len
        have hr1 : p[fs t pi ab k + a]? = some (p.getD (fs t pi ab k + a) []) := getD_at (by omega)
        have hlen := ip.row _ (List.mem_of_getElem? hr1)
        refine ey_cmp <| ey_str [35] <| ey_sl11 <| ey_ix <| ey_nm 0 _ <| ey_nm 12 _ ?_
        refine tm2I ?_
        refine i_T (d := .str (p.getD (fs t pi ab k + a) [])) (atN (by rw [List.getElem?_map, hr1]; rfl)) ?_
        refine ey_nm 6 _ ?_
        refine isi <| ey_bin <| ey_nm 6 _ <| ey_nm 8 _ ?_
        refine tm2I <| o_add ?_
        refine isi ?_
        refine s_str (by omega) ?_
        refine tm2I <| c_inC ?_
        refine dmI ?_
        exact ⟨rfl, rfl⟩
      refine tm1I ?_
      refine b_any (bs := (List.range nn).map fun a => decide (35 ∈ cut (p.getD (fs t pi ab k + a) []) (some (l : Int)) (some ((l : Int) + (wd : Nat))))) rfl ?_ (by show _ = List.map D.bl _; rw [List.map_map]; rfl)
      refine isb ?_
      refine ⟨rfl, ?_⟩
      rw [List.any_map]
      have e0 := seen_eq q kc
      rw [hn] at e0
      exact e0
    have h0 : atI ins (0 : Int) = some (.int (fs t pi ab k : Nat)) := by
      rw [← hins]
      have e : ((List.range nn).map fun j => D.int ((fs t pi ab k + j : Nat) : Int))[0]? = some (.int (fs t pi ab k : Nat)) := by
        rw [List.getElem?_map, List.getElem?_range (show 0 < nn by omega)]; rfl
      exact atN (k := 0) e
    have hlp : pk.length ≤ k := by rw [← hl0]; unfold part; rw [List.length_map]; exact Nat.le_trans (List.length_filter_le _ _) (by simp)
    have hc0 : cnt m pi ab ≤ 200 := by unfold cnt; have := Nat.div_le_self (ab + m - 1) pi; omega
    have hdec : ((t : Int) + (m : Nat) - bg t pi ab (k + 1)).toNat < ((t : Int) + (m : Nat) - bg t pi ab k).toNat := by
      rw [show bg t pi ab (k + 1) = bg t pi ab k + (pi : Int) from by unfold bg; rw [Int.natCast_succ, Int.add_mul]; omega]; omega
    have hpi : bg t pi ab k + (pi : Int) = bg t pi ab (k + 1) := by unfold bg; rw [Int.natCast_succ, Int.add_mul]; omega
    refine ⟨fun hc => ?_, fun hc => ?_⟩
    · have hs : seen p t l m wd hi pi ab k = true := by simpa using hc
      refine wy_cons <| w_expr <| ey_append <| ey_nm 9 _ ⟨_, rfl, ⟨_, rfl⟩, ey_tup <| esy_cons <| ey_ix <| ey_nm 11 _ <| ey_int ?_⟩
      refine tm2I ?_
      refine i_L (d := .int (fs t pi ab k : Nat)) h0 ?_
      refine esy_cons <| ey_nm 6 _ <| esy_cons <| y_len E.len <| ey_nm 11 _ ?_
      refine tm1I ?_
      refine b_len ?_
      refine esy_cons <| ey_nm 8 _ <| esy_nil ?_
      refine dmsI ?_
      refine ⟨by simp, ?_⟩
      refine dmI ?_
      refine ⟨_, rfl, by omega, ?_⟩
      refine wy_nil ?_
      refine wy_cons <| w_set 10 nd <| ey_bin <| ey_nm 10 _ <| ey_nm 3 _ ?_
      refine tm2I <| o_add ?_
      rw [hpi]
      refine wy_nil ⟨⟨k + 1, ?_, kc⟩, hdec⟩
      have e1 : part p t l m wd hi pi ab (k + 1) = pk ++ [.tup [.int (fs t pi ab k : Nat), .int (l : Int), .int (ins.length : Nat), .int (wd : Int)]] := by
        rw [← hl0, ← hins]
        unfold part
        rw [List.range_succ, List.filter_append, List.map_append, List.filter_cons, hs]
        simp [lineD, bx, hn]
      rw [e1]; rfl
    · have hs : seen p t l m wd hi pi ab k = false := by simpa using hc
      refine wy_nil ?_
      refine wy_cons <| w_set 10 nd <| ey_bin <| ey_nm 10 _ <| ey_nm 3 _ ?_
      refine tm2I <| o_add ?_
      rw [hpi]
      refine wy_nil ⟨⟨k + 1, ?_, kc⟩, hdec⟩
      have e1 : part p t l m wd hi pi ab (k + 1) = pk := by
        rw [← hl0]
        unfold part
        rw [List.range_succ, List.filter_append, List.map_append, List.filter_cons, hs]
        simp
      rw [e1]; rfl
end
end K39
namespace K39
open PySem L2 Q
section
variable {P : Program} {w : World} {K : PySem.W.Frag} {mg : Str → Option Value} {base : Heap} {C : Addr}
abbrev ct_law : Cn := pcn (ι := List Int) (fun ns => [.rl (ns.map .int)]) (fun ns => ns.length ≤ 63) fun _ => .ok (.fz (.bl true))
theorem sc_law : FnScope ["script", "k", "cell", "draw", "tall", "far", "lead", "picture", "turn", "top", "left", "down", "across", "box", "told"] ["script"] (defScope (top 33)) := ⟨rfl, rfl, rfl, by decide +kernel, rfl, by decide +kernel, by decide +kernel⟩
set_option maxRecDepth 1000000 in
theorem ok_law (E : En mg) (Cb : ClY P w K mg base "_law_begun" 2 1 (ct_begun).cn) (Cn : ClY P w K mg base "_law_next" 2 1 ct_next.cn) (Cp : ClY P w K mg base "_law_pick" 2 2 ct_pick.cn) (Cg : ClY P w K mg base "_law_page" 1 3 ct_page) (Cd : ClY P w K mg base "_law_due" 5 1 ct_due)
    (Cl3 : ClYK P w K mg base "lines_of" 2 6 ["high", "pitch", "above"] (fun vs zs => vs ++ zs) (ct_lines).cn) (Cl2 : ClYK P w K mg base "lines_of" 2 6 ["pitch", "high"] (fun vs zs => vs ++ zs.reverse ++ [.int 0]) (ct_lines).cn)
    {f : Addr} {fd : FuncData} (F : Fun K "law" "law" (top 33) f fd) : FnOk P w K mg base (L2.CX P w) 7 f fd ["script"] (spY K ct_law) := by
  have nd := sc_law.nd
  refine fn_pcn F sc_law (fun _ => rfl) fun cdv A outer s H Eh hr ns hp W Ξ hΞ tk po => ?_
  have hp : ns.length ≤ 63 := hp
  show WY _ ⟨[.d (.rl (ns.map .int)), .un, .un, .un, .un, .un, .un, .un, .un, .un, .un, .un, .un, .un, .un], []⟩ _ _
  refine wy_cons <| w_for (tg_tup (tgs_cons (tg_name 1 nd) (tgs_cons (tg_name 2 nd) tgs_nil))) po <| iy_of_it (it_en (ds := (cells ns 5).map D.int) rfl E.enumerate (ee_fl (ea_slL sl_list (e_or5 (ea_d 0) (ee_one (ee_fl (ea_lst (es_cons ee_int es_nil))))) ep_none (ep_some ee_int) cells_sl))) (enD ((cells ns 5).map D.int)) (by rw [enD_len]) enD_it ?_
  refine ⟨fun i s2 => s2 = ⟨[.d (.rl (ns.map .int)), .un, .un, .un, .un, .un, .un, .un, .un, .un, .un, .un, .un, .un, .un], []⟩, rfl, fun i d s2 hd hI => ?_, fun s2 hI => ?_⟩
  rotate_left
  · subst hI
    refine wy_cons <| w_ret <| ey_bl ?_
    exact .inl ⟨_, rfl, rfl⟩
  · subst hI
    obtain ⟨e, he, rfl⟩ := enD_get hd
    have hi : i < 5 := by have := (List.getElem?_eq_some_iff.mp he).1; rw [List.length_map] at this; have := cells_len (ns := ns) (k := 5); omega
    obtain ⟨cell, _, rfl⟩ := List.mem_map.mp (List.mem_of_getElem? he)
    refine ⟨_, rfl, ?_⟩
    show WY _ ⟨[.d (.rl (ns.map .int)), .d (.int (i : Int)), .d (.int cell), .un, .un, .un, .un, .un, .un, .un, .un, .un, .un, .un, .un], []⟩ _ _
    refine wy_cons <| w_set 3 nd <| ey_pc Cb (hr.mono (by decide)) tk <| esy_cons <| ey_nm 2 _ <| esy_cons <| ey_nm 1 _ <| esy_nil ?_
    refine dmsI ?_
    refine ⟨(cell, i), rfl, by show i ≤ 1000; omega, rv_o ?_⟩
    have d0 : Dr 0 (dr (max 0 (cell - 10 ^ 18)) (cell + 977 * (i : Nat)) 0) := ⟨_, _, _, rfl, Nat.le_refl _⟩
    show WY _ ⟨[.d (.rl (ns.map .int)), .d (.int (i : Int)), .d (.int cell), .o 0, .un, .un, .un, .un, .un, .un, .un, .un, .un, .un, .un], [dr (max 0 (cell - 10 ^ 18)) (cell + 977 * (i : Nat)) 0]⟩ _ _
    generalize dr (max 0 (cell - 10 ^ 18)) (cell + 977 * (i : Nat)) 0 = t0 at d0 ⊢
    refine wy_cons <| w_set 4 nd <| ey_bin <| ey_int <| y_next Cn hr (by decide) tk <| ey_nm 3 _ ⟨_, rfl, ey_int ?_⟩
    refine ⟨_, _, _, rfl, rfl, d0, by decide, by omega, by omega, fun v1 t1 lo1 hi1 d1 => ?_⟩
    refine tm2I <| o_add ?_
    obtain ⟨hh, ehh, h1, h2⟩ : ∃ h : Nat, (1 : Int) + v1 = (h : Int) ∧ 1 ≤ h ∧ h ≤ 9 := ⟨(1 + v1).toNat, by omega, by omega, by omega⟩
    rw [ehh]
    refine wy_cons <| w_par 5 6 nd <| ey_bin <| ey_nm 4 _ <| y_pick Cp hr (by decide) tk <| ey_nm 3 _ ⟨_, rfl, ey_lst <| esy_cons <| ey_int <| esy_cons <| ey_int <| esy_cons <| ey_int <| esy_cons <| ey_int <| esy_cons <| ey_bin <| ey_int <| ey_nm 4 _ ?_⟩
    refine tm2I <| o_sub ?_
    refine esy_nil ?_
    refine dmsI ?_
    refine ⟨by simp, ?_⟩
    refine dmI ?_
    refine ⟨_, _, _, rfl, (fun _ z => nomatch z), rfl, d1, by decide, by simp, by simp, fun z2 t2 m2 d2 => ?_⟩
    obtain ⟨i2, rfl, hi2, hi2'⟩ : ∃ i : Int, z2 = .int i ∧ 0 ≤ i ∧ i + hh ≤ 60 := by simp at m2; rcases m2 with rfl | rfl | rfl | rfl | rfl <;> exact ⟨_, rfl, by omega, by omega⟩
    refine tm2I <| o_add ?_
    refine y_pick Cp hr (by decide) tk <| ey_nm 3 _ ⟨_, rfl, ey_lst <| esy_cons <| ey_int <| esy_cons <| ey_int <| esy_cons <| y_next Cn hr (by decide) tk <| ey_nm 3 _ ⟨_, rfl, ey_nm 4 _ ?_⟩⟩
    refine ⟨_, _, _, rfl, rfl, d2, by decide, by omega, by omega, fun v3 t3 lo3 hi3 d3 => ?_⟩
    refine esy_nil ?_
    refine dmsI ?_
    refine ⟨by simp, ?_⟩
    refine dmI ?_
    refine ⟨_, _, _, rfl, (fun _ z => nomatch z), rfl, d3, by decide, by simp, by simp, fun z4 t4 m4 d4 => ?_⟩
    obtain ⟨ab, rfl, hab⟩ : ∃ ab : Nat, z4 = .int (ab : Int) ∧ ab < hh := by simp at m4; rcases m4 with rfl | rfl; exact ⟨0, rfl, by omega⟩; exact ⟨v3.toNat, by congr 1; omega, by omega⟩
    obtain ⟨fa, efa, fa1, fa2⟩ : ∃ fa : Nat, (hh : Int) + i2 = (fa : Int) ∧ hh ≤ fa ∧ fa ≤ 60 := ⟨((hh : Int) + i2).toNat, by omega, by omega, by omega⟩
    rw [efa]
    show WY _ ⟨[.d (.rl (ns.map .int)), .d (.int (i : Int)), .d (.int cell), .o 0, .d (.int (hh : Int)), .d (.int (fa : Int)), .d (.int (ab : Int)), .un, .un, .un, .un, .un, .un, .un, .un], [t4]⟩ _ _
    refine wy_cons <| w_set 7 nd <| ey_call [] Cg (hr.mono (by decide)) tk <| esy_1 <| ey_nm 3 _ ?_
    refine dmcI ?_
    refine ⟨(_, t4), rfl, ⟨d4, by decide⟩, by simp [oks], fun r outs ⟨p, ph, pw, t5, e1, ip, b1, b2, e2, d5⟩ => ?_, fun _ _ z => z.elim⟩
    subst e1 e2
    refine ⟨rfl, .inl ⟨_, rfl, ?_⟩⟩
    have pl := ip.len
    have ph1 := ip.h1
    have pw1 := ip.w1
    have hr0 : p[0]? = some (p.getD 0 []) := getD_at (by omega)
    have hw0 : (p.getD 0 []).length = pw := ip.row _ (List.mem_of_getElem? hr0)
    show WY _ ⟨[.d (.rl (ns.map .int)), .d (.int (i : Int)), .d (.int cell), .o 0, .d (.int (hh : Int)), .d (.int (fa : Int)), .d (.int (ab : Int)), .d (pc p), .un, .un, .un, .un, .un, .un, .un], [t5]⟩ _ _
    refine wy_cons <| w_for (tg_name 8 nd) po <| iy_range1 E.range <| ey_int ?_
    refine isi ⟨by omega, ?_⟩
    refine ⟨fun j s2 => ∃ t', Dr (10000 + 4 * j) t' ∧ s2 = ⟨[.d (.rl (ns.map .int)), .d (.int (i : Int)), .d (.int cell), .o 0, .d (.int (hh : Int)), .d (.int (fa : Int)), .d (.int (ab : Int)), .d (pc p), .un, .un, .un, .un, .un, .un, .un], [t']⟩, ⟨t5, d5.mono (by decide), rfl⟩, fun j d s2 hd hI => ?_, fun s2 hI => ?_⟩
    · obtain ⟨t6, d6, rfl⟩ := hI
      obtain ⟨rfl, hj⟩ := rg1_get hd
      have hj : j < 4 := hj
      refine ⟨_, rfl, ?_⟩
      have hl : (10000 + 4 * j + 10 < lim) := by show _ < 1073741824; omega
      refine wy_cons <| w_par 9 10 nd <| y_next Cn hr (by decide) tk <| ey_nm 3 _ ⟨_, rfl, y_len E.len <| ey_nm 7 _ ?_⟩
      refine tm1I ?_
      refine b_len ?_
      rw [List.length_map]
      refine ⟨_, _, _, rfl, rfl, d6, by omega, by omega, by omega, fun v5 t5 lo5 hi5 d5 => ?_⟩
      refine y_next Cn hr (by decide) tk <| ey_nm 3 _ ⟨_, rfl, y_len E.len <| ey_ix <| ey_nm 7 _ <| ey_int ?_⟩
      refine tm2I ?_
      refine i_T (d := .str (p.getD 0 [])) (atN (k := 0) (by rw [List.getElem?_map, hr0]; rfl)) ?_
      refine tm1I ?_
      refine b_lenS (by omega) ?_
      rw [hw0]
      refine ⟨_, _, _, rfl, rfl, d5, by omega, by omega, by omega, fun v6 t6 lo6 hi6 d6 => ?_⟩
      refine wy_cons <| w_par 11 12 nd <| ey_bin <| ey_int <| y_next Cn hr (by decide) tk <| ey_nm 3 _ ⟨_, rfl, ey_bin <| y_len E.len <| ey_nm 7 _ ?_⟩
      refine tm1I ?_
      refine b_len ?_
      rw [List.length_map]
      refine ey_nm 9 _ ?_
      refine tm2I <| o_sub ?_
      refine ⟨_, _, _, rfl, rfl, d6, by omega, by omega, by omega, fun v7 t7 lo7 hi7 d7 => ?_⟩
      refine tm2I <| o_add ?_
      refine ey_bin <| ey_int <| y_next Cn hr (by decide) tk <| ey_nm 3 _ ⟨_, rfl, ey_bin <| y_len E.len <| ey_ix <| ey_nm 7 _ <| ey_int ?_⟩
      refine tm2I ?_
      refine i_T (d := .str (p.getD 0 [])) (atN (k := 0) (by rw [List.getElem?_map, hr0]; rfl)) ?_
      refine tm1I ?_
      refine b_lenS (by omega) ?_
      rw [hw0]
      refine ey_nm 10 _ ?_
      refine tm2I <| o_sub ?_
      refine ⟨_, _, _, rfl, rfl, d7, by omega, by omega, by omega, fun v8 t8 lo8 hi8 d8 => ?_⟩
      refine tm2I <| o_add ?_
      show WY _ ⟨[.d (.rl (ns.map .int)), .d (.int (i : Int)), .d (.int cell), .o 0, .d (.int (hh : Int)), .d (.int (fa : Int)), .d (.int (ab : Int)), .d (pc p), .d (.int (j : Int)), .d (.int v5), .d (.int v6), .d (.int (1 + v7)), .d (.int (1 + v8)), .un, .un], [t8]⟩ _ _
      -- the box
      suffices hrest : ∀ t l m w : Nat, InP p ph pw t l m w → WY _ ⟨[.d (.rl (ns.map .int)), .d (.int (i : Int)), .d (.int cell), .o 0, .d (.int (hh : Int)), .d (.int (fa : Int)), .d (.int (ab : Int)), .d (pc p), .d (.int (j : Int)), .d (.int v5), .d (.int v6), .d (.int (1 + v7)), .d (.int (1 + v8)), .d (bx t l m w), .un], [t8]⟩ _ _ by
        refine wy_cons <| w_set 13 nd <| ey_if <| ty_cmp <| ey_nm 8 _ <| ey_int ?_
        refine tm2I <| c_gt ?_
        refine isb ?_
        refine ⟨fun hc => ?_, fun hc => ?_⟩
        · refine ey_tup <| esy_cons <| ey_nm 9 _ <| esy_cons <| ey_nm 10 _ <| esy_cons <| ey_nm 11 _ <| esy_cons <| ey_nm 12 _ <| esy_nil ?_
          refine dmsI ?_
          refine ⟨by simp, ?_⟩
          have := hrest v5.toNat v6.toNat (1 + v7).toNat (1 + v8).toNat ⟨ip, by omega, by omega, by omega, by omega⟩
          unfold bx at this
          rw [show ((v5.toNat : Nat) : Int) = v5 from by omega, show ((v6.toNat : Nat) : Int) = v6 from by omega, show (((1 + v7).toNat : Nat) : Int) = 1 + v7 from by omega, show (((1 + v8).toNat : Nat) : Int) = 1 + v8 from by omega] at this
          exact this
        · refine ey_tup <| esy_cons <| ey_int <| esy_cons <| ey_int <| esy_cons <| y_len E.len <| ey_nm 7 _ ?_
          refine tm1I ?_
          refine b_len ?_
          rw [List.length_map]
          refine esy_cons <| y_len E.len <| ey_ix <| ey_nm 7 _ <| ey_int ?_
          refine tm2I ?_
          refine i_T (d := .str (p.getD 0 [])) (atN (k := 0) (by rw [List.getElem?_map, hr0]; rfl)) ?_
          refine tm1I ?_
          refine b_lenS (by omega) ?_
          rw [hw0]
          refine esy_nil ?_
          refine dmsI ?_
          refine ⟨by simp, ?_⟩
          rw [pl]
          exact hrest 0 0 ph pw ⟨ip, by omega, by omega, by omega, by omega⟩
      intro t l m w inp
      have q : IsL p ph pw t l m w hh fa ab := ⟨inp, h1, h2, fa1, fa2, hab⟩
      have q0 : IsL p ph pw t l m w hh fa 0 := ⟨inp, h1, h2, fa1, fa2, by omega⟩
      refine wy_cons <| w_set 14 nd <| ey_callK Cl3 (hr.mono (by decide)) tk <| esy_cons <| ey_nm 7 _ <| esy_cons <| ey_nm 13 _ <| esy_nil <| ky_cons <| ey_nm 4 _ <| ky_cons <| ey_nm 5 _ <| ky_cons <| ey_nm 6 _ <| ky_nil ?_
      refine dmsI ?_
      refine ⟨[pc p, bx t l m w], [.int (hh : Int), .int (fa : Int), .int (ab : Int)], [pc p, bx t l m w, .int (hh : Int), .int (fa : Int), .int (ab : Int)], rfl, rfl, rfl, rfl, fun F vs ws h h' => Reps.append h h', (p, t, l, m, w, hh, fa, ab), rfl, ⟨ph, pw, q⟩, by simp [oks], fun r outs ⟨e1, e2⟩ => ?_, fun _ _ z => z.elim⟩
      subst e1 e2
      refine ⟨rfl, .inr ?_⟩
      have lk : ∀ ab', IsL p ph pw t l m w hh fa ab' → ∀ d ∈ linesN p t l m w hh fa ab', Dk 3 d := fun ab' q' d hd => by
        obtain ⟨k, hk, rfl⟩ := List.mem_map.mp hd
        intro d hd
        simp at hd
        rcases hd with rfl | rfl | rfl | rfl <;> trivial
      show WY _ ⟨[.d (.rl (ns.map .int)), .d (.int (i : Int)), .d (.int cell), .o 0, .d (.int (hh : Int)), .d (.int (fa : Int)), .d (.int (ab : Int)), .d (pc p), .d (.int (j : Int)), .d (.int v5), .d (.int v6), .d (.int (1 + v7)), .d (.int (1 + v8)), .d (bx t l m w), .o 1], [t8, .fl (linesN p t l m w hh fa ab)]⟩ _ _
      generalize hL : linesN p t l m w hh fa ab = L at *
      have kL := lk ab q
      rw [hL] at kL
      refine wy_cons <| wy_if <| ty_or <| ty_not <| ty_val <| y_isinstance E.isinstance <| esy_cons <| ey_nm 14 _ <| esy_cons <| ey_ty (T' := "list") E.list <| esy_nil ?_
      refine b_isi (T := "list") true ?_
      refine isb ?_
      refine ⟨false, fun _ => ?_, ?_⟩
      · refine tw_or1 <| ty_cmp <| ey_nm 14 _ <| ey_pu Cd (hr.mono (by decide)) tk <| esy_cons <| ey_nm 7 _ <| esy_cons <| ey_nm 13 _ <| esy_cons <| ey_nm 4 _ <| esy_cons <| ey_nm 5 _ <| esy_cons <| ey_nm 6 _ <| esy_nil ?_
        refine dmsI ?_
        refine ⟨(p, t, l, m, w, hh, fa, ab), rfl, ⟨ph, pw, q⟩, .inl ⟨_, rfl, rv_o ?_⟩⟩
        refine tm2I ?_
        refine c_neD (Room.eq hr) 4 (d := .lst L) (e := .lst L) kL kL (fun tt ht => ?_) (hy := by rw [← hL]; rfl)
        refine isb ?_
        have : tt = true := ht.mpr rfl
        subst this
        exact ⟨rfl, rfl⟩
      refine ⟨fun z => (nomatch z), fun _ => wy_nil ?_⟩
      refine wy_cons <| w_expr <| ey_reverse <| ey_nm 14 _ ?_
      refine ⟨_, _, rfl, rfl, ?_⟩
      refine wy_cons <| wy_if <| ty_cmp <| ey_callK Cl2 (hr.mono (by decide)) tk <| esy_cons <| ey_nm 7 _ <| esy_cons <| ey_nm 13 _ <| esy_nil <| ky_cons <| ey_nm 5 _ <| ky_cons <| ey_nm 4 _ <| ky_nil ?_
      refine dmsI ?_
      refine ⟨[pc p, bx t l m w], [.int (fa : Int), .int (hh : Int)], [pc p, bx t l m w, .int (hh : Int), .int (fa : Int), .int ((0 : Nat) : Int)], rfl, rfl, rfl, rfl, fun F vs ws h h' => Reps.append (Reps.append h h'.reverse) (.one rfl), (p, t, l, m, w, hh, fa, 0), rfl, ⟨ph, pw, q0⟩, by simp [oks], fun r outs ⟨e1, e2⟩ => ?_, fun _ _ z => z.elim⟩
      subst e1 e2
      refine ⟨rfl, .inr ?_⟩
      refine ey_pu Cd (hr.mono (by decide)) tk <| esy_cons <| ey_nm 7 _ <| esy_cons <| ey_nm 13 _ <| esy_cons <| ey_nm 4 _ <| esy_cons <| ey_nm 5 _ <| esy_cons <| ey_int <| esy_nil ?_
      refine dmsI ?_
      refine ⟨(p, t, l, m, w, hh, fa, 0), rfl, ⟨ph, pw, q0⟩, .inl ⟨_, rfl, rv_o ?_⟩⟩
      refine tm2I ?_
      have kL0 := lk 0 q0
      refine c_neD (Room.eq hr) 4 (d := .lst (linesN p t l m w hh fa 0)) (e := .lst (linesN p t l m w hh fa 0)) kL0 kL0 (fun tt ht => ?_)
      refine isb ?_
      have : tt = true := ht.mpr rfl
      subst this
      refine ⟨fun z => (nomatch z), fun _ => wy_nil ?_⟩
      exact wy_nil ⟨t8, d8.mono (by omega), rfl⟩
    · obtain ⟨t6, d6, rfl⟩ := hI
      exact wy_nil rfl
end
end K39
namespace K39
open PySem L2 Q
theorem all_mk {l : PySem.W.OpenLaw} {w : World} {K : PySem.W.Frag} {h : Heap} {mg : Str → Option Value} {fa : Addr} (X : K.In h) (G : h.Ns mainGlobals mg) (hfa : mg "law" = some (.ref fa))
    {f0 f1 f2 f3 f4 f5 f6 f7 f8 f9 kd9 f10 f11 f12 f13 f14 f15 f16 f17 : Addr} {od0 an0 od1 an1 od2 an2 od3 an3 od4 an4 od5 an5 od6 an6 od7 an7 od8 an8 od9 an9 od10 an10 od11 an11 od12 an12 od13 an13 od14 an14 od15 an15 od16 an16 od17 an17 : Option Addr} {sl0 sl1 sl2 sl3 sl4 sl5 sl6 sl7 sl8 sl9 sl10 sl11 sl12 sl13 sl14 sl15 sl16 sl17 : Array (Option Value)} {oc0 dc0 pm0 cd0 ct0 kV0 oc1 dc1 pm1 cd1 ct1 kV1 oc2 dc2 pm2 cd2 ct2 kV2 oc3 dc3 pm3 cd3 ct3 kV3 oc4 dc4 pm4 cd4 ct4 kV4 oc5 dc5 pm5 cd5 ct5 kV5 oc6 dc6 pm6 cd6 ct6 kV6 oc7 dc7 pm7 cd7 ct7 kV7 oc8 dc8 pm8 cd8 ct8 kV8 oc9 dc9 pm9 cd9 ct9 oc10 dc10 pm10 cd10 ct10 kV10 oc11 dc11 pm11 cd11 ct11 kV11 oc12 dc12 pm12 cd12 ct12 kV12 oc13 dc13 pm13 cd13 ct13 kV13 oc14 dc14 pm14 cd14 ct14 kV14 oc15 dc15 pm15 cd15 ct15 kV15 oc16 dc16 pm16 cd16 ct16 kV16 oc17 dc17 pm17 cd17 ct17 kV17 : Value} {tk9_above t_DOT t_WHITE t_MOST_ROWS t_MOST_COLUMNS t_MOST t_MOST_HIGH : Tok}
    (a0 : PySem.W.nsIn K mainGlobals "is_number" = some (some (.ref f0)))
    (l0 : K.lookup f0 = some ⟨oc0, od0, .func (PySem.W.fnOf "is_number" "is_number" (defArgs (top 13)) (defBody (top 13)) (defScope (top 13)) .none kV0 dc0 pm0 an0 cd0 ct0), sl0⟩)
    (c0 : PySem.W.codeIn K cd0 "is_number" = true)
    (k0 : PySem.W.keepIn K (.ref f0) = true)
    (a1 : PySem.W.nsIn K mainGlobals "is_row" = some (some (.ref f1)))
    (l1 : K.lookup f1 = some ⟨oc1, od1, .func (PySem.W.fnOf "is_row" "is_row" (defArgs (top 10)) (defBody (top 10)) (defScope (top 10)) .none kV1 dc1 pm1 an1 cd1 ct1), sl1⟩)
    (c1 : PySem.W.codeIn K cd1 "is_row" = true)
    (k1 : PySem.W.keepIn K (.ref f1) = true)
    (a2 : PySem.W.nsIn K mainGlobals "is_picture" = some (some (.ref f2)))
    (l2 : K.lookup f2 = some ⟨oc2, od2, .func (PySem.W.fnOf "is_picture" "is_picture" (defArgs (top 11)) (defBody (top 11)) (defScope (top 11)) .none kV2 dc2 pm2 an2 cd2 ct2), sl2⟩)
    (c2 : PySem.W.codeIn K cd2 "is_picture" = true)
    (k2 : PySem.W.keepIn K (.ref f2) = true)
    (a3 : PySem.W.nsIn K mainGlobals "need_picture" = some (some (.ref f3)))
    (l3 : K.lookup f3 = some ⟨oc3, od3, .func (PySem.W.fnOf "need_picture" "need_picture" (defArgs (top 17)) (defBody (top 17)) (defScope (top 17)) .none kV3 dc3 pm3 an3 cd3 ct3), sl3⟩)
    (c3 : PySem.W.codeIn K cd3 "need_picture" = true)
    (k3 : PySem.W.keepIn K (.ref f3) = true)
    (a4 : PySem.W.nsIn K mainGlobals "rows_within" = some (some (.ref f4)))
    (l4 : K.lookup f4 = some ⟨oc4, od4, .func (PySem.W.fnOf "rows_within" "rows_within" (defArgs (top 18)) (defBody (top 18)) (defScope (top 18)) .none kV4 dc4 pm4 an4 cd4 ct4), sl4⟩)
    (c4 : PySem.W.codeIn K cd4 "rows_within" = true)
    (k4 : PySem.W.keepIn K (.ref f4) = true)
    (a5 : PySem.W.nsIn K mainGlobals "columns_within" = some (some (.ref f5)))
    (l5 : K.lookup f5 = some ⟨oc5, od5, .func (PySem.W.fnOf "columns_within" "columns_within" (defArgs (top 19)) (defBody (top 19)) (defScope (top 19)) .none kV5 dc5 pm5 an5 cd5 ct5), sl5⟩)
    (c5 : PySem.W.codeIn K cd5 "columns_within" = true)
    (k5 : PySem.W.keepIn K (.ref f5) = true)
    (a6 : PySem.W.nsIn K mainGlobals "first_and_last" = some (some (.ref f6)))
    (l6 : K.lookup f6 = some ⟨oc6, od6, .func (PySem.W.fnOf "first_and_last" "first_and_last" (defArgs (top 20)) (defBody (top 20)) (defScope (top 20)) .none kV6 dc6 pm6 an6 cd6 ct6), sl6⟩)
    (c6 : PySem.W.codeIn K cd6 "first_and_last" = true)
    (k6 : PySem.W.keepIn K (.ref f6) = true)
    (a7 : PySem.W.nsIn K mainGlobals "trimmed" = some (some (.ref f7)))
    (l7 : K.lookup f7 = some ⟨oc7, od7, .func (PySem.W.fnOf "trimmed" "trimmed" (defArgs (top 21)) (defBody (top 21)) (defScope (top 21)) .none kV7 dc7 pm7 an7 cd7 ct7), sl7⟩)
    (c7 : PySem.W.codeIn K cd7 "trimmed" = true)
    (k7 : PySem.W.keepIn K (.ref f7) = true)
    (a8 : PySem.W.nsIn K mainGlobals "need_box" = some (some (.ref f8)))
    (l8 : K.lookup f8 = some ⟨oc8, od8, .func (PySem.W.fnOf "need_box" "need_box" (defArgs (top 22)) (defBody (top 22)) (defScope (top 22)) .none kV8 dc8 pm8 an8 cd8 ct8), sl8⟩)
    (c8 : PySem.W.codeIn K cd8 "need_box" = true)
    (k8 : PySem.W.keepIn K (.ref f8) = true)
    (a9 : PySem.W.nsIn K mainGlobals "lines_of" = some (some (.ref f9)))
    (l9 : K.lookup f9 = some ⟨oc9, od9, .func (PySem.W.fnOf "lines_of" "lines_of" (defArgs (top 23)) (defBody (top 23)) (defScope (top 23)) .none (.ref kd9) dc9 pm9 an9 cd9 ct9), sl9⟩)
    (c9 : PySem.W.codeIn K cd9 "lines_of" = true)
    (k9 : PySem.W.keepIn K (.ref f9) = true)
    (d9_above : PySem.W.nsIn K kd9 "above" = some (some (.int 0 tk9_above)))
    (a10 : PySem.W.nsIn K mainGlobals "_law_begun" = some (some (.ref f10)))
    (l10 : K.lookup f10 = some ⟨oc10, od10, .func (PySem.W.fnOf "_law_begun" "_law_begun" (defArgs (top 25)) (defBody (top 25)) (defScope (top 25)) .none kV10 dc10 pm10 an10 cd10 ct10), sl10⟩)
    (c10 : PySem.W.codeIn K cd10 "_law_begun" = true)
    (k10 : PySem.W.keepIn K (.ref f10) = true)
    (a11 : PySem.W.nsIn K mainGlobals "_law_next" = some (some (.ref f11)))
    (l11 : K.lookup f11 = some ⟨oc11, od11, .func (PySem.W.fnOf "_law_next" "_law_next" (defArgs (top 26)) (defBody (top 26)) (defScope (top 26)) .none kV11 dc11 pm11 an11 cd11 ct11), sl11⟩)
    (c11 : PySem.W.codeIn K cd11 "_law_next" = true)
    (k11 : PySem.W.keepIn K (.ref f11) = true)
    (a12 : PySem.W.nsIn K mainGlobals "_law_pick" = some (some (.ref f12)))
    (l12 : K.lookup f12 = some ⟨oc12, od12, .func (PySem.W.fnOf "_law_pick" "_law_pick" (defArgs (top 27)) (defBody (top 27)) (defScope (top 27)) .none kV12 dc12 pm12 an12 cd12 ct12), sl12⟩)
    (c12 : PySem.W.codeIn K cd12 "_law_pick" = true)
    (k12 : PySem.W.keepIn K (.ref f12) = true)
    (a13 : PySem.W.nsIn K mainGlobals "_law_blank" = some (some (.ref f13)))
    (l13 : K.lookup f13 = some ⟨oc13, od13, .func (PySem.W.fnOf "_law_blank" "_law_blank" (defArgs (top 28)) (defBody (top 28)) (defScope (top 28)) .none kV13 dc13 pm13 an13 cd13 ct13), sl13⟩)
    (c13 : PySem.W.codeIn K cd13 "_law_blank" = true)
    (k13 : PySem.W.keepIn K (.ref f13) = true)
    (a14 : PySem.W.nsIn K mainGlobals "_law_told" = some (some (.ref f14)))
    (l14 : K.lookup f14 = some ⟨oc14, od14, .func (PySem.W.fnOf "_law_told" "_law_told" (defArgs (top 29)) (defBody (top 29)) (defScope (top 29)) .none kV14 dc14 pm14 an14 cd14 ct14), sl14⟩)
    (c14 : PySem.W.codeIn K cd14 "_law_told" = true)
    (k14 : PySem.W.keepIn K (.ref f14) = true)
    (a15 : PySem.W.nsIn K mainGlobals "_law_page" = some (some (.ref f15)))
    (l15 : K.lookup f15 = some ⟨oc15, od15, .func (PySem.W.fnOf "_law_page" "_law_page" (defArgs (top 30)) (defBody (top 30)) (defScope (top 30)) .none kV15 dc15 pm15 an15 cd15 ct15), sl15⟩)
    (c15 : PySem.W.codeIn K cd15 "_law_page" = true)
    (k15 : PySem.W.keepIn K (.ref f15) = true)
    (a16 : PySem.W.nsIn K mainGlobals "_law_due" = some (some (.ref f16)))
    (l16 : K.lookup f16 = some ⟨oc16, od16, .func (PySem.W.fnOf "_law_due" "_law_due" (defArgs (top 32)) (defBody (top 32)) (defScope (top 32)) .none kV16 dc16 pm16 an16 cd16 ct16), sl16⟩)
    (c16 : PySem.W.codeIn K cd16 "_law_due" = true)
    (k16 : PySem.W.keepIn K (.ref f16) = true)
    (a17 : PySem.W.nsIn K mainGlobals "law" = some (some (.ref f17)))
    (l17 : K.lookup f17 = some ⟨oc17, od17, .func (PySem.W.fnOf "law" "law" (defArgs (top 33)) (defBody (top 33)) (defScope (top 33)) .none kV17 dc17 pm17 an17 cd17 ct17), sl17⟩)
    (c17 : PySem.W.codeIn K cd17 "law" = true)
    (k17 : PySem.W.keepIn K (.ref f17) = true)
    (z_isinstance : PySem.W.nsIn K mainGlobals "isinstance" = some none)
    (z_int : PySem.W.nsIn K mainGlobals "int" = some none)
    (z_str : PySem.W.nsIn K mainGlobals "str" = some none)
    (z_bool : PySem.W.nsIn K mainGlobals "bool" = some none)
    (z_tuple : PySem.W.nsIn K mainGlobals "tuple" = some none)
    (z_list : PySem.W.nsIn K mainGlobals "list" = some none)
    (z_len : PySem.W.nsIn K mainGlobals "len" = some none)
    (z_all : PySem.W.nsIn K mainGlobals "all" = some none)
    (z_any : PySem.W.nsIn K mainGlobals "any" = some none)
    (z_range : PySem.W.nsIn K mainGlobals "range" = some none)
    (z_enumerate : PySem.W.nsIn K mainGlobals "enumerate" = some none)
    (z_max : PySem.W.nsIn K mainGlobals "max" = some none)
    (z_min : PySem.W.nsIn K mainGlobals "min" = some none)
    (g_DOT : PySem.W.nsIn K mainGlobals "DOT" = some (some (.str ("#" : Str) t_DOT)))
    (g_WHITE : PySem.W.nsIn K mainGlobals "WHITE" = some (some (.str ("." : Str) t_WHITE)))
    (g_MOST_ROWS : PySem.W.nsIn K mainGlobals "MOST_ROWS" = some (some (.int 60 t_MOST_ROWS)))
    (g_MOST_COLUMNS : PySem.W.nsIn K mainGlobals "MOST_COLUMNS" = some (some (.int 120 t_MOST_COLUMNS)))
    (g_MOST : PySem.W.nsIn K mainGlobals "MOST" = some (some (.int 60 t_MOST)))
    (g_MOST_HIGH : PySem.W.nsIn K mainGlobals "MOST_HIGH" = some (some (.int 9 t_MOST_HIGH))) :
    ∃ fd : FuncData, (∀ (s : Shared) (v : Value), BindsTo s fd ⟨[v], []⟩ [("script", v)]) ∧ ∀ base : Heap, K.In base → base.Ns mainGlobals mg → FnOk l.prog w K mg base CX0 7 fa fd ["script"] (spOf K ct_law0) := by
  have e := hfa.symm.trans (PySem.W.mg_of X G a17)
  cases e
  have E : En mg := ⟨PySem.W.mg_none_of X G z_isinstance, PySem.W.mg_none_of X G z_int, PySem.W.mg_none_of X G z_str, PySem.W.mg_none_of X G z_bool, PySem.W.mg_none_of X G z_tuple, PySem.W.mg_none_of X G z_list, PySem.W.mg_none_of X G z_len, PySem.W.mg_none_of X G z_all, PySem.W.mg_none_of X G z_any, PySem.W.mg_none_of X G z_range, PySem.W.mg_none_of X G z_enumerate, PySem.W.mg_none_of X G z_max, PySem.W.mg_none_of X G z_min, ⟨t_DOT, PySem.W.mg_of X G g_DOT⟩, ⟨t_WHITE, PySem.W.mg_of X G g_WHITE⟩, ⟨t_MOST_ROWS, PySem.W.mg_of X G g_MOST_ROWS⟩, ⟨t_MOST_COLUMNS, PySem.W.mg_of X G g_MOST_COLUMNS⟩, ⟨t_MOST, PySem.W.mg_of X G g_MOST⟩, ⟨t_MOST_HIGH, PySem.W.mg_of X G g_MOST_HIGH⟩⟩
  have F0 := fun_mk (st := top 13) l0 c0 k0
  have b0 := F0.binds (ps := ["thing", "low", "high"]) fun _ _ _ _ _ _ us hl => match us, hl with | [_, _, _], _ => rfl
  have F1 := fun_mk (st := top 10) l1 c1 k1
  have b1 := F1.binds (ps := ["thing"]) fun _ _ _ _ _ _ us hl => match us, hl with | [_], _ => rfl
  have F2 := fun_mk (st := top 11) l2 c2 k2
  have b2 := F2.binds (ps := ["thing"]) fun _ _ _ _ _ _ us hl => match us, hl with | [_], _ => rfl
  have F3 := fun_mk (st := top 17) l3 c3 k3
  have b3 := F3.binds (ps := ["thing"]) fun _ _ _ _ _ _ us hl => match us, hl with | [_], _ => rfl
  have F4 := fun_mk (st := top 18) l4 c4 k4
  have b4 := F4.binds (ps := ["picture", "box"]) fun _ _ _ _ _ _ us hl => match us, hl with | [_, _], _ => rfl
  have F5 := fun_mk (st := top 19) l5 c5 k5
  have b5 := F5.binds (ps := ["picture", "box"]) fun _ _ _ _ _ _ us hl => match us, hl with | [_, _], _ => rfl
  have F6 := fun_mk (st := top 20) l6 c6 k6
  have b6 := F6.binds (ps := ["texts"]) fun _ _ _ _ _ _ us hl => match us, hl with | [_], _ => rfl
  have F7 := fun_mk (st := top 21) l7 c7 k7
  have b7 := F7.binds (ps := ["picture", "box"]) fun _ _ _ _ _ _ us hl => match us, hl with | [_, _], _ => rfl
  have F8 := fun_mk (st := top 22) l8 c8 k8
  have b8 := F8.binds (ps := ["picture", "thing"]) fun _ _ _ _ _ _ us hl => match us, hl with | [_, _], _ => rfl
  have F9 := fun_mk (st := top 23) l9 c9 k9
  have F10 := fun_mk (st := top 25) l10 c10 k10
  have b10 := F10.binds (ps := ["cell", "k"]) fun _ _ _ _ _ _ us hl => match us, hl with | [_, _], _ => rfl
  have F11 := fun_mk (st := top 26) l11 c11 k11
  have b11 := F11.binds (ps := ["draw", "below"]) fun _ _ _ _ _ _ us hl => match us, hl with | [_, _], _ => rfl
  have F12 := fun_mk (st := top 27) l12 c12 k12
  have b12 := F12.binds (ps := ["draw", "some"]) fun _ _ _ _ _ _ us hl => match us, hl with | [_, _], _ => rfl
  have F13 := fun_mk (st := top 28) l13 c13 k13
  have b13 := F13.binds (ps := ["deep", "wide"]) fun _ _ _ _ _ _ us hl => match us, hl with | [_, _], _ => rfl
  have F14 := fun_mk (st := top 29) l14 c14 k14
  have b14 := F14.binds (ps := ["page"]) fun _ _ _ _ _ _ us hl => match us, hl with | [_], _ => rfl
  have F15 := fun_mk (st := top 30) l15 c15 k15
  have b15 := F15.binds (ps := ["draw"]) fun _ _ _ _ _ _ us hl => match us, hl with | [_], _ => rfl
  have F16 := fun_mk (st := top 32) l16 c16 k16
  have b16 := F16.binds (ps := ["picture", "box", "tall", "far", "lead"]) fun _ _ _ _ _ _ us hl => match us, hl with | [_, _, _, _, _], _ => rfl
  have F17 := fun_mk (st := top 33) l17 c17 k17
  have b17 := F17.binds (ps := ["script"]) fun _ _ _ _ _ _ us hl => match us, hl with | [_], _ => rfl
  refine ⟨PySem.W.fnOf "law" "law" (defArgs (top 33)) (defBody (top 33)) (defScope (top 33)) .none kV17 dc17 pm17 an17 cd17 ct17, fun s v => .of_eq rfl, fun base _ _ => ?_⟩
  · 
    have Cnum : Cl l.prog w K mg base "is_number" 3 1 ct_num := cl_of F0 (PySem.W.mg_of X G a0) (ok_num E F0) b0
    have Cnumy := cly_cl Cnum
    have Crow : Cl l.prog w K mg base "is_row" 1 1 ct_row := cl_of F1 (PySem.W.mg_of X G a1) (ok_row E F1) b1
    have Crowy := cly_cl Crow
    have Cpic : Cl l.prog w K mg base "is_picture" 1 4 ct_pic := cl_of F2 (PySem.W.mg_of X G a2) (ok_pic E Crow F2) b2
    have Cpicy := cly_cl Cpic
    have Cneedp : Cl l.prog w K mg base "need_picture" 1 5 ct_needp := cl_of F3 (PySem.W.mg_of X G a3) (ok_needp Cpic F3) b3
    have Cneedpy := cly_cl Cneedp
    have Crw : Cl l.prog w K mg base "rows_within" 2 1 ct_rowsW := cl_of F4 (PySem.W.mg_of X G a4) (ok_rowsW F4) b4
    have Crwy := cly_cl Crw
    have Ccw : Cl l.prog w K mg base "columns_within" 2 2 ct_colsW := cl_of F5 (PySem.W.mg_of X G a5) (ok_colsW E Crw F5) b5
    have Ccwy := cly_cl Ccw
    have Cfal : Cl l.prog w K mg base "first_and_last" 1 1 ct_fal := cl_of F6 (PySem.W.mg_of X G a6) (ok_fal E F6) b6
    have Cfaly := cly_cl Cfal
    have Ctr : Cl l.prog w K mg base "trimmed" 2 3 ct_trim := cl_of F7 (PySem.W.mg_of X G a7) (ok_trim Crw Ccw Cfal F7) b7
    have Ctry := cly_cl Ctr
    have Cnb : Cl l.prog w K mg base "need_box" 2 2 ct_needb := cl_of F8 (PySem.W.mg_of X G a8) (ok_needb E Cnum F8) b8
    have Cnby := cly_cl Cnb
    have G_Cl3 := fnok_cn (ok_lines E Cnum Cneedp Cnb Ctr F9)
    have Cl3 : ClYK l.prog w K mg base "lines_of" 2 6 ["high", "pitch", "above"] (fun vs zs => vs ++ zs) (ct_lines).cn := ⟨_, _, _, _, G_Cl3, PySem.W.mg_of X G a9, k9, kb_all F9 2 ["high", "pitch", "above"] (fun us ws => us ++ ws) (fun h h' => Vals.append h h') fun _ _ _ _ _ _ us ws h1 h2 => match us, ws, h1, h2 with | [_, _], [_, _, _], _, _ => rfl⟩
    have G_Cl2 := fnok_cn (ok_lines E Cnum Cneedp Cnb Ctr F9)
    obtain ⟨mv_Cl2, kb_Cl2⟩ := kb_dfl (ps := ["picture", "box", "high", "pitch", "above"]) F9 (kws := [("above", .int 0)]) (fun lk => by rw [l9] at lk; cases lk; exact ⟨_, rfl, fun q hq => by simp at hq; subst hq; exact ⟨_, d9_above, _, rfl⟩⟩) 2 ["pitch", "high"] (fun us mv ws => us ++ ws.reverse ++ mv) (fun h h2 h3 => Vals.append (Vals.append h (valsRev h3)) h2) fun _ _ _ _ _ _ us mv ws h1 h2 h3 => match us, mv, ws, h1, h2, h3 with | [_, _], [_], [_, _], _, _, _ => by (refine ⟨_, _, _, _, _, _, rfl, rfl, ?_⟩; show _ = pure _; rfl)
    have Cl2 : ClYK l.prog w K mg base "lines_of" 2 6 ["pitch", "high"] (fun vs zs => vs ++ zs.reverse ++ [.int 0]) (ct_lines).cn := ⟨_, _, _, _, G_Cl2, PySem.W.mg_of X G a9, k9, kb_Cl2⟩
    have Cbe : Cl l.prog w K mg base "_law_begun" 2 1 ct_begun := cl_of F10 (PySem.W.mg_of X G a10) (ok_begun E F10) b10
    have Cbey := cly_cl Cbe
    have Cne : Cl l.prog w K mg base "_law_next" 2 1 ct_next := cl_of F11 (PySem.W.mg_of X G a11) (ok_next F11) b11
    have Cney := cly_cl Cne
    have Cpk : Cl l.prog w K mg base "_law_pick" 2 2 ct_pick := cl_of F12 (PySem.W.mg_of X G a12) (ok_pick E Cne F12) b12
    have Cpky := cly_cl Cpk
    have Cbl : Cl l.prog w K mg base "_law_blank" 2 1 ct_blank := cl_of F13 (PySem.W.mg_of X G a13) (ok_blank E F13) b13
    have Cbly := cly_cl Cbl
    have Cto : Cl l.prog w K mg base "_law_told" 1 1 ct_told := cl_of F14 (PySem.W.mg_of X G a14) (ok_told E F14) b14
    have Ctoy := cly_cl Cto
    have Cpg : ClY l.prog w K mg base "_law_page" 1 3 ct_page := cly_of F15 (PySem.W.mg_of X G a15) (ok_page E Cney Cpky Cbly Ctoy F15) b15
    have Cdu : ClY l.prog w K mg base "_law_due" 5 1 ct_due := cly_of F16 (PySem.W.mg_of X G a16) (ok_due E F16) b16
    exact law_old (ok_law E Cbey Cney Cpky Cpg Cdu Cl3 Cl2 F17)
theorem walk {l : PySem.W.OpenLaw} {q : Program} {loose : List Str} {XP : (Str → Option Value) → Heap → Prop} {YP : World → Heap → Prop} {d : DefRec} {K : Params → PySem.W.Frag} (hn : l.most = some 63) (hdf : d.params.defaults = [])
    (hY : ∀ (w : World) (h : Heap), YP w h → (K w.params).In h)
    (F : ∀ (w : World) (mg : Str → Option Value) (fa : Addr) (h : Heap), (K w.params).In h → h.Ns mainGlobals mg → mg d.name = some (.ref fa) →
      ∃ fd : FuncData, (∀ (s : Shared) (u : Value), BindsTo s fd ⟨[u], []⟩ [("script", u)]) ∧ ∀ base : Heap, (K w.params).In base → base.Ns mainGlobals mg → FnOk l.prog w (K w.params) mg base CX0 7 fa fd ["script"] (spOf (K w.params) ct_law0)) :
    PySem.W.WalkO q loose XP YP l.row.toRowW d [] (fun f vs => PySem.call f vs) :=
  L2.walk_of (n := 63) (k := 7) (x := "script") (CX := fun _ => CX0) (sp := fun w => spOf (K w.params) ct_law0) hn (by decide) hdf ⟨by decide, by decide, by decide⟩ hY F (fun _ _ a ns hl _ hS => law_sp hl hS) fun _ _ _ _ _ z => z
end K39
open PySem PySem.W PyProof.Rows in
set_option maxRecDepth 100000 in
set_option maxHeartbeats 0 in
theorem PySem.Challenge.cw_dotread_k39_lines_in_boxes_holds : PySem.Challenge.rw_dotread_k39_lines_in_boxes.Holds := by
  w_on; o_law; k_head; (case hw => w_witness2)
  k_fill
  refine K39.walk (l := PySem.Challenge.rw_dotread_k39_lines_in_boxes) rfl rfl (fun w h Y => PySem.W.kIn_of Y) ?F
  case F =>
    intro w mg fa h KX G hmg
    refine' K39.all_mk KX G hmg ?a0 ?l0 ?c0 ?k0 ?a1 ?l1 ?c1 ?k1 ?a2 ?l2 ?c2 ?k2 ?a3 ?l3 ?c3 ?k3 ?a4 ?l4 ?c4 ?k4 ?a5 ?l5 ?c5 ?k5 ?a6 ?l6 ?c6 ?k6 ?a7 ?l7 ?c7 ?k7 ?a8 ?l8 ?c8 ?k8 ?a9 ?l9 ?c9 ?k9 ?d9_above ?a10 ?l10 ?c10 ?k10 ?a11 ?l11 ?c11 ?k11 ?a12 ?l12 ?c12 ?k12 ?a13 ?l13 ?c13 ?k13 ?a14 ?l14 ?c14 ?k14 ?a15 ?l15 ?c15 ?k15 ?a16 ?l16 ?c16 ?k16 ?a17 ?l17 ?c17 ?k17 ?z_isinstance ?z_int ?z_str ?z_bool ?z_tuple ?z_list ?z_len ?z_all ?z_any ?z_range ?z_enumerate ?z_max ?z_min ?g_DOT ?g_WHITE ?g_MOST_ROWS ?g_MOST_COLUMNS ?g_MOST ?g_MOST_HIGH
    (case a0 => k_is)
    (case l0 => k_is)
    (case c0 => k_is)
    (case k0 => k_is)
    (case a1 => k_is)
    (case l1 => k_is)
    (case c1 => k_is)
    (case k1 => k_is)
    (case a2 => k_is)
    (case l2 => k_is)
    (case c2 => k_is)
    (case k2 => k_is)
    (case a3 => k_is)
    (case l3 => k_is)
    (case c3 => k_is)
    (case k3 => k_is)
    (case a4 => k_is)
    (case l4 => k_is)
    (case c4 => k_is)
    (case k4 => k_is)
    (case a5 => k_is)
    (case l5 => k_is)
    (case c5 => k_is)
    (case k5 => k_is)
    (case a6 => k_is)
    (case l6 => k_is)
    (case c6 => k_is)
    (case k6 => k_is)
    (case a7 => k_is)
    (case l7 => k_is)
    (case c7 => k_is)
    (case k7 => k_is)
    (case a8 => k_is)
    (case l8 => k_is)
    (case c8 => k_is)
    (case k8 => k_is)
    (case a9 => k_is)
    (case l9 => k_is)
    (case c9 => k_is)
    (case k9 => k_is)
    (case d9_above => k_is)
    (case a10 => k_is)
    (case l10 => k_is)
    (case c10 => k_is)
    (case k10 => k_is)
    (case a11 => k_is)
    (case l11 => k_is)
    (case c11 => k_is)
    (case k11 => k_is)
    (case a12 => k_is)
    (case l12 => k_is)
    (case c12 => k_is)
    (case k12 => k_is)
    (case a13 => k_is)
    (case l13 => k_is)
    (case c13 => k_is)
    (case k13 => k_is)
    (case a14 => k_is)
    (case l14 => k_is)
    (case c14 => k_is)
    (case k14 => k_is)
    (case a15 => k_is)
    (case l15 => k_is)
    (case c15 => k_is)
    (case k15 => k_is)
    (case a16 => k_is)
    (case l16 => k_is)
    (case c16 => k_is)
    (case k16 => k_is)
    (case a17 => k_is)
    (case l17 => k_is)
    (case c17 => k_is)
    (case k17 => k_is)
    (case z_isinstance => k_is)
    (case z_int => k_is)
    (case z_str => k_is)
    (case z_bool => k_is)
    (case z_tuple => k_is)
    (case z_list => k_is)
    (case z_len => k_is)
    (case z_all => k_is)
    (case z_any => k_is)
    (case z_range => k_is)
    (case z_enumerate => k_is)
    (case z_max => k_is)
    (case z_min => k_is)
    (case g_DOT => k_is)
    (case g_WHITE => k_is)
    (case g_MOST_ROWS => k_is)
    (case g_MOST_COLUMNS => k_is)
    (case g_MOST => k_is)
    (case g_MOST_HIGH => k_is)
