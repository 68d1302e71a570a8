import PyProof.Rows.All
import Wide.All
import OpenK.AllK
import Wide.FinOn
import HandS.ForMost
import HandS.ForExc
import HandS.IsInst
import HandS.TupAny
import HandS.TupMul
import HandS.Deep
import HandS.Wide
import HandS.StrMore
import HandS.Conv
import HandS.DeepEq
import HandS.Flow
import HandS.Style
import HandS.Walk
import HandS.Zip
import KE.GoesEnum
import PySem.Challenge.RW_dotread_k12_fits_of_windows
set_option Elab.async false
set_option linter.all false
set_option maxRecDepth 100000
set_option maxHeartbeats 4000001
/-! The data layer: values as trees, owned objects apart from frozen ones; expressions and statements as steps from one such state to the next. -/
namespace Q
open PySem L2

def mk (l : List Nat) : Str := ⟨l.toArray⟩
theorem mk_cps (l : List Nat) : (mk l).cps.toList = l := by simp [mk]
theorem mk_of (s : Str) : s = mk s.cps.toList := by cases s; simp [mk]
theorem mk_inj {a b : List Nat} (h : mk a = mk b) : a = b := by
  have := congrArg (fun s : Str => s.cps.toList) h
  simpa [mk] using this
theorem mk_len (l : List Nat) : (mk l).length = l.length := by
  show (mk l).cps.size = l.length
  simp [mk]

/-- data: what never changes again -/
inductive D where
  | non | bl (b : Bool) | int (i : Int) | str (l : List Nat)
  | lst (ds : List D) | tup (ds : List D)
  | rl (ds : List D)
  | ins (C : Addr) (ns : List Str) (ds : List D)
  | val (v : V)

mutual
def Rep (K : PySem.W.Frag) (F : Hp) : D → V → Prop
  | .non, v => v = .non
  | .bl b, v => v = .bl b
  | .int i, v => v = .int i
  | .str l, v => v = .str (mk l)
  | .lst ds, v => ∃ a xs, v = .ref a ∧ F a = some (.lst xs) ∧ Reps K F ds xs
  | .tup ds, v => ∃ a xs, v = .ref a ∧ SqT K F a xs ∧ Reps K F ds xs
  | .rl ds, v => ∃ a xs, v = .ref a ∧ SqL K F a xs ∧ Reps K F ds xs
  | .ins C ns ds, v => ∃ a dx xs, v = .ref a ∧ F a = some (.ins C dx (ns.zip xs)) ∧ ns.length = xs.length ∧ Reps K F ds xs
  | .val w, v => v = w
def Reps (K : PySem.W.Frag) (F : Hp) : List D → List V → Prop
  | [], xs => xs = []
  | d :: ds, xs => ∃ v vs, xs = v :: vs ∧ Rep K F d v ∧ Reps K F ds vs
end

theorem same_t {K : PySem.W.Frag} {H H' : Hp} {a : Addr} {xs : List V} (e : Same H H') (h : SqT K H a xs) : SqT K H' a xs := by
  rcases h with (h | ⟨o, h⟩) | h
  · exact .inl (.inl (e _ _ h))
  · exact .inl (.inr ⟨o, e _ _ h⟩)
  · exact .inr h

mutual
theorem Rep.mono {K : PySem.W.Frag} {F F' : Hp} (e : Same F F') : ∀ (d : D) (v : V), Rep K F d v → Rep K F' d v
  | .non, _, h => h
  | .bl _, _, h => h
  | .int _, _, h => h
  | .str _, _, h => h
  | .val _, _, h => h
  | .lst ds, _, ⟨a, xs, h1, h2, h3⟩ => ⟨a, xs, h1, e _ _ h2, Reps.mono e ds xs h3⟩
  | .tup ds, _, ⟨a, xs, h1, h2, h3⟩ => ⟨a, xs, h1, same_t e h2, Reps.mono e ds xs h3⟩
  | .rl ds, _, ⟨a, xs, h1, h2, h3⟩ => ⟨a, xs, h1, e.seq h2, Reps.mono e ds xs h3⟩
  | .ins _ _ ds, _, ⟨a, dx, xs, h1, h2, h3, h4⟩ => ⟨a, dx, xs, h1, e _ _ h2, h3, Reps.mono e ds xs h4⟩
theorem Reps.mono {K : PySem.W.Frag} {F F' : Hp} (e : Same F F') : ∀ (ds : List D) (xs : List V), Reps K F ds xs → Reps K F' ds xs
  | [], _, h => h
  | d :: ds, _, ⟨v, vs, h1, h2, h3⟩ => ⟨v, vs, h1, Rep.mono e d v h2, Reps.mono e ds vs h3⟩
end

section
variable {K : PySem.W.Frag} {F : Hp}
theorem Reps.len : ∀ {ds : List D} {xs : List V}, Reps K F ds xs → xs.length = ds.length
  | [], _, h => by cases h; rfl
  | _ :: _, _, ⟨_, _, h, _, h3⟩ => by cases h; simp [Reps.len h3]
theorem Reps.get : ∀ {ds : List D} {xs : List V} {i : Nat} {d : D}, Reps K F ds xs → ds[i]? = some d → ∃ v, xs[i]? = some v ∧ Rep K F d v
  | [], _, _, _, _, e => by simp at e
  | _ :: _, _, 0, _, ⟨v, _, h, h2, _⟩, e => by
    cases h
    simp at e; subst e
    exact ⟨v, rfl, h2⟩
  | _ :: _, _, i + 1, _, ⟨_, _, h, _, h3⟩, e => by
    cases h
    obtain ⟨w, h4, h5⟩ := Reps.get (i := i) h3 (by simpa using e)
    exact ⟨w, by simpa using h4, h5⟩
theorem Reps.append : ∀ {ds es : List D} {xs ys : List V}, Reps K F ds xs → Reps K F es ys → Reps K F (ds ++ es) (xs ++ ys)
  | [], _, _, _, h, h' => by cases h; exact h'
  | _ :: _, _, _, _, ⟨v, vs, h, h2, h3⟩, h' => by
    cases h
    exact ⟨v, vs ++ _, rfl, h2, Reps.append h3 h'⟩
theorem Reps.one {d : D} {v : V} (h : Rep K F d v) : Reps K F [d] [v] := ⟨v, [], rfl, h, rfl⟩
theorem Reps.set : ∀ {ds : List D} {xs : List V} {d : D} {v : V} (i : Nat), Reps K F ds xs → Rep K F d v → Reps K F (ds.set i d) (xs.set i v)
  | [], _, _, _, _, h, _ => by cases h; rfl
  | _ :: _, _, _, _, 0, ⟨_, vs, h, _, h3⟩, q => by cases h; exact ⟨_, vs, rfl, q, h3⟩
  | _ :: _, _, _, _, i + 1, ⟨w, vs, h, h2, h3⟩, q => by cases h; exact ⟨w, _, rfl, h2, Reps.set i h3 q⟩
theorem Reps.take : ∀ {ds : List D} {xs : List V} (n : Nat), Reps K F ds xs → Reps K F (ds.take n) (xs.take n)
  | _, _, 0, _ => rfl
  | [], _, _ + 1, h => by cases h; rfl
  | _ :: _, _, n + 1, ⟨w, vs, h, h2, h3⟩ => by cases h; exact ⟨w, _, rfl, h2, Reps.take n h3⟩
theorem Reps.drop : ∀ {ds : List D} {xs : List V} (n : Nat), Reps K F ds xs → Reps K F (ds.drop n) (xs.drop n)
  | _, _, 0, h => h
  | [], _, _ + 1, h => by cases h; rfl
  | _ :: _, _, n + 1, ⟨w, vs, h, h2, h3⟩ => by cases h; exact Reps.drop n h3
theorem Reps.reverse : ∀ {ds : List D} {xs : List V}, Reps K F ds xs → Reps K F ds.reverse xs.reverse
  | [], _, h => by cases h; rfl
  | _ :: _, _, ⟨w, vs, h, h2, h3⟩ => by
    cases h
    rw [List.reverse_cons, List.reverse_cons]
    exact (Reps.reverse h3).append (.one h2)
theorem Reps.rep {ds : List D} {xs : List V} (h : Reps K F ds xs) : ∀ k : Nat, Reps K F (List.replicate k ds).flatten (List.replicate k xs).flatten
  | 0 => rfl
  | k + 1 => by
    rw [List.replicate_succ, List.replicate_succ, List.flatten_cons, List.flatten_cons]
    exact h.append (Reps.rep h k)
theorem Reps.erase : ∀ {ds : List D} {xs : List V} (i : Nat), Reps K F ds xs → Reps K F (ds.eraseIdx i) (xs.eraseIdx i)
  | [], _, _, h => by cases h; rfl
  | _ :: _, _, 0, ⟨_, vs, h, _, h3⟩ => by cases h; exact h3
  | _ :: _, _, i + 1, ⟨w, vs, h, h2, h3⟩ => by cases h; exact ⟨w, _, rfl, h2, Reps.erase i h3⟩
theorem Reps.dropLast : ∀ {ds : List D} {xs : List V}, Reps K F ds xs → Reps K F ds.dropLast xs.dropLast
  | [], _, h => by cases h; rfl
  | [_], _, ⟨_, _, h, _, h3⟩ => by cases h; cases h3; rfl
  | _ :: d :: ds, _, ⟨w, vs, h, h2, h3⟩ => by
    cases h
    obtain ⟨w', vs', rfl, h5, h6⟩ := id h3
    exact ⟨w, _, rfl, h2, Reps.dropLast h3⟩
theorem Reps.ints : ∀ {is : List Int} {xs : List V}, Reps K F (is.map D.int) xs → xs = is.map V.int
  | [], _, h => h
  | _ :: _, _, ⟨_, _, h, h2, h3⟩ => by cases h; cases h2; rw [Reps.ints h3]; rfl
theorem Reps.bls : ∀ {is : List Bool} {xs : List V}, Reps K F (is.map D.bl) xs → xs = is.map V.bl
  | [], _, h => h
  | _ :: _, _, ⟨_, _, h, h2, h3⟩ => by cases h; cases h2; rw [Reps.bls h3]; rfl
theorem Reps.strs : ∀ {is : List (List Nat)} {xs : List V}, Reps K F (is.map D.str) xs → xs = (is.map mk).map V.str
  | [], _, h => h
  | _ :: _, _, ⟨_, _, h, h2, h3⟩ => by cases h; cases h2; rw [Reps.strs h3]; rfl
theorem Reps.ofInts : ∀ (is : List Int), Reps K F (is.map D.int) (is.map V.int)
  | [] => rfl
  | _ :: is => ⟨_, _, rfl, rfl, Reps.ofInts is⟩
theorem Reps.ofStrs : ∀ (is : List (List Nat)), Reps K F (is.map D.str) ((is.map mk).map V.str)
  | [] => rfl
  | _ :: is => ⟨_, _, rfl, rfl, Reps.ofStrs is⟩
end

/-- owned trees: objects that may still change, apart from one another -/
inductive T where
  | fz (d : D)
  | fl (ds : List D)
  | lst (ts : List T)
  | dk (ks : List Key) (ts : List T)
  | dt (ks : List (List Key)) (ts : List T)
  | ins (C : Addr) (ns : List Str) (ts : List T)
  | ob (C : Addr) (ns : List Str) (ds : List D)

mutual
def Own (K : PySem.W.Frag) (H F : Hp) : T → V → List Addr → Prop
  | .fz d, v, as => Rep K F d v ∧ as = []
  | .fl ds, v, as => ∃ a xs, v = .ref a ∧ H a = some (.lst xs) ∧ Reps K F ds xs ∧ as = [a]
  | .lst ts, v, as => ∃ a xs bs, v = .ref a ∧ H a = some (.lst xs) ∧ Owns K H F ts xs bs ∧ as = a :: bs
  | .dk ks ts, v, as => ∃ a xs bs, v = .ref a ∧ H a = some (.dK (ks.zip xs)) ∧ ks.length = xs.length ∧ Owns K H F ts xs bs ∧ as = a :: bs
  | .dt ks ts, v, as => ∃ a xs bs, v = .ref a ∧ H a = some (.dT (ks.zip xs)) ∧ ks.length = xs.length ∧ Owns K H F ts xs bs ∧ as = a :: bs
  | .ins C ns ts, v, as => ∃ a dx xs bs, v = .ref a ∧ H a = some (.ins C dx (ns.zip xs)) ∧ ns.length = xs.length ∧ Owns K H F ts xs bs ∧ as = a :: bs
  | .ob C ns ds, v, as => ∃ a dx xs, v = .ref a ∧ H a = some (.ins C dx (ns.zip xs)) ∧ ns.length = xs.length ∧ Reps K F ds xs ∧ as = [a]
def Owns (K : PySem.W.Frag) (H F : Hp) : List T → List V → List Addr → Prop
  | [], vs, as => vs = [] ∧ as = []
  | t :: ts, vs, as => ∃ v ws bs cs, vs = v :: ws ∧ Own K H F t v bs ∧ Owns K H F ts ws cs ∧ as = bs ++ cs
end

mutual
theorem Own.there {K : PySem.W.Frag} {H F : Hp} : ∀ (t : T) (v : V) (as : List Addr), Own K H F t v as → ∀ a ∈ as, H a ≠ none
  | .fz _, _, _, ⟨_, e⟩, a, ha => by subst e; cases ha
  | .fl _, _, _, ⟨b, xs, _, h, _, e⟩, a, ha => by
    subst e
    simp at ha; subst ha
    rw [h]; exact fun z => nomatch z
  | .lst ts, _, _, ⟨b, xs, bs, _, h, h2, e⟩, a, ha => by
    subst e
    rcases List.mem_cons.mp ha with rfl | ha
    · rw [h]; exact fun z => nomatch z
    · exact Owns.there ts xs bs h2 a ha
  | .dk _ ts, _, _, ⟨b, xs, bs, _, h, _, h2, e⟩, a, ha => by
    subst e
    rcases List.mem_cons.mp ha with rfl | ha
    · rw [h]; exact fun z => nomatch z
    · exact Owns.there ts xs bs h2 a ha
  | .dt _ ts, _, _, ⟨b, xs, bs, _, h, _, h2, e⟩, a, ha => by
    subst e
    rcases List.mem_cons.mp ha with rfl | ha
    · rw [h]; exact fun z => nomatch z
    · exact Owns.there ts xs bs h2 a ha
  | .ins _ _ ts, _, _, ⟨b, _, xs, bs, _, h, _, h2, e⟩, a, ha => by
    subst e
    rcases List.mem_cons.mp ha with rfl | ha
    · rw [h]; exact fun z => nomatch z
    · exact Owns.there ts xs bs h2 a ha
  | .ob _ _ _, _, _, ⟨b, _, xs, _, h, _, _, e⟩, a, ha => by
    subst e
    simp at ha; subst ha
    rw [h]; exact fun z => nomatch z
theorem Owns.there {K : PySem.W.Frag} {H F : Hp} : ∀ (ts : List T) (vs : List V) (as : List Addr), Owns K H F ts vs as → ∀ a ∈ as, H a ≠ none
  | [], _, _, ⟨_, e⟩, a, ha => by subst e; cases ha
  | t :: ts, _, _, ⟨v, ws, bs, cs, _, h1, h2, e⟩, a, ha => by
    subst e
    rcases List.mem_append.mp ha with ha | ha
    · exact Own.there t v bs h1 a ha
    · exact Owns.there ts ws cs h2 a ha
end

mutual
/-- the owned objects are kept, what is frozen stays -/
theorem Own.keep {K : PySem.W.Frag} {H F H' F' : Hp} (e : Same F F') : ∀ (t : T) (v : V) (as : List Addr), (∀ a ∈ as, ∀ o, H a = some o → H' a = some o) → Own K H F t v as → Own K H' F' t v as
  | .fz d, v, _, _, ⟨h, h2⟩ => ⟨Rep.mono e d v h, h2⟩
  | .fl ds, _, _, k, ⟨b, xs, h1, h, h2, h3⟩ => ⟨b, xs, h1, k b (by rw [h3]; exact List.mem_cons_self) _ h, Reps.mono e ds xs h2, h3⟩
  | .lst ts, _, _, k, ⟨b, xs, bs, h1, h, h2, h3⟩ => ⟨b, xs, bs, h1, k b (by rw [h3]; exact List.mem_cons_self) _ h, Owns.keep e ts xs bs (fun a ha => k a (by rw [h3]; exact List.mem_cons_of_mem _ ha)) h2, h3⟩
  | .dk _ ts, _, _, k, ⟨b, xs, bs, h1, h, h4, h2, h3⟩ => ⟨b, xs, bs, h1, k b (by rw [h3]; exact List.mem_cons_self) _ h, h4, Owns.keep e ts xs bs (fun a ha => k a (by rw [h3]; exact List.mem_cons_of_mem _ ha)) h2, h3⟩
  | .dt _ ts, _, _, k, ⟨b, xs, bs, h1, h, h4, h2, h3⟩ => ⟨b, xs, bs, h1, k b (by rw [h3]; exact List.mem_cons_self) _ h, h4, Owns.keep e ts xs bs (fun a ha => k a (by rw [h3]; exact List.mem_cons_of_mem _ ha)) h2, h3⟩
  | .ins _ _ ts, _, _, k, ⟨b, dx, xs, bs, h1, h, h4, h2, h3⟩ => ⟨b, dx, xs, bs, h1, k b (by rw [h3]; exact List.mem_cons_self) _ h, h4, Owns.keep e ts xs bs (fun a ha => k a (by rw [h3]; exact List.mem_cons_of_mem _ ha)) h2, h3⟩
  | .ob _ _ ds, _, _, k, ⟨b, dx, xs, h1, h, h4, h2, h3⟩ => ⟨b, dx, xs, h1, k b (by rw [h3]; exact List.mem_cons_self) _ h, h4, Reps.mono e ds xs h2, h3⟩
theorem Owns.keep {K : PySem.W.Frag} {H F H' F' : Hp} (e : Same F F') : ∀ (ts : List T) (vs : List V) (as : List Addr), (∀ a ∈ as, ∀ o, H a = some o → H' a = some o) → Owns K H F ts vs as → Owns K H' F' ts vs as
  | [], _, _, _, h => h
  | t :: ts, _, _, k, ⟨v, ws, bs, cs, h1, h2, h3, h4⟩ => ⟨v, ws, bs, cs, h1, Own.keep e t v bs (fun a ha => k a (by rw [h4]; exact List.mem_append_left _ ha)) h2, Owns.keep e ts ws cs (fun a ha => k a (by rw [h4]; exact List.mem_append_right _ ha)) h3, h4⟩
end

mutual
/-- a tree as data, once it is frozen -/
def T.fr : T → D
  | .fz d => d
  | .fl ds => .lst ds
  | .lst ts => .lst (T.frs ts)
  | .dk _ _ => .non
  | .dt _ _ => .non
  | .ins C ns ts => .ins C ns (T.frs ts)
  | .ob C ns ds => .ins C ns ds
def T.frs : List T → List D
  | [] => []
  | t :: ts => t.fr :: T.frs ts
end
mutual
/-- it can be frozen: no dicts -/
def T.ok : T → Bool
  | .fz _ => true
  | .fl _ => true
  | .lst ts => T.oks ts
  | .dk _ _ => false
  | .dt _ _ => false
  | .ins _ _ ts => T.oks ts
  | .ob _ _ _ => true
def T.oks : List T → Bool
  | [] => true
  | t :: ts => t.ok && T.oks ts
end

mutual
theorem Own.fr {K : PySem.W.Frag} {H F G : Hp} (e : Same F G) : ∀ (t : T) (v : V) (as : List Addr), t.ok = true → (∀ a ∈ as, ∀ o, H a = some o → G a = some o) → Own K H F t v as → Rep K G t.fr v
  | .fz d, v, _, _, _, ⟨h, _⟩ => Rep.mono e d v h
  | .fl ds, _, _, _, k, ⟨b, xs, h1, h, h2, h3⟩ => ⟨b, xs, h1, k b (by rw [h3]; exact List.mem_cons_self) _ h, Reps.mono e ds xs h2⟩
  | .lst ts, _, _, o, k, ⟨b, xs, bs, h1, h, h2, h3⟩ => ⟨b, xs, h1, k b (by rw [h3]; exact List.mem_cons_self) _ h, Owns.fr e ts xs bs o (fun a ha => k a (by rw [h3]; exact List.mem_cons_of_mem _ ha)) h2⟩
  | .dk _ _, _, _, o, _, _ => nomatch o
  | .dt _ _, _, _, o, _, _ => nomatch o
  | .ins _ _ ts, _, _, o, k, ⟨b, dx, xs, bs, h1, h, h4, h2, h3⟩ => ⟨b, dx, xs, h1, k b (by rw [h3]; exact List.mem_cons_self) _ h, h4, Owns.fr e ts xs bs o (fun a ha => k a (by rw [h3]; exact List.mem_cons_of_mem _ ha)) h2⟩
  | .ob _ _ ds, _, _, _, k, ⟨b, dx, xs, h1, h, h4, h2, h3⟩ => ⟨b, dx, xs, h1, k b (by rw [h3]; exact List.mem_cons_self) _ h, h4, Reps.mono e ds xs h2⟩
theorem Owns.fr {K : PySem.W.Frag} {H F G : Hp} (e : Same F G) : ∀ (ts : List T) (vs : List V) (as : List Addr), T.oks ts = true → (∀ a ∈ as, ∀ o, H a = some o → G a = some o) → Owns K H F ts vs as → Reps K G (T.frs ts) vs
  | [], _, _, _, _, ⟨h, _⟩ => h
  | t :: ts, _, _, o, k, ⟨v, ws, bs, cs, h1, h2, h3, h4⟩ => by
    have o' : (t.ok && T.oks ts) = true := o
    rw [Bool.and_eq_true] at o'
    exact ⟨v, ws, h1, Own.fr e t v bs o'.1 (fun a ha => k a (by rw [h4]; exact List.mem_append_left _ ha)) h2, Owns.fr e ts ws cs o'.2 (fun a ha => k a (by rw [h4]; exact List.mem_append_right _ ha)) h3⟩
end
end Q
namespace Q
open PySem L2

/-- what a slot holds: nothing known, data, an owned object by its number -/
inductive Sl where
  | un | d (d : D) | o (k : Nat)
/-- a state: the slots, the owned objects -/
structure S where
  ρ : List Sl
  μ : List T

def SlOk (K : PySem.W.Frag) (F : Hp) (rs : List V) : Sl → Option V → Prop
  | .un, _ => True
  | .d d, x => ∃ v, x = some v ∧ Rep K F d v
  | .o k, x => ∃ v, x = some v ∧ rs[k]? = some v
def Slots (K : PySem.W.Frag) (F : Hp) (rs : List V) : List Sl → St → Prop
  | [], σ => σ = []
  | p :: ρ, σ => ∃ x σ', σ = x :: σ' ∧ SlOk K F rs p x ∧ Slots K F rs ρ σ'
section
variable {K : PySem.W.Frag} {F F' : Hp} {rs rs' : List V}
theorem SlOk.mono (e : Same F F') (hr : ∀ (k : Nat) v, rs[k]? = some v → rs'[k]? = some v) : ∀ {p : Sl} {x : Option V}, SlOk K F rs p x → SlOk K F' rs' p x
  | .un, _, _ => trivial
  | .d d, _, ⟨v, h, q⟩ => ⟨v, h, Rep.mono e d v q⟩
  | .o k, _, ⟨v, h, q⟩ => ⟨v, h, hr k v q⟩
theorem Slots.mono (e : Same F F') (hr : ∀ (k : Nat) v, rs[k]? = some v → rs'[k]? = some v) : ∀ {ρ : List Sl} {σ : St}, Slots K F rs ρ σ → Slots K F' rs' ρ σ
  | [], _, h => h
  | _ :: _, _, ⟨x, σ', h, h2, h3⟩ => ⟨x, σ', h, h2.mono e hr, Slots.mono e hr h3⟩
theorem Slots.len : ∀ {ρ : List Sl} {σ : St}, Slots K F rs ρ σ → σ.length = ρ.length
  | [], _, h => by cases h; rfl
  | _ :: _, _, ⟨x, σ', h, _, h3⟩ => by cases h; simp [Slots.len h3]
theorem Slots.get : ∀ {ρ : List Sl} {σ : St} {i : Nat} {p : Sl}, Slots K F rs ρ σ → ρ[i]? = some p → ∃ x, σ[i]? = some x ∧ SlOk K F rs p x
  | [], _, _, _, _, e => by simp at e
  | _ :: _, _, 0, _, ⟨x, σ', h, h2, _⟩, e => by cases h; simp at e; subst e; exact ⟨x, rfl, h2⟩
  | _ :: _, _, i + 1, _, ⟨x, σ', h, _, h3⟩, e => by
    cases h
    obtain ⟨y, h4, h5⟩ := Slots.get (i := i) h3 (by simpa using e)
    exact ⟨y, by simpa using h4, h5⟩
theorem Slots.set : ∀ {ρ : List Sl} {σ : St} {p : Sl} {x : Option V} (i : Nat), Slots K F rs ρ σ → SlOk K F rs p x → Slots K F rs (ρ.set i p) (σ.set i x)
  | [], _, _, _, _, h, _ => by cases h; rfl
  | _ :: _, _, _, _, 0, ⟨_, σ', h, _, h3⟩, q => by cases h; exact ⟨_, σ', rfl, q, h3⟩
  | _ :: _, _, _, _, i + 1, ⟨y, σ', h, h2, h3⟩, q => by cases h; exact ⟨y, _, rfl, h2, Slots.set i h3 q⟩
/-- slots forgotten -/
def Weak : List Sl → List Sl → Prop
  | [], ρ => ρ = []
  | p :: ρ, ρ' => ∃ p' r, ρ' = p' :: r ∧ (p' = .un ∨ p' = p) ∧ Weak ρ r
theorem Slots.weak : ∀ {ρ ρ' : List Sl} {σ : St}, Weak ρ ρ' → Slots K F rs ρ σ → Slots K F rs ρ' σ
  | [], _, _, w, h => by cases w; exact h
  | _ :: _, _, _, ⟨p', r, e, o, w⟩, ⟨x, σ', h, h2, h3⟩ => by
    cases e
    refine ⟨x, σ', h, ?_, Slots.weak w h3⟩
    rcases o with rfl | rfl
    · trivial
    · exact h2
end

/-- from one world to the next: as may have changed, as' are owned behind it -/
structure Go (as as' : List Addr) (F H F' H' : Hp) : Prop where
  fz : Same F F'
  new : ∀ a o, F' a = some o → F a = some o ∨ H a = none ∨ a ∈ as
  keep : ∀ a o, a ∉ as → H a = some o → H' a = some o
  there : ∀ a, H' a = none → H a = none
  aw : ∀ a ∈ as', a ∈ as ∨ H a = none
theorem Go.refl (as : List Addr) (F H : Hp) : Go as as F H F H := ⟨Same.refl F, fun _ _ h => .inl h, fun _ _ _ h => h, fun _ h => h, fun _ h => .inl h⟩
theorem Go.trans {as as1 as2 : List Addr} {F H F1 H1 F2 H2 : Hp} (g : Go as as1 F H F1 H1) (g' : Go as1 as2 F1 H1 F2 H2) : Go as as2 F H F2 H2 := by
  refine ⟨g.fz.trans g'.fz, fun a o h => ?_, fun a o hn h => ?_, fun a h => g.there a (g'.there a h), fun a h => ?_⟩
  · rcases g'.new a o h with h | h | h
    · exact g.new a o h
    · exact .inr (.inl (g.there a h))
    · rcases g.aw a h with h | h
      · exact .inr (.inr h)
      · exact .inr (.inl h)
  · refine g'.keep a o (fun z => ?_) (g.keep a o hn h)
    rcases g.aw a z with q | q
    · exact hn q
    · rw [q] at h; cases h
  · rcases g'.aw a h with h | h
    · exact g.aw a h
    · exact .inr (g.there a h)

/-- the owned objects, root by root: what each holds, its addresses apart from the others' -/
structure HdR (K : PySem.W.Frag) (H F : Hp) (ts : List T) (vs : List V) (ass : List (List Addr)) : Prop where
  sub : Same F H
  l1 : vs.length = ts.length
  l2 : ass.length = ts.length
  own : ∀ (i : Nat) t v l, ts[i]? = some t → vs[i]? = some v → ass[i]? = some l → Own K H F t v l
  n1 : ∀ (i : Nat) l, ass[i]? = some l → l.Nodup
  n2 : ∀ (i j : Nat) l m a, ass[i]? = some l → ass[j]? = some m → a ∈ l → a ∈ m → i = j
  af : ∀ (i : Nat) l a, ass[i]? = some l → a ∈ l → F a = none
structure Hd (K : PySem.W.Frag) (σ : St) (H F : Hp) (rs : List V) (as : List (List Addr)) (s : S) : Prop where
  r : HdR K H F s.μ rs as
  sl : Slots K F rs s.ρ σ

theorem mem_fl {ass : List (List Addr)} {a : Addr} (h : a ∈ ass.flatten) : ∃ (i : Nat) (l : List Addr), ass[i]? = some l ∧ a ∈ l := by
  obtain ⟨l, hl, ha⟩ := List.mem_flatten.mp h
  obtain ⟨i, hi⟩ := List.getElem?_of_mem hl
  exact ⟨i, l, hi, ha⟩
theorem fl_mem {ass : List (List Addr)} {a : Addr} {i : Nat} {l : List Addr} (h : ass[i]? = some l) (ha : a ∈ l) : a ∈ ass.flatten :=
  List.mem_flatten.mpr ⟨l, List.mem_of_getElem? h, ha⟩

section
variable {K : PySem.W.Frag} {σ : St} {H F H' F' : Hp} {rs vs : List V} {ts : List T} {as as' : List (List Addr)} {s s' : S}
theorem HdR.at (h : HdR K H F ts vs as) {i : Nat} {t : T} (e : ts[i]? = some t) : ∃ v l, vs[i]? = some v ∧ as[i]? = some l ∧ Own K H F t v l := by
  have hi := (List.getElem?_eq_some_iff.mp e).1
  have h1 : i < vs.length := by rw [h.l1]; exact hi
  have h2 : i < as.length := by rw [h.l2]; exact hi
  exact ⟨vs[i], as[i], List.getElem?_eq_getElem h1, List.getElem?_eq_getElem h2, h.own i t _ _ e (List.getElem?_eq_getElem h1) (List.getElem?_eq_getElem h2)⟩
theorem HdR.atA (h : HdR K H F ts vs as) {i : Nat} {l : List Addr} (e : as[i]? = some l) : ∃ t v, ts[i]? = some t ∧ vs[i]? = some v ∧ Own K H F t v l := by
  have hi := (List.getElem?_eq_some_iff.mp e).1
  have h1 : i < ts.length := by rw [← h.l2]; exact hi
  obtain ⟨v, l', h3, h4, h5⟩ := h.at (List.getElem?_eq_getElem h1)
  rw [e] at h4; cases h4
  exact ⟨_, v, List.getElem?_eq_getElem h1, h3, h5⟩
theorem HdR.there (h : HdR K H F ts vs as) : ∀ a ∈ as.flatten, H a ≠ none := fun a ha => by
  obtain ⟨i, l, hl, hm⟩ := mem_fl ha
  obtain ⟨t, v, _, _, o⟩ := h.atA hl
  exact Own.there t v l o a hm
theorem HdR.aff (h : HdR K H F ts vs as) : ∀ a ∈ as.flatten, F a = none := fun a ha => by
  obtain ⟨i, l, hl, hm⟩ := mem_fl ha
  exact h.af i l a hl hm
/-- new frozen things alone -/
theorem HdR.pure (h : HdR K H F ts vs as) (g : Go [] [] F H F' H') (sub : Same F' H') : HdR K H' F' ts vs as ∧ Go as.flatten as.flatten F H F' H' := by
  have kp : ∀ a o, H a = some o → H' a = some o := fun a o e => g.keep a o (fun z => nomatch z) e
  refine ⟨⟨sub, h.l1, h.l2, fun i t v l e1 e2 e3 => Own.keep g.fz _ _ _ (fun a _ o e => kp a o e) (h.own i t v l e1 e2 e3), h.n1, h.n2, fun i l a hl hm => ?_⟩, ⟨g.fz, fun a o e => ?_, fun a o _ e => kp a o e, g.there, fun _ q => .inl q⟩⟩
  · cases q : F' a with
    | none => rfl
    | some o =>
      rcases g.new a o q with z | z | z
      · rw [h.af i l a hl hm] at z; cases z
      · exact absurd z (h.there a (fl_mem hl hm))
      · cases z
  · rcases g.new a o e with z | z | z
    · exact .inl z
    · exact .inr (.inl z)
    · cases z
theorem Hd.pure (h : Hd K σ H F rs as s) (g : Go [] [] F H F' H') (sub : Same F' H') : Hd K σ H' F' rs as s ∧ Go as.flatten as.flatten F H F' H' :=
  ⟨⟨(h.r.pure g sub).1, h.sl.mono g.fz fun _ _ q => q⟩, (h.r.pure g sub).2⟩
theorem Hd.sub (h : Hd K σ H F rs as s) : Same F H := h.r.sub
/-- a new frozen object -/
theorem go_new {p : Addr} {o : HO} (hp : H p = none) (sub : Same F H) : Go [] [] F H (upd F p o) (upd H p o) ∧ Same (upd F p o) (upd H p o) := by
  have hF : F p = none := by
    cases q : F p with
    | none => rfl
    | some u => rw [sub p u q] at hp; cases hp
  refine ⟨⟨fun a u e => ?_, fun a u e => ?_, fun a u _ e => ?_, fun a e => ?_, fun a z => nomatch z⟩, fun a u e => ?_⟩
  · rw [upd_ne (ne_of_none e hF)]; exact e
  · by_cases ha : a = p
    · subst ha; exact .inr (.inl hp)
    · rw [upd_ne ha] at e; exact .inl e
  · rw [upd_ne (ne_of_none e hp)]; exact e
  · by_cases ha : a = p
    · subst ha; exact hp
    · rw [upd_ne ha] at e; exact e
  · by_cases ha : a = p
    · subst ha
      rw [upd_same] at e ⊢; exact e
    · rw [upd_ne ha] at e ⊢; exact sub _ _ e
end

/-! ### readings of the layer below, one for all -/
def WE (X : Cx) (e : Expr) : TE := fun σ H Q => ∀ (pins : List (Addr × Obj)) (s : Shared), Inv X pins σ H s → wpAny (model X.prog X.w) X.A (eval e X.env) (EP X pins σ Q) X.xe s
def WTt (X : Cx) (e : Expr) : TT := fun σ H Q => ∀ (pins : List (Addr × Obj)) (s : Shared), Inv X pins σ H s → wpAny (model X.prog X.w) X.A (isTrue e X.env (eval e X.env)) (TP X pins σ Q) X.xe s
def WPt (X : Cx) (e : Expr) : TT := fun σ H Q => ∀ (whole : Sem Value) (pins : List (Addr × Obj)) (s : Shared), Inv X pins σ H s → wpAny (model X.prog X.w) X.A (isTrue e X.env whole) (TP X pins σ Q) X.xe s
def WA (X : Cx) (es : List Expr) : TA := fun σ H Q => ∀ (pos : Pos) (pins : List (Addr × Obj)) (s : Shared), Inv X pins σ H s → wpAny (model X.prog X.w) X.A (spliced (backTo pos (starEach es X.env))) (AP X pins σ Q) X.xe s
def WSt (X : Cx) (st : Stmt) : TS := fun D σ H => ∀ (pins : List (Addr × Obj)) (s : Shared), Inv X pins σ H s → wpAny (model X.prog X.w) X.A (exec st X.env) (SP X pins D) X.xe s
def WSs (X : Cx) (st : List Stmt) : TS := fun D σ H => ∀ (pins : List (Addr × Obj)) (s : Shared), Inv X pins σ H s → wpAny (model X.prog X.w) X.A (execs st X.env) (SP X pins D) X.xe s
section
variable {X : Cx}
theorem pe_u {e : Expr} : PE X e (WE X e) := ⟨fun pins s σ H Q I h => h pins s I⟩
theorem pt_u {e : Expr} : PT X e (WTt X e) := ⟨fun pins s σ H Q I h => h pins s I⟩
theorem pw_u {e : Expr} : PW X e (WPt X e) := ⟨fun whole pins s σ H Q I h => h whole pins s I⟩
theorem pa_u {es : List Expr} : PA X es (WA X es) := ⟨fun pos pins s σ H Q I h => h pos pins s I⟩
theorem ps_u {st : Stmt} : PS X st (WSt X st) := ⟨fun pins s σ H D I h => h pins s I⟩
theorem pss_u {st : List Stmt} : PSs X st (WSs X st) := ⟨fun pins s σ H D I h => h pins s I⟩
theorem WE.of {e : Expr} {t : TE} {σ : St} {H : Hp} {Q : VK} (h : PE X e t) (q : t σ H Q) : WE X e σ H Q := fun pins s I => h.run pins s σ H Q I q
theorem WTt.of {e : Expr} {t : TT} {σ : St} {H : Hp} {Q : Bool → Hp → Prop} (h : PT X e t) (q : t σ H Q) : WTt X e σ H Q := fun pins s I => h.run pins s σ H Q I q
theorem WPt.of {e : Expr} {t : TT} {σ : St} {H : Hp} {Q : Bool → Hp → Prop} (h : PW X e t) (q : t σ H Q) : WPt X e σ H Q := fun whole pins s I => h.run whole pins s σ H Q I q
theorem WA.of {es : List Expr} {t : TA} {σ : St} {H : Hp} {Q : List V → Hp → Prop} (h : PA X es t) (q : t σ H Q) : WA X es σ H Q := fun pos pins s I => h.run pos pins s σ H Q I q
theorem WSt.of {st : Stmt} {t : TS} {D : Ends} {σ : St} {H : Hp} (h : PS X st t) (q : t D σ H) : WSt X st D σ H := fun pins s I => h.run pins s σ H D I q
theorem WSs.of {st : List Stmt} {t : TS} {D : Ends} {σ : St} {H : Hp} (h : PSs X st t) (q : t D σ H) : WSs X st D σ H := fun pins s I => h.run pins s σ H D I q
theorem WE.mono {e : Expr} {σ : St} {H : Hp} {Q Q' : VK} (h : WE X e σ H Q) (k : ∀ v H', Q v H' → Q' v H') : WE X e σ H Q' := fun pins s I => thn (h pins s I) fun _ _ ⟨v, H', I', r, q⟩ => ⟨v, H', I', r, k v H' q⟩
theorem WTt.mono {e : Expr} {σ : St} {H : Hp} {Q Q' : Bool → Hp → Prop} (h : WTt X e σ H Q) (k : ∀ v H', Q v H' → Q' v H') : WTt X e σ H Q' := fun pins s I => thn (h pins s I) fun _ _ ⟨H', I', q⟩ => ⟨H', I', k _ H' q⟩
theorem sp_mono {pins : List (Addr × Obj)} {D D' : Ends} {f : Flow} {s : Shared} (h : SP X pins D f s) (h1 : ∀ σ H, D.nx σ H → D'.nx σ H) (h2 : ∀ v H, D.rt v H → D'.rt v H) (h3 : ∀ σ H, D.bk σ H → D'.bk σ H) (h4 : ∀ σ H, D.ct σ H → D'.ct σ H) : SP X pins D' f s := by
  cases f with
  | next => obtain ⟨σ, H, I, q⟩ := h; exact ⟨σ, H, I, h1 _ _ q⟩
  | brk => obtain ⟨σ, H, I, q⟩ := h; exact ⟨σ, H, I, h3 _ _ q⟩
  | cont => obtain ⟨σ, H, I, q⟩ := h; exact ⟨σ, H, I, h4 _ _ q⟩
  | ret v => obtain ⟨x, σ, H, I, r, q⟩ := h; exact ⟨x, σ, H, I, r, h2 _ _ q⟩
theorem WSt.mono {st : Stmt} {D D' : Ends} {σ : St} {H : Hp} (h : WSt X st D σ H) (h1 : ∀ σ H, D.nx σ H → D'.nx σ H) (h2 : ∀ v H, D.rt v H → D'.rt v H) (h3 : ∀ σ H, D.bk σ H → D'.bk σ H) (h4 : ∀ σ H, D.ct σ H → D'.ct σ H) : WSt X st D' σ H :=
  fun pins s I => thn (h pins s I) fun _ _ q => sp_mono q h1 h2 h3 h4
theorem WSs.mono {st : List Stmt} {D D' : Ends} {σ : St} {H : Hp} (h : WSs X st D σ H) (h1 : ∀ σ H, D.nx σ H → D'.nx σ H) (h2 : ∀ v H, D.rt v H → D'.rt v H) (h3 : ∀ σ H, D.bk σ H → D'.bk σ H) (h4 : ∀ σ H, D.ct σ H → D'.ct σ H) : WSs X st D' σ H :=
  fun pins s I => thn (h pins s I) fun _ _ q => sp_mono q h1 h2 h3 h4
end

/-! ### the judgements -/
/-- what an operand came to: data, or an owned object by its number -/
inductive Ar where
  | d (d : D) | o (k : Nat)
def ArOk (K : PySem.W.Frag) (F : Hp) (rs : List V) : Ar → V → Prop
  | .d d, v => Rep K F d v
  | .o k, v => rs[k]? = some v
theorem pre_get {α : Type} {xs ys : List α} (p : xs <+: ys) (k : Nat) (v : α) (h : xs[k]? = some v) : ys[k]? = some v := by
  obtain ⟨zs, rfl⟩ := p
  rw [List.getElem?_append_left (List.getElem?_eq_some_iff.mp h).1]; exact h
theorem ArOk.mono {K : PySem.W.Frag} {F F' : Hp} {rs rs' : List V} (e : Same F F') (p : rs <+: rs') : ∀ {x : Ar} {v : V}, ArOk K F rs x v → ArOk K F' rs' x v
  | .d d, v, h => Rep.mono e d v h
  | .o k, v, h => pre_get p k v h

/-- e leads from s to s' and comes to x -/
def EA (X : Cx) (s : S) (e : Expr) (s' : S) (x : Ar) : Prop := ∀ σ H F rs as, Hd X.K σ H F rs as s → ∀ Q : VK,
  (∀ v H' F' rs' as', Hd X.K σ H' F' rs' as' s' → rs <+: rs' → Go as.flatten as'.flatten F H F' H' → ArOk X.K F' rs' x v → Q v H') → WE X e σ H Q
abbrev EE (X : Cx) (s : S) (e : Expr) (s' : S) (d : D) : Prop := EA X s e s' (.d d)
/-- a test -/
def ET (X : Cx) (s : S) (e : Expr) (s' : S) (b : Bool) : Prop := ∀ σ H F rs as, Hd X.K σ H F rs as s → ∀ Q : Bool → Hp → Prop,
  (∀ H' F' rs' as', Hd X.K σ H' F' rs' as' s' → rs <+: rs' → Go as.flatten as'.flatten F H F' H' → Q b H') → WTt X e σ H Q
def EW (X : Cx) (s : S) (e : Expr) (s' : S) (b : Bool) : Prop := ∀ σ H F rs as, Hd X.K σ H F rs as s → ∀ Q : Bool → Hp → Prop,
  (∀ H' F' rs' as', Hd X.K σ H' F' rs' as' s' → rs <+: rs' → Go as.flatten as'.flatten F H F' H' → Q b H') → WPt X e σ H Q
def ArsOk (K : PySem.W.Frag) (F : Hp) (rs : List V) : List Ar → List V → Prop
  | [], vs => vs = []
  | x :: xs, vs => ∃ v ws, vs = v :: ws ∧ ArOk K F rs x v ∧ ArsOk K F rs xs ws
theorem ArsOk.mono {K : PySem.W.Frag} {F F' : Hp} {rs rs' : List V} (e : Same F F') (p : rs <+: rs') : ∀ {xs : List Ar} {vs : List V}, ArsOk K F rs xs vs → ArsOk K F' rs' xs vs
  | [], _, h => h
  | _ :: _, _, ⟨v, ws, h, h2, h3⟩ => ⟨v, ws, h, h2.mono e p, ArsOk.mono e p h3⟩
def EAs (X : Cx) (s : S) (es : List Expr) (s' : S) (xs : List Ar) : Prop := ∀ σ H F rs as, Hd X.K σ H F rs as s → ∀ Q : List V → Hp → Prop,
  (∀ vs H' F' rs' as', Hd X.K σ H' F' rs' as' s' → rs <+: rs' → Go as.flatten as'.flatten F H F' H' → ArsOk X.K F' rs' xs vs → Q vs H') → WA X es σ H Q
/-- slots that refer to the first n owned objects alone -/
def low (n : Nat) : List Sl → Bool
  | [] => true
  | .o k :: ρ => decide (k < n) && low n ρ
  | _ :: ρ => low n ρ

structure Ds where
  nx : S → Prop
  rt : S → Ar → Prop
  bk : S → Prop := fun _ => False
  ct : S → Prop := fun _ => False
structure Wd where
  H : Hp
  F : Hp
  as : List Addr
  rs : List V
def At (K : PySem.W.Frag) (W : Wd) (Φ : S → Prop) : St → Hp → Prop := fun σ H => ∃ F rs as s, Hd K σ H F rs as s ∧ Go W.as as.flatten W.F W.H F H ∧ W.rs <+: rs ∧ Φ s
def AtR (K : PySem.W.Frag) (W : Wd) (Φ : S → Ar → Prop) : VK := fun v H => ∃ σ F rs as s x, Hd K σ H F rs as s ∧ Go W.as as.flatten W.F W.H F H ∧ W.rs <+: rs ∧ ArOk K F rs x v ∧ Φ s x
def Ds.raw (D : Ds) (K : PySem.W.Frag) (W : Wd) : Ends := ⟨At K W D.nx, AtR K W D.rt, At K W D.bk, At K W D.ct⟩
def W1 (X : Cx) (s : S) (st : Stmt) (D : Ds) : Prop := ∀ W σ H F rs as, Hd X.K σ H F rs as s → Go W.as as.flatten W.F W.H F H → W.rs <+: rs → WSt X st (D.raw X.K W) σ H
def WS (X : Cx) (s : S) (st : List Stmt) (D : Ds) : Prop := ∀ W σ H F rs as, Hd X.K σ H F rs as s → Go W.as as.flatten W.F W.H F H → W.rs <+: rs → WSs X st (D.raw X.K W) σ H
theorem At.mono {K : PySem.W.Frag} {W : Wd} {Φ Ψ : S → Prop} (h : ∀ s, Φ s → Ψ s) : ∀ σ H, At K W Φ σ H → At K W Ψ σ H := fun _ _ ⟨F, rs, as, s, h1, h2, h3, h4⟩ => ⟨F, rs, as, s, h1, h2, h3, h s h4⟩
theorem AtR.mono {K : PySem.W.Frag} {W : Wd} {Φ Ψ : S → Ar → Prop} (h : ∀ s x, Φ s x → Ψ s x) : ∀ v H, AtR K W Φ v H → AtR K W Ψ v H := fun _ _ ⟨σ, F, rs, as, s, x, h1, h2, h3, h4, h5⟩ => ⟨σ, F, rs, as, s, x, h1, h2, h3, h4, h s x h5⟩
section
variable {X : Cx} {s s' : S}
theorem W1.mono {st : Stmt} {D D' : Ds} (h : W1 X s st D) (h1 : ∀ s, D.nx s → D'.nx s) (h2 : ∀ s x, D.rt s x → D'.rt s x) (h3 : ∀ s, D.bk s → D'.bk s) (h4 : ∀ s, D.ct s → D'.ct s) : W1 X s st D' :=
  fun W σ H F rs as hd g p => (h W σ H F rs as hd g p).mono (At.mono h1) (AtR.mono h2) (At.mono h3) (At.mono h4)
theorem WS.mono {st : List Stmt} {D D' : Ds} (h : WS X s st D) (h1 : ∀ s, D.nx s → D'.nx s) (h2 : ∀ s x, D.rt s x → D'.rt s x) (h3 : ∀ s, D.bk s → D'.bk s) (h4 : ∀ s, D.ct s → D'.ct s) : WS X s st D' :=
  fun W σ H F rs as hd g p => (h W σ H F rs as hd g p).mono (At.mono h1) (AtR.mono h2) (At.mono h3) (At.mono h4)
theorem ws_nil {D : Ds} (h : D.nx s) : WS X s [] D := fun W σ H F rs as hd g p => WSs.of pss_nil ⟨F, rs, as, s, hd, g, p, h⟩
theorem ws_cons {st : Stmt} {rest : List Stmt} {D : Ds} (h : W1 X s st { D with nx := fun s1 => WS X s1 rest D }) : WS X s (st :: rest) D := fun W σ H F rs as hd g p =>
  WSs.of (pss_cons ps_u pss_u) ((h W σ H F rs as hd g p).mono (fun _ _ ⟨F1, rs1, as1, s1, a, b, c, d⟩ => d W _ _ F1 rs1 as1 a b c) (fun _ _ q => q) (fun _ _ q => q) (fun _ _ q => q))
end
end Q
namespace Q
open PySem L2

def setAll {α : Type} : List α → List Nat → List α → List α
  | xs, [], _ => xs
  | xs, _ :: _, [] => xs
  | xs, k :: ks, y :: ys => setAll (xs.set k y) ks ys
theorem setAll_len {α : Type} : ∀ (ks : List Nat) (xs ys : List α), (setAll xs ks ys).length = xs.length
  | [], xs, ys => by simp [setAll]
  | _ :: _, _, [] => rfl
  | k :: ks, xs, y :: ys => by
    show (setAll (xs.set k y) ks ys).length = _
    rw [setAll_len ks, List.length_set]
theorem setAll_not {α : Type} : ∀ (ks : List Nat) (xs ys : List α) (k : Nat), k ∉ ks → (setAll xs ks ys)[k]? = xs[k]?
  | [], _, _, _, _ => by simp [setAll]
  | _ :: _, _, [], _, _ => rfl
  | j :: ks, xs, y :: ys, k, h => by
    show (setAll (xs.set j y) ks ys)[k]? = _
    rw [setAll_not ks _ _ k (fun z => h (List.mem_cons_of_mem _ z)), List.getElem?_set_ne (fun z => h (by rw [z]; exact List.mem_cons_self))]
theorem setAll_mem {α : Type} : ∀ (ks : List Nat) (xs ys : List α) (i k : Nat), ks.Nodup → ks.length = ys.length → ks[i]? = some k → k < xs.length → (setAll xs ks ys)[k]? = ys[i]?
  | [], _, _, _, _, _, _, e, _ => by simp at e
  | _ :: _, _, [], _, _, _, h, _, _ => by simp at h
  | j :: ks, xs, y :: ys, 0, k, nd, hl, e, hk => by
    simp at e; subst e
    show (setAll (xs.set j y) ks ys)[j]? = _
    rw [setAll_not ks _ _ j (List.nodup_cons.mp nd).1, List.getElem?_set_self hk]
    rfl
  | j :: ks, xs, y :: ys, i + 1, k, nd, hl, e, hk => by
    show (setAll (xs.set j y) ks ys)[k]? = _
    rw [setAll_mem ks (xs.set j y) ys i k (List.nodup_cons.mp nd).2 (by simpa using hl) (by simpa using e) (by rw [List.length_set]; exact hk)]
    simp

/-- the items at ks -/
def pick {α : Type} (xs : List α) (ks : List Nat) (d : α) : List α := ks.map fun k => xs.getD k d
theorem pick_get {α : Type} {xs : List α} {ks : List Nat} {d : α} {i k : Nat} (e : ks[i]? = some k) (hk : k < xs.length) : (pick xs ks d)[i]? = xs[k]? := by
  unfold pick
  rw [List.getElem?_map, e]
  simp [List.getD, List.getElem?_eq_getElem hk]

section
variable {K : PySem.W.Frag} {σ : St} {H F H' F' : Hp} {rs evs : List V} {ts outs es : List T} {as as1 as2 : List (List Addr)} {ks : List Nat}
/-- some roots, taken apart -/
theorem HdR.part (h : HdR K H F ts rs as) (nd : ks.Nodup) (hk : ∀ k ∈ ks, k < ts.length) : HdR K H F (pick ts ks (.fz .non)) (pick rs ks .non) (pick as ks []) := by
  have get : ∀ {α : Type} {xs : List α} {d : α} {i : Nat} {x : α}, xs.length = ts.length → (pick xs ks d)[i]? = some x → ∃ k, ks[i]? = some k ∧ xs[k]? = some x := fun {α xs d i x} hl e => by
    unfold pick at e
    rw [List.getElem?_map] at e
    cases q : ks[i]? with
    | none => rw [q] at e; cases e
    | some k =>
      refine ⟨k, rfl, ?_⟩
      rw [q] at e
      have hk' : k < xs.length := by rw [hl]; exact hk k (List.mem_of_getElem? q)
      have e' : xs.getD k d = x := Option.some.inj e
      rw [← e']
      simp [List.getD, List.getElem?_eq_getElem hk']
  refine ⟨h.sub, by simp [pick], by simp [pick], fun i t v l e1 e2 e3 => ?_, fun i l e => ?_, fun i j l m a e1 e2 h1 h2 => ?_, fun i l a e ha => ?_⟩
  · obtain ⟨k, q1, q2⟩ := get rfl e1
    obtain ⟨k2, q3, q4⟩ := get h.l1 e2
    obtain ⟨k3, q5, q6⟩ := get h.l2 e3
    rw [q1] at q3 q5; cases q3; cases q5
    exact h.own _ _ _ _ q2 q4 q6
  · obtain ⟨k, _, q⟩ := get h.l2 e
    exact h.n1 _ _ q
  · obtain ⟨k, p1, q1⟩ := get h.l2 e1
    obtain ⟨k', p2, q2⟩ := get h.l2 e2
    have := h.n2 _ _ _ _ _ q1 q2 h1 h2
    subst this
    obtain ⟨b1, c1⟩ := List.getElem?_eq_some_iff.mp p1
    obtain ⟨b2, c2⟩ := List.getElem?_eq_some_iff.mp p2
    exact (List.getElem_inj nd).mp (c1.trans c2.symm)
  · obtain ⟨k, _, q⟩ := get h.l2 e
    exact h.af _ _ _ q ha

theorem app_get {α : Type} {xs ys : List α} {i : Nat} {x : α} (e : (xs ++ ys)[i]? = some x) : xs[i]? = some x ∨ (xs.length ≤ i ∧ ys[i - xs.length]? = some x) := by
  by_cases h : i < xs.length
  · rw [List.getElem?_append_left h] at e; exact .inl e
  · rw [List.getElem?_append_right (by omega)] at e; exact .inr ⟨by omega, e⟩

/-- what was done to some roots, put back into the whole -/
theorem HdR.merge (h : HdR K H F ts rs as) (nd : ks.Nodup) (hk : ∀ k ∈ ks, k < ts.length) (ho : outs.length = ks.length) (h1 : as1.length = ks.length)
    (h' : HdR K H' F' (outs ++ es) (pick rs ks .non ++ evs) (as1 ++ as2)) (g : Go (pick as ks []).flatten (as1 ++ as2).flatten F H F' H') :
    HdR K H' F' (setAll ts ks outs ++ es) (rs ++ evs) (setAll as ks as1 ++ as2) ∧ Go as.flatten (setAll as ks as1 ++ as2).flatten F H F' H' := by
  have lp : (pick rs ks V.non).length = ks.length := by simp [pick]
  have le : evs.length = es.length := by have := h'.l1; rw [List.length_append, List.length_append, lp, ho] at this; omega
  have le2 : as2.length = es.length := by have := h'.l2; rw [List.length_append, List.length_append, h1, ho] at this; omega
  have hka : ∀ k ∈ ks, k < as.length := fun k q => by rw [h.l2]; exact hk k q
  have hkr : ∀ k ∈ ks, k < rs.length := fun k q => by rw [h.l1]; exact hk k q
  have picked : ∀ a, a ∈ (pick as ks []).flatten → ∃ (k : Nat) (l : List Addr), k ∈ ks ∧ as[k]? = some l ∧ a ∈ l := fun a ha => by
    obtain ⟨i, l, e, hm⟩ := mem_fl ha
    have hi : i < ks.length := by have := (List.getElem?_eq_some_iff.mp e).1; simpa [pick] using this
    have e0 : ks[i]? = some ks[i] := List.getElem?_eq_getElem hi
    rw [pick_get e0 (hka _ (List.getElem_mem hi))] at e
    exact ⟨ks[i], l, List.getElem_mem hi, e, hm⟩
  -- an address of a root that isn't among ks is kept
  have other : ∀ (k : Nat) (l : List Addr) a, k ∉ ks → as[k]? = some l → a ∈ l → a ∉ (pick as ks []).flatten := fun k l a hn e ha hm => by
    obtain ⟨k', l', hk', e', ha'⟩ := picked a hm
    have := h.n2 _ _ _ _ _ e e' ha ha'
    subst this
    exact hn hk'
  have kp : ∀ a, a ∉ (pick as ks []).flatten → ∀ o, H a = some o → H' a = some o := fun a hn o e => g.keep a o hn e
  have inH : ∀ (k : Nat) (l : List Addr) a, as[k]? = some l → a ∈ l → H a ≠ none := fun k l a e ha => h.there a (fl_mem e ha)
  -- a new address is either of ks's roots or fresh
  have newA : ∀ (i : Nat) (l : List Addr) a, (as1 ++ as2)[i]? = some l → a ∈ l → a ∈ (pick as ks []).flatten ∨ H a = none := fun i l a e ha => g.aw a (fl_mem e ha)
  have apart : ∀ (k : Nat) (l : List Addr) (i : Nat) (m : List Addr) a, k ∉ ks → as[k]? = some l → (as1 ++ as2)[i]? = some m → a ∈ l → a ∈ m → False := fun k l i m a hn e e2 ha hm => by
    rcases newA i m a e2 hm with q | q
    · exact other k l a hn e ha q
    · exact inH k l a e ha q
  -- the address lists behind it, by their place
  have shape : ∀ (i : Nat) (l : List Addr), (setAll as ks as1 ++ as2)[i]? = some l → (i ∉ ks ∧ i < as.length ∧ as[i]? = some l) ∨ (∃ j, (as1 ++ as2)[j]? = some l ∧ ((j < ks.length ∧ ks[j]? = some i) ∨ (as.length ≤ i ∧ j = ks.length + (i - as.length)))) := fun i l e => by
    rcases app_get e with q | ⟨q0, q⟩
    · by_cases hi : i ∈ ks
      · obtain ⟨j, hj⟩ := List.getElem?_of_mem hi
        have hjl := (List.getElem?_eq_some_iff.mp hj).1
        rw [setAll_mem ks as as1 j i nd h1.symm hj (hka i hi)] at q
        exact .inr ⟨j, by rw [List.getElem?_append_left (by omega)]; exact q, .inl ⟨hjl, hj⟩⟩
      · rw [setAll_not ks as as1 i hi] at q
        exact .inl ⟨hi, (List.getElem?_eq_some_iff.mp q).1, q⟩
    · rw [setAll_len] at q0 q
      refine .inr ⟨ks.length + (i - as.length), ?_, .inr ⟨q0, rfl⟩⟩
      rw [List.getElem?_append_right (by omega)]
      rw [show ks.length + (i - as.length) - as1.length = i - as.length by omega]
      exact q
  refine ⟨⟨h'.sub, by simp [setAll_len, h.l1, le], by simp [setAll_len, h.l2, le2], fun i t v l e1 e2 e3 => ?_, fun i l e => ?_, fun i j l m a e1 e2 ha hm => ?_, fun i l a e ha => ?_⟩, ⟨g.fz, fun a o e => ?_, fun a o hn e => ?_, g.there, fun a ha => ?_⟩⟩
  · rcases app_get e1 with q | ⟨q0, q⟩
    · have hi : i < ts.length := by have := (List.getElem?_eq_some_iff.mp q).1; rwa [setAll_len] at this
      rw [List.getElem?_append_left (by rw [h.l1]; exact hi)] at e2
      rw [List.getElem?_append_left (by rw [setAll_len, h.l2]; exact hi)] at e3
      by_cases hik : i ∈ ks
      · obtain ⟨j, hj⟩ := List.getElem?_of_mem hik
        have hjl := (List.getElem?_eq_some_iff.mp hj).1
        rw [setAll_mem ks ts outs j i nd ho.symm hj hi] at q
        rw [setAll_mem ks as as1 j i nd h1.symm hj (hka i hik)] at e3
        refine h'.own j t v l (by rw [List.getElem?_append_left (by omega)]; exact q) ?_ (by rw [List.getElem?_append_left (by omega)]; exact e3)
        rw [List.getElem?_append_left (by omega), pick_get hj (hkr i hik)]
        exact e2
      · rw [setAll_not ks ts outs i hik] at q
        rw [setAll_not ks as as1 i hik] at e3
        exact Own.keep g.fz _ _ _ (fun a ha => kp a (other i l a hik e3 ha)) (h.own i t v l q e2 e3)
    · rw [setAll_len] at q0 q
      rw [List.getElem?_append_right (by rw [h.l1]; exact q0), h.l1] at e2
      rw [List.getElem?_append_right (by rw [setAll_len, h.l2]; exact q0), setAll_len, h.l2] at e3
      refine h'.own (ks.length + (i - ts.length)) t v l ?_ ?_ ?_
      · rw [List.getElem?_append_right (by omega), show ks.length + (i - ts.length) - outs.length = i - ts.length by omega]; exact q
      · rw [List.getElem?_append_right (by omega), show ks.length + (i - ts.length) - (pick rs ks V.non).length = i - ts.length by omega]; exact e2
      · rw [List.getElem?_append_right (by omega), show ks.length + (i - ts.length) - as1.length = i - ts.length by omega]; exact e3
  · rcases shape i l e with ⟨_, _, q⟩ | ⟨j, q, _⟩
    · exact h.n1 _ _ q
    · exact h'.n1 _ _ q
  · rcases shape i l e1 with ⟨p0, p1, p⟩ | ⟨i', p, pi⟩
    · rcases shape j m e2 with ⟨q0, q1, q⟩ | ⟨j', q, _⟩
      · exact h.n2 _ _ _ _ _ p q ha hm
      · exact (apart i l j' m a p0 p q ha hm).elim
    · rcases shape j m e2 with ⟨q0, q1, q⟩ | ⟨j', q, qj⟩
      · exact (apart j m i' l a q0 q p hm ha).elim
      · have e := h'.n2 _ _ _ _ _ p q ha hm
        subst e
        rcases pi with ⟨a1, a2⟩ | ⟨a1, a2⟩
        · rcases qj with ⟨b1, b2⟩ | ⟨b1, b2⟩
          · rw [a2] at b2; exact Option.some.inj b2
          · omega
        · rcases qj with ⟨b1, b2⟩ | ⟨b1, b2⟩
          · omega
          · omega
  · rcases shape i l e with ⟨p0, p1, p⟩ | ⟨i', p, _⟩
    · cases q : F' a with
      | none => rfl
      | some o =>
        rcases g.new a o q with z | z | z
        · rw [h.af _ _ _ p ha] at z; cases z
        · exact absurd z (inH i l a p ha)
        · exact absurd z (other i l a p0 p ha)
    · exact h'.af _ _ _ p ha
  · rcases g.new a o e with z | z | z
    · exact .inl z
    · exact .inr (.inl z)
    · obtain ⟨k, l, _, q, hm⟩ := picked a z
      exact .inr (.inr (fl_mem q hm))
  · refine g.keep a o (fun z => hn ?_) e
    obtain ⟨k, l, _, q, hm⟩ := picked a z
    exact fl_mem q hm
  · obtain ⟨i, l, e, hm⟩ := mem_fl ha
    rcases shape i l e with ⟨_, _, q⟩ | ⟨j, q, _⟩
    · exact .inl (fl_mem q hm)
    · rcases newA j l a q hm with z | z
      · obtain ⟨k, l', _, q', hm'⟩ := picked a z
        exact .inl (fl_mem q' hm')
      · exact .inr z
/-- the last one frozen -/
theorem HdR.freeze {t : T} {v : V} (ok : t.ok = true) (h : HdR K H F (ts ++ [t]) (rs ++ [v]) as) (hl : rs.length = ts.length) : ∃ F' as', HdR K H F' ts rs as' ∧ Go as.flatten as'.flatten F H F' H ∧ Rep K F' t.fr v := by
  classical
  have ht : (ts ++ [t])[ts.length]? = some t := by simp
  obtain ⟨v', l, e1, e2, o⟩ := h.at ht
  have e1' : (rs ++ [v])[ts.length]? = some v := by rw [← hl]; simp
  rw [e1'] at e1; cases e1
  have lenA : as.length = ts.length + 1 := by rw [h.l2]; simp
  let F' : Hp := fun a => if a ∈ l then H a else F a
  have inl : ∀ a, a ∈ l → F' a = H a := fun a ha => by show (if a ∈ l then H a else F a) = _; rw [if_pos ha]
  have nil : ∀ a, a ∉ l → F' a = F a := fun a ha => by show (if a ∈ l then H a else F a) = _; rw [if_neg ha]
  have fz : Same F F' := fun a o e => by
    by_cases ha : a ∈ l
    · rw [h.af _ _ _ e2 ha] at e; cases e
    · rw [nil a ha]; exact e
  have sub' : Same F' H := fun a o e => by
    by_cases ha : a ∈ l
    · rw [inl a ha] at e; exact e
    · rw [nil a ha] at e; exact h.sub a o e
  have tk : ∀ {i : Nat} {m : List Addr}, (as.take ts.length)[i]? = some m → i < ts.length ∧ as[i]? = some m := fun {i m} e => by
    have hi := (List.getElem?_eq_some_iff.mp e).1
    rw [List.length_take] at hi
    have hi : i < ts.length := by omega
    rw [List.getElem?_take_of_lt hi] at e
    exact ⟨hi, e⟩
  refine ⟨F', as.take ts.length, ⟨sub', hl, by rw [List.length_take]; omega, fun i t' v' m q1 q2 q3 => ?_, fun i m q => h.n1 _ _ (tk q).2, fun i j m m' a q1 q2 h1 h2 => h.n2 _ _ _ _ _ (tk q1).2 (tk q2).2 h1 h2, fun i m a q ha => ?_⟩, ⟨fz, fun a o e => ?_, fun a o _ e => e, fun a e => e, fun a ha => ?_⟩, ?_⟩
  · obtain ⟨hi, q3⟩ := tk q3
    refine Own.keep fz _ _ _ (fun a _ o e => e) (h.own i t' v' m ?_ ?_ q3)
    · rw [List.getElem?_append_left hi]; exact q1
    · rw [List.getElem?_append_left (by omega)]; exact q2
  · obtain ⟨hi, q⟩ := tk q
    rw [nil a fun z => ?_]
    · exact h.af _ _ _ q ha
    · have := h.n2 _ _ _ _ _ q e2 ha z
      omega
  · by_cases ha : a ∈ l
    · exact .inr (.inr (fl_mem e2 ha))
    · rw [nil a ha] at e; exact .inl e
  · obtain ⟨i, m, q, hm⟩ := mem_fl ha
    exact .inl (fl_mem (tk q).2 hm)
  · exact Own.fr fz t v l ok (fun a ha o e => by rw [inl a ha]; exact e) o
end
/-- a new owned object, made of data -/
theorem HdR.snoc {K : PySem.W.Frag} {H F : Hp} {ts : List T} {rs : List V} {as : List (List Addr)} {t : T} {v : V} {p : Addr} {o : HO} (h : HdR K H F ts rs as) (hp : H p = none)
    (ht : Own K (upd H p o) F t v [p]) : HdR K (upd H p o) F (ts ++ [t]) (rs ++ [v]) (as ++ [[p]]) ∧ Go as.flatten (as ++ [[p]]).flatten F H F (upd H p o) := by
  have hF : F p = none := by
    cases q : F p with
    | none => rfl
    | some u => rw [h.sub p u q] at hp; cases hp
  have kp : ∀ a u, H a = some u → upd H p o a = some u := fun a u e => by rw [upd_ne (ne_of_none e hp)]; exact e
  have nin : ∀ (i : Nat) l, as[i]? = some l → p ∉ l := fun i l e ha => h.there p (fl_mem e ha) hp
  have sh : ∀ (i : Nat) l, (as ++ [[p]])[i]? = some l → as[i]? = some l ∨ (i = as.length ∧ l = [p]) := fun i l e => by
    rcases app_get e with q | ⟨q0, q⟩
    · exact .inl q
    · have : i - as.length = 0 := by have := (List.getElem?_eq_some_iff.mp q).1; simp at this; omega
      rw [this] at q; simp at q
      exact .inr ⟨by omega, q.symm⟩
  refine ⟨⟨fun a u e => kp a u (h.sub a u e), by simp [h.l1], by simp [h.l2], fun i t' v' l e1 e2 e3 => ?_, fun i l e => ?_, fun i j l m a e1 e2 h1 h2 => ?_, fun i l a e ha => ?_⟩, ⟨Same.refl F, fun _ _ e => .inl e, fun a u _ e => kp a u e, fun a e => ?_, fun a ha => ?_⟩⟩
  · rcases app_get e1 with q | ⟨q0, q⟩
    · have hi := (List.getElem?_eq_some_iff.mp q).1
      rw [List.getElem?_append_left (by rw [h.l1]; exact hi)] at e2
      rw [List.getElem?_append_left (by rw [h.l2]; exact hi)] at e3
      exact Own.keep (Same.refl F) _ _ _ (fun a _ u e => kp a u e) (h.own i t' v' l q e2 e3)
    · have i0 : i = ts.length := by have := (List.getElem?_eq_some_iff.mp q).1; simp at this; omega
      subst i0
      simp at q; subst q
      rw [← h.l1] at e2; simp at e2; subst e2
      rw [← h.l2] at e3; simp at e3; subst e3
      exact ht
  · rcases sh i l e with q | ⟨_, rfl⟩
    · exact h.n1 _ _ q
    · simp
  · rcases sh i l e1 with q | ⟨i0, rfl⟩
    · rcases sh j m e2 with z | ⟨j0, rfl⟩
      · exact h.n2 _ _ _ _ _ q z h1 h2
      · simp at h2; subst h2; exact absurd h1 (nin i l q)
    · rcases sh j m e2 with z | ⟨j0, rfl⟩
      · simp at h1; subst h1; exact absurd h2 (nin j m z)
      · omega
  · rcases sh i l e with q | ⟨_, rfl⟩
    · exact h.af _ _ _ q ha
    · simp at ha; subst ha; exact hF
  · by_cases ha : a = p
    · subst ha; exact hp
    · rw [upd_ne ha] at e; exact e
  · obtain ⟨i, l, e, hm⟩ := mem_fl ha
    rcases sh i l e with q | ⟨_, rfl⟩
    · exact .inl (fl_mem q hm)
    · simp at hm; subst hm; exact .inr hp
/-- one root changed -/
theorem HdR.set1 {K : PySem.W.Frag} {H F H' : Hp} {ts : List T} {rs : List V} {as : List (List Addr)} {t : T} {v : V} {k : Nat} {l : List Addr} (h : HdR K H F ts rs as) (hv : rs[k]? = some v) (hl : as[k]? = some l)
    (kp : ∀ a o, a ∉ l → H a = some o → H' a = some o) (th : ∀ a, H' a = none → H a = none) (ht : Own K H' F t v l) : HdR K H' F (ts.set k t) rs as ∧ Go as.flatten as.flatten F H F H' := by
  have nin : ∀ (i : Nat) m a, i ≠ k → as[i]? = some m → a ∈ m → a ∉ l := fun i m a hn e ha z => hn (h.n2 _ _ _ _ _ e hl ha z)
  have nF : ∀ a, a ∈ l → F a = none := fun a ha => h.af _ _ _ hl ha
  refine ⟨⟨fun a o e => kp a o (fun z => by rw [nF a z] at e; cases e) (h.sub a o e), by simp [h.l1], by simp [h.l2], fun i t' v' m e1 e2 e3 => ?_, h.n1, h.n2, h.af⟩, ⟨Same.refl F, fun _ _ e => .inl e, fun a o hn e => kp a o (fun z => hn (fl_mem hl z)) e, th, fun _ ha => .inl ha⟩⟩
  by_cases hi : i = k
  · subst hi
    have hk : i < ts.length := by have := (List.getElem?_eq_some_iff.mp e1).1; rwa [List.length_set] at this
    rw [List.getElem?_set_self hk] at e1; cases e1
    rw [hv] at e2; cases e2
    rw [hl] at e3; cases e3
    exact ht
  · rw [List.getElem?_set_ne (fun z => hi z.symm)] at e1
    exact Own.keep (Same.refl F) _ _ _ (fun a ha o e => kp a o (nin i m a hi e3 ha) e) (h.own i t' v' m e1 e2 e3)
end Q
namespace Q
open PySem L2

def S.add (s : S) (t : T) : S := ⟨s.ρ, s.μ ++ [t]⟩
theorem refl_pre {α : Type} (xs : List α) : xs <+: xs := ⟨[], List.append_nil xs⟩

section
variable {K : PySem.W.Frag} {σ : St} {H F : Hp} {rs : List V} {as : List (List Addr)} {s : S}
/-- the end of a step that adds frozen things alone -/
theorem Hd.fin {X : Cx} {d : D} {Q : VK} (hd : Hd X.K σ H F rs as s)
    (k : ∀ v H' F' rs' as', Hd X.K σ H' F' rs' as' s → rs <+: rs' → Go as.flatten as'.flatten F H F' H' → ArOk X.K F' rs' (.d d) v → Q v H') :
    ∀ v H' F', Go [] [] F H F' H' → Same F' H' → Rep X.K F' d v → Q v H' := fun v H' F' g sb r =>
  let ⟨h, g'⟩ := hd.pure g sb
  k v H' F' rs as h (refl_pre rs) g' r
/-- a list of data that stands at x -/
def Ls (s : S) : Ar → List D → Prop
  | .d (.lst es), ds => es = ds
  | .o k, ds => s.μ[k]? = some (.fl ds)
  | _, _ => False
/-- a list or tuple of data -/
def Sq (s : S) : Ar → List D → Prop
  | .d (.lst es), ds => es = ds
  | .d (.rl es), ds => es = ds
  | .d (.tup es), ds => es = ds
  | .o k, ds => s.μ[k]? = some (.fl ds)
  | _, _ => False
/-- data, frozen or not -/
def Dt (s : S) : Ar → D → Prop
  | .d e, d => e = d
  | .o k, d => ∃ t, s.μ[k]? = some t ∧ t.ok = true ∧ t.fr = d
theorem Ls.get {x : Ar} {v : V} {ds : List D} (hd : Hd K σ H F rs as s) (a : ArOk K F rs x v) (h : Ls s x ds) : ∃ p xs, v = .ref p ∧ H p = some (.lst xs) ∧ Reps K F ds xs := by
  cases x with
  | d d =>
    cases d <;> try exact h.elim
    obtain ⟨p, xs, e, hp, r⟩ := a
    cases h
    exact ⟨p, xs, e, hd.sub p _ hp, r⟩
  | o k =>
    obtain ⟨v', l, h1, h2, p, xs, e, hp, r, _⟩ := hd.r.at h
    have a' : rs[k]? = some v := a
    rw [h1] at a'; cases a'
    exact ⟨p, xs, e, hp, r⟩
theorem Sq.get {x : Ar} {v : V} {ds : List D} (hd : Hd K σ H F rs as s) (a : ArOk K F rs x v) (h : Sq s x ds) : ∃ p xs, v = .ref p ∧ (SqL K H p xs ∨ SqT K H p xs) ∧ Reps K F ds xs := by
  cases x with
  | d d =>
    cases d <;> try exact h.elim
    · obtain ⟨p, xs, e, hp, r⟩ := a
      cases h
      exact ⟨p, xs, e, .inl (.of (hd.sub p _ hp)), r⟩
    · obtain ⟨p, xs, e, hp, r⟩ := a
      cases h
      exact ⟨p, xs, e, .inr (same_t hd.sub hp), r⟩
    · obtain ⟨p, xs, e, hp, r⟩ := a
      cases h
      exact ⟨p, xs, e, .inl (hd.sub.seq hp), r⟩
  | o k =>
    obtain ⟨v', l, h1, h2, p, xs, e, hp, r, _⟩ := hd.r.at h
    have a' : rs[k]? = some v := a
    rw [h1] at a'; cases a'
    exact ⟨p, xs, e, .inl (.of hp), r⟩
theorem Dt.get {x : Ar} {v : V} {d : D} (hd : Hd K σ H F rs as s) (a : ArOk K F rs x v) (h : Dt s x d) : Rep K H d v := by
  cases x with
  | d e =>
    cases h
    exact Rep.mono hd.sub d v a
  | o k =>
    obtain ⟨t, h1, ok, e⟩ := h
    subst e
    obtain ⟨v', l, h2, h3, o⟩ := hd.r.at h1
    have a' : rs[k]? = some v := a
    rw [h2] at a'; cases a'
    exact Own.fr hd.sub t v l ok (fun _ _ _ e => e) o
end

/-! ### what an operation on values comes to -/
def OpV (X : Cx) (s : S) (r : R2) (x y : Ar) (d : D) : Prop := ∀ σ H F rs as v w, Hd X.K σ H F rs as s → ArOk X.K F rs x v → ArOk X.K F rs y w → ∀ Q : VK,
  (∀ u H' F', Go [] [] F H F' H' → Same F' H' → Rep X.K F' d u → Q u H') → r v w H Q
/-- it makes a new list -/
def OpL (X : Cx) (s : S) (r : R2) (x y : Ar) (ds : List D) : Prop := ∀ σ H F rs as v w, Hd X.K σ H F rs as s → ArOk X.K F rs x v → ArOk X.K F rs y w → ∃ ys, Reps X.K F ds ys ∧ ∀ Q : VK,
  (∀ p, H p = none → Q (.ref p) (upd H p (.lst ys))) → r v w H Q
def CaV (X : Cx) (s : S) (r : List V → Hp → VK → Prop) (xs : List Ar) (d : D) : Prop := ∀ σ H F rs as vs, Hd X.K σ H F rs as s → ArsOk X.K F rs xs vs → ∀ Q : VK,
  (∀ u H' F', Go [] [] F H F' H' → Same F' H' → Rep X.K F' d u → Q u H') → r vs H Q
def CaL (X : Cx) (s : S) (r : List V → Hp → VK → Prop) (xs : List Ar) (ds : List D) : Prop := ∀ σ H F rs as vs, Hd X.K σ H F rs as s → ArsOk X.K F rs xs vs → ∃ ys, Reps X.K F ds ys ∧ ∀ Q : VK,
  (∀ p, H p = none → Q (.ref p) (upd H p (.lst ys))) → r vs H Q
def UnV (X : Cx) (s : S) (r : V → Hp → VK → Prop) (x : Ar) (d : D) : Prop := ∀ σ H F rs as v, Hd X.K σ H F rs as s → ArOk X.K F rs x v → ∀ Q : VK,
  (∀ u H' F', Go [] [] F H F' H' → Same F' H' → Rep X.K F' d u → Q u H') → r v H Q

section
variable {X : Cx} {s s0 s1 s2 s3 : S} {e a b c : Expr} {es : List Expr} {x y z : Ar} {xs : List Ar} {d : D} {ds : List D} {pos p : Pos} {nm : Str} {σ : St} {H F : Hp} {rs : List V} {as : List (List Addr)}

/-! ### names, constants -/
theorem ea_d (i : Nat) (h : s.ρ[i]? = some (.d d) := by rfl) (hN : X.N[i]? = some nm := by rfl) (hv : Vis X.env.scope nm := by first | exact Or.inl rfl | exact Or.inr (Or.inl rfl) | exact Or.inr (Or.inr rfl))
    (h1 : (nm == ("__debug__" : Str)) = false := by decide) (h2 : (nm == ("__classdict__" : Str)) = false := by decide) : EA X s (.Name nm pos) s (.d d) := fun σ H F rs as hd Q k => by
  obtain ⟨o, e1, v, rfl, r⟩ := hd.sl.get h
  exact WE.of (pe_var hN hv h1 h2) ⟨v, e1, k v H F rs as hd (refl_pre _) (Go.refl _ _ _) r⟩
theorem ea_o (i : Nat) {k : Nat} (h : s.ρ[i]? = some (.o k) := by rfl) (hN : X.N[i]? = some nm := by rfl) (hv : Vis X.env.scope nm := by first | exact Or.inl rfl | exact Or.inr (Or.inl rfl) | exact Or.inr (Or.inr rfl))
    (h1 : (nm == ("__debug__" : Str)) = false := by decide) (h2 : (nm == ("__classdict__" : Str)) = false := by decide) : EA X s (.Name nm pos) s (.o k) := fun σ H F rs as hd Q q => by
  obtain ⟨o, e1, v, rfl, r⟩ := hd.sl.get h
  exact WE.of (pe_var hN hv h1 h2) ⟨v, e1, q v H F rs as hd (refl_pre _) (Go.refl _ _ _) r⟩
theorem ea_tC {t : V} (hp : PE X e (tC t)) (h : ∀ F, Rep X.K F d t) : EA X s e s (.d d) := fun σ H F rs as hd Q k => WE.of hp (k t H F rs as hd (refl_pre _) (Go.refl _ _ _) (h F))
theorem ee_int {i : Int} {j} : EA X s (.Constant (.int i) j pos) s (.d (.int i)) := ea_tC pe_int fun _ => rfl
theorem ee_bl {i : Bool} {j} : EA X s (.Constant (.bool i) j pos) s (.d (.bl i)) := ea_tC pe_bl fun _ => rfl
theorem ee_non {j} : EA X s (.Constant .none j pos) s (.d .non) := ea_tC pe_non fun _ => rfl
theorem ee_str {z : Str} {j} (l : List Nat) (h : z = mk l := by decide +kernel) : EA X s (.Constant (.str z) j pos) s (.d (.str l)) := ea_tC pe_str fun _ => by subst h; rfl
theorem ee_glob {v : V} {u : Value} (hg : Gl X nm) (hm : X.mg nm = some u) (r : RelV v u) (h : ∀ F, Rep X.K F d v) (hd : (nm == ("__debug__" : Str)) = false := by decide) : EA X s (.Name nm pos) s (.d d) := ea_tC (pe_glob hg hm r hd) h
/-- a built-in class as a value -/
theorem ee_ty {n : String} (hg : Gl X nm) (hm : X.mg nm = none) (hv : bootBuiltins nm = some (.type n)) (hn : nm ≠ "__name__" := by decide) (hd : (nm == ("__debug__" : Str)) = false := by decide) : EA X s (.Name nm pos) s (.d (.val (.ty n))) := ea_tC (t := .ty n) (pe_bltn (v := .ty n) hg hm hv rfl hn hd) fun _ => rfl

/-! ### freezing -/
theorem low_slots {K : PySem.W.Frag} {v : V} : ∀ {ρ : List Sl} {σ : St}, low rs.length ρ = true → Slots K F (rs ++ [v]) ρ σ → Slots K F rs ρ σ
  | [], _, _, h => h
  | p :: ρ, _, l, ⟨x, σ', h, h2, h3⟩ => by
    cases p with
    | un => exact ⟨x, σ', h, trivial, low_slots l h3⟩
    | d d => exact ⟨x, σ', h, h2, low_slots l h3⟩
    | o k =>
      have l' : (decide (k < rs.length) && low rs.length ρ) = true := l
      rw [Bool.and_eq_true] at l'
      obtain ⟨w, e1, e2⟩ := h2
      refine ⟨x, σ', h, ⟨w, e1, ?_⟩, low_slots l'.2 h3⟩
      rw [List.getElem?_append_left (of_decide_eq_true l'.1)] at e2
      exact e2
theorem Hd.freeze {K : PySem.W.Frag} {t : T} (hd : Hd K σ H F rs as (s.add t)) (ok : t.ok = true) (lw : low s.μ.length s.ρ = true) : ∃ rs0 v F' as', rs = rs0 ++ [v] ∧ Hd K σ H F' rs0 as' s ∧ Go as.flatten as'.flatten F H F' H ∧ Rep K F' t.fr v := by
  have hl : rs.length = s.μ.length + 1 := by rw [hd.r.l1]; show (s.μ ++ [t]).length = _; simp
  obtain ⟨rs0, v, e⟩ : ∃ rs0 v, rs = rs0 ++ [v] := by
    refine ⟨rs.dropLast, rs.getLast (fun z => by rw [z] at hl; simp at hl), (List.dropLast_concat_getLast _).symm⟩
  subst e
  have hl0 : rs0.length = s.μ.length := by simpa using hl
  obtain ⟨F', as', h1, h2, h3⟩ := HdR.freeze ok hd.r hl0
  exact ⟨rs0, v, F', as', rfl, ⟨h1, (low_slots (by rw [hl0]; exact lw) hd.sl).mono h2.fz fun _ _ q => q⟩, h2, h3⟩
theorem ee_fz {t : T} (h : EA X s e (s1.add t) (.o s1.μ.length)) (ok : t.ok = true := by rfl) (lw : low s1.μ.length s1.ρ = true := by rfl) (hlen : s.μ.length ≤ s1.μ.length := by exact Nat.le_refl _) : EA X s e s1 (.d t.fr) := fun σ H F rs as hd Q k =>
  h σ H F rs as hd Q fun v H1 F1 rs1 as1 hd1 p1 g1 r1 => by
    obtain ⟨rs0, w, F', as', e, h1, h2, h3⟩ := hd1.freeze ok lw
    subst e
    have hl0 : rs0.length = s1.μ.length := h1.r.l1
    have ev : v = w := by
      have r' : (rs0 ++ [w])[s1.μ.length]? = some v := r1
      rw [← hl0] at r'
      simpa using r'.symm
    subst ev
    have hlr : rs.length ≤ rs0.length := by rw [hd.r.l1, hl0]; exact hlen
    have p0 : rs <+: rs0 := List.prefix_of_prefix_length_le p1 ⟨_, rfl⟩ hlr
    exact k v H1 F' rs0 as' h1 p0 (g1.trans h2) h3
theorem ee_fl (h : EA X s e (s1.add (.fl ds)) (.o s1.μ.length)) (lw : low s1.μ.length s1.ρ = true := by rfl) (hlen : s.μ.length ≤ s1.μ.length := by exact Nat.le_refl _) : EA X s e s1 (.d (.lst ds)) := ee_fz h rfl lw hlen
/-- a new owned list -/
theorem Hd.newL {K : PySem.W.Frag} {ys : List V} {p : Addr} (hd : Hd K σ H F rs as s) (hp : H p = none) (r : Reps K F ds ys) : Hd K σ (upd H p (.lst ys)) F (rs ++ [.ref p]) (as ++ [[p]]) (s.add (.fl ds)) ∧ Go as.flatten (as ++ [[p]]).flatten F H F (upd H p (.lst ys)) := by
  obtain ⟨h1, h2⟩ := hd.r.snoc (t := .fl ds) (v := .ref p) hp ⟨p, ys, rfl, upd_same, r, rfl⟩
  exact ⟨⟨h1, hd.sl.mono (Same.refl F) fun k v q => pre_get ⟨_, rfl⟩ k v q⟩, h2⟩
theorem Hd.newK {ys : List V} {Q : VK} (hd : Hd X.K σ H F rs as s) (r : Reps X.K F ds ys)
    (k : ∀ v H' F' rs' as', Hd X.K σ H' F' rs' as' (s.add (.fl ds)) → rs <+: rs' → Go as.flatten as'.flatten F H F' H' → ArOk X.K F' rs' (.o s.μ.length) v → Q v H') :
    ∀ p, H p = none → Q (.ref p) (upd H p (.lst ys)) := fun p hp => by
  obtain ⟨h1, h2⟩ := hd.newL hp r
  refine k _ _ F _ _ h1 ⟨_, rfl⟩ h2 ?_
  show (rs ++ [V.ref p])[s.μ.length]? = _
  rw [← hd.r.l1]; simp

/-! ### operators, calls -/
theorem ea_op {op : Operator} {r : R2} (ho : OpR X (binaryOp op) r) (ha : EA X s a s1 x) (hb : EA X s1 b s2 y) (hr : OpV X s2 r x y d) : EA X s (.BinOp a op b pos) s2 (.d d) := fun σ H F rs as hd Q k =>
  WE.of (pe_op ho pe_u pe_u) (ha σ H F rs as hd _ fun v H1 F1 rs1 as1 h1 p1 g1 r1 => hb σ H1 F1 rs1 as1 h1 _ fun w H2 F2 rs2 as2 h2 p2 g2 r2 => hr σ H2 F2 rs2 as2 v w h2 (r1.mono g2.fz p2) r2 Q
    (h2.fin fun u H' F' rs' as' h' p' g' q => k u H' F' rs' as' h' ((p1.trans p2).trans p') ((g1.trans g2).trans g') q))
theorem ea_opL {op : Operator} {r : R2} (ho : OpR X (binaryOp op) r) (ha : EA X s a s1 x) (hb : EA X s1 b s2 y) (hr : OpL X s2 r x y ds) : EA X s (.BinOp a op b pos) (s2.add (.fl ds)) (.o s2.μ.length) := fun σ H F rs as hd Q k =>
  WE.of (pe_op ho pe_u pe_u) (ha σ H F rs as hd _ fun v H1 F1 rs1 as1 h1 p1 g1 r1 => hb σ H1 F1 rs1 as1 h1 _ fun w H2 F2 rs2 as2 h2 p2 g2 r2 => by
    obtain ⟨ys, ry, q⟩ := hr σ H2 F2 rs2 as2 v w h2 (r1.mono g2.fz p2) r2
    exact q Q (h2.newK ry fun u H' F' rs' as' h' p' g' q => k u H' F' rs' as' h' ((p1.trans p2).trans p') ((g1.trans g2).trans g') q))
theorem ea_cmp {op : CmpOp} {r : R2} (ho : OpR X (compareOp op) r) (ha : EA X s a s1 x) (hb : EA X s1 b s2 y) (hr : OpV X s2 r x y d) (hm : behindInMarks op b = false := by first | exact nomark _ | rfl) : EA X s (.Compare a [op] [b] pos) s2 (.d d) := fun σ H F rs as hd Q k =>
  WE.of (pe_cmpR ho pe_u pe_u hm) (ha σ H F rs as hd _ fun v H1 F1 rs1 as1 h1 p1 g1 r1 => hb σ H1 F1 rs1 as1 h1 _ fun w H2 F2 rs2 as2 h2 p2 g2 r2 => hr σ H2 F2 rs2 as2 v w h2 (r1.mono g2.fz p2) r2 Q
    (h2.fin fun u H' F' rs' as' h' p' g' q => k u H' F' rs' as' h' ((p1.trans p2).trans p') ((g1.trans g2).trans g') q))
theorem et_cmp {op : CmpOp} {r : R2} {t : Bool} (ho : OpR X (compareOp op) r) (ha : EA X s a s1 x) (hb : EA X s1 b s2 y) (hr : OpV X s2 r x y (.bl t)) (hm : behindInMarks op b = false := by first | exact nomark _ | rfl) : ET X s (.Compare a [op] [b] pos) s2 t := fun σ H F rs as hd Q k =>
  WTt.of (pt_cmpR ho pe_u pe_u hm) (ha σ H F rs as hd _ fun v H1 F1 rs1 as1 h1 p1 g1 r1 => hb σ H1 F1 rs1 as1 h1 _ fun w H2 F2 rs2 as2 h2 p2 g2 r2 => hr σ H2 F2 rs2 as2 v w h2 (r1.mono g2.fz p2) r2 _
    (h2.fin fun u H' F' rs' as' h' p' g' q => ⟨t, q, k H' F' rs' as' h' ((p1.trans p2).trans p') ((g1.trans g2).trans g')⟩))
theorem et_val {t : Bool} (h : EA X s e s1 (.d (.bl t))) (he : ∀ whole, isTrue e X.env whole = (do let v ← whole; standAt e.pos; holding [v] (truthy v)) := by intro _; rfl) : ET X s e s1 t := fun σ H F rs as hd Q k =>
  WTt.of (pt_val pe_u he) (h σ H F rs as hd _ fun v H1 F1 rs1 as1 h1 p1 g1 r1 => ⟨t, r1, k H1 F1 rs1 as1 h1 p1 g1⟩)
theorem et_not {t : Bool} (h : ET X s e s1 t) : ET X s (.UnaryOp .Not e pos) s1 (!t) := fun σ H F rs as hd Q k =>
  WTt.of (pt_not pt_u) (h σ H F rs as hd _ fun H1 F1 rs1 as1 h1 p1 g1 => k H1 F1 rs1 as1 h1 p1 g1)
theorem ee_not {t : Bool} (h : EA X s e s1 (.d (.bl t))) : EA X s (.UnaryOp .Not e pos) s1 (.d (.bl (!t))) := fun σ H F rs as hd Q k =>
  WE.of (pe_not pe_u) (h σ H F rs as hd _ fun v H1 F1 rs1 as1 h1 p1 g1 r1 => ⟨t, r1, k _ H1 F1 rs1 as1 h1 p1 g1 rfl⟩)
/-! and, or: the second is asked only where the first leaves it open; then it must leave the state as it is -/
theorem ee_and {t u : Bool} {rest : List Expr} (h : EA X s a s1 (.d (.bl t))) (h2 : t = true → EA X s1 (.BoolOp .And (b :: rest) pos) s1 (.d (.bl u))) : EA X s (.BoolOp .And (a :: b :: rest) pos) s1 (.d (.bl (t && u))) := fun σ H F rs as hd Q k =>
  WE.of (pe_and pe_u pe_u) (h σ H F rs as hd _ fun v H1 F1 rs1 as1 h1 p1 g1 r1 => ⟨t, r1, by
    cases t with
    | true => exact iteT (h2 rfl σ H1 F1 rs1 as1 h1 _ fun w H2 F2 rs2 as2 q2 p2 g2 r2 => k w H2 F2 rs2 as2 q2 (p1.trans p2) (g1.trans g2) r2)
    | false => exact iteF (k _ H1 F1 rs1 as1 h1 p1 g1 rfl)⟩)
theorem ee_or {t u : Bool} {rest : List Expr} (h : EA X s a s1 (.d (.bl t))) (h2 : t = false → EA X s1 (.BoolOp .Or (b :: rest) pos) s1 (.d (.bl u))) : EA X s (.BoolOp .Or (a :: b :: rest) pos) s1 (.d (.bl (t || u))) := fun σ H F rs as hd Q k =>
  WE.of (pe_or pe_u pe_u) (h σ H F rs as hd _ fun v H1 F1 rs1 as1 h1 p1 g1 r1 => ⟨t, r1, by
    cases t with
    | false => exact iteF (h2 rfl σ H1 F1 rs1 as1 h1 _ fun w H2 F2 rs2 as2 q2 p2 g2 r2 => k w H2 F2 rs2 as2 q2 (p1.trans p2) (g1.trans g2) r2)
    | true => exact iteT (k _ H1 F1 rs1 as1 h1 p1 g1 rfl)⟩)
theorem ee_one {op} (h : EA X s a s1 x) : EA X s (.BoolOp op [a] pos) s1 x := fun σ H F rs as hd Q k => WE.of (pe_one pe_u) (h σ H F rs as hd Q k)
/-- and with an effect behind: the state of the end by cases -/
theorem ee_andS {t u : Bool} {rest : List Expr} (h : EA X s a s1 (.d (.bl t))) (h2 : t = true → EA X s1 (.BoolOp .And (b :: rest) pos) s2 (.d (.bl u))) (h3 : t = false → s2 = s1) : EA X s (.BoolOp .And (a :: b :: rest) pos) s2 (.d (.bl (t && u))) := fun σ H F rs as hd Q k =>
  WE.of (pe_and pe_u pe_u) (h σ H F rs as hd _ fun v H1 F1 rs1 as1 h1 p1 g1 r1 => ⟨t, r1, by
    cases t with
    | true => exact iteT (h2 rfl σ H1 F1 rs1 as1 h1 _ fun w H2 F2 rs2 as2 q2 p2 g2 r2 => k w H2 F2 rs2 as2 q2 (p1.trans p2) (g1.trans g2) r2)
    | false => cases h3 rfl; exact iteF (k _ H1 F1 rs1 as1 h1 p1 g1 rfl)⟩)
theorem et_of_w {t : Bool} (h : EW X s e s1 t) : ET X s e s1 t := fun σ H F rs as hd Q k => WTt.of pw_u.pt (h σ H F rs as hd Q k)
theorem ew_and1 {t : Bool} (h : ET X s a s1 t) : EW X s (.BoolOp .And [a] pos) s1 t := fun σ H F rs as hd Q k => WPt.of (pw_and1 pt_u) (h σ H F rs as hd Q k)
theorem ew_or1 {t : Bool} (h : ET X s a s1 t) : EW X s (.BoolOp .Or [a] pos) s1 t := fun σ H F rs as hd Q k => WPt.of (pw_or1 pt_u) (h σ H F rs as hd Q k)
theorem ew_and {t u : Bool} {rest : List Expr} (h : ET X s a s1 t) (h2 : t = true → EW X s1 (.BoolOp .And (b :: rest) pos) s2 u) (h3 : t = false → s2 = s1 := by intro _; rfl) : EW X s (.BoolOp .And (a :: b :: rest) pos) s2 (t && u) := fun σ H F rs as hd Q k =>
  WPt.of (pw_and pt_u pw_u) (h σ H F rs as hd _ fun H1 F1 rs1 as1 h1 p1 g1 => by
    cases t with
    | true => exact iteT (h2 rfl σ H1 F1 rs1 as1 h1 _ fun H2 F2 rs2 as2 q2 p2 g2 => k H2 F2 rs2 as2 q2 (p1.trans p2) (g1.trans g2))
    | false => cases h3 rfl; exact iteF (k H1 F1 rs1 as1 h1 p1 g1))
theorem ew_or {t u : Bool} {rest : List Expr} (h : ET X s a s1 t) (h2 : t = false → EW X s1 (.BoolOp .Or (b :: rest) pos) s2 u) (h3 : t = true → s2 = s1 := by intro _; rfl) : EW X s (.BoolOp .Or (a :: b :: rest) pos) s2 (t || u) := fun σ H F rs as hd Q k =>
  WPt.of (pw_or pt_u pw_u) (h σ H F rs as hd _ fun H1 F1 rs1 as1 h1 p1 g1 => by
    cases t with
    | false => exact iteF (h2 rfl σ H1 F1 rs1 as1 h1 _ fun H2 F2 rs2 as2 q2 p2 g2 => k H2 F2 rs2 as2 q2 (p1.trans p2) (g1.trans g2))
    | true => cases h3 rfl; exact iteT (k H1 F1 rs1 as1 h1 p1 g1))
theorem ee_if {t : Bool} (h : ET X s c s1 t) (h1 : t = true → EA X s1 a s2 x) (h2 : t = false → EA X s1 b s2 x) : EA X s (.IfExp c a b pos) s2 x := fun σ H F rs as hd Q k =>
  WE.of (pe_ifExp pt_u pe_u pe_u) (h σ H F rs as hd _ fun H1 F1 rs1 as1 q1 p1 g1 => by
    cases t with
    | true => exact iteT (h1 rfl σ H1 F1 rs1 as1 q1 _ fun w H2 F2 rs2 as2 q2 p2 g2 r2 => k w H2 F2 rs2 as2 q2 (p1.trans p2) (g1.trans g2) r2)
    | false => exact iteF (h2 rfl σ H1 F1 rs1 as1 q1 _ fun w H2 F2 rs2 as2 q2 p2 g2 r2 => k w H2 F2 rs2 as2 q2 (p1.trans p2) (g1.trans g2) r2))
theorem ee_chain {op op' : CmpOp} {r r' : R2} {t u : Bool} (ho : OpR X (compareOp op) r) (ho' : OpR X (compareOp op') r') (ha : EA X s a s1 x) (hb : EA X s1 b s2 y) (hr : OpV X s2 r x y (.bl t)) (hc : EA X s2 c s2 z) (hr' : OpV X s2 r' y z (.bl u))
    (hm : lastMarks [op, op'] [b, c] = false := by with_unfolding_all rfl) : EA X s (.Compare a [op, op'] [b, c] pos) s2 (.d (.bl (t && u))) := fun σ H F rs as hd Q k =>
  WE.of (pe_chain ho ho' pe_u pe_u pe_u hm) (ha σ H F rs as hd _ fun v H1 F1 rs1 as1 h1 p1 g1 r1 => hb σ H1 F1 rs1 as1 h1 _ fun w H2 F2 rs2 as2 h2 p2 g2 r2 => hr σ H2 F2 rs2 as2 v w h2 (r1.mono g2.fz p2) r2 _
    fun u' H' F' g sb q => ⟨t, q, by
      obtain ⟨h', g'⟩ := h2.pure g sb
      cases t with
      | true => exact iteT (hc σ H' F' rs2 as2 h' _ fun w' H4 F4 rs4 as4 h4 p4 g4 r4 => hr' σ H4 F4 rs4 as4 w w' h4 ((r2.mono g.fz (refl_pre _)).mono g4.fz p4) r4 Q
          (h4.fin fun u2 H5 F5 rs5 as5 h5 p5 g5 q5 => k u2 H5 F5 rs5 as5 h5 (((p1.trans p2).trans p4).trans p5) ((((g1.trans g2).trans g').trans g4).trans g5) q5))
      | false => exact iteF (k _ H' F' rs2 as2 h' (p1.trans p2) ((g1.trans g2).trans g') rfl)⟩)
theorem et_chain {op op' : CmpOp} {r r' : R2} {t u : Bool} (ho : OpR X (compareOp op) r) (ho' : OpR X (compareOp op') r') (ha : EA X s a s1 x) (hb : EA X s1 b s2 y) (hr : OpV X s2 r x y (.bl t)) (hc : EA X s2 c s2 z) (hr' : OpV X s2 r' y z (.bl u))
    (hm : lastMarks [op, op'] [b, c] = false := by with_unfolding_all rfl) : ET X s (.Compare a [op, op'] [b, c] pos) s2 (t && u) := fun σ H F rs as hd Q k =>
  WTt.of (pt_chain ho ho' pe_u pe_u pe_u hm) (ha σ H F rs as hd _ fun v H1 F1 rs1 as1 h1 p1 g1 r1 => hb σ H1 F1 rs1 as1 h1 _ fun w H2 F2 rs2 as2 h2 p2 g2 r2 => hr σ H2 F2 rs2 as2 v w h2 (r1.mono g2.fz p2) r2 _
    fun u' H' F' g sb q => ⟨t, q, by
      obtain ⟨h', g'⟩ := h2.pure g sb
      cases t with
      | true => exact iteT (hc σ H' F' rs2 as2 h' _ fun w' H4 F4 rs4 as4 h4 p4 g4 r4 => hr' σ H4 F4 rs4 as4 w w' h4 ((r2.mono g.fz (refl_pre _)).mono g4.fz p4) r4 _
          (h4.fin fun u2 H5 F5 rs5 as5 h5 p5 g5 q5 => ⟨u, q5, k H5 F5 rs5 as5 h5 (((p1.trans p2).trans p4).trans p5) ((((g1.trans g2).trans g').trans g4).trans g5)⟩))
      | false => exact iteF ⟨false, rfl, k H' F' rs2 as2 h' (p1.trans p2) ((g1.trans g2).trans g')⟩⟩)
theorem ee_un {op : UnaryOp} {r : V → Hp → VK → Prop} (ho : UnR X (unaryOp op) r) (ha : EA X s a s1 x) (hr : UnV X s1 r x d) : EA X s (.UnaryOp op a pos) s1 (.d d) := fun σ H F rs as hd Q k =>
  WE.of (pe_un ho pe_u) (ha σ H F rs as hd _ fun v H1 F1 rs1 as1 h1 p1 g1 r1 => hr σ H1 F1 rs1 as1 v h1 r1 Q
    (h1.fin fun u H' F' rs' as' h' p' g' q => k u H' F' rs' as' h' (p1.trans p') (g1.trans g') q))
/-! arguments -/
theorem es_nil : EAs X s [] s [] := fun σ H F rs as hd Q k => WA.of pa_nil (k [] H F rs as hd (refl_pre _) (Go.refl _ _ _) rfl)
theorem es_cons (h : EA X s e s1 x) (h2 : EAs X s1 es s2 xs) (hs : starEach (e :: es) X.env = (false, eval e X.env) :: starEach es X.env := by rfl) : EAs X s (e :: es) s2 (x :: xs) := fun σ H F rs as hd Q k =>
  WA.of (pa_cons pe_u pa_u hs) (h σ H F rs as hd _ fun v H1 F1 rs1 as1 h1 p1 g1 r1 => h2 σ H1 F1 rs1 as1 h1 _ fun vs H2 F2 rs2 as2 q2 p2 g2 r2 => k _ H2 F2 rs2 as2 q2 (p1.trans p2) (g1.trans g2) ⟨v, vs, rfl, r1.mono g2.fz p2, r2⟩)
def allD : List Ar → Option (List D)
  | [] => some []
  | .d d :: xs => (allD xs).map (d :: ·)
  | .o _ :: _ => none
theorem allD_reps {K : PySem.W.Frag} : ∀ {xs : List Ar} {ds : List D} {vs : List V}, allD xs = some ds → ArsOk K F rs xs vs → Reps K F ds vs
  | [], _, _, h, a => by cases h; exact a
  | .d d :: xs, _, _, h, ⟨v, ws, e, r, rr⟩ => by
    have h' : (allD xs).map (d :: ·) = some _ := h
    cases q : allD xs with
    | none => rw [q] at h'; cases h'
    | some es => rw [q] at h'; cases h'; exact ⟨v, ws, e, r, allD_reps q rr⟩
  | .o _ :: _, _, _, h, _ => by cases h
theorem ee_tup {x1} (h : EAs X s es s1 xs) (hd : allD xs = some ds := by rfl) (hl : ds.length ≤ 100000 := by first | decide | exact Nat.le_of_ble_eq_true rfl) : EA X s (.Tuple es x1 pos) s1 (.d (.tup ds)) := fun σ H F rs as hd' Q k =>
  WE.of (pe_tup pa_u) (h σ H F rs as hd' _ fun vs H1 F1 rs1 as1 h1 p1 g1 r1 => by
    have rr := allD_reps hd r1
    refine ⟨by rw [rr.len]; exact Nat.le_trans hl (by decide), fun p hp => ?_⟩
    obtain ⟨g, sb⟩ := go_new (o := .tup vs) hp h1.sub
    exact h1.fin (fun u H' F' rs' as' h' p' g' q => k u H' F' rs' as' h' (p1.trans p') (g1.trans g') q) _ _ _ g sb ⟨p, vs, rfl, .inl (.inl upd_same), Reps.mono g.fz _ _ rr⟩)
theorem ea_lst (h : EAs X s es s1 xs) (hd : allD xs = some ds := by rfl) (hl : ds.length ≤ 100000 := by first | decide | exact Nat.le_of_ble_eq_true rfl) : EA X s (.List es pos) (s1.add (.fl ds)) (.o s1.μ.length) := fun σ H F rs as hd' Q k =>
  WE.of (pe_lst pa_u) (h σ H F rs as hd' _ fun vs H1 F1 rs1 as1 h1 p1 g1 r1 => by
    have rr := allD_reps hd r1
    exact ⟨by rw [rr.len]; exact Nat.le_trans hl (by decide), h1.newK rr fun u H' F' rs' as' h' p' g' q => k u H' F' rs' as' h' (p1.trans p') (g1.trans g') q⟩)
theorem ea_callB {id : String} {r : List V → Hp → VK → Prop} (hc : CallR X (.builtin id) r) (hg : Gl X nm) (hm : X.mg nm = none) (hv : bootBuiltins nm = some (.builtin id)) (ha : EAs X s (e :: es) s1 xs) (hr : CaV X s1 r xs d)
    (hn : nm ≠ "__name__" := by decide) (hdb : (nm == ("__debug__" : Str)) = false := by decide) (he : starEach (e :: es) X.env = (false, eval e X.env) :: starEach es X.env := by rfl) (hpl : (backTo pos (starEach es X.env)).any (·.1) = false := by rfl) :
    EA X s (.Call (.Name nm p) (e :: es) [] pos) s1 (.d d) := fun σ H F rs as hd Q k =>
  WE.of (pe_callB hc hg hm hv pa_u hn hdb he hpl) (ha σ H F rs as hd _ fun vs H1 F1 rs1 as1 h1 p1 g1 r1 => hr σ H1 F1 rs1 as1 vs h1 r1 Q
    (h1.fin fun u H' F' rs' as' h' p' g' q => k u H' F' rs' as' h' (p1.trans p') (g1.trans g') q))
theorem ea_callT {T' : String} {r : List V → Hp → VK → Prop} (hc : CallR X (.type T') r) (hg : Gl X nm) (hm : X.mg nm = none) (hv : bootBuiltins nm = some (.type T')) (ha : EAs X s (e :: es) s1 xs) (hr : CaV X s1 r xs d)
    (hn : nm ≠ "__name__" := by decide) (hdb : (nm == ("__debug__" : Str)) = false := by decide) (he : starEach (e :: es) X.env = (false, eval e X.env) :: starEach es X.env := by rfl) (hpl : (backTo pos (starEach es X.env)).any (·.1) = false := by rfl) :
    EA X s (.Call (.Name nm p) (e :: es) [] pos) s1 (.d d) := fun σ H F rs as hd Q k =>
  WE.of (pe_callTy hc hg hm hv pa_u hn hdb he hpl) (ha σ H F rs as hd _ fun vs H1 F1 rs1 as1 h1 p1 g1 r1 => hr σ H1 F1 rs1 as1 vs h1 r1 Q
    (h1.fin fun u H' F' rs' as' h' p' g' q => k u H' F' rs' as' h' (p1.trans p') (g1.trans g') q))
theorem ea_callTL {T' : String} {r : List V → Hp → VK → Prop} (hc : CallR X (.type T') r) (hg : Gl X nm) (hm : X.mg nm = none) (hv : bootBuiltins nm = some (.type T')) (ha : EAs X s (e :: es) s1 xs) (hr : CaL X s1 r xs ds)
    (hn : nm ≠ "__name__" := by decide) (hdb : (nm == ("__debug__" : Str)) = false := by decide) (he : starEach (e :: es) X.env = (false, eval e X.env) :: starEach es X.env := by rfl) (hpl : (backTo pos (starEach es X.env)).any (·.1) = false := by rfl) :
    EA X s (.Call (.Name nm p) (e :: es) [] pos) (s1.add (.fl ds)) (.o s1.μ.length) := fun σ H F rs as hd Q k =>
  WE.of (pe_callTy hc hg hm hv pa_u hn hdb he hpl) (ha σ H F rs as hd _ fun vs H1 F1 rs1 as1 h1 p1 g1 r1 => by
    obtain ⟨ys, ry, q⟩ := hr σ H1 F1 rs1 as1 vs h1 r1
    exact q Q (h1.newK ry fun u H' F' rs' as' h' p' g' q => k u H' F' rs' as' h' (p1.trans p') (g1.trans g') q))
theorem ea_callBL {id : String} {r : List V → Hp → VK → Prop} (hc : CallR X (.builtin id) r) (hg : Gl X nm) (hm : X.mg nm = none) (hv : bootBuiltins nm = some (.builtin id)) (ha : EAs X s (e :: es) s1 xs) (hr : CaL X s1 r xs ds)
    (hn : nm ≠ "__name__" := by decide) (hdb : (nm == ("__debug__" : Str)) = false := by decide) (he : starEach (e :: es) X.env = (false, eval e X.env) :: starEach es X.env := by rfl) (hpl : (backTo pos (starEach es X.env)).any (·.1) = false := by rfl) :
    EA X s (.Call (.Name nm p) (e :: es) [] pos) (s1.add (.fl ds)) (.o s1.μ.length) := fun σ H F rs as hd Q k =>
  WE.of (pe_callB hc hg hm hv pa_u hn hdb he hpl) (ha σ H F rs as hd _ fun vs H1 F1 rs1 as1 h1 p1 g1 r1 => by
    obtain ⟨ys, ry, q⟩ := hr σ H1 F1 rs1 as1 vs h1 r1
    exact q Q (h1.newK ry fun u H' F' rs' as' h' p' g' q => k u H' F' rs' as' h' (p1.trans p') (g1.trans g') q))
/-! subscripts, slices -/
theorem ee_ix {r : R2} (hr0 : IxR X r) (ha : EA X s a s1 x) (hb : EA X s1 b s2 y) (hr : OpV X s2 r x y d) (hs : PlainIx b := by exact fun _ _ => rfl) : EA X s (.Subscript a b pos) s2 (.d d) := fun σ H F rs as hd Q k =>
  WE.of (pe_ix hr0 pe_u pe_u hs) (ha σ H F rs as hd _ fun v H1 F1 rs1 as1 h1 p1 g1 r1 => hb σ H1 F1 rs1 as1 h1 _ fun w H2 F2 rs2 as2 h2 p2 g2 r2 => hr σ H2 F2 rs2 as2 v w h2 (r1.mono g2.fz p2) r2 Q
    (h2.fin fun u H' F' rs' as' h' p' g' q => k u H' F' rs' as' h' ((p1.trans p2).trans p') ((g1.trans g2).trans g') q))
def WO (X : Cx) (o : Option Expr) : TO := fun σ H Q => ∀ t : TO, (∀ (e : Expr), o = some e → ∀ σ H Q, (WE X e σ H fun v H1 => ∃ i, v = .int i ∧ Q (some i) H1) → t σ H Q) → (o = none → ∀ σ H Q, Q none H → t σ H Q) → t σ H Q
/-- a part of a slice -/
def EP (X : Cx) (s : S) (o : Option Expr) (s' : S) (i : Option Int) : Prop := ∃ t : TO, PO X o t ∧ ∀ σ H F rs as, Hd X.K σ H F rs as s → ∀ Q : Option Int → Hp → Prop,
  (∀ H' F' rs' as', Hd X.K σ H' F' rs' as' s' → rs <+: rs' → Go as.flatten as'.flatten F H F' H' → Q i H') → t σ H Q
theorem ep_none : EP X s none s none := ⟨_, po_none, fun σ H F rs as hd Q k => k H F rs as hd (refl_pre _) (Go.refl _ _ _)⟩
theorem ep_some {i : Int} (h : EA X s e s1 (.d (.int i))) : EP X s (some e) s1 (some i) := ⟨_, po_some pe_u, fun σ H F rs as hd Q k => h σ H F rs as hd _ fun v H1 F1 rs1 as1 h1 p1 g1 r1 => ⟨i, r1, k H1 F1 rs1 as1 h1 p1 g1⟩⟩
def SlV (X : Cx) (s : S) (r : V → Option Int → Option Int → Hp → VK → Prop) (x : Ar) (lo hi : Option Int) (d : D) : Prop := ∀ σ H F rs as v, Hd X.K σ H F rs as s → ArOk X.K F rs x v → ∀ Q : VK,
  (∀ u H' F', Go [] [] F H F' H' → Same F' H' → Rep X.K F' d u → Q u H') → r v lo hi H Q
def SlL (X : Cx) (s : S) (r : V → Option Int → Option Int → Hp → VK → Prop) (x : Ar) (lo hi : Option Int) (ds : List D) : Prop := ∀ σ H F rs as v, Hd X.K σ H F rs as s → ArOk X.K F rs x v → ∃ ys, Reps X.K F ds ys ∧ ∀ Q : VK,
  (∀ p, H p = none → Q (.ref p) (upd H p (.lst ys))) → r v lo hi H Q
theorem ee_sl {r : V → Option Int → Option Int → Hp → VK → Prop} {lo hi : Option Expr} {i j : Option Int} {p2 : Pos} (hr0 : SlR X r) (ha : EA X s a s1 x) (hl : EP X s1 lo s2 i) (hu : EP X s2 hi s3 j) (hr : SlV X s3 r x i j d) :
    EA X s (.Subscript a (.Slice lo hi none p2) pos) s3 (.d d) := fun σ H F rs as hd Q k => by
  obtain ⟨tl, pl, ql⟩ := hl
  obtain ⟨tu, pu, qu⟩ := hu
  exact WE.of (pe_slice hr0 pe_u pl pu) (ha σ H F rs as hd _ fun v H1 F1 rs1 as1 h1 p1 g1 r1 => ql σ H1 F1 rs1 as1 h1 _ fun H2 F2 rs2 as2 h2 p2 g2 => qu σ H2 F2 rs2 as2 h2 _ fun H3 F3 rs3 as3 h3 p3 g3 => hr σ H3 F3 rs3 as3 v h3 ((r1.mono g2.fz p2).mono g3.fz p3) Q
    (h3.fin fun u H' F' rs' as' h' p' g' q => k u H' F' rs' as' h' (((p1.trans p2).trans p3).trans p') (((g1.trans g2).trans g3).trans g') q))
theorem ea_slL {r : V → Option Int → Option Int → Hp → VK → Prop} {lo hi : Option Expr} {i j : Option Int} {p2 : Pos} (hr0 : SlR X r) (ha : EA X s a s1 x) (hl : EP X s1 lo s2 i) (hu : EP X s2 hi s3 j) (hr : SlL X s3 r x i j ds) :
    EA X s (.Subscript a (.Slice lo hi none p2) pos) (s3.add (.fl ds)) (.o s3.μ.length) := fun σ H F rs as hd Q k => by
  obtain ⟨tl, pl, ql⟩ := hl
  obtain ⟨tu, pu, qu⟩ := hu
  exact WE.of (pe_slice hr0 pe_u pl pu) (ha σ H F rs as hd _ fun v H1 F1 rs1 as1 h1 p1 g1 r1 => ql σ H1 F1 rs1 as1 h1 _ fun H2 F2 rs2 as2 h2 p2 g2 => qu σ H2 F2 rs2 as2 h2 _ fun H3 F3 rs3 as3 h3 p3 g3 => by
    obtain ⟨ys, ry, q⟩ := hr σ H3 F3 rs3 as3 v h3 ((r1.mono g2.fz p2).mono g3.fz p3)
    exact q Q (h3.newK ry fun u H' F' rs' as' h' p' g' q => k u H' F' rs' as' h' (((p1.trans p2).trans p3).trans p') (((g1.trans g2).trans g3).trans g') q))
end
end Q
namespace Q
open PySem L2

/-! ### data that can be compared -/
mutual
def D.py : D → PyData
  | .non => .none
  | .bl b => .bool b
  | .int i => .int i
  | .str l => .str (mk l)
  | .lst ds => .list (D.pys ds)
  | .tup ds => .tuple (D.pys ds)
  | .rl ds => .list (D.pys ds)
  | .ins _ _ _ => .none
  | .val _ => .none
def D.pys : List D → List PyData
  | [] => []
  | d :: ds => d.py :: D.pys ds
end
/-- no instances, no truths; nested to n at most -/
def Dk : Nat → D → Prop
  | _, .non => True
  | _, .int _ => True
  | _, .str l => ∀ c ∈ l, c < 0x110000
  | n + 1, .lst ds => ∀ d ∈ ds, Dk n d
  | n + 1, .tup ds => ∀ d ∈ ds, Dk n d
  | _, _ => False
theorem pys_map : ∀ ds : List D, D.pys ds = ds.map D.py
  | [] => rfl
  | d :: ds => by show d.py :: D.pys ds = _; rw [pys_map ds]; rfl
section
variable {K : PySem.W.Frag} {F : Hp}
theorem dk_all {n : Nat} (ih : ∀ (d : D), Dk n d → d.py.canLay0 = true ∧ d.py.depth ≤ n) : ∀ ds : List D, (∀ d ∈ ds, Dk n d) → PyData.canLayAll0 (D.pys ds) = true ∧ PyData.depthAll (D.pys ds) ≤ n
  | [], _ => ⟨rfl, Nat.zero_le _⟩
  | d :: ds, h => by
    obtain ⟨a, b⟩ := ih d (h d List.mem_cons_self)
    obtain ⟨a', b'⟩ := dk_all ih ds fun e he => h e (List.mem_cons_of_mem _ he)
    refine ⟨?_, ?_⟩
    · show (d.py.canLay0 && PyData.canLayAll0 (D.pys ds)) = true
      rw [a, a']; rfl
    · show max d.py.depth (PyData.depthAll (D.pys ds)) ≤ n
      omega
theorem strOk_mk {l : List Nat} (h : ∀ c ∈ l, c < 0x110000) : PyData.canLay0 (.str (mk l)) = true := by
  show ((mk l).cps.all fun c => decide (c < 0x110000)) = true
  rw [← Array.all_toList, mk_cps, List.all_eq_true]
  exact fun c hc => decide_eq_true (h c hc)
theorem Dk.shape : ∀ (n : Nat) (d : D), Dk n d → d.py.canLay0 = true ∧ d.py.depth ≤ n
  | n, .non, _ => ⟨rfl, Nat.zero_le _⟩
  | n, .int _, _ => ⟨rfl, Nat.zero_le _⟩
  | n, .str l, h => ⟨strOk_mk (by cases n <;> exact h), Nat.zero_le _⟩
  | n + 1, .lst ds, h => by
    obtain ⟨a, b⟩ := dk_all (Dk.shape n) ds h
    exact ⟨a, Nat.succ_le_succ b⟩
  | n + 1, .tup ds, h => by
    obtain ⟨a, b⟩ := dk_all (Dk.shape n) ds h
    exact ⟨a, Nat.succ_le_succ b⟩
  | n, .bl _, h => by cases n <;> exact h.elim
  | 0, .lst _, h => h.elim
  | 0, .tup _, h => h.elim
  | n, .rl _, h => by cases n <;> exact h.elim
  | n, .ins _ _ _, h => by cases n <;> exact h.elim
  | n, .val _, h => by cases n <;> exact h.elim
theorem Dk.shaped {n : Nat} {d : D} (h : Dk n d) (hn : n ≤ 64) : SeqAt.shaped d.py = true := by
  obtain ⟨a, b⟩ := Dk.shape n d h
  show (_ && decide _) = true
  rw [a, decide_eq_true (Nat.le_trans b hn)]; rfl
theorem dk_reps {n : Nat} (ih : ∀ (d : D) (v : V), Dk n d → Rep K F d v → Dp K F v d.py) : ∀ (ds : List D) (vs : List V), (∀ d ∈ ds, Dk n d) → Reps K F ds vs → DpAll K F vs (D.pys ds)
  | [], _, _, h => by cases h; exact .nil
  | d :: ds, _, hk, ⟨v, ws, e, h1, h2⟩ => by
    cases e
    exact .cons (ih d v (hk d List.mem_cons_self) h1) (dk_reps ih ds ws (fun e he => hk e (List.mem_cons_of_mem _ he)) h2)
theorem Dk.dp : ∀ (n : Nat) (d : D) (v : V), Dk n d → Rep K F d v → Dp K F v d.py
  | n, .non, _, _, h => by cases h; exact .non
  | n, .int _, _, _, h => by cases h; exact .int _
  | n, .str l, _, _, h => by cases h; exact .str _
  | n + 1, .lst ds, _, hk, ⟨a, xs, e, h, r⟩ => by cases e; exact .lst (.of h) (dk_reps (Dk.dp n) ds xs hk r)
  | n + 1, .tup ds, _, hk, ⟨a, xs, e, h, r⟩ => by cases e; exact .tup h (dk_reps (Dk.dp n) ds xs hk r)
  | n, .bl _, _, h, _ => by cases n <;> exact h.elim
  | 0, .lst _, _, h, _ => h.elim
  | 0, .tup _, _, h, _ => h.elim
  | n, .rl _, _, h, _ => by cases n <;> exact h.elim
  | n, .ins _ _ _, _, h, _ => by cases n <;> exact h.elim
  | n, .val _, _, h, _ => by cases n <;> exact h.elim
theorem eqv_alls {n : Nat} (ih : ∀ (d e : D), Dk n d → Dk n e → (PyData.eqv d.py e.py = true ↔ d = e)) : ∀ (ds es : List D), (∀ d ∈ ds, Dk n d) → (∀ d ∈ es, Dk n d) → (PyData.eqvAll (D.pys ds) (D.pys es) = true ↔ ds = es)
  | [], [], _, _ => ⟨fun _ => rfl, fun _ => rfl⟩
  | [], _ :: _, _, _ => ⟨fun h => (by cases h), fun h => (by cases h)⟩
  | _ :: _, [], _, _ => ⟨fun h => (by cases h), fun h => (by cases h)⟩
  | d :: ds, e :: es, h1, h2 => by
    show (PyData.eqv d.py e.py && PyData.eqvAll (D.pys ds) (D.pys es)) = true ↔ _
    rw [Bool.and_eq_true, ih d e (h1 d List.mem_cons_self) (h2 e List.mem_cons_self), eqv_alls ih ds es (fun x hx => h1 x (List.mem_cons_of_mem _ hx)) (fun x hx => h2 x (List.mem_cons_of_mem _ hx)), List.cons.injEq]
theorem Dk.eqv : ∀ (n : Nat) (d e : D), Dk n d → Dk n e → (PyData.eqv d.py e.py = true ↔ d = e)
  | n, .non, e, _, h => by
    cases e with
    | non => exact ⟨fun _ => rfl, fun _ => rfl⟩
    | _ => exact ⟨fun z => (by first | (cases n <;> exact h.elim) | (cases z)), fun z => (by cases z)⟩
  | n, .int i, e, _, h => by
    cases e with
    | int j => exact ⟨fun z => by rw [eq_of_beq (show (i == j) = true from z)], fun z => by cases z; show (i == i) = true; exact beq_self_eq_true i⟩
    | _ => exact ⟨fun z => (by first | (cases n <;> exact h.elim) | (cases z)), fun z => (by cases z)⟩
  | n, .str l, e, _, h => by
    cases e with
    | str m => exact ⟨fun z => by rw [mk_inj (eq_of_beq (show (mk l == mk m) = true from z))], fun z => by cases z; show (mk l == mk l) = true; exact beq_self_eq_true _⟩
    | _ => exact ⟨fun z => (by first | (cases n <;> exact h.elim) | (cases z)), fun z => (by cases z)⟩
  | n + 1, .lst ds, e, hd, h => by
    cases e with
    | lst es =>
      have q := eqv_alls (Dk.eqv n) ds es hd h
      exact ⟨fun z => by rw [q.mp z], fun z => by cases z; exact q.mpr rfl⟩
    | _ => exact ⟨fun z => (by first | exact h.elim | (cases z)), fun z => (by cases z)⟩
  | n + 1, .tup ds, e, hd, h => by
    cases e with
    | tup es =>
      have q := eqv_alls (Dk.eqv n) ds es hd h
      exact ⟨fun z => by rw [q.mp z], fun z => by cases z; exact q.mpr rfl⟩
    | _ => exact ⟨fun z => (by first | exact h.elim | (cases z)), fun z => (by cases z)⟩
  | n, .bl _, _, h, _ => by cases n <;> exact h.elim
  | 0, .lst _, _, h, _ => h.elim
  | 0, .tup _, _, h, _ => h.elim
  | n, .rl _, _, h, _ => by cases n <;> exact h.elim
  | n, .ins _ _ _, _, h, _ => by cases n <;> exact h.elim
  | n, .val _, _, h, _ => by cases n <;> exact h.elim
end

theorem go0 {F H : Hp} : Go [] [] F H F H := Go.refl [] F H
section
variable {X : Cx} {s : S} {x y : Ar} {d e : D} {ds es : List D} {i j : Int} {l m : List Nat} {t : Bool}
/-! ### numbers -/
theorem ov_I {C : Int → Int → Prop} {g : Int → Int → V} (hc : C i j) (hg : ∀ F, Rep X.K F d (g i j)) : OpV X s (rI C g) (.d (.int i)) (.d (.int j)) d := fun σ H F rs as v w hd a b Q k => by
  cases a; cases b
  exact ⟨i, j, rfl, rfl, hc, k _ H F go0 hd.sub (hg F)⟩
theorem ov_I0 {g : Int → Int → V} (hg : ∀ F, Rep X.K F d (g i j)) : OpV X s (rI0 g) (.d (.int i)) (.d (.int j)) d := fun σ H F rs as v w hd a b Q k => by
  cases a; cases b
  exact ⟨i, j, rfl, rfl, k _ H F go0 hd.sub (hg F)⟩
theorem ov_add : OpV X s (rI0 fun i j => .int (i + j)) (.d (.int i)) (.d (.int j)) (.int (i + j)) := ov_I0 fun _ => rfl
theorem ov_sub : OpV X s (rI0 fun i j => .int (i - j)) (.d (.int i)) (.d (.int j)) (.int (i - j)) := ov_I0 fun _ => rfl
theorem ov_mod (h : 0 < j) : OpV X s (rI (fun _ j => 0 < j) fun i j => .int (i % j)) (.d (.int i)) (.d (.int j)) (.int (i % j)) := ov_I h fun _ => rfl
theorem ov_div (h : 0 < j ∧ j < 1073741824) : OpV X s (rI CDiv fun i j => .int (i / j)) (.d (.int i)) (.d (.int j)) (.int (i / j)) := ov_I h fun _ => rfl
theorem ov_mul (h : (-(2 ^ 64) < i ∧ i < 2 ^ 64) ∨ (-(2 ^ 64) < j ∧ j < 2 ^ 64)) : OpV X s (rI CMul fun i j => .int (i * j)) (.d (.int i)) (.d (.int j)) (.int (i * j)) := ov_I h fun _ => rfl
theorem ov_lt : OpV X s (rI0 fun i j => .bl (decide (i < j))) (.d (.int i)) (.d (.int j)) (.bl (decide (i < j))) := ov_I0 fun _ => rfl
theorem ov_le : OpV X s (rI0 fun i j => .bl (decide (i ≤ j))) (.d (.int i)) (.d (.int j)) (.bl (decide (i ≤ j))) := ov_I0 fun _ => rfl
theorem ov_gt : OpV X s (rI0 fun i j => .bl (decide (j < i))) (.d (.int i)) (.d (.int j)) (.bl (decide (j < i))) := ov_I0 fun _ => rfl
theorem ov_ge : OpV X s (rI0 fun i j => .bl (decide (j ≤ i))) (.d (.int i)) (.d (.int j)) (.bl (decide (j ≤ i))) := ov_I0 fun _ => rfl
theorem op_powW : OpR X (binaryOp .Pow) (rI (fun i j => 0 ≤ j ∧ (Builtin.Int.intBits i : Int) * j ≤ 2 ^ 27) fun i j => .int (i ^ j.toNat)) := opI fun _ _ _ _ _ _ _ hc q => PyProof.Rows.pow_int hc.1 hc.2 q
theorem uv_neg : UnV X s (rU fun i => .int (-i)) (.d (.int i)) (.int (-i)) := fun σ H F rs as v hd a Q k => by
  cases a
  exact ⟨i, rfl, k _ H F go0 hd.sub rfl⟩
/-! ### == of flat things -/
theorem ov_eqI : OpV X s rEq (.d (.int i)) (.d (.int j)) (.bl (decide (i = j))) := fun σ H F rs as v w hd a b Q k => by
  cases a; cases b
  refine ⟨rfl, k _ H F go0 hd.sub ?_⟩
  show V.bl _ = V.bl _
  congr 1
  exact decide_eq_decide.mpr ⟨fun z => V.int.inj z, fun z => by rw [z]⟩
theorem ov_neI : OpV X s rNe (.d (.int i)) (.d (.int j)) (.bl (!decide (i = j))) := fun σ H F rs as v w hd a b Q k => by
  cases a; cases b
  refine ⟨rfl, k _ H F go0 hd.sub ?_⟩
  show V.bl _ = V.bl _
  congr 2
  exact decide_eq_decide.mpr ⟨fun z => V.int.inj z, fun z => by rw [z]⟩
theorem ov_eqS : OpV X s rEq (.d (.str l)) (.d (.str m)) (.bl (decide (l = m))) := fun σ H F rs as v w hd a b Q k => by
  cases a; cases b
  refine ⟨rfl, k _ H F go0 hd.sub ?_⟩
  show V.bl _ = V.bl _
  congr 1
  exact decide_eq_decide.mpr ⟨fun z => mk_inj (V.str.inj z), fun z => by rw [z]⟩
theorem ov_neS : OpV X s rNe (.d (.str l)) (.d (.str m)) (.bl (!decide (l = m))) := fun σ H F rs as v w hd a b Q k => by
  cases a; cases b
  refine ⟨rfl, k _ H F go0 hd.sub ?_⟩
  show V.bl _ = V.bl _
  congr 2
  exact decide_eq_decide.mpr ⟨fun z => mk_inj (V.str.inj z), fun z => by rw [z]⟩
/-! ### == of any data -/
theorem ov_eqD {n : Nat} (hx : Dt s x d) (hy : Dt s y e) (kd : Dk n d) (ke : Dk n e) (hn : n ≤ 64 := by decide) (ht : t = true ↔ d = e) : OpV X s (rEqD X.K) x y (.bl t) := fun σ H F rs as v w hd a b Q k => by
  refine ⟨d.py, e.py, Dk.dp n d v kd (hx.get hd a), Dk.dp n e w ke (hy.get hd b), kd.shaped hn, ke.shaped hn, k _ H F go0 hd.sub ?_⟩
  show V.bl _ = V.bl _
  congr 1
  have q := Dk.eqv n d e kd ke
  rw [← ht] at q
  cases t with
  | true => exact q.mpr rfl
  | false => exact Bool.eq_false_iff.mpr fun z => nomatch q.mp z
theorem ov_neD {n : Nat} (hx : Dt s x d) (hy : Dt s y e) (kd : Dk n d) (ke : Dk n e) (hn : n ≤ 64 := by decide) (ht : t = true ↔ d = e) : OpV X s (rNeD X.K) x y (.bl (!t)) := fun σ H F rs as v w hd a b Q k => by
  refine ⟨d.py, e.py, Dk.dp n d v kd (hx.get hd a), Dk.dp n e w ke (hy.get hd b), kd.shaped hn, ke.shaped hn, k _ H F go0 hd.sub ?_⟩
  show V.bl _ = V.bl _
  congr 2
  have q := Dk.eqv n d e kd ke
  rw [← ht] at q
  cases t with
  | true => exact q.mpr rfl
  | false => exact Bool.eq_false_iff.mpr fun z => nomatch q.mp z
theorem any_eqv {n : Nat} (kd : Dk n d) : ∀ ds : List D, (∀ z ∈ ds, Dk n z) → ((D.pys ds).any (fun z => PyData.eqv z d.py) = true ↔ d ∈ ds)
  | [], _ => ⟨fun h => (Bool.false_ne_true h).elim, fun h => nomatch h⟩
  | z :: ds, h => by
    show (PyData.eqv z.py d.py || (D.pys ds).any _) = true ↔ _
    rw [Bool.or_eq_true, Dk.eqv n z d (h z List.mem_cons_self) kd, any_eqv kd ds fun y hy => h y (List.mem_cons_of_mem _ hy), List.mem_cons]
    exact or_congr ⟨Eq.symm, Eq.symm⟩ Iff.rfl
theorem ov_inD {n : Nat} (hx : Dt s x d) (hy : Dt s y (.lst ds)) (kd : Dk n d) (ke : ∀ z ∈ ds, Dk n z) (hn : n ≤ 60 := by decide) (ht : t = true ↔ d ∈ ds) : OpV X s (rInD X.K) x y (.bl t) := fun σ H F rs as v w hd a b Q k => by
  have kl : Dk (n + 1) (.lst ds) := ke
  refine ⟨d.py, D.pys ds, Dk.dp n d v kd (hx.get hd a), Dk.dp (n + 1) _ w kl (hy.get hd b), kd.shaped (by omega), kl.shaped (by omega), k _ H F go0 hd.sub ?_⟩
  show V.bl _ = V.bl _
  congr 1
  have q := any_eqv kd ds ke
  rw [← ht] at q
  cases t with
  | true => exact q.mpr rfl
  | false => exact Bool.eq_false_iff.mpr fun z => nomatch q.mp z
theorem ov_niD {n : Nat} (hx : Dt s x d) (hy : Dt s y (.lst ds)) (kd : Dk n d) (ke : ∀ z ∈ ds, Dk n z) (hn : n ≤ 60 := by decide) (ht : t = true ↔ d ∈ ds) : OpV X s (rNotInD X.K) x y (.bl (!t)) := fun σ H F rs as v w hd a b Q k => by
  have kl : Dk (n + 1) (.lst ds) := ke
  refine ⟨d.py, D.pys ds, Dk.dp n d v kd (hx.get hd a), Dk.dp (n + 1) _ w kl (hy.get hd b), kd.shaped (by omega), kl.shaped (by omega), k _ H F go0 hd.sub ?_⟩
  show V.bl _ = V.bl _
  congr 2
  have q := any_eqv kd ds ke
  rw [← ht] at q
  cases t with
  | true => exact q.mpr rfl
  | false => exact Bool.eq_false_iff.mpr fun z => nomatch q.mp z
/-! ### is None -/
theorem ov_isN (h : t = true ↔ d = .non) (hv : ∀ w, d ≠ .val w := by intro _ z; cases z) : OpV X s (fun x y H Q => y = .non ∧ Q (.bl (decide (x = .non))) H) (.d d) (.d .non) (.bl t) := fun σ H F rs as v w hd a b Q k => by
  cases b
  refine ⟨rfl, k _ H F go0 hd.sub ?_⟩
  show V.bl _ = V.bl _
  congr 1
  have a : Rep X.K F d v := a
  cases t with
  | true => have e := h.mp rfl; subst e; cases a; rfl
  | false =>
    refine decide_eq_false fun z => ?_
    subst z
    cases d with
    | non => exact absurd (h.mpr rfl) Bool.false_ne_true
    | bl _ => cases a
    | int _ => cases a
    | str _ => cases a
    | lst _ => obtain ⟨_, _, e, _⟩ := a; cases e
    | tup _ => obtain ⟨_, _, e, _⟩ := a; cases e
    | rl _ => obtain ⟨_, _, e, _⟩ := a; cases e
    | ins _ _ _ => obtain ⟨_, _, _, e, _⟩ := a; cases e
    | val w => exact absurd rfl (hv w)
/-! ### texts -/
theorem ov_cat (h : l.length + m.length ≤ 16777216) : OpV X s (fun x y H Q => ∃ i j, x = .str i ∧ y = .str j ∧ i.length + j.length ≤ sizeLine ∧ Q (.str (i ++ j)) H) (.d (.str l)) (.d (.str m)) (.str (l ++ m)) := fun σ H F rs as v w hd a b Q k => by
  cases a; cases b
  refine ⟨_, _, rfl, rfl, ?_, k _ H F go0 hd.sub ?_⟩
  · rw [mk_len, mk_len]; exact h
  · show V.str _ = V.str _
    congr 1
    show (⟨(mk l).cps ++ (mk m).cps⟩ : Str) = ⟨(l ++ m).toArray⟩
    simp [mk]
theorem ov_inC {c : Nat} : OpV X s (fun x y H Q => ∃ (c : Nat) (z : Str), x = .str ⟨#[c]⟩ ∧ y = .str z ∧ Q (.bl (decide (c ∈ z.cps.toList))) H) (.d (.str [c])) (.d (.str l)) (.bl (decide (c ∈ l))) := fun σ H F rs as v w hd a b Q k => by
  cases a; cases b
  refine ⟨c, _, rfl, rfl, k _ H F go0 hd.sub ?_⟩
  show V.bl _ = V.bl _
  rw [mk_cps]
theorem ov_niC {c : Nat} : OpV X s (fun x y H Q => ∃ (c : Nat) (z : Str), x = .str ⟨#[c]⟩ ∧ y = .str z ∧ Q (.bl (!decide (c ∈ z.cps.toList))) H) (.d (.str [c])) (.d (.str l)) (.bl (!decide (c ∈ l))) := fun σ H F rs as v w hd a b Q k => by
  cases a; cases b
  refine ⟨c, _, rfl, rfl, k _ H F go0 hd.sub ?_⟩
  show V.bl _ = V.bl _
  rw [mk_cps]
theorem ov_leS : OpV X s (fun x y H Q => ∃ i j, x = .str i ∧ y = .str j ∧ Q (.bl (!decide (j.cps.toList < i.cps.toList))) H) (.d (.str l)) (.d (.str m)) (.bl (!decide (m < l))) := fun σ H F rs as v w hd a b Q k => by
  cases a; cases b
  refine ⟨_, _, rfl, rfl, k _ H F go0 hd.sub ?_⟩
  show V.bl _ = V.bl _
  rw [mk_cps, mk_cps]
theorem flat_strs : ∀ ls : List (List Nat), ((ls.map mk).map V.str).all flatV = true
  | [] => rfl
  | _ :: ls => flat_strs ls
theorem inV_strs : ∀ ls : List (List Nat), inV (.str (mk l)) ((ls.map mk).map V.str) = decide (l ∈ ls)
  | [] => by simp [inV]
  | z :: ls => by
    show (eqV (.str (mk z)) (.str (mk l)) || inV (.str (mk l)) ((ls.map mk).map V.str)) = _
    rw [inV_strs ls]
    show ((mk z == mk l) || _) = _
    by_cases h : l = z
    · subst h; simp
    · have h2 : mk z ≠ mk l := fun q => h (mk_inj q).symm
      simp [h, h2]
theorem ov_inS {ls : List (List Nat)} (h : Sq s y ds) (e : ds = ls.map D.str := by rfl) : OpV X s (rIn X.K false) (.d (.str l)) y (.bl (decide (l ∈ ls))) := fun σ H F rs as v w hd a b Q k => by
  cases a
  obtain ⟨p, xs, rfl, q, r⟩ := h.get hd b
  subst e
  cases r.strs
  refine ⟨p, _, rfl, q, rfl, flat_strs ls, ?_⟩
  rw [if_neg Bool.false_ne_true, inV_strs]
  exact k _ H F go0 hd.sub rfl
theorem mul_strR : OpR X (binaryOp .Mult) (fun x y H Q => ∃ z i, x = .str z ∧ y = .int i ∧ 0 ≤ i ∧ z.length * i.toNat ≤ 16777216 ∧ i < 2 ^ 30 ∧ Q (.str (mk (List.replicate i.toNat z.cps.toList).flatten)) H) := by
  intro pins s σ H x y v u Q I rx ry h
  obtain ⟨z, i, rfl, rfl, h0, hz, hi, q⟩ := h
  obtain ⟨t, rfl⟩ := rx
  obtain ⟨t2, rfl⟩ := ry
  have fold : ∀ k : Nat, ((List.replicate k z.cps).foldl (· ++ ·) #[]) = (List.replicate k z.cps.toList).flatten.toArray := by
    intro k
    have gen : ∀ (k : Nat) (acc : Array Nat), ((List.replicate k z.cps).foldl (· ++ ·) acc) = acc ++ (List.replicate k z.cps.toList).flatten.toArray := by
      intro k
      induction k with
      | zero => intro acc; simp
      | succ k ih =>
        intro acc
        rw [List.replicate_succ, List.foldl_cons, ih, List.replicate_succ, List.flatten_cons]
        apply Array.ext'
        simp
    rw [gen]; simp
  refine PySem.P.mul_str ?_ (fun h1 _ => ?_) (fun h1 _ => ?_) ?_
  · rw [decide_eq_false (by omega), decide_eq_false (by omega)]; rfl
  · have hpos : 0 < i := by omega
    have h2 : (z.length : Int) ≤ 16777216 := by
      have h3 : z.length * 1 ≤ z.length * i.toNat := Nat.mul_le_mul_left _ (by omega)
      omega
    have h4 : (16777216 : Int) ≤ (2 ^ 63 - 1) / i := by
      rw [Int.le_ediv_iff_mul_le hpos]
      omega
    omega
  · show decide _ = false
    exact decide_eq_false (Nat.not_lt.mpr hz)
  · by_cases h1 : i < 1
    · have : i = 0 := by omega
      subst this
      rw [if_pos (by decide)]
      exact ⟨by decide, ⟨.str _, _, I.tok _, ⟨_, rfl⟩, q⟩⟩
    · rw [if_neg h1]
      by_cases hc : (i == 1 || z.length == 0) = true
      · rw [if_pos hc]
        refine ⟨.str _, H, I, ⟨t, ?_⟩, q⟩
        rcases (Bool.or_eq_true _ _).mp hc with e | e
        · have e1 : i = 1 := eq_of_beq e
          subst e1
          show Value.str z t = _
          congr 1
          rw [show (1 : Int).toNat = 1 from rfl]
          simp [mk]
        · have e1 : z.length = 0 := eq_of_beq e
          have e2 : z.cps = #[] := Array.eq_empty_of_size_eq_zero e1
          show Value.str z t = _
          congr 1
          cases z with
          | mk cps =>
            simp only at e2
            subst e2
            simp [mk]
      · rw [if_neg hc, fold]
        have hl : (List.replicate i.toNat z.cps.toList).flatten.length ≤ sizeLine := by
          simp only [List.length_flatten, List.map_replicate, List.sum_replicate_nat, Array.length_toList]
          have : i.toNat * z.cps.size = z.length * i.toNat := Nat.mul_comm _ _
          rw [this]; exact hz
        exact ⟨by show (List.replicate i.toNat z.cps.toList).flatten.toArray.size ≤ _; rw [List.size_toArray]; exact hl, ⟨.str _, _, I.tok _, ⟨_, rfl⟩, q⟩⟩
theorem ov_repS {k : Nat} (hk : i = (k : Int)) (hz : l.length * k ≤ 16777216) (h2 : k < 1073741824) : OpV X s (fun x y H Q => ∃ z i, x = .str z ∧ y = .int i ∧ 0 ≤ i ∧ z.length * i.toNat ≤ 16777216 ∧ i < 2 ^ 30 ∧ Q (.str (mk (List.replicate i.toNat z.cps.toList).flatten)) H) (.d (.str l)) (.d (.int i)) (.str (List.replicate k l).flatten) := fun σ H F rs as v w hd a b Q q => by
  cases a; cases b
  subst hk
  refine ⟨_, _, rfl, rfl, by omega, by rw [mk_len]; exact hz, by omega, q _ H F go0 hd.sub ?_⟩
  rw [mk_cps]; rfl
/-! ### len and its like -/
theorem ca_len (h : Sq s x ds) : CaV X s (fun xs H Q => ∃ p ys, xs = [.ref p] ∧ (SqL X.K H p ys ∨ SqT X.K H p ys) ∧ Q (.int ys.length) H) [x] (.int (ds.length : Int)) := fun σ H F rs as vs hd ⟨v, ws, e, a, e2⟩ Q k => by
  subst e2 e
  obtain ⟨p, xs, rfl, q, r⟩ := h.get hd a
  exact ⟨p, xs, rfl, q, k _ H F go0 hd.sub (by show V.int _ = V.int _; rw [r.len])⟩
theorem ca_lenS (h : l.length ≤ 16777216) : CaV X s (fun xs H Q => ∃ z, xs = [.str z] ∧ z.length ≤ sizeLine ∧ Q (.int z.length) H) [.d (.str l)] (.int (l.length : Int)) := fun σ H F rs as vs hd ⟨v, ws, e, a, e2⟩ Q k => by
  subst e2 e
  cases a
  exact ⟨_, rfl, by rw [mk_len]; exact h, k _ H F go0 hd.sub (by show V.int _ = V.int _; rw [mk_len])⟩
theorem ca_intB {b : Bool} : CaV X s (fun xs H Q => (∃ i, xs = [.int i] ∧ Q (.int i) H) ∨ ∃ k, xs = [.bl k] ∧ Q (.int (if k then 1 else 0)) H) [.d (.bl b)] (.int (if b then 1 else 0)) := fun σ H F rs as vs hd ⟨v, ws, e, a, e2⟩ Q k => by
  subst e2 e
  cases a
  exact .inr ⟨b, rfl, k _ H F go0 hd.sub rfl⟩
theorem ca_max : CaV X s (fun xs H Q => ∃ i j, xs = [.int i, .int j] ∧ Q (.int (if j > i then j else i)) H) [.d (.int i), .d (.int j)] (.int (max i j)) := fun σ H F rs as vs hd ⟨v, ws, e, a, v2, ws2, e3, a2, e2⟩ Q k => by
  subst e2 e3 e
  cases a; cases a2
  refine ⟨i, j, rfl, k _ H F go0 hd.sub ?_⟩
  show V.int _ = V.int _
  congr 1
  split <;> omega
theorem ca_min : CaV X s (fun xs H Q => ∃ i j, xs = [.int i, .int j] ∧ Q (.int (if j < i then j else i)) H) [.d (.int i), .d (.int j)] (.int (min i j)) := fun σ H F rs as vs hd ⟨v, ws, e, a, v2, ws2, e3, a2, e2⟩ Q k => by
  subst e2 e3 e
  cases a; cases a2
  refine ⟨i, j, rfl, k _ H F go0 hd.sub ?_⟩
  show V.int _ = V.int _
  congr 1
  split <;> omega
theorem ca_sum {is : List Int} (h : Ls s x ds) (e : ds = is.map D.int := by rfl) : CaV X s (rSum X.K) [x] (.int is.sum) := fun σ H F rs as vs hd ⟨v, ws, e1, a, e2⟩ Q k => by
  subst e2 e1 e
  obtain ⟨p, xs, rfl, q, r⟩ := h.get hd a
  cases r.ints
  exact ⟨p, is, rfl, .of q, k _ H F go0 hd.sub rfl⟩
theorem ca_all {bs : List Bool} (h : Ls s x ds) (e : ds = bs.map D.bl := by rfl) : CaV X s (rAll X.K) [x] (.bl (bs.all id)) := fun σ H F rs as vs hd ⟨v, ws, e1, a, e2⟩ Q k => by
  subst e2 e1 e
  obtain ⟨p, xs, rfl, q, r⟩ := h.get hd a
  cases r.bls
  exact ⟨p, bs, rfl, .of q, k _ H F go0 hd.sub rfl⟩
theorem ca_any {bs : List Bool} (h : Ls s x ds) (e : ds = bs.map D.bl := by rfl) : CaV X s (rAny X.K) [x] (.bl (bs.any id)) := fun σ H F rs as vs hd ⟨v, ws, e1, a, e2⟩ Q k => by
  subst e2 e1 e
  obtain ⟨p, xs, rfl, q, r⟩ := h.get hd a
  cases r.bls
  exact ⟨p, bs, rfl, .of q, k _ H F go0 hd.sub rfl⟩
theorem cl_list (h : Sq s x ds) : CaL X s (fun xs H Q => ∃ p ys, xs = [.ref p] ∧ (SqL X.K H p ys ∨ SqT X.K H p ys) ∧ ∀ l, H l = none → Q (.ref l) (upd H l (.lst ys))) [x] ds := fun σ H F rs as vs hd ⟨v, ws, e1, a, e2⟩ => by
  subst e2 e1
  obtain ⟨p, xs, rfl, q, r⟩ := h.get hd a
  exact ⟨xs, r, fun Q k => ⟨p, xs, rfl, q, k⟩⟩
theorem ca_tuple (h : Ls s x ds) : CaV X s (fun xs H Q => ∃ p ys, xs = [.ref p] ∧ ((SqL X.K H p ys ∧ ∀ l, H l = none → Q (.ref l) (upd H l (.tup ys))) ∨ (SqT X.K H p ys ∧ Q (.ref p) H))) [x] (.tup ds) := fun σ H F rs as vs hd ⟨v, ws, e1, a, e2⟩ Q k => by
  subst e2 e1
  obtain ⟨p, xs, rfl, q, r⟩ := h.get hd a
  refine ⟨p, xs, rfl, .inl ⟨.of q, fun l hl => ?_⟩⟩
  obtain ⟨g, sb⟩ := go_new (o := .tup xs) hl hd.sub
  exact k _ _ _ g sb ⟨l, xs, rfl, .inl (.inl upd_same), Reps.mono g.fz _ _ r⟩
/-! ### items, slices -/
theorem at_map {α : Type} {xs : List α} {i : Int} {a : α} (h : atI xs i = some a) : ∃ j : Nat, ixN xs.length i = some j ∧ xs[j]? = some a := by
  unfold atI at h
  cases q : ixN xs.length i with
  | none => rw [q] at h; cases h
  | some j => rw [q] at h; exact ⟨j, rfl, h⟩
theorem at_reps {K : PySem.W.Frag} {F : Hp} {ds : List D} {xs : List V} {i : Int} {d : D} (r : Reps K F ds xs) (h : atI ds i = some d) : ∃ v, atI xs i = some v ∧ Rep K F d v := by
  obtain ⟨j, h1, h2⟩ := at_map h
  obtain ⟨v, h3, h4⟩ := r.get h2
  refine ⟨v, ?_, h4⟩
  unfold atI
  rw [r.len, h1]
  exact h3
theorem ov_ixL (h : Ls s x ds) (hi : atI ds i = some d) : OpV X s (rIxL X.K) x (.d (.int i)) d := fun σ H F rs as v w hd a b Q k => by
  cases b
  obtain ⟨p, xs, rfl, q, r⟩ := h.get hd a
  obtain ⟨v, h1, h2⟩ := at_reps r hi
  exact ⟨p, xs, i, v, rfl, rfl, .of q, h1, k _ H F go0 hd.sub h2⟩
theorem ov_ixR (hi : atI ds i = some d) : OpV X s (rIxL X.K) (.d (.rl ds)) (.d (.int i)) d := fun σ H F rs as v w hd a b Q k => by
  cases b
  obtain ⟨p, xs, rfl, q, r⟩ := a
  obtain ⟨v, h1, h2⟩ := at_reps r hi
  exact ⟨p, xs, i, v, rfl, rfl, hd.sub.seq q, h1, k _ H F go0 hd.sub h2⟩
theorem ov_ixT (hi : atI ds i = some d) : OpV X s (rIxT X.K) (.d (.tup ds)) (.d (.int i)) d := fun σ H F rs as v w hd a b Q k => by
  cases b
  obtain ⟨p, xs, rfl, q, r⟩ := a
  obtain ⟨v, h1, h2⟩ := at_reps r hi
  exact ⟨p, xs, i, v, rfl, rfl, same_t hd.sub q, h1, k _ H F go0 hd.sub h2⟩
theorem ov_ixS {c : Nat} (hz : l.length ≤ 16777216) (hi : atI l i = some c) : OpV X s rIxS (.d (.str l)) (.d (.int i)) (.str [c]) := fun σ H F rs as v w hd a b Q k => by
  cases a; cases b
  exact ⟨_, i, c, rfl, rfl, by rw [mk_len]; exact hz, by rw [mk_cps]; exact hi, k _ H F go0 hd.sub rfl⟩
/-- xs[lo:hi] -/
def cut {α : Type} (xs : List α) (lo hi : Option Int) : List α := (xs.drop (HT.sIx xs.length 0 lo)).take (HT.sIx xs.length xs.length hi - HT.sIx xs.length 0 lo)
theorem cut_reps {K : PySem.W.Frag} {F : Hp} {xs : List V} {lo hi : Option Int} (r : Reps K F ds xs) : Reps K F (cut ds lo hi) (cutV xs lo hi) := by
  unfold cut cutV
  rw [r.len]
  exact (r.drop _).take _
theorem sv_str {lo hi : Option Int} (hz : l.length ≤ 16777216) : SlV X s rSlS (.d (.str l)) lo hi (.str (cut l lo hi)) := fun σ H F rs as v hd a Q k => by
  cases a
  refine ⟨_, rfl, by rw [mk_len]; exact hz, k _ H F go0 hd.sub ?_⟩
  show V.str (cutS (mk l) lo hi) = V.str (mk (cut l lo hi))
  have e : cutS (mk l) lo hi = mk (cut l lo hi) := by
    unfold cutS cut
    rw [mk_cps, mk_len]
    try rfl
  rw [e]
theorem sl_lst {lo hi : Option Int} (h : Ls s x ds) : SlL X s (rSlL X.K) x lo hi (cut ds lo hi) := fun σ H F rs as v hd a => by
  obtain ⟨p, xs, rfl, q, r⟩ := h.get hd a
  exact ⟨cutV xs lo hi, cut_reps r, fun Q k => ⟨p, xs, rfl, .of q, k⟩⟩
theorem sl_rl {lo hi : Option Int} : SlL X s (rSlL X.K) (.d (.rl ds)) lo hi (cut ds lo hi) := fun σ H F rs as v hd a => by
  obtain ⟨p, xs, rfl, q, r⟩ := a
  exact ⟨cutV xs lo hi, cut_reps r, fun Q k => ⟨p, xs, rfl, hd.sub.seq q, k⟩⟩
theorem sv_tup {lo hi : Option Int} : SlV X s (rSlA X.K) (.d (.tup ds)) lo hi (.tup (cut ds lo hi)) := fun σ H F rs as v hd a Q k => by
  obtain ⟨p, xs, rfl, q, r⟩ := a
  refine ⟨p, xs, rfl, same_t hd.sub q, fun hw => k _ H F go0 hd.sub ?_, fun hw l hl => ?_⟩
  · refine ⟨p, xs, rfl, q, ?_⟩
    have e : cut ds lo hi = ds := by
      unfold cut
      rw [← r.len, hw.1, hw.2, r.len]
      simp
    rw [e]; exact r
  · obtain ⟨g, sb⟩ := go_new (o := .tup (cutV xs lo hi)) hl hd.sub
    exact k _ _ _ g sb ⟨l, _, rfl, .inl (.inl upd_same), Reps.mono g.fz _ _ (cut_reps r)⟩
theorem ov_catT (hz : ds.length + es.length ≤ 16777216) : OpV X s (rCatA X.K) (.d (.tup ds)) (.d (.tup es)) (.tup (ds ++ es)) := fun σ H F rs as v w hd a b Q k => by
  obtain ⟨p, xs, rfl, q, r⟩ := a
  obtain ⟨p', ys, rfl, q', r'⟩ := b
  refine ⟨p, p', xs, ys, rfl, rfl, same_t hd.sub q, same_t hd.sub q', by rw [r.len, r'.len]; exact hz, fun e => k _ H F go0 hd.sub ?_, fun _ e => k _ H F go0 hd.sub ?_, fun _ _ l hl => ?_⟩
  · have e2 : ds = [] := by have := r.len; rw [e] at this; exact List.eq_nil_of_length_eq_zero this.symm
    subst e2
    exact ⟨p', ys, rfl, q', r'⟩
  · have e2 : es = [] := by have := r'.len; rw [e] at this; exact List.eq_nil_of_length_eq_zero this.symm
    subst e2
    rw [List.append_nil]
    exact ⟨p, xs, rfl, q, r⟩
  · obtain ⟨g, sb⟩ := go_new (o := .tup (xs ++ ys)) hl hd.sub
    exact k _ _ _ g sb ⟨l, _, rfl, .inl (.inl upd_same), Reps.mono g.fz _ _ (r.append r')⟩
theorem ol_cat (h : Ls s x ds) (h' : Ls s y es) (hz : ds.length + es.length ≤ 16777216) : OpL X s rCat x y (ds ++ es) := fun σ H F rs as v w hd a b => by
  obtain ⟨p, xs, rfl, q, r⟩ := h.get hd a
  obtain ⟨p', ys, rfl, q', r'⟩ := h'.get hd b
  exact ⟨xs ++ ys, r.append r', fun Q k => ⟨p, p', xs, ys, rfl, rfl, q, q', by rw [r.len, r'.len]; exact hz, k⟩⟩
theorem ol_rep {k : Nat} (h : Ls s x ds) (hz : ds.length * k ≤ 16777216) (hk : i = (k : Int)) (h2 : k < 1073741824) : OpL X s rRep x (.d (.int i)) (List.replicate k ds).flatten := fun σ H F rs as v w hd a b => by
  obtain ⟨p, xs, rfl, q, r⟩ := h.get hd a
  cases b
  subst hk
  exact ⟨(List.replicate k xs).flatten, r.rep k, fun Q c => ⟨p, _, xs, rfl, rfl, q, by omega, by omega, by rw [r.len]; exact hz, c⟩⟩
theorem ov_repT {k : Nat} (hk : i = (k : Int)) (h0 : ds ≠ []) (h1 : 2 ≤ k) (h2 : k ≤ 1000) (h3 : ds.length ≤ 1000) : OpV X s (rRepT X.K) (.d (.tup ds)) (.d (.int i)) (.tup (List.replicate k ds).flatten) := fun σ H F rs as v w hd a b Q c => by
  obtain ⟨p, xs, rfl, q, r⟩ := a
  cases b
  subst hk
  refine ⟨p, _, xs, rfl, rfl, same_t hd.sub q, fun e => h0 ?_, by omega, by omega, by rw [r.len]; exact h3, fun l hl => ?_⟩
  · have := r.len; rw [e] at this; exact List.eq_nil_of_length_eq_zero this.symm
  · obtain ⟨g, sb⟩ := go_new (o := .tup (List.replicate ((k : Int).toNat) xs).flatten) hl hd.sub
    exact c _ _ _ g sb ⟨l, _, rfl, .inl (.inl upd_same), Reps.mono g.fz _ _ (r.rep k)⟩
end
/-- sep.join(texts) -/
theorem ee_join {X : Cx} {s s1 s2 : S} {o e : Expr} {x : Ar} {ds : List D} {l : List Nat} {ls : List (List Nat)} {apos pos : Pos} (ho : EA X s o s1 (.d (.str l))) (he : EA X s1 e s2 x) (h : Sq s2 x ds) (hz : (ls.map List.length).sum + ls.length * l.length ≤ 16777216) (e1 : ds = ls.map D.str := by rfl)
    (hs : starEach [e] X.env = [(false, eval e X.env)] := by rfl) (hbase : attributeBase o "join" X.env (eval o X.env) = eval o X.env := by rfl) (hline : (apos.endLine == pos.line) = true := by rfl) :
    EA X s (.Call (.Attribute o "join" apos) [e] [] pos) s2 (.d (.str (TL.joinL l ls))) := fun σ H F rs as hd Q k =>
  WE.of (pe_join pe_u pe_u hs hbase hline) (ho σ H F rs as hd _ fun v H1 F1 rs1 as1 h1 p1 g1 r1 => ⟨⟨_, r1⟩, he σ H1 F1 rs1 as1 h1 _ fun w H2 F2 rs2 as2 h2 p2 g2 r2 => by
    obtain ⟨p, xs, rfl, q, r⟩ := h.get h2 r2
    subst e1
    cases r.strs
    have hm : (List.map (fun x => x.length) (List.map mk ls)) = ls.map List.length := by rw [List.map_map]; exact List.map_congr_left fun a _ => mk_len a
    refine ⟨mk l, p, ls.map mk, r1, rfl, q, by rw [hm, List.length_map, mk_len]; exact hz, h2.fin (fun u H' F' rs' as' h' p' g' q => k u H' F' rs' as' h' ((p1.trans p2).trans p') ((g1.trans g2).trans g') q) _ H2 F2 go0 h2.sub ?_⟩
    show V.str _ = V.str _
    congr 1
    rw [TL.join_eq]
    have := TL.tl_join (mk l) (ls.map mk)
    rw [mk_of (Str.join (mk l) (ls.map mk))]
    show mk (TL.tl _) = _
    rw [this]
    congr 1
    show TL.joinL (mk l).cps.toList _ = _
    rw [mk_cps, List.map_map]
    congr 1
    conv => rhs; rw [← List.map_id ls]
    exact List.map_congr_left fun a _ => mk_cps a⟩)
theorem joinL_nil : ∀ ls : List (List Nat), TL.joinL [] ls = ls.flatten
  | [] => rfl
  | [p] => by simp [TL.joinL]
  | p :: q :: r => by show p ++ ([] ++ TL.joinL [] (q :: r)) = _; rw [joinL_nil (q :: r)]; simp
end Q
namespace Q
open PySem L2

/-! ### targets -/
def Ar.sl : Ar → Sl
  | .d z => .d z
  | .o k => .o k
/-- G stores data as g says; it touches the slots is alone -/
def GS (K : PySem.W.Frag) (G : TG) (is : List Nat) (g : D → List Sl → Option (List Sl)) : Prop := ∀ σ H F rs as s d v ρ', Hd K σ H F rs as s → Rep K F d v → g d s.ρ = some ρ' → ∀ Q : St → Hp → Prop,
  (∀ σ', Hd K σ' H F rs as ⟨ρ', s.μ⟩ → (∀ vs : List Nat, (∀ i ∈ is, i ∈ vs) → wipe σ' vs = wipe σ vs) → Q σ' H) → G v σ H Q
def GSs (K : PySem.W.Frag) (G : TGs) (is : List Nat) (g : List D → List Sl → Option (List Sl)) : Prop := ∀ σ H F rs as s ds vs ρ', Hd K σ H F rs as s → Reps K F ds vs → g ds s.ρ = some ρ' → ∀ Q : St → Hp → Prop,
  (∀ σ', Hd K σ' H F rs as ⟨ρ', s.μ⟩ → (∀ vs : List Nat, (∀ i ∈ is, i ∈ vs) → wipe σ' vs = wipe σ vs) → Q σ' H) → G vs σ H Q
def tn (i : Nat) : D → List Sl → Option (List Sl) := fun d ρ => some (ρ.set i (.d d))
def tnil : List D → List Sl → Option (List Sl)
  | [], ρ => some ρ
  | _ :: _, _ => none
def tcons (g : D → List Sl → Option (List Sl)) (h : List D → List Sl → Option (List Sl)) : List D → List Sl → Option (List Sl)
  | d :: ds, ρ => (g d ρ).bind (h ds)
  | [], _ => none
def tt (g : List D → List Sl → Option (List Sl)) : D → List Sl → Option (List Sl)
  | .tup ds, ρ => g ds ρ
  | _, _ => none
theorem wipe_set {σ : St} {x : Option V} {i : Nat} : ∀ {vs : List Nat}, i ∈ vs → wipe (σ.set i x) vs = wipe σ vs := by
  have far : ∀ (vs : List Nat) (j : Nat), j ≠ i → (wipe (σ.set i x) vs)[j]? = (wipe σ vs)[j]? := by
    intro vs
    induction vs with
    | nil => intro j hj; show (σ.set i x)[j]? = σ[j]?; rw [List.getElem?_set_ne (fun z => hj z.symm)]
    | cons v vs ih =>
      intro j hj
      show ((wipe (σ.set i x) vs).set v none)[j]? = ((wipe σ vs).set v none)[j]?
      by_cases hv : v = j
      · subst hv
        rw [List.getElem?_set_self', List.getElem?_set_self', ih v hj]
      · rw [List.getElem?_set_ne hv, List.getElem?_set_ne hv, ih j hj]
  intro vs h
  refine List.ext_getElem? fun j => ?_
  by_cases hj : j = i
  · subst hj
    have at' : ∀ (σ : St) (vs : List Nat), j ∈ vs → (wipe σ vs)[j]? = σ[j]?.map fun _ => none := by
      intro σ vs
      induction vs with
      | nil => intro z; cases z
      | cons v vs ih =>
        intro z
        show ((wipe σ vs).set v none)[j]? = _
        by_cases hv : v = j
        · subst hv
          rw [List.getElem?_set_self']
          by_cases hl : v < σ.length
          · rw [List.getElem?_eq_getElem hl, List.getElem?_eq_getElem (by rw [wipe_length]; exact hl)]; rfl
          · have hl2 : σ.length ≤ v := by omega
            have hl3 : (wipe σ vs).length ≤ v := by rw [wipe_length]; exact hl2
            rw [List.getElem?_eq_none hl2, List.getElem?_eq_none hl3]; rfl
        · rw [List.getElem?_set_ne hv]
          exact ih ((List.mem_cons.mp z).resolve_left fun q => hv q.symm)
    rw [at' _ _ h, at' _ _ h]
    by_cases hl : j < σ.length
    · rw [List.getElem?_set_self hl, List.getElem?_eq_getElem hl]; try rfl
    · rw [List.getElem?_eq_none (by rw [List.length_set]; omega), List.getElem?_eq_none (by omega)]; try rfl
  · exact far vs j hj
theorem gs_name {K : PySem.W.Frag} (i : Nat) : GS K (gName i) [i] (tn i) := fun σ H F rs as s d v ρ' hd r e Q k => by
  cases e
  exact k _ ⟨hd.r, hd.sl.set i ⟨v, rfl, r⟩⟩ fun vs h => wipe_set (h i (by simp))
theorem gss_nil {K : PySem.W.Frag} : GSs K gNil [] tnil := fun σ H F rs as s ds vs ρ' hd r e Q k => by
  cases ds with
  | nil => cases e; exact ⟨r, k _ hd fun _ _ => rfl⟩
  | cons _ _ => cases e
theorem gss_cons {K : PySem.W.Frag} {G : TG} {Gs : TGs} {is js : List Nat} {g : D → List Sl → Option (List Sl)} {h : List D → List Sl → Option (List Sl)} (h1 : GS K G is g) (h2 : GSs K Gs js h) : GSs K (gCons G Gs) (is ++ js) (tcons g h) := fun σ H F rs as s ds vs ρ' hd r e Q k => by
  cases ds with
  | nil => cases e
  | cons d ds =>
    obtain ⟨v, ws, rfl, r1, r2⟩ := r
    have e' : (g d s.ρ).bind (h ds) = some ρ' := e
    cases q : g d s.ρ with
    | none => rw [q] at e'; cases e'
    | some ρ1 =>
      rw [q] at e'
      refine ⟨v, ws, rfl, h1 σ H F rs as s d v ρ1 hd r1 q _ fun σ1 hd1 w1 => h2 σ1 H F rs as _ ds ws ρ' hd1 r2 e' _ fun σ2 hd2 w2 => k σ2 hd2 fun vs hv => ?_⟩
      rw [w2 vs fun i hi => hv i (List.mem_append_right _ hi), w1 vs fun i hi => hv i (List.mem_append_left _ hi)]
theorem gs_tup {K : PySem.W.Frag} {Gs : TGs} {is : List Nat} {g : List D → List Sl → Option (List Sl)} {n : Nat} (h : GSs K Gs is g) (hn : ∀ ds ρ ρ', g ds ρ = some ρ' → ds.length = n) : GS K (gTup K n Gs) is (tt g) := fun σ H F rs as s d v ρ' hd r e Q k => by
  cases d with
  | tup ds =>
    obtain ⟨a, xs, rfl, q, rr⟩ := r
    exact ⟨a, xs, rfl, same_t hd.sub q, by rw [rr.len]; exact hn _ _ _ e, h σ H F rs as s ds xs ρ' hd rr e Q k⟩
  | _ => cases e
theorem tcons_len {g : D → List Sl → Option (List Sl)} {h : List D → List Sl → Option (List Sl)} {n : Nat} (hn : ∀ ds ρ ρ', h ds ρ = some ρ' → ds.length = n) : ∀ ds ρ ρ', tcons g h ds ρ = some ρ' → ds.length = n + 1 := fun ds ρ ρ' e => by
  cases ds with
  | nil => cases e
  | cons d ds =>
    have e' : (g d ρ).bind (h ds) = some ρ' := e
    cases q : g d ρ with
    | none => rw [q] at e'; cases e'
    | some ρ1 => rw [q] at e'; simp [hn _ _ _ e']
theorem tnil_len : ∀ ds ρ ρ', tnil ds ρ = some ρ' → ds.length = 0 := fun ds ρ ρ' e => by
  cases ds with
  | nil => rfl
  | cons _ _ => cases e

/-! ### what is walked -/
/-- J gives the n data it 0, it 1, .. as long as what was frozen at F stays -/
def Gives (K : PySem.W.Frag) (J : It) (n : Nat) (it : Nat → D) (F : Hp) : Prop := ∀ H2 F2, Same F F2 → Same F2 H2 → (∀ i, i < n → J.go i H2) ∧ J.stop n H2 ∧
  ∀ i x H3, i < n → J.yld i H2 x H3 → ∃ F3, Go [] [] F2 H2 F3 H3 ∧ Same F3 H3 ∧ Rep K F3 (it i) x
def IT (X : Cx) (s : S) (tg e : Expr) (s' : S) (n : Nat) (it : Nat → D) : Prop := ∃ W : TI, PI X tg e W ∧ ∀ σ H F rs as, Hd X.K σ H F rs as s → ∀ R : It → Hp → Prop,
  (∀ J H' F' rs' as', Hd X.K σ H' F' rs' as' s' → rs <+: rs' → Go as.flatten as'.flatten F H F' H' → Gives X.K J n it F' → R J H') → W σ H R
theorem getD_of {ds : List D} {i : Nat} (h : i < ds.length) : ds[i]? = some (ds.getD i .non) := by
  rw [List.getElem?_eq_getElem h]; simp [List.getD, List.getElem?_eq_getElem h]
theorem gives_list {K : PySem.W.Frag} {a : Addr} {xs : List V} {ds : List D} {F : Hp} (q : SqL K F a xs) (r : Reps K F ds xs) : Gives K (Itl K a) ds.length (fun i => ds.getD i .non) F := fun H2 F2 e1 e2 => by
  have q2 : SqL K H2 a xs := e2.seq (e1.seq q)
  have w := walk_list (K := K) (a := a) (xs := xs)
  refine ⟨fun i hi => w.goes i H2 (by rw [r.len]; exact hi) q2, by have := w.stops H2 q2; rwa [r.len] at this, fun i x H3 hi y => ?_⟩
  obtain ⟨rfl, hx⟩ := w.yields i H2 x H3 (by rw [r.len]; exact hi) q2 y
  obtain ⟨v, h1, h2⟩ := r.get (getD_of hi)
  rw [hx] at h1; cases h1
  exact ⟨F2, go0, e2, Rep.mono e1 _ _ h2⟩
theorem gives_tup {K : PySem.W.Frag} {a : Addr} {xs : List V} {ds : List D} {F : Hp} (q : SqT K F a xs) (r : Reps K F ds xs) : Gives K (Itt K a) ds.length (fun i => ds.getD i .non) F := fun H2 F2 e1 e2 => by
  have q2 : SqT K H2 a xs := same_t e2 (same_t e1 q)
  have w := walk_tup (K := K) (a := a) (xs := xs)
  refine ⟨fun i hi => w.goes i H2 (by rw [r.len]; exact hi) q2, by have := w.stops H2 q2; rwa [r.len] at this, fun i x H3 hi y => ?_⟩
  obtain ⟨rfl, hx⟩ := w.yields i H2 x H3 (by rw [r.len]; exact hi) q2 y
  obtain ⟨v, h1, h2⟩ := r.get (getD_of hi)
  rw [hx] at h1; cases h1
  exact ⟨F2, go0, e2, Rep.mono e1 _ _ h2⟩
theorem gives_range {K : PySem.W.Frag} {lo : Int} {n : Nat} {F : Hp} : Gives K (Itr lo n) n (fun i => .int (lo + i)) F := fun H2 F2 e1 e2 => by
  refine ⟨fun i hi => hi, Nat.le_refl _, fun i x H3 hi y => ?_⟩
  obtain ⟨rfl, rfl⟩ := y
  exact ⟨F2, go0, e2, rfl⟩
theorem gives_rangeC {K : PySem.W.Frag} {lo c : Int} {n : Nat} {F : Hp} : Gives K (Itc lo c n) n (fun i => .int (lo + (i : Nat) * c)) F := fun H2 F2 e1 e2 => by
  refine ⟨fun i hi => hi, Nat.le_refl _, fun i x H3 hi y => ?_⟩
  obtain ⟨rfl, rfl⟩ := y
  exact ⟨F2, go0, e2, rfl⟩
theorem gives_str {K : PySem.W.Frag} {l : List Nat} {F : Hp} : Gives K (Its (mk l)) l.length (fun i => .str [l.getD i 0]) F := fun H2 F2 e1 e2 => by
  have sz : (mk l).cps.size = l.length := mk_len l
  refine ⟨fun i hi => by show i < (mk l).cps.size; rw [sz]; exact hi, by show (mk l).cps.size ≤ _; rw [sz]; exact Nat.le_refl _, fun i x H3 hi y => ?_⟩
  obtain ⟨rfl, c, hc, rfl⟩ := y
  refine ⟨F2, go0, e2, ?_⟩
  show V.str _ = V.str _
  rw [← Array.getElem?_toList, mk_cps] at hc
  simp [List.getD, hc, mk]
section
variable {X : Cx} {s s1 s2 s3 : S} {tg e : Expr} {es : List Expr} {ds : List D} {pos p : Pos} {i j : Int}
theorem it_list (h : EA X s e s1 (.d (.lst ds))) : IT X s tg e s1 ds.length (fun i => ds.getD i .non) := ⟨_, pi_list pe_u, fun σ H F rs as hd R k => h σ H F rs as hd _ fun v H1 F1 rs1 as1 h1 p1 g1 ⟨a, xs, ev, q, r⟩ =>
  ⟨a, ev, ⟨xs, .of (h1.sub _ _ q)⟩, k _ H1 F1 rs1 as1 h1 p1 g1 (gives_list (.of q) r)⟩⟩
theorem it_rl (h : EA X s e s1 (.d (.rl ds))) : IT X s tg e s1 ds.length (fun i => ds.getD i .non) := ⟨_, pi_list pe_u, fun σ H F rs as hd R k => h σ H F rs as hd _ fun v H1 F1 rs1 as1 h1 p1 g1 ⟨a, xs, ev, q, r⟩ =>
  ⟨a, ev, ⟨xs, h1.sub.seq q⟩, k _ H1 F1 rs1 as1 h1 p1 g1 (gives_list q r)⟩⟩
theorem it_tup (h : EA X s e s1 (.d (.tup ds))) : IT X s tg e s1 ds.length (fun i => ds.getD i .non) := ⟨_, pi_tup pe_u, fun σ H F rs as hd R k => h σ H F rs as hd _ fun v H1 F1 rs1 as1 h1 p1 g1 ⟨a, xs, ev, q, r⟩ =>
  ⟨a, ev, ⟨xs, same_t h1.sub q⟩, k _ H1 F1 rs1 as1 h1 p1 g1 (gives_tup q r)⟩⟩
theorem it_str {l : List Nat} (h : EA X s e s1 (.d (.str l))) : IT X s tg e s1 l.length (fun i => .str [l.getD i 0]) := ⟨_, pi_str pe_u, fun σ H F rs as hd R k => h σ H F rs as hd _ fun v H1 F1 rs1 as1 h1 p1 g1 r =>
  ⟨_, r, k _ H1 F1 rs1 as1 h1 p1 g1 gives_str⟩⟩
theorem it_range1 {a : Expr} (hg : Gl X "range") (hm : X.mg "range" = none) (ha : EA X s a s1 (.d (.int j))) (h1 : -(2 ^ 62) ≤ j) (h2 : j < 2 ^ 62) (hs : starEach [a] X.env = [(false, eval a X.env)] := by rfl) :
    IT X s tg (.Call (.Name "range" p) [a] [] pos) s1 j.toNat (fun i => .int (0 + (i : Nat))) := ⟨_, pi_range1 hg hm pa_u hs, fun σ H F rs as hd R k => (es_cons ha es_nil (hs := hs)) σ H F rs as hd _ fun vs H1 F1 rs1 as1 q1 p1 g1 ⟨v, ws, e, r, e2⟩ => by
  cases e2; cases e; cases r
  exact ⟨j, rfl, h1, h2, k _ H1 F1 rs1 as1 q1 p1 g1 gives_range⟩⟩
theorem it_range2 {a b : Expr} (hg : Gl X "range") (hm : X.mg "range" = none) (ha : EA X s a s1 (.d (.int i))) (hb : EA X s1 b s2 (.d (.int j))) (h1 : -(2 ^ 62) ≤ i ∧ i < 2 ^ 62 ∧ -(2 ^ 62) ≤ j ∧ j < 2 ^ 62)
    (hs : starEach [a, b] X.env = [(false, eval a X.env), (false, eval b X.env)] := by rfl) (hs2 : starEach [b] X.env = [(false, eval b X.env)] := by rfl) :
    IT X s tg (.Call (.Name "range" p) [a, b] [] pos) s2 (j - i).toNat (fun k => .int (i + (k : Nat))) := ⟨_, pi_range2 hg hm pa_u hs hs2, fun σ H F rs as hd R k => (es_cons ha (es_cons hb es_nil (hs := hs2)) (hs := by rw [hs, hs2])) σ H F rs as hd _ fun vs H1 F1 rs1 as1 q1 p1 g1 ⟨v, ws, e, r, v2, ws2, e3, r2, e2⟩ => by
  cases e2; cases e3; cases e; cases r; cases r2
  exact ⟨i, j, rfl, h1, k _ H1 F1 rs1 as1 q1 p1 g1 gives_range⟩⟩
end

/-! ### statements -/
theorem At.join {K : PySem.W.Frag} {W : Wd} {H F : Hp} {as : List Addr} {rs : List V} {Φ : S → Prop} (g : Go W.as as W.F W.H F H) (p : W.rs <+: rs) : ∀ σ' H', At K ⟨H, F, as, rs⟩ Φ σ' H' → At K W Φ σ' H' :=
  fun _ _ ⟨F', rs', as', s', h1, h2, h3, h4⟩ => ⟨F', rs', as', s', h1, g.trans h2, p.trans h3, h4⟩
theorem AtR.join {K : PySem.W.Frag} {W : Wd} {H F : Hp} {as : List Addr} {rs : List V} {Φ : S → Ar → Prop} (g : Go W.as as W.F W.H F H) (p : W.rs <+: rs) : ∀ v H', AtR K ⟨H, F, as, rs⟩ Φ v H' → AtR K W Φ v H' :=
  fun _ _ ⟨σ', F', rs', as', s', x, h1, h2, h3, h4, h5⟩ => ⟨σ', F', rs', as', s', x, h1, g.trans h2, p.trans h3, h4, h5⟩
section
variable {X : Cx} {s s1 s2 s3 : S} {e tg iter c : Expr} {body orelse : List Stmt} {x y : Ar} {d : D} {D' : Ds} {pos : Pos} {nm nm2 : Str}
theorem w1_set (i : Nat) {pos' : Pos} (h : EA X s e s1 x) (k : D'.nx ⟨s1.ρ.set i x.sl, s1.μ⟩) (hN : X.N.Nodup) (hi : X.N[i]? = some nm := by rfl) (hx : Loc X.env.scope nm := by first | exact Or.inl rfl | exact Or.inr rfl)
    (hs : swapsWith e (some (.Name nm pos')) pos.line X.env = pure false := by rfl) (hf : X.fn nm = true ∨ X.env.scope.names.lookup nm = some .local := by first | exact .inl rfl | exact .inr rfl | assumption) :
    W1 X s (.Assign [.Name nm pos'] e pos) D' := fun W σ H F rs as hd g p =>
  WSt.of (ps_set hN hi hx pe_u hs hf) (h σ H F rs as hd _ fun v H1 F1 rs1 as1 h1 p1 g1 r1 => ⟨F1, rs1, as1, ⟨s1.ρ.set i x.sl, s1.μ⟩, ⟨h1.r, h1.sl.set i (by
    cases x with
    | d d => exact ⟨v, rfl, r1⟩
    | o k => exact ⟨v, rfl, r1⟩)⟩, g.trans g1, p.trans p1, k⟩)
theorem w1_par (i j : Nat) {a b : Expr} {px py pt pt2 : Pos} {kt k2} (h : EAs X s [a, b] s1 [x, y]) (k : D'.nx ⟨(s1.ρ.set i x.sl).set j y.sl, s1.μ⟩) (hN : X.N.Nodup) (hi : X.N[i]? = some nm := by rfl) (hj : X.N[j]? = some nm2 := by rfl) (hij : i ≠ j := by decide)
    (hc : X.calm = true := by rfl) (hx : X.env.scope.names.lookup nm = some .local := by rfl) (hy : X.env.scope.names.lookup nm2 = some .local := by rfl)
    (hw : swappedStores [.Tuple [.Name nm px, .Name nm2 py] kt pt] (.Tuple [a, b] k2 pt2) X.env = pure (some [nm, nm2]) := by rfl)
    (hs : swapsWithSole [.Tuple [.Name nm px, .Name nm2 py] kt pt] (.Tuple [a, b] k2 pt2) pos.line X.env = pure false := by rfl) :
    W1 X s (.Assign [.Tuple [.Name nm px, .Name nm2 py] kt pt] (.Tuple [a, b] k2 pt2) pos) D' := fun W σ H F rs as hd g p =>
  WSt.of (ps_par hc hN hi hj hij hx hy pa_u hw hs) (h σ H F rs as hd _ fun vs H1 F1 rs1 as1 h1 p1 g1 ⟨v, ws, e1, r1, w, ws2, e2, r2, e3⟩ => by
    cases e3; cases e2; cases e1
    refine ⟨v, w, rfl, F1, rs1, as1, ⟨(s1.ρ.set i x.sl).set j y.sl, s1.μ⟩, ⟨h1.r, (h1.sl.set i ?_).set j ?_⟩, g.trans g1, p.trans p1, k⟩
    · cases x with
      | d d => exact ⟨v, rfl, r1⟩
      | o k => exact ⟨v, rfl, r1⟩
    · cases y with
      | d d => exact ⟨w, rfl, r2⟩
      | o k => exact ⟨w, rfl, r2⟩)
theorem w1_asg {G : TG} {is : List Nat} {g : D → List Sl → Option (List Sl)} {ρ' : List Sl} (h : EA X s e s1 (.d d)) (hG : PG X tg G) (hS : GS X.K G is g) (hr : g d s1.ρ = some ρ') (k : D'.nx ⟨ρ', s1.μ⟩)
    (hs : swapsWithSole [tg] e pos.line X.env = pure false := by rfl) (hw : swappedStores [tg] e X.env = pure none := by rfl) (h1 : (assignEach [tg] X.env).map (·.2) = [assign tg X.env] := by rfl) : W1 X s (.Assign [tg] e pos) D' := fun W σ H F rs as hd g0 p =>
  WSt.of (ps_asg pe_u hG hs hw h1) (h σ H F rs as hd _ fun v H1 F1 rs1 as1 h1 p1 g1 r1 => hS σ H1 F1 rs1 as1 s1 d v ρ' h1 r1 hr _ fun σ' h' _ => ⟨F1, rs1, as1, _, h', g0.trans g1, p.trans p1, k⟩)
theorem w1_if {b : Bool} (hc : ET X s c s1 b) (h1 : b = true → WS X s1 body D') (h2 : b = false → WS X s1 orelse D') : W1 X s (.If c body orelse pos) D' := fun W σ H F rs as hd g p =>
  WSt.of (ps_if pt_u pss_u pss_u) (hc σ H F rs as hd _ fun H1 F1 rs1 as1 q1 p1 g1 => by
    cases b with
    | true => exact iteT (h1 rfl W σ H1 F1 rs1 as1 q1 (g.trans g1) (p.trans p1))
    | false => exact iteF (h2 rfl W σ H1 F1 rs1 as1 q1 (g.trans g1) (p.trans p1)))
theorem w1_ret (h : EA X s e s1 x) (k : D'.rt s1 x) : W1 X s (.Return (some e) pos) D' := fun W σ H F rs as hd g p =>
  WSt.of (ps_ret pe_u) (h σ H F rs as hd _ fun v H1 F1 rs1 as1 h1 p1 g1 r1 => ⟨σ, F1, rs1, as1, s1, x, h1, g.trans g1, p.trans p1, r1, k⟩)
theorem w1_retN (k : D'.rt s (.d .non)) : W1 X s (.Return none pos) D' := fun W σ H F rs as hd g p => WSt.of ps_retN ⟨σ, F, rs, as, s, .d .non, hd, g, p, rfl, k⟩
theorem w1_expr (h : EA X s e s1 x) (k : D'.nx s1) (hs : swapsWith e none pos.line X.env = pure false := by rfl) : W1 X s (.Expr e pos) D' := fun W σ H F rs as hd g p =>
  WSt.of (ps_expr pe_u hs) (h σ H F rs as hd _ fun v H1 F1 rs1 as1 h1 p1 g1 r1 => ⟨F1, rs1, as1, s1, h1, g.trans g1, p.trans p1, k⟩)
theorem w1_pass (k : D'.nx s) : W1 X s (.Pass pos) D' := fun W σ H F rs as hd g p => WSt.of ps_pass ⟨F, rs, as, s, hd, g, p, k⟩
theorem w1_break (k : D'.bk s) : W1 X s (.Break pos) D' := fun W σ H F rs as hd g p => WSt.of ps_break ⟨F, rs, as, s, hd, g, p, k⟩
theorem w1_cont (k : D'.ct s) : W1 X s (.Continue pos) D' := fun W σ H F rs as hd g p => WSt.of ps_continue ⟨F, rs, as, s, hd, g, p, k⟩
/-- for: I says what holds ahead of the i-th turn -/
theorem w1_for {n : Nat} {it : Nat → D} {G : TG} {is : List Nat} {g : D → List Sl → Option (List Sl)} (I : Nat → S → Prop) (hi : IT X s tg iter s1 n it) (hG : PG X tg G) (hS : GS X.K G is g) (h0 : I 0 s1)
    (hs : ∀ i s2, i < n → I i s2 → ∃ ρ', g (it i) s2.ρ = some ρ' ∧ WS X ⟨ρ', s2.μ⟩ body { nx := I (i + 1), rt := D'.rt, bk := D'.nx, ct := I (i + 1) }) (he : ∀ s2, I n s2 → D'.nx s2)
    (hp : PassesOwn (model X.prog X.w) X.A X.env X.xe := by exact PassesOwn.never) (hc : X.calm = true := by rfl) (hf : ∀ x, foldedSetIterable iter X.env x = pure x := by intro _; rfl) : W1 X s (.For tg iter body [] pos) D' := fun W σ H F rs as hd g0 p => by
  obtain ⟨wi, pi, hi⟩ := hi
  refine WSt.of (ps_for hp hc pi hG pss_u hf) (hi σ H F rs as hd _ fun J H1 F1 rs1 as1 h1 p1 g1 gv => ?_)
  refine ⟨fun i m σ2 H2 => m = n - i ∧ i ≤ n ∧ At X.K ⟨H1, F1, as1.flatten, rs1⟩ (I i) σ2 H2, ⟨n, by simp, Nat.zero_le _, F1, rs1, as1, s1, h1, Go.refl _ _ _, refl_pre _, h0⟩, ?_⟩
  rintro i m σ2 H2 ⟨rfl, hin, F2, rs2, as2, s2, h2, g2, p2, inv⟩
  obtain ⟨go, stop, yld⟩ := gv H2 F2 g2.fz h2.sub
  by_cases hlt : i < n
  · refine .inr ⟨go i hlt, At X.K ⟨H1, F1, as1.flatten, rs1⟩ (I (i + 1)), fun σ' H' a => ⟨n - (i + 1), by omega, rfl, hlt, a⟩, fun v H3 y => ?_⟩
    obtain ⟨F3, g3, sb3, r3⟩ := yld i v H3 hlt y
    obtain ⟨ρ', e1, w⟩ := hs i s2 hlt inv
    obtain ⟨h3, g3'⟩ := h2.pure g3 sb3
    refine hS σ2 H3 F3 rs2 as2 s2 (it i) v ρ' h3 r3 e1 _ fun σ4 h4 _ => ?_
    have gg := g2.trans g3'
    refine (w ⟨H1, F1, as1.flatten, rs1⟩ σ4 H3 F3 rs2 as2 h4 gg p2).mono (fun _ _ q => q) ?_ ?_ (fun _ _ q => q)
    · exact AtR.join (g0.trans g1) (p.trans p1)
    · exact At.join (g0.trans g1) (p.trans p1)
  · have e : i = n := by omega
    subst e
    exact .inl ⟨stop, At.join (g0.trans g1) (p.trans p1) _ _ ⟨F2, rs2, as2, s2, h2, g2, p2, he s2 inv⟩⟩
theorem w1_while (I : S → Prop) (m : S → Nat) (h0 : I s)
    (hs : ∀ s2, I s2 → ∃ b s3, ET X s2 c s3 b ∧ (b = true → WS X s3 body { nx := fun s4 => I s4 ∧ m s4 < m s2, rt := D'.rt, bk := D'.nx, ct := fun s4 => I s4 ∧ m s4 < m s2 }) ∧ (b = false → D'.nx s3))
    (hp : PassesOwn (model X.prog X.w) X.A X.env X.xe := by exact PassesOwn.never) : W1 X s (.While c body [] pos) D' := fun W σ H F rs as hd g p => by
  refine WSt.of (ps_while hp pt_u pss_u) ⟨fun k σ2 H2 => At X.K W (fun s2 => I s2 ∧ m s2 = k) σ2 H2, ⟨m s, F, rs, as, s, hd, g, p, h0, rfl⟩, ?_⟩
  rintro k σ2 H2 ⟨F2, rs2, as2, s2, h2, g2, p2, inv, rfl⟩
  obtain ⟨b, s3, et, q1, q2⟩ := hs s2 inv
  refine et σ2 H2 F2 rs2 as2 h2 _ fun H3 F3 rs3 as3 h3 p3 g3 => ?_
  cases b with
  | true =>
    refine ⟨fun σ4 H4 => At X.K W (fun s4 => I s4 ∧ m s4 < m s2) σ4 H4, ?_, ?_⟩
    · rintro σ4 H4 ⟨F4, rs4, as4, s4, h4, g4, p4, i4, l4⟩
      exact ⟨m s4, l4, F4, rs4, as4, s4, h4, g4, p4, i4, rfl⟩
    · exact q1 rfl W σ2 H3 F3 rs3 as3 h3 (g2.trans g3) (p2.trans p3)
  | false => exact ⟨F3, rs3, as3, s3, h3, g2.trans g3, p2.trans p3, q2 rfl⟩
end
end Q
namespace Q
open PySem L2

section
variable {K : PySem.W.Frag} {H F H' F' : Hp} {ts ts' : List T} {vs vs' : List V} {as as' : List (List Addr)} {t : T} {v : V} {l : List Addr}
theorem HdR.init (h : HdR K H F (ts ++ [t]) (vs ++ [v]) (as ++ [l])) (hl : vs.length = ts.length) : HdR K H F ts vs as := by
  have hA : as.length = ts.length := by have := h.l2; simp at this; exact this
  have tk : ∀ {α : Type} {xs : List α} {x y : α} {i : Nat}, xs[i]? = some x → (xs ++ [y])[i]? = some x := fun {α xs x y i} e => by
    rw [List.getElem?_append_left (List.getElem?_eq_some_iff.mp e).1]; exact e
  exact ⟨h.sub, hl, hA, fun i t' v' m e1 e2 e3 => h.own i t' v' m (tk e1) (tk e2) (tk e3), fun i m e => h.n1 i m (tk e), fun i j m m' a e1 e2 h1 h2 => h.n2 i j m m' a (tk e1) (tk e2) h1 h2, fun i m a e ha => h.af i m a (tk e) ha⟩
/-- a root that stands apart from what is done to the others -/
theorem HdR.frame (h : HdR K H F (ts ++ [t]) (vs ++ [v]) (as ++ [l])) (hl : vs.length = ts.length) (h' : HdR K H' F' ts' vs' as') (g : Go as.flatten as'.flatten F H F' H') :
    HdR K H' F' (ts' ++ [t]) (vs' ++ [v]) (as' ++ [l]) ∧ Go (as ++ [l]).flatten (as' ++ [l]).flatten F H F' H' := by
  have hA : as.length = ts.length := by have := h.l2; simp at this; exact this
  have lastT : (ts ++ [t])[ts.length]? = some t := by simp
  have lastV : (vs ++ [v])[ts.length]? = some v := by rw [← hl]; simp
  have lastA : (as ++ [l])[ts.length]? = some l := by rw [← hA]; simp
  have own := h.own _ _ _ _ lastT lastV lastA
  have inl : ∀ a, a ∈ l → a ∉ as.flatten := fun a ha z => by
    obtain ⟨i, m, e, hm⟩ := mem_fl z
    have hi := (List.getElem?_eq_some_iff.mp e).1
    have := h.n2 i ts.length m l a (by rw [List.getElem?_append_left hi]; exact e) lastA hm ha
    omega
  have kp : ∀ a, a ∈ l → ∀ o, H a = some o → H' a = some o := fun a ha o e => g.keep a o (inl a ha) e
  have inH : ∀ a, a ∈ l → H a ≠ none := Own.there _ _ _ own
  have fresh : ∀ (i : Nat) m a, as'[i]? = some m → a ∈ m → a ∉ l := fun i m a e ha z => by
    rcases g.aw a (fl_mem e ha) with q | q
    · exact inl a z q
    · exact inH a z q
  have sh : ∀ (i : Nat) m, (as' ++ [l])[i]? = some m → as'[i]? = some m ∨ (i = as'.length ∧ m = l) := fun i m e => by
    rcases app_get e with q | ⟨q0, q⟩
    · exact .inl q
    · have : i - as'.length = 0 := by have := (List.getElem?_eq_some_iff.mp q).1; simp at this; omega
      rw [this] at q; simp at q
      exact .inr ⟨by omega, q.symm⟩
  have afl : ∀ a, a ∈ l → F' a = none := fun a ha => by
    cases q : F' a with
    | none => rfl
    | some o =>
      rcases g.new a o q with z | z | z
      · rw [h.af _ _ _ lastA ha] at z; cases z
      · exact absurd z (inH a ha)
      · exact absurd z (inl a ha)
  refine ⟨⟨h'.sub, by simp [h'.l1], by simp [h'.l2], fun i t' v' m e1 e2 e3 => ?_, fun i m e => ?_, fun i j m m' a e1 e2 h1 h2 => ?_, fun i m a e ha => ?_⟩, ⟨g.fz, fun a o e => ?_, fun a o hn e => ?_, g.there, fun a ha => ?_⟩⟩
  · rcases app_get e1 with q | ⟨q0, q⟩
    · have hi := (List.getElem?_eq_some_iff.mp q).1
      rw [List.getElem?_append_left (by rw [h'.l1]; exact hi)] at e2
      rw [List.getElem?_append_left (by rw [h'.l2]; exact hi)] at e3
      exact h'.own i t' v' m q e2 e3
    · have i0 : i = ts'.length := by have := (List.getElem?_eq_some_iff.mp q).1; simp at this; omega
      subst i0
      simp at q; subst q
      rw [← h'.l1] at e2; simp at e2; subst e2
      rw [← h'.l2] at e3; simp at e3; subst e3
      exact Own.keep g.fz _ _ _ kp own
  · rcases sh i m e with q | ⟨_, rfl⟩
    · exact h'.n1 _ _ q
    · exact h.n1 _ _ lastA
  · rcases sh i m e1 with q | ⟨i0, rfl⟩
    · rcases sh j m' e2 with z | ⟨j0, rfl⟩
      · exact h'.n2 _ _ _ _ _ q z h1 h2
      · exact absurd h2 (fresh i m a q h1)
    · rcases sh j m' e2 with z | ⟨j0, rfl⟩
      · exact absurd h1 (fresh j m' a z h2)
      · omega
  · rcases sh i m e with q | ⟨_, rfl⟩
    · exact h'.af _ _ _ q ha
    · exact afl a ha
  · rcases g.new a o e with z | z | z
    · exact .inl z
    · exact .inr (.inl z)
    · exact .inr (.inr (by simp only [List.flatten_append, List.mem_append]; exact .inl z))
  · refine g.keep a o (fun z => hn ?_) e
    simp only [List.flatten_append, List.mem_append]; exact .inl z
  · simp only [List.flatten_append, List.mem_append] at ha ⊢
    rcases ha with ha | ha
    · rcases g.aw a ha with z | z
      · exact .inl (.inl z)
      · exact .inr z
    · exact .inl (.inr ha)
end
/-! ### list comprehensions -/
def wipeS (ρ : List Sl) : List Nat → List Sl
  | [] => ρ
  | v :: vs => (wipeS ρ vs).set v .un
theorem Slots.wipe {K : PySem.W.Frag} {F : Hp} {rs : List V} {ρ : List Sl} {σ : St} (h : Slots K F rs ρ σ) : ∀ vs : List Nat, Slots K F rs (wipeS ρ vs) (L2.wipe σ vs)
  | [] => h
  | v :: vs => (Slots.wipe h vs).set v trivial
def TTs (K : PySem.W.Frag) (t : TT) (s s' : S) (b : Bool) : Prop := ∀ σ H F rs as, Hd K σ H F rs as s → ∀ Q : Bool → Hp → Prop, (∀ H' F' rs' as', Hd K σ H' F' rs' as' s' → rs <+: rs' → Go as.flatten as'.flatten F H F' H' → Q b H') → t σ H Q
def TEs (K : PySem.W.Frag) (t : TE) (s s' : S) (x : Ar) : Prop := ∀ σ H F rs as, Hd K σ H F rs as s → ∀ Q : VK, (∀ v H' F' rs' as', Hd K σ H' F' rs' as' s' → rs <+: rs' → Go as.flatten as'.flatten F H F' H' → ArOk K F' rs' x v → Q v H') → t σ H Q
theorem tts_yes {K : PySem.W.Frag} {s : S} : TTs K tYes s s true := fun σ H F rs as hd Q k => k H F rs as hd (refl_pre _) (Go.refl _ _ _)
/-- the block's own judgements, one for all its contexts -/
def bT (X : Cx) (scope : Scope) (c : Expr) : TT := fun σ H Q => ∀ (s : Shared) (H0 : Hp) (C : Addr) (cl : List (Str × Addr)) (fp : List Addr), WTt (X.blk s H0 scope (PySem.compEnvC scope cl C X.env) fp) c σ H Q
def bE (X : Cx) (scope : Scope) (e : Expr) : TE := fun σ H Q => ∀ (s : Shared) (H0 : Hp) (C : Addr) (cl : List (Str × Addr)) (fp : List Addr), WE (X.blk s H0 scope (PySem.compEnvC scope cl C X.env) fp) e σ H Q
theorem pts_b {X : Cx} {scope : Scope} {c : Expr} (s : Shared) (H0 : Hp) (C : Addr) (cl : List (Str × Addr)) (fp : List Addr) : PTs (X.blk s H0 scope (PySem.compEnvC scope cl C X.env) fp) [c] (bT X scope c) :=
  pts_one ⟨fun pins sh σ H Q I h => h s H0 C cl fp pins sh I⟩
theorem pe_b {X : Cx} {scope : Scope} {e : Expr} (s : Shared) (H0 : Hp) (C : Addr) (cl : List (Str × Addr)) (fp : List Addr) : PE (X.blk s H0 scope (PySem.compEnvC scope cl C X.env) fp) e (bE X scope e) :=
  ⟨fun pins sh σ H Q I h => h s H0 C cl fp pins sh I⟩
theorem tts_b {X : Cx} {scope : Scope} {c : Expr} {s s' : S} {b : Bool} (h : ∀ (sh : Shared) (H0 : Hp) (C : Addr) (cl : List (Str × Addr)) (fp : List Addr), ET (X.blk sh H0 scope (PySem.compEnvC scope cl C X.env) fp) s c s' b) : TTs X.K (bT X scope c) s s' b :=
  fun σ H F rs as hd Q k sh H0 C cl fp => h sh H0 C cl fp σ H F rs as hd Q k
theorem tes_b {X : Cx} {scope : Scope} {e : Expr} {s s' : S} {x : Ar} (h : ∀ (sh : Shared) (H0 : Hp) (C : Addr) (cl : List (Str × Addr)) (fp : List Addr), EA (X.blk sh H0 scope (PySem.compEnvC scope cl C X.env) fp) s e s' x) : TEs X.K (bE X scope e) s s' x :=
  fun σ H F rs as hd Q k sh H0 C cl fp => h sh H0 C cl fp σ H F rs as hd Q k

/-- what a turn does: data x is stored, the test, the element -/
structure LcTurn (K : PySem.W.Frag) (g : D → List Sl → Option (List Sl)) (t : TT) (te : TE) (ρ : List Sl) (d : D) (μ μ' : List T) (out out' : List D) : Prop where
  ok : ∃ ρ' b s2, g d ρ = some ρ' ∧ TTs K t ⟨ρ', μ⟩ s2 b ∧ (b = true → ∃ s3 y, TEs K te s2 s3 (.d y) ∧ s3.μ = μ' ∧ out' = out ++ [y]) ∧ (b = false → s2.μ = μ' ∧ out' = out)
theorem lc_run {X : Cx} {s s1 : S} {n : Nat} {it : Nat → D} {wi : TI} {G : TG} {is vs : List Nat} {g : D → List Sl → Option (List Sl)} {t : TT} {te : TE} (μs : Nat → List T) (outs : Nat → List D)
    (hi : ∀ σ H F rs as, Hd X.K σ H F rs as s → ∀ R : It → Hp → Prop, (∀ J H' F' rs' as', Hd X.K σ H' F' rs' as' s1 → rs <+: rs' → Go as.flatten as'.flatten F H F' H' → Gives X.K J n it F' → R J H') → wi σ H R)
    (hS : GS X.K G is g) (hv : ∀ i ∈ is, i ∈ vs) (hn : n ≤ 16777216) (h0 : μs 0 = s1.μ) (o0 : outs 0 = []) (hl : ∀ i, (μs i).length = s1.μ.length)
    (hs : ∀ i, i < n → LcTurn X.K g t te (wipeS s1.ρ vs) (it i) (μs i) (μs (i + 1)) (outs i) (outs (i + 1))) :
    TEs X.K (tLc wi G t te vs) s (S.add ⟨s1.ρ, μs n⟩ (.fl (outs n))) (.o s1.μ.length) := fun σ H F rs as hd Q k => by
  refine hi σ H F rs as hd _ fun J H1 F1 rs1 as1 h1 p1 g1 gv => ?_
  intro A hA
  obtain ⟨n1, n2⟩ := h1.newL (ds := []) (ys := []) hA rfl
  refine ⟨fun i m H2 => m = n - i ∧ i ≤ n ∧ ∃ acc F2 rs2 as2, HdR X.K H2 F2 (μs i ++ [.fl (outs i)]) (rs2 ++ [.ref A]) (as2 ++ [[A]]) ∧ rs1 <+: rs2 ∧ Go as1.flatten (as2 ++ [[A]]).flatten F1 H1 F2 H2 ∧ H2 A = some (.lst acc) ∧ Reps X.K F2 (outs i) acc ∧ (outs i).length ≤ i, ?_, ?_⟩
  · refine ⟨n, by simp, Nat.zero_le _, [], F1, rs1, as1, ?_, refl_pre _, n2, upd_same, by rw [o0]; rfl, by rw [o0]; exact Nat.le_refl _⟩
    rw [h0, o0]
    exact n1.r
  · rintro i m H2 ⟨rfl, hin, acc, F2, rs2, as2, hr, p2, g2, hAc, rp, ol⟩
    have rl : rs2.length = (μs i).length := by have := hr.l1; simp at this; exact this
    have f12 : Same F1 F2 := g2.fz
    obtain ⟨go, stop, yld⟩ := gv H2 F2 f12 hr.sub
    by_cases hlt : i < n
    · refine .inr ⟨go i hlt, fun H' => ∃ acc F2 rs2 as2, HdR X.K H' F2 (μs (i + 1) ++ [.fl (outs (i + 1))]) (rs2 ++ [.ref A]) (as2 ++ [[A]]) ∧ rs1 <+: rs2 ∧ Go as1.flatten (as2 ++ [[A]]).flatten F1 H1 F2 H' ∧ H' A = some (.lst acc) ∧ Reps X.K F2 (outs (i + 1)) acc ∧ (outs (i + 1)).length ≤ i + 1,
        fun H' w => ⟨n - (i + 1), by omega, rfl, hlt, w⟩, fun v H3 y => ?_⟩
      obtain ⟨F3, g3, sb3, r3⟩ := yld i v H3 hlt y
      obtain ⟨hr3, g3'⟩ := hr.pure g3 sb3
      have hi3 := hr3.init rl
      obtain ⟨ρ', b, s2, e1, ht, q1, q2⟩ := (hs i hlt).ok
      have sl3 : Slots X.K F3 rs2 (wipeS s1.ρ vs) (wipe σ vs) := (h1.sl.mono (f12.trans g3.fz) fun k v q => pre_get p2 k v q).wipe vs
      have hd3 : Hd X.K (wipe σ vs) H3 F3 rs2 as2 ⟨wipeS s1.ρ vs, μs i⟩ := ⟨hi3, sl3⟩
      have hA3 : H3 A = some (.lst acc) := g3.keep A _ (fun z => nomatch z) hAc
      refine hS (wipe σ vs) H3 F3 rs2 as2 _ (it i) v ρ' hd3 r3 e1 _ fun σ4 h4 w4 => ?_
      have ww : ∀ (σ : St) (vs : List Nat), wipe (wipe σ vs) vs = wipe σ vs := by
        intro σ vs
        have gen : ∀ (us : List Nat), (∀ i ∈ us, i ∈ vs) → wipe (wipe σ us) vs = wipe σ vs := by
          intro us
          induction us with
          | nil => intro _; rfl
          | cons u us ih =>
            intro h
            show wipe ((wipe σ us).set u none) vs = _
            rw [wipe_set (h u List.mem_cons_self)]
            exact ih fun i hi => h i (List.mem_cons_of_mem _ hi)
        exact gen vs fun _ h => h
      refine ⟨by rw [w4 vs hv, ww], ht σ4 H3 F3 rs2 as2 h4 _ fun H5 F5 rs5 as5 h5 p5 g5 => ?_⟩
      have hl5 : rs5.length = s2.μ.length := h5.r.l1
      cases b with
      | true =>
        refine iteT ?_
        obtain ⟨s3, yd, te3, m3, o3⟩ := q1 rfl
        refine te3 σ4 H5 F5 rs5 as5 h5 _ fun w H6 F6 rs6 as6 h6 p6 g6 r6 => ?_
        have gg := g5.trans g6
        have h6r : HdR X.K H6 F6 (μs (i + 1)) rs6 as6 := by rw [← m3]; exact h6.r
        obtain ⟨fr, gf⟩ := hr3.frame rl h6r gg
        have hA6 : H6 A = some (.lst acc) := by
          refine gg.keep A _ (fun z => ?_) hA3
          obtain ⟨j, mm, e, hm⟩ := mem_fl z
          have hj := (List.getElem?_eq_some_iff.mp e).1
          have hja : as2.length = (μs i).length := by have := hr3.l2; simp at this; exact this
          have := hr3.n2 j as2.length mm [A] A (by rw [List.getElem?_append_left hj]; exact e) (by simp) hm (by simp)
          omega
        have rp6 : Reps X.K F6 (outs i) acc := Reps.mono ((g3.fz.trans g5.fz).trans g6.fz) _ _ rp
        have accl : acc.length = (outs i).length := rp.len
        refine ⟨acc, hA6, by have : (16777216 : Nat) ≤ sizeLine := by decide
                             omega, ?_⟩
        have rl6 : rs6.length = (μs (i + 1)).length := h6r.l1
        have al6 : as6.length = (μs (i + 1)).length := h6r.l2
        have kE : (rs6 ++ [V.ref A])[(μs (i + 1)).length]? = some (.ref A) := by rw [← rl6]; simp
        have lE : (as6 ++ [[A]])[(μs (i + 1)).length]? = some [A] := by rw [← al6]; simp
        obtain ⟨st, gs⟩ := fr.set1 (t := .fl (outs (i + 1))) (H' := upd H6 A (.lst (acc ++ [w]))) kE lE (fun a o hna e => by rw [upd_ne (fun z => hna (by rw [z]; simp))]; exact e)
          (fun a e => by
            by_cases z : a = A
            · subst z; rw [upd_same] at e; cases e
            · rw [upd_ne z] at e; exact e)
          ⟨A, acc ++ [w], rfl, upd_same, by rw [o3]; exact rp6.append (.one r6), rfl⟩
        have eset : (μs (i + 1) ++ [T.fl (outs i)]).set (μs (i + 1)).length (.fl (outs (i + 1))) = μs (i + 1) ++ [.fl (outs (i + 1))] := by simp
        rw [eset] at st
        exact ⟨acc ++ [w], F6, rs6, as6, st, (p2.trans p5).trans p6, ((g2.trans g3').trans gf).trans gs, upd_same, by rw [o3]; exact rp6.append (.one r6), by rw [o3]; simp; omega⟩
      | false =>
        refine iteF ?_
        obtain ⟨m3, o3⟩ := q2 rfl
        have h5r : HdR X.K H5 F5 (μs (i + 1)) rs5 as5 := by rw [← m3]; exact h5.r
        obtain ⟨fr, gf⟩ := hr3.frame rl h5r g5
        have hA5 : H5 A = some (.lst acc) := by
          refine g5.keep A _ (fun z => ?_) hA3
          obtain ⟨j, mm, e, hm⟩ := mem_fl z
          have hj := (List.getElem?_eq_some_iff.mp e).1
          have hja : as2.length = (μs i).length := by have := hr3.l2; simp at this; exact this
          have := hr3.n2 j as2.length mm [A] A (by rw [List.getElem?_append_left hj]; exact e) (by simp) hm (by simp)
          omega
        refine ⟨acc, F5, rs5, as5, by rw [o3]; exact fr, p2.trans p5, (g2.trans g3').trans gf, hA5, by rw [o3]; exact Reps.mono (g3.fz.trans g5.fz) _ _ rp, by rw [o3]; omega⟩
    · have e : i = n := by omega
      subst e
      refine .inl ⟨stop, ?_⟩
      refine k (V.ref A) H2 F2 (rs2 ++ [V.ref A]) (as2 ++ [[A]]) ⟨show HdR X.K H2 F2 (μs i ++ [T.fl (outs i)]) (rs2 ++ [V.ref A]) (as2 ++ [[A]]) from hr, ?_⟩ ((p1.trans p2).trans ⟨_, rfl⟩) (g1.trans g2) ?_
      · exact (h1.sl.mono f12 fun k v q => pre_get p2 k v q).mono (Same.refl _) fun k v q => pre_get ⟨_, rfl⟩ k v q
      · show (rs2 ++ [V.ref A])[s1.μ.length]? = _
        rw [← hl i, ← rl]; simp
section
variable {X : Cx} {s s1 : S} {tg iter elt : Expr} {ifs : List Expr} {scope : Scope} {own : List (Str × Nat)} {pos : Pos} {n : Nat} {it : Nat → D} {G : TG} {is : List Nat} {g : D → List Sl → Option (List Sl)} {t : TT}
theorem ea_lc (own : List (Str × Nat)) (μs : Nat → List T) (outs : Nat → List D) (hi : IT X s tg iter s1 n it) (hN : X.N.Nodup) (ok : BlkOk X.N X.env.scope scope own)
    (hG : ∀ (sh : Shared) (H0 : Hp) (C : Addr) (cl : List (Str × Addr)) (fp : List Addr), PG (X.blk sh H0 scope (PySem.compEnvC scope cl C X.env) fp) tg G) (hS : GS X.K G is g)
    (hT : ∀ (sh : Shared) (H0 : Hp) (C : Addr) (cl : List (Str × Addr)) (fp : List Addr), PTs (X.blk sh H0 scope (PySem.compEnvC scope cl C X.env) fp) ifs t)
    (hn : n ≤ 16777216) (h0 : μs 0 = s1.μ) (o0 : outs 0 = []) (hl : ∀ i, (μs i).length = s1.μ.length) (hs : ∀ i, i < n → LcTurn X.K g t (bE X scope elt) (wipeS s1.ρ (own.map (·.2))) (it i) (μs i) (μs (i + 1)) (outs i) (outs (i + 1)))
    (hv : ∀ i ∈ is, i ∈ own.map (·.2) := by decide) (hc : X.calm = true := by rfl) (hf : ∀ x, foldedSetIterable iter X.env x = pure x := by intro _; rfl) :
    EA X s (.ListComp elt [⟨tg, iter, ifs, 0⟩] scope pos) (S.add ⟨s1.ρ, μs n⟩ (.fl (outs n))) (.o s1.μ.length) := fun σ H F rs as hd Q k => by
  obtain ⟨wi, pi, hi⟩ := hi
  exact WE.of (pe_lc hc hN pi ok hG hT pe_b hf) (lc_run μs outs hi hS hv hn h0 o0 hl hs σ H F rs as hd Q k)
/-- name = [..] on one line -/
theorem w1_setLc (i : Nat) {nm : Str} {py spos : Pos} {D' : Ds} (own : List (Str × Nat)) (μs : Nat → List T) (outs : Nat → List D) (hi : IT X s tg iter s1 n it) (hN : X.N.Nodup) (hsw : swapsWith (.ListComp elt [⟨tg, iter, ifs, 0⟩] scope pos) (some (.Name nm py)) spos.line X.env = pure true) (ok : BlkOk X.N X.env.scope scope own)
    (hG : ∀ (sh : Shared) (H0 : Hp) (C : Addr) (cl : List (Str × Addr)) (fp : List Addr), PG (X.blk sh H0 scope (PySem.compEnvC scope cl C X.env) fp) tg G) (hS : GS X.K G is g)
    (hT : ∀ (sh : Shared) (H0 : Hp) (C : Addr) (cl : List (Str × Addr)) (fp : List Addr), PTs (X.blk sh H0 scope (PySem.compEnvC scope cl C X.env) fp) ifs t)
    (hn : n ≤ 16777216) (h0 : μs 0 = s1.μ) (o0 : outs 0 = []) (hl : ∀ i, (μs i).length = s1.μ.length) (hs : ∀ i, i < n → LcTurn X.K g t (bE X scope elt) (wipeS s1.ρ (own.map (·.2))) (it i) (μs i) (μs (i + 1)) (outs i) (outs (i + 1)))
    (k : D'.nx ⟨s1.ρ.set i (.o s1.μ.length), μs n ++ [.fl (outs n)]⟩)
    (hv : ∀ i ∈ is, i ∈ own.map (·.2) := by decide) (hy : X.N[i]? = some nm := by rfl) (hyl : X.env.scope.names.lookup nm = some .local := by rfl) (hc : X.calm = true := by rfl) (hf : ∀ x, foldedSetIterable iter X.env x = pure x := by intro _; rfl) :
    W1 X s (.Assign [.Name nm py] (.ListComp elt [⟨tg, iter, ifs, 0⟩] scope pos) spos) D' := fun W σ H F rs as hd g p => by
  obtain ⟨wi, pi, hi⟩ := hi
  refine WSt.of (ps_setLc hc hN hy hyl hsw pi ok hG hT pe_b hf) (lc_run μs outs hi hS hv hn h0 o0 hl hs σ H F rs as hd _ fun v H1 F1 rs1 as1 h1 p1 g1 r1 => ?_)
  exact ⟨F1, rs1, as1, ⟨s1.ρ.set i (.o s1.μ.length), μs n ++ [.fl (outs n)]⟩, ⟨h1.r, h1.sl.set i ⟨v, rfl, r1⟩⟩, g.trans g1, p.trans p1, k⟩
end
end Q
namespace Q
open PySem L2

/-! ### methods of built-in types, stores -/
def MtV (X : Cx) (s : S) (r : V → List V → Hp → VK → Prop) (x : Ar) (xs : List Ar) (s' : S) (y : Ar) : Prop := ∀ σ H F rs as v vs, Hd X.K σ H F rs as s → ArOk X.K F rs x v → ArsOk X.K F rs xs vs → ∀ Q : VK,
  (∀ u H' F' rs' as', Hd X.K σ H' F' rs' as' s' → rs <+: rs' → Go as.flatten as'.flatten F H F' H' → ArOk X.K F' rs' y u → Q u H') → r v vs H Q
/-- x is of the built-in type T -/
def TyA (X : Cx) (s : S) (T' : String) (x : Ar) : Prop := ∀ σ H F rs as v, Hd X.K σ H F rs as s → ArOk X.K F rs x v → tyV X.K T' v H
section
variable {X : Cx} {s s1 s2 s3 : S} {o e : Expr} {es : List Expr} {x y : Ar} {xs : List Ar} {d : D} {ds es' : List D} {pos apos : Pos} {nm : Str} {T' id : String} {r : V → List V → Hp → VK → Prop}
theorem ty_str {l : List Nat} : TyA X s "str" (.d (.str l)) := fun σ H F rs as v hd a => by cases a; rfl
theorem ty_list (h : Ls s x ds) : TyA X s "list" x := fun σ H F rs as v hd a => by
  obtain ⟨p, xs, rfl, q, r⟩ := h.get hd a
  exact .inl ⟨rfl, _, .of q⟩
theorem ea_mt (pa : PlainAttrs T') (slot : Slot T' nm id) (hty : typeOf (.builtin id) = pure (.type "method_descriptor")) (hm : MtR X id r) (ho : EA X s o s1 x) (ty : TyA X s1 T' x) (ha : EAs X s1 (e :: es) s2 xs) (hr : MtV X s2 r x xs s3 y)
    (hbase : attributeBase o nm X.env (eval o X.env) = eval o X.env := by rfl)
    (hfew : ((backTo pos (starEach (e :: es) X.env)).all (fun x => !x.1) && (backToKw pos (keywordEach [] X.env)).all (fun x => x.1.isSome) && decide ((e :: es).length + ([] : List Keyword).length + (if ([] : List Keyword).isEmpty then 0 else 1) < 30)) = true := by rfl)
    (hline : (apos.endLine == pos.line) = true := by rfl) (hs : starEach (e :: es) X.env = (false, eval e X.env) :: starEach es X.env := by rfl) (hplain : (backTo pos (starEach es X.env)).any (·.1) = false := by rfl) :
    EA X s (.Call (.Attribute o nm apos) (e :: es) [] pos) s3 y := fun σ H F rs as hd Q k =>
  WE.of (pe_bm pa slot hty hm pe_u pa_u hbase hfew hline hs hplain) (ho σ H F rs as hd _ fun v H1 F1 rs1 as1 h1 p1 g1 r1 => ⟨ty σ H1 F1 rs1 as1 v h1 r1, ha σ H1 F1 rs1 as1 h1 _ fun vs H2 F2 rs2 as2 h2 p2 g2 r2 =>
    hr σ H2 F2 rs2 as2 v vs h2 (r1.mono g2.fz p2) r2 Q fun u H3 F3 rs3 as3 h3 p3 g3 r3 => k u H3 F3 rs3 as3 h3 ((p1.trans p2).trans p3) ((g1.trans g2).trans g3) r3⟩)
theorem ea_mt0 (pa : PlainAttrs T') (slot : Slot T' nm id) (hty : typeOf (.builtin id) = pure (.type "method_descriptor")) (hm : MtR X id r) (ho : EA X s o s1 x) (ty : TyA X s1 T' x) (hr : MtV X s1 r x [] s3 y)
    (hbase : attributeBase o nm X.env (eval o X.env) = eval o X.env := by rfl) (hline : (apos.endLine == pos.line) = true := by rfl) : EA X s (.Call (.Attribute o nm apos) [] [] pos) s3 y := fun σ H F rs as hd Q k =>
  WE.of (pe_bm0 pa slot hty hm pe_u hbase hline) (ho σ H F rs as hd _ fun v H1 F1 rs1 as1 h1 p1 g1 r1 => ⟨ty σ H1 F1 rs1 as1 v h1 r1,
    hr σ H1 F1 rs1 as1 v [] h1 r1 rfl Q fun u H3 F3 rs3 as3 h3 p3 g3 r3 => k u H3 F3 rs3 as3 h3 (p1.trans p3) (g1.trans g3) r3⟩)
/-- an owned list, and what becomes of the state where it is written -/
theorem Hd.lst {K : PySem.W.Frag} {σ : St} {H F : Hp} {rs : List V} {as : List (List Addr)} {k : Nat} {v : V} (hd : Hd K σ H F rs as s) (hk : s.μ[k]? = some (.fl ds)) (hv : rs[k]? = some v) :
    ∃ p xs, v = .ref p ∧ H p = some (.lst xs) ∧ Reps K F ds xs ∧ ∀ es ys, Reps K F es ys → Hd K σ (upd H p (.lst ys)) F rs as ⟨s.ρ, s.μ.set k (.fl es)⟩ ∧ Go as.flatten as.flatten F H F (upd H p (.lst ys)) := by
  obtain ⟨v', l, h1, h2, p, xs, e, hp, r, el⟩ := hd.r.at hk
  rw [h1] at hv; cases hv
  subst el
  refine ⟨p, xs, e, hp, r, fun es ys rr => ?_⟩
  obtain ⟨a, b⟩ := hd.r.set1 (t := .fl es) (H' := upd H p (.lst ys)) h1 h2 (fun a o hna e => by rw [upd_ne (fun z => hna (by rw [z]; simp))]; exact e)
    (fun a e => by
      by_cases z : a = p
      · subst z; rw [upd_same] at e; cases e
      · rw [upd_ne z] at e; exact e)
    ⟨p, ys, e, upd_same, rr, rfl⟩
  exact ⟨⟨a, hd.sl⟩, b⟩
theorem mv_append {k : Nat} (hk : s.μ[k]? = some (.fl ds)) (hz : ds.length < 16777216) : MtV X s rAppend (.o k) [.d d] ⟨s.ρ, s.μ.set k (.fl (ds ++ [d]))⟩ (.d .non) := fun σ H F rs as v vs hd a ⟨w, ws, e, b, e2⟩ Q c => by
  subst e2 e
  obtain ⟨p, xs, rfl, q, r, up⟩ := hd.lst hk a
  obtain ⟨h1, h2⟩ := up _ _ (r.append (.one b))
  exact ⟨p, xs, w, rfl, rfl, q, by rw [r.len]; exact hz, c _ _ _ _ _ h1 (refl_pre _) h2 rfl⟩
theorem mv_extend {k : Nat} (hk : s.μ[k]? = some (.fl ds)) (hy : Ls s y es') (hz : ds.length + es'.length ≤ 16777216) : MtV X s rExtend (.o k) [y] ⟨s.ρ, s.μ.set k (.fl (ds ++ es'))⟩ (.d .non) := fun σ H F rs as v vs hd a ⟨w, ws, e, b, e2⟩ Q c => by
  subst e2 e
  obtain ⟨p, xs, rfl, q, r, up⟩ := hd.lst hk a
  obtain ⟨p', ys, rfl, q', r'⟩ := hy.get hd b
  obtain ⟨h1, h2⟩ := up _ _ (r.append r')
  exact ⟨p, p', xs, ys, rfl, rfl, q, q', by rw [r.len, r'.len]; exact hz, c _ _ _ _ _ h1 (refl_pre _) h2 rfl⟩
theorem mv_pop {k : Nat} (hk : s.μ[k]? = some (.fl ds)) (hz : ds[ds.length - 1]? = some d) : MtV X s rPop (.o k) [] ⟨s.ρ, s.μ.set k (.fl ds.dropLast)⟩ (.d d) := fun σ H F rs as v vs hd a e Q c => by
  cases e
  obtain ⟨p, xs, rfl, q, r, up⟩ := hd.lst hk a
  obtain ⟨h1, h2⟩ := up _ _ r.dropLast
  obtain ⟨w, h3, h4⟩ := r.get hz
  exact ⟨p, xs, w, rfl, rfl, q, by rw [r.len]; exact h3, c _ _ _ _ _ h1 (refl_pre _) h2 h4⟩
theorem mv_popAt {k j : Nat} {i : Int} (hk : s.μ[k]? = some (.fl ds)) (h1 : -(2 ^ 63) ≤ i) (h2 : i < 2 ^ 63) (hj : seqIndex? i ds.length = some j) (hz : ds[j]? = some d) : MtV X s rPopAt (.o k) [.d (.int i)] ⟨s.ρ, s.μ.set k (.fl (ds.eraseIdx j))⟩ (.d d) := fun σ H F rs as v vs hd a ⟨w, ws, e, b, e2⟩ Q c => by
  subst e2 e
  cases b
  obtain ⟨p, xs, rfl, q, r, up⟩ := hd.lst hk a
  obtain ⟨q1, q2⟩ := up _ _ (r.erase j)
  obtain ⟨w, h3, h4⟩ := r.get hz
  exact ⟨p, xs, i, j, w, rfl, rfl, q, h1, h2, by rw [r.len]; exact hj, h3, c _ _ _ _ _ q1 (refl_pre _) q2 h4⟩
theorem mv_reverse {k : Nat} (hk : s.μ[k]? = some (.fl ds)) : MtV X s rReverse (.o k) [] ⟨s.ρ, s.μ.set k (.fl ds.reverse)⟩ (.d .non) := fun σ H F rs as v vs hd a e Q c => by
  cases e
  obtain ⟨p, xs, rfl, q, r, up⟩ := hd.lst hk a
  obtain ⟨q1, q2⟩ := up _ _ r.reverse
  exact ⟨p, xs, rfl, rfl, q, c _ _ _ _ _ q1 (refl_pre _) q2 rfl⟩
theorem mv_clear {k : Nat} (hk : s.μ[k]? = some (.fl ds)) : MtV X s rClear (.o k) [] ⟨s.ρ, s.μ.set k (.fl [])⟩ (.d .non) := fun σ H F rs as v vs hd a e Q c => by
  cases e
  obtain ⟨p, xs, rfl, q, r, up⟩ := hd.lst hk a
  obtain ⟨q1, q2⟩ := up [] [] rfl
  exact ⟨p, xs, rfl, rfl, q, c _ _ _ _ _ q1 (refl_pre _) q2 rfl⟩
/-- x[i] = e, x an owned list -/
theorem w1_setix {i : Expr} {D' : Ds} {k m : Nat} {j : Int} {p2 : Pos} (he : EA X s e s1 (.d d)) (ho : EA X s1 o s2 (.o k)) (hi : EA X s2 i s3 (.d (.int j))) (hk : s3.μ[k]? = some (.fl ds)) (hm : ixN ds.length j = some m) (c : D'.nx ⟨s3.ρ, s3.μ.set k (.fl (ds.set m d))⟩)
    (ha : ∀ v, assign (.Subscript o i p2) X.env v = (do
      let ov ← holding [v] (eval o X.env)
      let iv ← holding [v, ov] (eval i X.env)
      standAt p2
      holding [v, ov, iv] (setItem ov iv v)
      release [v, ov, iv] []) := by intro _; rfl)
    (hs : swapsWithSole [.Subscript o i p2] e pos.line X.env = pure false := by rfl) (hw : swappedStores [.Subscript o i p2] e X.env = pure none := by rfl) (h1 : (assignEach [.Subscript o i p2] X.env).map (·.2) = [assign (.Subscript o i p2) X.env] := by rfl) :
    W1 X s (.Assign [.Subscript o i p2] e pos) D' := fun W σ H F rs as hd g p =>
  WSt.of (ps_asg pe_u (pg_sub pe_u pe_u set_list ha) hs hw h1) (he σ H F rs as hd _ fun v H1 F1 rs1 as1 h1 p1 g1 r1 => ho σ H1 F1 rs1 as1 h1 _ fun u H2 F2 rs2 as2 h2 p2 g2 r2 => hi σ H2 F2 rs2 as2 h2 _ fun w H3 F3 rs3 as3 h3 p3 g3 r3 => by
    cases r3
    obtain ⟨q, xs, rfl, hq, r, up⟩ := h3.lst hk (pre_get p3 _ _ r2)
    obtain ⟨a, b⟩ := up _ _ (r.set m (Rep.mono (g2.fz.trans g3.fz) _ _ r1))
    exact ⟨q, xs, j, m, rfl, rfl, hq, by rw [r.len]; exact hm, F3, rs3, as3, _, a, (((g.trans g1).trans g2).trans g3).trans b, ((p.trans p1).trans p2).trans p3, c⟩)
end

/-! ### contracts -/
inductive Ag where
  | d (d : D) | o (t : T)
def agsT : List Ag → List T
  | [] => []
  | .d _ :: gs => agsT gs
  | .o t :: gs => t :: agsT gs
def agV : List Ag → List V → List V
  | .o _ :: gs, v :: vs => v :: agV gs vs
  | .d _ :: gs, _ :: vs => agV gs vs
  | _, _ => []
def AgD (K : PySem.W.Frag) (F : Hp) : List Ag → List V → Prop
  | [], vs => vs = []
  | .d d :: gs, vs => ∃ v ws, vs = v :: ws ∧ Rep K F d v ∧ AgD K F gs ws
  | .o _ :: gs, vs => ∃ v ws, vs = v :: ws ∧ AgD K F gs ws
theorem AgD.len {K : PySem.W.Frag} {F : Hp} : ∀ {gs : List Ag} {vs : List V}, AgD K F gs vs → vs.length = gs.length
  | [], _, h => by cases h; rfl
  | .d _ :: _, _, ⟨_, _, e, _, h⟩ => by cases e; simp [AgD.len h]
  | .o _ :: _, _, ⟨_, _, e, h⟩ => by cases e; simp [AgD.len h]
/-- a contract: the arguments, by what they are told by; what is asked of these; what it gives: the answer, the owned arguments behind it -/
structure Ct where
  ι : Type
  args : ι → List Ag
  pre : ι → Prop
  post : ι → T → List T → Prop
/-- what a def promises -/
def spOf (K : PySem.W.Frag) (Φ : Ct) : Sp := fun vs H Q _ => ∃ F ass, ∃ i : Φ.ι, HdR K H F (agsT (Φ.args i)) (agV (Φ.args i) vs) ass ∧ AgD K F (Φ.args i) vs ∧ Φ.pre i ∧
  ∀ r outs, Φ.post i r outs → ∀ v H' F' ass', HdR K H' F' (outs ++ [r]) (agV (Φ.args i) vs ++ [v]) ass' → Go ass.flatten ass'.flatten F H F' H' → Q v H'
def slots0 : List Ag → Nat → List Sl
  | [], _ => []
  | .d d :: gs, k => .d d :: slots0 gs k
  | .o _ :: gs, k => .o k :: slots0 gs (k + 1)
theorem slots0_len : ∀ (gs : List Ag) (k : Nat), (slots0 gs k).length = gs.length
  | [], _ => rfl
  | .d _ :: gs, k => by simp [slots0, slots0_len gs k]
  | .o _ :: gs, k => by simp [slots0, slots0_len gs (k + 1)]
def st0 (n : Nat) (gs : List Ag) : S := ⟨slots0 gs 0 ++ List.replicate (n - gs.length) .un, agsT gs⟩
theorem Slots.app {K : PySem.W.Frag} {F : Hp} {rs : List V} : ∀ {ρ ρ' : List Sl} {σ σ' : St}, Slots K F rs ρ σ → Slots K F rs ρ' σ' → Slots K F rs (ρ ++ ρ') (σ ++ σ')
  | [], _, _, _, h, h' => by cases h; exact h'
  | _ :: _, _, _, _, ⟨x, σ1, e, h1, h2⟩, h' => by cases e; exact ⟨x, _, rfl, h1, Slots.app h2 h'⟩
theorem Slots.uns {K : PySem.W.Frag} {F : Hp} {rs : List V} : ∀ n : Nat, Slots K F rs (List.replicate n .un) (List.replicate n none)
  | 0 => rfl
  | n + 1 => ⟨none, _, rfl, trivial, Slots.uns n⟩
theorem slots0_ok {K : PySem.W.Frag} {F : Hp} : ∀ {gs : List Ag} {vs : List V} (pre : List V), AgD K F gs vs → Slots K F (pre ++ agV gs vs) (slots0 gs pre.length) (vs.map some)
  | [], _, _, h => by cases h; rfl
  | .d d :: gs, _, pre, ⟨v, ws, e, r, h⟩ => by
    cases e
    exact ⟨some v, _, rfl, ⟨v, rfl, r⟩, slots0_ok pre h⟩
  | .o t :: gs, _, pre, ⟨v, ws, e, h⟩ => by
    cases e
    refine ⟨some v, _, rfl, ⟨v, rfl, ?_⟩, ?_⟩
    · show (pre ++ v :: agV gs ws)[pre.length]? = some v
      simp
    · have := slots0_ok (gs := gs) (vs := ws) (pre ++ [v]) h
      rw [List.append_assoc] at this
      simp only [List.length_append, List.length_singleton] at this
      exact this
/-- how a def's body ends -/
def Ret (m : Nat) (r : T) (outs : List T) (s : S) (x : Ar) : Prop := s.μ.take m = outs ∧ m ≤ s.μ.length ∧ match x with
  | .d d => r = .fz d
  | .o k => m ≤ k ∧ s.μ[k]? = some r
def Rets (m : Nat) (Ψ : T → List T → Prop) (s : S) (x : Ar) : Prop := ∃ r outs, Ψ r outs ∧ Ret m r outs s x
def rets (m : Nat) (Ψ : T → List T → Prop) : Ds := { nx := fun s => Rets m Ψ s (.d .non), rt := Rets m Ψ }
theorem Go.sub {as as' as2 : List Addr} {F H F' H' : Hp} (g : Go as as' F H F' H') (h : ∀ a ∈ as2, a ∈ as') : Go as as2 F H F' H' := ⟨g.fz, g.new, g.keep, g.there, fun a ha => g.aw a (h a ha)⟩
theorem HdR.addFz {K : PySem.W.Frag} {H F : Hp} {ts : List T} {vs : List V} {as : List (List Addr)} {d : D} {v : V} (h : HdR K H F ts vs as) (r : Rep K F d v) : HdR K H F (ts ++ [.fz d]) (vs ++ [v]) (as ++ [[]]) := by
  have sh : ∀ (i : Nat) m, (as ++ [[]])[i]? = some m → as[i]? = some m ∨ m = [] := fun i m e => by
    rcases app_get e with q | ⟨q0, q⟩
    · exact .inl q
    · have : i - as.length = 0 := by have := (List.getElem?_eq_some_iff.mp q).1; simp at this; omega
      rw [this] at q; simp at q
      exact .inr q
  refine ⟨h.sub, by simp [h.l1], by simp [h.l2], fun i t' v' m e1 e2 e3 => ?_, fun i m e => ?_, fun i j m m' a e1 e2 h1 h2 => ?_, fun i m a e ha => ?_⟩
  · rcases app_get e1 with q | ⟨q0, q⟩
    · have hi := (List.getElem?_eq_some_iff.mp q).1
      rw [List.getElem?_append_left (by rw [h.l1]; exact hi)] at e2
      rw [List.getElem?_append_left (by rw [h.l2]; exact hi)] at e3
      exact h.own i t' v' m q e2 e3
    · have i0 : i = ts.length := by have := (List.getElem?_eq_some_iff.mp q).1; simp at this; omega
      subst i0
      simp at q; subst q
      rw [← h.l1] at e2; simp at e2; subst e2
      rw [← h.l2] at e3; simp at e3; subst e3
      exact ⟨r, rfl⟩
  · rcases sh i m e with q | rfl
    · exact h.n1 _ _ q
    · exact List.nodup_nil
  · rcases sh i m e1 with q | rfl
    · rcases sh j m' e2 with z | rfl
      · exact h.n2 _ _ _ _ _ q z h1 h2
      · cases h2
    · cases h1
  · rcases sh i m e with q | rfl
    · exact h.af _ _ _ q ha
    · cases ha
theorem pick_range {α : Type} (xs : List α) (d : α) (m : Nat) (h : m ≤ xs.length) : pick xs (List.range m) d = xs.take m := by
  refine List.ext_getElem? fun i => ?_
  unfold pick
  rw [List.getElem?_map]
  by_cases hi : i < m
  · rw [List.getElem?_range hi, List.getElem?_take_of_lt hi]
    simp [List.getD, List.getElem?_eq_getElem (show i < xs.length by omega)]
  · rw [List.getElem?_eq_none (by simp; omega), List.getElem?_eq_none (by rw [List.length_take]; omega)]; rfl
/-- what a body's end gives to the caller -/
theorem ret_out {K : PySem.W.Frag} {σ : St} {H F : Hp} {rs ovs : List V} {as : List (List Addr)} {s : S} {x : Ar} {v : V} {r : T} {outs : List T} {W : List Addr} {F0 H0 : Hp} (hd : Hd K σ H F rs as s) (g : Go W as.flatten F0 H0 F H) (p : ovs <+: rs) (a : ArOk K F rs x v) (h : Ret ovs.length r outs s x) :
    ∃ as', HdR K H F (outs ++ [r]) (ovs ++ [v]) as' ∧ Go W as'.flatten F0 H0 F H := by
  obtain ⟨h1, hm, h2⟩ := h
  have lv : ovs.length ≤ rs.length := p.length_le
  have la : ovs.length ≤ as.length := by rw [hd.r.l2]; exact hm
  have ep : rs.take ovs.length = ovs := by
    obtain ⟨zs, rfl⟩ := p
    simp
  have subf : ∀ ks : List Nat, ∀ b ∈ (pick as ks []).flatten, b ∈ as.flatten := fun ks b hb => by
    obtain ⟨i, l, e, hm⟩ := mem_fl hb
    unfold pick at e
    rw [List.getElem?_map] at e
    cases q : ks[i]? with
    | none => rw [q] at e; cases e
    | some k =>
      rw [q] at e
      have e' : as.getD k [] = l := Option.some.inj e
      cases q2 : as[k]? with
      | none => rw [List.getD, q2] at e'; subst e'; cases hm
      | some l' => rw [List.getD, q2] at e'; simp at e'; subst e'; exact fl_mem q2 hm
  cases x with
  | d d =>
    have h2 : r = .fz d := h2
    subst h2
    have hp := hd.r.part (ks := List.range ovs.length) List.nodup_range (fun k hk => by have := List.mem_range.mp hk; omega)
    rw [pick_range _ _ _ hm, pick_range _ _ _ lv, h1, ep] at hp
    refine ⟨_, hp.addFz a, g.sub fun b hb => ?_⟩
    simp only [List.flatten_append, List.mem_append] at hb
    rcases hb with hb | hb
    · exact subf _ b hb
    · simp at hb
  | o k =>
    obtain ⟨hk, hr⟩ := h2
    have kl := (List.getElem?_eq_some_iff.mp hr).1
    have hp := hd.r.part (ks := List.range ovs.length ++ [k]) (by
      rw [List.nodup_append]
      refine ⟨List.nodup_range, by simp, fun a ha b hb => ?_⟩
      have := List.mem_range.mp ha
      simp at hb
      omega) (fun j hj => by
        rcases List.mem_append.mp hj with z | z
        · have := List.mem_range.mp z; omega
        · simp at z; omega)
    have ap : ∀ {α : Type} (xs : List α) (d : α), pick xs (List.range ovs.length ++ [k]) d = pick xs (List.range ovs.length) d ++ [xs.getD k d] := fun xs d => by simp [pick]
    have e1 : s.μ.getD k (.fz .non) = r := by simp [List.getD, hr]
    have e2 : rs.getD k .non = v := by
      have a' : rs[k]? = some v := a
      simp [List.getD, a']
    have hp2 : HdR K H F (outs ++ [r]) (ovs ++ [v]) (pick as (List.range ovs.length ++ [k]) []) := by
      rw [ap, ap] at hp
      rw [pick_range _ _ _ hm, pick_range _ _ _ lv, h1, ep, e1, e2] at hp
      exact hp
    exact ⟨_, hp2, g.sub (subf _)⟩
theorem agV_len {K : PySem.W.Frag} {F : Hp} : ∀ {gs : List Ag} {vs : List V}, AgD K F gs vs → (agV gs vs).length = (agsT gs).length
  | [], _, h => by cases h; rfl
  | .d d :: gs, _, ⟨v, ws, e, _, h⟩ => by
    cases e
    show (agV gs ws).length = (agsT gs).length
    exact agV_len h
  | .o _ :: _, _, ⟨_, _, e, h⟩ => by cases e; simp [agV, agsT, agV_len h]
section
variable {P : Program} {w : World} {K : PySem.W.Frag} {mg : Str → Option Value} {base : Heap}
/-- THE RULE for a def -/
theorem fn_ok {x qual : Str} {st : Stmt} {f : Addr} {fd : FuncData} {N ps : List Str} {k : Nat} {Φ : Ct} (F : Fun K x qual st f fd) (S : FnScope N ps (defScope st)) (hl : ∀ i, (Φ.args i).length = ps.length)
    (hb : ∀ (cdv : Value) (A : Around) (outer : List Env) (s : Shared) (H : Hp) (E : XK), Room k (A.deeper (PyProof.Rows.envOfC qual (defScope st) s.heap.objs.size f cdv)) → ∀ i, Φ.pre i →
      WS (cxOf CX0 P w K mg base N qual (defScope st) f cdv A outer s H E).nox (st0 N.length (Φ.args i)) (defBody st) (rets (agsT (Φ.args i)).length (Φ.post i))) : FnOk P w K mg base CX0 (k + 1) f fd ps (spOf K Φ) := by
  refine F.ok S (fun vs H Q E h => ?_) (fun cdv A outer s H vs Q E hr h => ?_)
  · obtain ⟨F0, ass, i, _, h2, _⟩ := h
    rw [h2.len, hl i]
  · obtain ⟨F0, ass, i, h1, h2, h3, c⟩ := h
    refine ⟨_, pss_u, ?_⟩
    have sl : Slots K F0 (agV (Φ.args i) vs) (st0 N.length (Φ.args i)).ρ (start N vs) := by
      have q := slots0_ok [] h2
      refine q.app ?_
      rw [h2.len]
      exact Slots.uns _
    have w0 := hb cdv A outer s H E hr i h3 ⟨H, F0, ass.flatten, agV (Φ.args i) vs⟩ (start N vs) H F0 (agV (Φ.args i) vs) ass ⟨h1, sl⟩ (Go.refl _ _ _) (refl_pre _)
    rw [← agV_len h2] at w0
    refine w0.mono (fun σ' H' q => ?_) (fun v H' q => ?_) (fun _ _ q => ?_) (fun _ _ q => ?_)
    · obtain ⟨F', rs', as', s', hd, g, p, r, outs, hp, rt⟩ := q
      obtain ⟨as2, q1, q2⟩ := ret_out (x := .d .non) (v := V.non) hd g p rfl rt
      exact c r outs hp _ _ _ _ q1 q2
    · obtain ⟨σ', F', rs', as', s', x', hd, g, p, a, r, outs, hp, rt⟩ := q
      obtain ⟨as2, q1, q2⟩ := ret_out hd g p a rt
      exact c r outs hp _ _ _ _ q1 q2
    · obtain ⟨_, _, _, _, _, _, _, z⟩ := q; exact z
    · obtain ⟨_, _, _, _, _, _, _, z⟩ := q; exact z
end
/-! ### calls -/
def oks : List Ar → List Nat
  | [] => []
  | .d _ :: xs => oks xs
  | .o k :: xs => k :: oks xs
def agOf (μ : List T) : List Ar → Option (List Ag)
  | [] => some []
  | .d d :: xs => (agOf μ xs).map (Ag.d d :: ·)
  | .o k :: xs => (μ[k]?).bind fun t => (agOf μ xs).map (Ag.o t :: ·)
theorem agOf_ok {K : PySem.W.Frag} {F : Hp} {rs : List V} {μ : List T} : ∀ {xs : List Ar} {gs : List Ag} {vs : List V}, agOf μ xs = some gs → ArsOk K F rs xs vs →
    agsT gs = pick μ (oks xs) (.fz .non) ∧ agV gs vs = pick rs (oks xs) .non ∧ AgD K F gs vs ∧ ∀ k ∈ oks xs, k < μ.length
  | [], _, _, h, a => by cases h; cases a; exact ⟨rfl, rfl, rfl, fun _ z => nomatch z⟩
  | .d d :: xs, _, _, h, ⟨v, ws, e, r, a⟩ => by
    cases e
    have h' : (agOf μ xs).map (Ag.d d :: ·) = some _ := h
    cases q : agOf μ xs with
    | none => rw [q] at h'; cases h'
    | some gs =>
      rw [q] at h'; cases h'
      obtain ⟨q1, q2, q3, q4⟩ := agOf_ok q a
      exact ⟨q1, q2, ⟨v, ws, rfl, r, q3⟩, q4⟩
  | .o k :: xs, _, _, h, ⟨v, ws, e, r, a⟩ => by
    cases e
    have h' : (μ[k]?).bind (fun t => (agOf μ xs).map (Ag.o t :: ·)) = some _ := h
    cases z : μ[k]? with
    | none => rw [z] at h'; cases h'
    | some t =>
      rw [z] at h'
      have h' : (agOf μ xs).map (Ag.o t :: ·) = some _ := h'
      cases q : agOf μ xs with
      | none => rw [q] at h'; cases h'
      | some gs =>
        rw [q] at h'; cases h'
        obtain ⟨q1, q2, q3, q4⟩ := agOf_ok q a
        have r' : rs[k]? = some v := r
        refine ⟨?_, ?_, ⟨v, ws, rfl, q3⟩, fun j hj => ?_⟩
        · show t :: agsT gs = μ.getD k (.fz .non) :: pick μ (oks xs) (.fz .non)
          rw [q1]; simp [List.getD, z]
        · show v :: agV gs ws = rs.getD k .non :: pick rs (oks xs) .non
          rw [q2]; simp [List.getD, r']
        · rcases List.mem_cons.mp hj with rfl | hj
          · exact (List.getElem?_eq_some_iff.mp z).1
          · exact q4 j hj
section
variable {X : Cx} {s s1 : S} {Φ : Ct} {xs : List Ar} {gs : List Ag} {d : D}
/-- what a callee's promise gives to the caller's state -/
theorem call_in {σ : St} {H F : Hp} {rs : List V} {as : List (List Addr)} {vs : List V} {Q : VK} {E' : XK} (i : Φ.ι) (hd : Hd X.K σ H F rs as s) (a : ArsOk X.K F rs xs vs) (hg : agOf s.μ xs = some (Φ.args i)) (hp : Φ.pre i) (nd : (oks xs).Nodup) (hlen : ∀ r outs, Φ.post i r outs → outs.length = (oks xs).length)
    (c : ∀ r outs, Φ.post i r outs → ∀ v H' F' as', Hd X.K σ H' F' (rs ++ [v]) as' ⟨s.ρ, setAll s.μ (oks xs) outs ++ [r]⟩ → Go as.flatten as'.flatten F H F' H' → Q v H') : spOf X.K Φ vs H Q E' := by
  obtain ⟨q1, q2, q3, q4⟩ := agOf_ok hg a
  refine ⟨F, pick as (oks xs) [], i, ?_, q3, hp, fun r outs ho v H' F' ass' h' g => ?_⟩
  · rw [q1, q2]
    exact hd.r.part nd q4
  · rw [q2] at h'
    have lo := hlen r outs ho
    have l2 : ass'.length = (oks xs).length + 1 := by have := h'.l2; simp at this; omega
    have es2 : ass' = ass'.take (oks xs).length ++ ass'.drop (oks xs).length := (List.take_append_drop _ _).symm
    rw [es2] at h' g
    obtain ⟨m1, m2⟩ := hd.r.merge nd q4 lo (by rw [List.length_take]; omega) h' g
    exact c r outs ho v H' F' _ ⟨m1, hd.sl.mono m2.fz fun k v q => pre_get ⟨_, rfl⟩ k v q⟩ m2
/-- the last one dropped where it is data -/
theorem Hd.dropFz {K : PySem.W.Frag} {σ : St} {H F : Hp} {rs : List V} {as : List (List Addr)} {v : V} {μ : List T} {ρ : List Sl} (hd : Hd K σ H F (rs ++ [v]) as ⟨ρ, μ ++ [.fz d]⟩) (sl : Slots K F rs ρ σ) : ∃ as', Hd K σ H F rs as' ⟨ρ, μ⟩ ∧ (∀ a ∈ as'.flatten, a ∈ as.flatten) ∧ Rep K F d v := by
  have hl : rs.length = μ.length := by have := hd.r.l1; simp at this; exact this
  have hla : as.length = μ.length + 1 := by have := hd.r.l2; simp at this; exact this
  obtain ⟨as0, l, rfl⟩ : ∃ as0 l, as = as0 ++ [l] := ⟨as.dropLast, as.getLast (fun z => by rw [z] at hla; simp at hla), (List.dropLast_concat_getLast _).symm⟩
  have hl0 : as0.length = μ.length := by simpa using hla
  obtain ⟨r, _⟩ := hd.r.own μ.length (.fz d) v l (by simp) (by rw [← hl]; simp) (by rw [← hl0]; simp)
  exact ⟨as0, ⟨hd.r.init hl, sl⟩, fun a ha => by simp only [List.flatten_append, List.mem_append]; exact .inl ha, r⟩
end
end Q
namespace Q
open PySem L2

/-! ### judgements with an open end: whatever a callee chooses -/
def EX (X : Cx) (s : S) (e : Expr) (Ψ : S → Ar → Prop) : Prop := ∀ σ H F rs as, Hd X.K σ H F rs as s → ∀ Q : VK,
  (∀ s' x, Ψ s' x → ∀ v H' F' rs' as', Hd X.K σ H' F' rs' as' s' → rs <+: rs' → Go as.flatten as'.flatten F H F' H' → ArOk X.K F' rs' x v → Q v H') → WE X e σ H Q
def EXs (X : Cx) (s : S) (es : List Expr) (Ψ : S → List Ar → Prop) : Prop := ∀ σ H F rs as, Hd X.K σ H F rs as s → ∀ Q : List V → Hp → Prop,
  (∀ s' xs, Ψ s' xs → ∀ vs H' F' rs' as', Hd X.K σ H' F' rs' as' s' → rs <+: rs' → Go as.flatten as'.flatten F H F' H' → ArsOk X.K F' rs' xs vs → Q vs H') → WA X es σ H Q
def XT (X : Cx) (s : S) (e : Expr) (Ψ : S → Bool → Prop) : Prop := ∀ σ H F rs as, Hd X.K σ H F rs as s → ∀ Q : Bool → Hp → Prop,
  (∀ s' b, Ψ s' b → ∀ H' F' rs' as', Hd X.K σ H' F' rs' as' s' → rs <+: rs' → Go as.flatten as'.flatten F H F' H' → Q b H') → WTt X e σ H Q
def XW (X : Cx) (s : S) (e : Expr) (Ψ : S → Bool → Prop) : Prop := ∀ σ H F rs as, Hd X.K σ H F rs as s → ∀ Q : Bool → Hp → Prop,
  (∀ s' b, Ψ s' b → ∀ H' F' rs' as', Hd X.K σ H' F' rs' as' s' → rs <+: rs' → Go as.flatten as'.flatten F H F' H' → Q b H') → WPt X e σ H Q
def IX (X : Cx) (s : S) (tg e : Expr) (Ψ : S → Nat → (Nat → D) → Prop) : Prop := ∃ W : TI, PI X tg e W ∧ ∀ σ H F rs as, Hd X.K σ H F rs as s → ∀ R : It → Hp → Prop,
  (∀ s' n it, Ψ s' n it → ∀ J H' F' rs' as', Hd X.K σ H' F' rs' as' s' → rs <+: rs' → Go as.flatten as'.flatten F H F' H' → Gives X.K J n it F' → R J H') → W σ H R
section
variable {X : Cx} {s s1 s2 s3 : S} {e a b c o tg iter : Expr} {es : List Expr} {x y z : Ar} {xs : List Ar} {d : D} {ds : List D} {pos p apos : Pos} {nm nm2 : Str} {Ψ Ψ' : S → Ar → Prop} {Θ : S → Bool → Prop} {D' : Ds} {body orelse : List Stmt}
theorem ex_of (h : EA X s e s1 x) (k : Ψ s1 x) : EX X s e Ψ := fun σ H F rs as hd Q c => h σ H F rs as hd Q fun v H' F' rs' as' h' p' g' a' => c s1 x k v H' F' rs' as' h' p' g' a'
theorem ex_mono (h : EX X s e Ψ) (k : ∀ s1 x, Ψ s1 x → Ψ' s1 x) : EX X s e Ψ' := fun σ H F rs as hd Q c => h σ H F rs as hd Q fun s1 x q => c s1 x (k s1 x q)
theorem xt_of {t : Bool} (h : ET X s e s1 t) (k : Θ s1 t) : XT X s e Θ := fun σ H F rs as hd Q c => h σ H F rs as hd Q fun H' F' rs' as' h' p' g' => c s1 t k H' F' rs' as' h' p' g'
theorem xs_of {Ψ : S → List Ar → Prop} (h : EAs X s es s1 xs) (k : Ψ s1 xs) : EXs X s es Ψ := fun σ H F rs as hd Q c => h σ H F rs as hd Q fun v H' F' rs' as' h' p' g' a' => c s1 xs k v H' F' rs' as' h' p' g' a'
theorem ix_of {n : Nat} {it : Nat → D} {Ψ : S → Nat → (Nat → D) → Prop} (h : IT X s tg e s1 n it) (k : Ψ s1 n it) : IX X s tg e Ψ := by
  obtain ⟨W, pi, h⟩ := h
  exact ⟨W, pi, fun σ H F rs as hd R c => h σ H F rs as hd R fun J H' F' rs' as' h' p' g' gv => c s1 n it k J H' F' rs' as' h' p' g' gv⟩
theorem ex_op {op : Operator} {r : R2} (ho : OpR X (binaryOp op) r) (h : EX X s a fun s1 x => EX X s1 b fun s2 y => ∃ d, OpV X s2 r x y d ∧ Ψ s2 (.d d)) : EX X s (.BinOp a op b pos) Ψ := fun σ H F rs as hd Q k =>
  WE.of (pe_op ho pe_u pe_u) (h σ H F rs as hd _ fun s1 x h2 v H1 F1 rs1 as1 h1 p1 g1 r1 => h2 σ H1 F1 rs1 as1 h1 _ fun s2 y ⟨d, hr, q⟩ w H2 F2 rs2 as2 h2 p2 g2 r2 => hr σ H2 F2 rs2 as2 v w h2 (r1.mono g2.fz p2) r2 Q
    (h2.fin fun u H' F' rs' as' h' p' g' q' => k s2 _ q u H' F' rs' as' h' ((p1.trans p2).trans p') ((g1.trans g2).trans g') q'))
theorem ex_opL {op : Operator} {r : R2} (ho : OpR X (binaryOp op) r) (h : EX X s a fun s1 x => EX X s1 b fun s2 y => ∃ ds, OpL X s2 r x y ds ∧ Ψ (s2.add (.fl ds)) (.o s2.μ.length)) : EX X s (.BinOp a op b pos) Ψ := fun σ H F rs as hd Q k =>
  WE.of (pe_op ho pe_u pe_u) (h σ H F rs as hd _ fun s1 x h2 v H1 F1 rs1 as1 h1 p1 g1 r1 => h2 σ H1 F1 rs1 as1 h1 _ fun s2 y ⟨ds, hr, q⟩ w H2 F2 rs2 as2 h2 p2 g2 r2 => by
    obtain ⟨ys, ry, q'⟩ := hr σ H2 F2 rs2 as2 v w h2 (r1.mono g2.fz p2) r2
    exact q' Q (h2.newK ry fun u H' F' rs' as' h' p' g' q' => k _ _ q u H' F' rs' as' h' ((p1.trans p2).trans p') ((g1.trans g2).trans g') q'))
theorem ex_cmp {op : CmpOp} {r : R2} (ho : OpR X (compareOp op) r) (h : EX X s a fun s1 x => EX X s1 b fun s2 y => ∃ d, OpV X s2 r x y d ∧ Ψ s2 (.d d)) (hm : behindInMarks op b = false := by first | exact nomark _ | rfl) : EX X s (.Compare a [op] [b] pos) Ψ := fun σ H F rs as hd Q k =>
  WE.of (pe_cmpR ho pe_u pe_u hm) (h σ H F rs as hd _ fun s1 x h2 v H1 F1 rs1 as1 h1 p1 g1 r1 => h2 σ H1 F1 rs1 as1 h1 _ fun s2 y ⟨d, hr, q⟩ w H2 F2 rs2 as2 h2 p2 g2 r2 => hr σ H2 F2 rs2 as2 v w h2 (r1.mono g2.fz p2) r2 Q
    (h2.fin fun u H' F' rs' as' h' p' g' q' => k s2 _ q u H' F' rs' as' h' ((p1.trans p2).trans p') ((g1.trans g2).trans g') q'))
theorem xt_cmp {op : CmpOp} {r : R2} (ho : OpR X (compareOp op) r) (h : EX X s a fun s1 x => EX X s1 b fun s2 y => ∃ t, OpV X s2 r x y (.bl t) ∧ Θ s2 t) (hm : behindInMarks op b = false := by first | exact nomark _ | rfl) : XT X s (.Compare a [op] [b] pos) Θ := fun σ H F rs as hd Q k =>
  WTt.of (pt_cmpR ho pe_u pe_u hm) (h σ H F rs as hd _ fun s1 x h2 v H1 F1 rs1 as1 h1 p1 g1 r1 => h2 σ H1 F1 rs1 as1 h1 _ fun s2 y ⟨t, hr, q⟩ w H2 F2 rs2 as2 h2 p2 g2 r2 => hr σ H2 F2 rs2 as2 v w h2 (r1.mono g2.fz p2) r2 _
    (h2.fin fun u H' F' rs' as' h' p' g' q' => ⟨t, q', k s2 t q H' F' rs' as' h' ((p1.trans p2).trans p') ((g1.trans g2).trans g')⟩))
theorem xt_val (h : EX X s e fun s1 x => ∃ t, x = .d (.bl t) ∧ Θ s1 t) (he : ∀ whole, isTrue e X.env whole = (do let v ← whole; standAt e.pos; holding [v] (truthy v)) := by intro _; rfl) : XT X s e Θ := fun σ H F rs as hd Q k =>
  WTt.of (pt_val pe_u he) (h σ H F rs as hd _ fun s1 x ⟨t, ex, q⟩ v H1 F1 rs1 as1 h1 p1 g1 r1 => by subst ex; exact ⟨t, r1, k s1 t q H1 F1 rs1 as1 h1 p1 g1⟩)
theorem xt_not (h : XT X s e fun s1 t => Θ s1 (!t)) : XT X s (.UnaryOp .Not e pos) Θ := fun σ H F rs as hd Q k =>
  WTt.of (pt_not pt_u) (h σ H F rs as hd _ fun s1 t q H1 F1 rs1 as1 h1 p1 g1 => k s1 _ q H1 F1 rs1 as1 h1 p1 g1)
theorem xt_w (h : XW X s e Θ) : XT X s e Θ := fun σ H F rs as hd Q k => WTt.of pw_u.pt (h σ H F rs as hd Q k)
theorem xw_and1 (h : XT X s a Θ) : XW X s (.BoolOp .And [a] pos) Θ := fun σ H F rs as hd Q k => WPt.of (pw_and1 pt_u) (h σ H F rs as hd Q k)
theorem xw_or1 (h : XT X s a Θ) : XW X s (.BoolOp .Or [a] pos) Θ := fun σ H F rs as hd Q k => WPt.of (pw_or1 pt_u) (h σ H F rs as hd Q k)
theorem xw_and {rest : List Expr} (h : XT X s a fun s1 t => (t = true → XW X s1 (.BoolOp .And (b :: rest) pos) Θ) ∧ (t = false → Θ s1 false)) : XW X s (.BoolOp .And (a :: b :: rest) pos) Θ := fun σ H F rs as hd Q k =>
  WPt.of (pw_and pt_u pw_u) (h σ H F rs as hd _ fun s1 t q H1 F1 rs1 as1 h1 p1 g1 => by
    cases t with
    | true => exact iteT (q.1 rfl σ H1 F1 rs1 as1 h1 _ fun s2 u q2 H2 F2 rs2 as2 h2 p2 g2 => k s2 u q2 H2 F2 rs2 as2 h2 (p1.trans p2) (g1.trans g2))
    | false => exact iteF (k s1 false (q.2 rfl) H1 F1 rs1 as1 h1 p1 g1))
theorem xw_or {rest : List Expr} (h : XT X s a fun s1 t => (t = false → XW X s1 (.BoolOp .Or (b :: rest) pos) Θ) ∧ (t = true → Θ s1 true)) : XW X s (.BoolOp .Or (a :: b :: rest) pos) Θ := fun σ H F rs as hd Q k =>
  WPt.of (pw_or pt_u pw_u) (h σ H F rs as hd _ fun s1 t q H1 F1 rs1 as1 h1 p1 g1 => by
    cases t with
    | false => exact iteF (q.1 rfl σ H1 F1 rs1 as1 h1 _ fun s2 u q2 H2 F2 rs2 as2 h2 p2 g2 => k s2 u q2 H2 F2 rs2 as2 h2 (p1.trans p2) (g1.trans g2))
    | true => exact iteT (k s1 true (q.2 rfl) H1 F1 rs1 as1 h1 p1 g1))
theorem ex_if (h : XT X s c fun s1 t => (t = true → EX X s1 a Ψ) ∧ (t = false → EX X s1 b Ψ)) : EX X s (.IfExp c a b pos) Ψ := fun σ H F rs as hd Q k =>
  WE.of (pe_ifExp pt_u pe_u pe_u) (h σ H F rs as hd _ fun s1 t q H1 F1 rs1 as1 h1 p1 g1 => by
    cases t with
    | true => exact iteT (q.1 rfl σ H1 F1 rs1 as1 h1 _ fun s2 x q2 w H2 F2 rs2 as2 h2 p2 g2 r2 => k s2 x q2 w H2 F2 rs2 as2 h2 (p1.trans p2) (g1.trans g2) r2)
    | false => exact iteF (q.2 rfl σ H1 F1 rs1 as1 h1 _ fun s2 x q2 w H2 F2 rs2 as2 h2 p2 g2 r2 => k s2 x q2 w H2 F2 rs2 as2 h2 (p1.trans p2) (g1.trans g2) r2))
theorem xs_nil {Ψ : S → List Ar → Prop} (k : Ψ s []) : EXs X s [] Ψ := xs_of es_nil k
theorem xs_cons {Ψ : S → List Ar → Prop} (h : EX X s e fun s1 x => EXs X s1 es fun s2 xs => Ψ s2 (x :: xs)) (hs : starEach (e :: es) X.env = (false, eval e X.env) :: starEach es X.env := by rfl) : EXs X s (e :: es) Ψ := fun σ H F rs as hd Q k =>
  WA.of (pa_cons pe_u pa_u hs) (h σ H F rs as hd _ fun s1 x h2 v H1 F1 rs1 as1 h1 p1 g1 r1 => h2 σ H1 F1 rs1 as1 h1 _ fun s2 xs q vs H2 F2 rs2 as2 q2 p2 g2 r2 => k s2 _ q _ H2 F2 rs2 as2 q2 (p1.trans p2) (g1.trans g2) ⟨v, vs, rfl, r1.mono g2.fz p2, r2⟩)
theorem ex_tup {x1} (h : EXs X s es fun s1 xs => ∃ ds, allD xs = some ds ∧ ds.length ≤ 100000 ∧ Ψ s1 (.d (.tup ds))) : EX X s (.Tuple es x1 pos) Ψ := fun σ H F rs as hd' Q k =>
  WE.of (pe_tup pa_u) (h σ H F rs as hd' _ fun s1 xs ⟨ds, hd, hl, q⟩ vs H1 F1 rs1 as1 h1 p1 g1 r1 => by
    have rr := allD_reps hd r1
    refine ⟨by rw [rr.len]; exact Nat.le_trans hl (by decide), fun p hp => ?_⟩
    obtain ⟨g, sb⟩ := go_new (o := .tup vs) hp h1.sub
    exact h1.fin (fun u H' F' rs' as' h' p' g' q' => k s1 _ q u H' F' rs' as' h' (p1.trans p') (g1.trans g') q') _ _ _ g sb ⟨p, vs, rfl, .inl (.inl upd_same), Reps.mono g.fz _ _ rr⟩)
theorem ex_lst (h : EXs X s es fun s1 xs => ∃ ds, allD xs = some ds ∧ ds.length ≤ 100000 ∧ Ψ (s1.add (.fl ds)) (.o s1.μ.length)) : EX X s (.List es pos) Ψ := fun σ H F rs as hd' Q k =>
  WE.of (pe_lst pa_u) (h σ H F rs as hd' _ fun s1 xs ⟨ds, hd, hl, q⟩ vs H1 F1 rs1 as1 h1 p1 g1 r1 => by
    have rr := allD_reps hd r1
    exact ⟨by rw [rr.len]; exact Nat.le_trans hl (by decide), h1.newK rr fun u H' F' rs' as' h' p' g' q' => k _ _ q u H' F' rs' as' h' (p1.trans p') (g1.trans g') q'⟩)
theorem ex_callB {id : String} {r : List V → Hp → VK → Prop} (hc : CallR X (.builtin id) r) (hg : Gl X nm) (hm : X.mg nm = none) (hv : bootBuiltins nm = some (.builtin id)) (h : EXs X s (e :: es) fun s1 xs => ∃ d, CaV X s1 r xs d ∧ Ψ s1 (.d d))
    (hn : nm ≠ "__name__" := by decide) (hdb : (nm == ("__debug__" : Str)) = false := by decide) (he : starEach (e :: es) X.env = (false, eval e X.env) :: starEach es X.env := by rfl) (hpl : (backTo pos (starEach es X.env)).any (·.1) = false := by rfl) :
    EX X s (.Call (.Name nm p) (e :: es) [] pos) Ψ := fun σ H F rs as hd Q k =>
  WE.of (pe_callB hc hg hm hv pa_u hn hdb he hpl) (h σ H F rs as hd _ fun s1 xs ⟨d, hr, q⟩ vs H1 F1 rs1 as1 h1 p1 g1 r1 => hr σ H1 F1 rs1 as1 vs h1 r1 Q
    (h1.fin fun u H' F' rs' as' h' p' g' q' => k s1 _ q u H' F' rs' as' h' (p1.trans p') (g1.trans g') q'))
theorem ex_callT {T' : String} {r : List V → Hp → VK → Prop} (hc : CallR X (.type T') r) (hg : Gl X nm) (hm : X.mg nm = none) (hv : bootBuiltins nm = some (.type T')) (h : EXs X s (e :: es) fun s1 xs => ∃ d, CaV X s1 r xs d ∧ Ψ s1 (.d d))
    (hn : nm ≠ "__name__" := by decide) (hdb : (nm == ("__debug__" : Str)) = false := by decide) (he : starEach (e :: es) X.env = (false, eval e X.env) :: starEach es X.env := by rfl) (hpl : (backTo pos (starEach es X.env)).any (·.1) = false := by rfl) :
    EX X s (.Call (.Name nm p) (e :: es) [] pos) Ψ := fun σ H F rs as hd Q k =>
  WE.of (pe_callTy hc hg hm hv pa_u hn hdb he hpl) (h σ H F rs as hd _ fun s1 xs ⟨d, hr, q⟩ vs H1 F1 rs1 as1 h1 p1 g1 r1 => hr σ H1 F1 rs1 as1 vs h1 r1 Q
    (h1.fin fun u H' F' rs' as' h' p' g' q' => k s1 _ q u H' F' rs' as' h' (p1.trans p') (g1.trans g') q'))
theorem ex_callTL {T' : String} {r : List V → Hp → VK → Prop} (hc : CallR X (.type T') r) (hg : Gl X nm) (hm : X.mg nm = none) (hv : bootBuiltins nm = some (.type T')) (h : EXs X s (e :: es) fun s1 xs => ∃ ds, CaL X s1 r xs ds ∧ Ψ (s1.add (.fl ds)) (.o s1.μ.length))
    (hn : nm ≠ "__name__" := by decide) (hdb : (nm == ("__debug__" : Str)) = false := by decide) (he : starEach (e :: es) X.env = (false, eval e X.env) :: starEach es X.env := by rfl) (hpl : (backTo pos (starEach es X.env)).any (·.1) = false := by rfl) :
    EX X s (.Call (.Name nm p) (e :: es) [] pos) Ψ := fun σ H F rs as hd Q k =>
  WE.of (pe_callTy hc hg hm hv pa_u hn hdb he hpl) (h σ H F rs as hd _ fun s1 xs ⟨ds, hr, q⟩ vs H1 F1 rs1 as1 h1 p1 g1 r1 => by
    obtain ⟨ys, ry, q'⟩ := hr σ H1 F1 rs1 as1 vs h1 r1
    exact q' Q (h1.newK ry fun u H' F' rs' as' h' p' g' q' => k _ _ q u H' F' rs' as' h' (p1.trans p') (g1.trans g') q'))
theorem ex_ix {r : R2} (hr0 : IxR X r) (h : EX X s a fun s1 x => EX X s1 b fun s2 y => ∃ d, OpV X s2 r x y d ∧ Ψ s2 (.d d)) (hs : PlainIx b := by exact fun _ _ => rfl) : EX X s (.Subscript a b pos) Ψ := fun σ H F rs as hd Q k =>
  WE.of (pe_ix hr0 pe_u pe_u hs) (h σ H F rs as hd _ fun s1 x h2 v H1 F1 rs1 as1 h1 p1 g1 r1 => h2 σ H1 F1 rs1 as1 h1 _ fun s2 y ⟨d, hr, q⟩ w H2 F2 rs2 as2 h2 p2 g2 r2 => hr σ H2 F2 rs2 as2 v w h2 (r1.mono g2.fz p2) r2 Q
    (h2.fin fun u H' F' rs' as' h' p' g' q' => k s2 _ q u H' F' rs' as' h' ((p1.trans p2).trans p') ((g1.trans g2).trans g') q'))
/-- freezing behind -/
theorem ex_fz (h : EX X s e fun s1 x => ∃ s2 t, s1 = s2.add t ∧ x = .o s2.μ.length ∧ t.ok = true ∧ low s2.μ.length s2.ρ = true ∧ s.μ.length ≤ s2.μ.length ∧ Ψ s2 (.d t.fr)) : EX X s e Ψ := fun σ H F rs as hd Q k =>
  h σ H F rs as hd Q fun s1 x ⟨s2, t, e1, e2, ok, lw, hlen, q⟩ v H1 F1 rs1 as1 hd1 p1 g1 r1 => by
    subst e1 e2
    obtain ⟨rs0, w, F', as', e, h1, h2, h3⟩ := hd1.freeze ok lw
    subst e
    have hl0 : rs0.length = s2.μ.length := h1.r.l1
    have ev : v = w := by
      have r' : (rs0 ++ [w])[s2.μ.length]? = some v := r1
      rw [← hl0] at r'
      simpa using r'.symm
    subst ev
    have hlr : rs.length ≤ rs0.length := by rw [hd.r.l1, hl0]; exact hlen
    have p0 : rs <+: rs0 := List.prefix_of_prefix_length_le p1 ⟨_, rfl⟩ hlr
    exact k s2 _ q v H1 F' rs0 as' h1 p0 (g1.trans h2) h3
/-- the last one, a fresh list, frozen -/
theorem ex_fl (h : EX X s e fun s1 x => ∃ s2 ds, s1 = s2.add (.fl ds) ∧ x = .o s2.μ.length ∧ low s2.μ.length s2.ρ = true ∧ s.μ.length ≤ s2.μ.length ∧ Ψ s2 (.d (.lst ds))) : EX X s e Ψ :=
  ex_fz (ex_mono h fun s1 x ⟨s2, ds, e1, e2, l, hl, q⟩ => ⟨s2, .fl ds, e1, e2, rfl, l, hl, q⟩)
/-! calls -/
theorem ex_call {CX : CXT} {k : Nat} {f : Addr} {fd : FuncData} {ps : List Str} {Φ : Ct} {E : XK} (G : FnOk X.prog X.w X.K X.mg X.base CX k f fd ps (spOf X.K Φ)) (hr : Room k X.A) (hg : Gl X nm) (hm : X.mg nm = some (.ref f)) (hk : PySem.W.keepIn X.K (.ref f) = true) (hb : Binds X.K fd ps []) (hx : Passes CX X E)
    (h : EXs X s (e :: es) fun s1 xs => ∃ i, agOf s1.μ xs = some (Φ.args i) ∧ Φ.pre i ∧ (oks xs).Nodup ∧ (∀ r outs, Φ.post i r outs → outs.length = (oks xs).length) ∧ ∀ r outs, Φ.post i r outs →
      (∃ d, r = .fz d ∧ Ψ ⟨s1.ρ, setAll s1.μ (oks xs) outs⟩ (.d d)) ∨ Ψ ⟨s1.ρ, setAll s1.μ (oks xs) outs ++ [r]⟩ (.o s1.μ.length))
    (hdb : (nm == ("__debug__" : Str)) = false := by decide) (he : starEach (e :: es) X.env = (false, eval e X.env) :: starEach es X.env := by rfl) (hpl : (backTo pos (starEach es X.env)).any (·.1) = false := by rfl) :
    EX X s (.Call (.Name nm p) (e :: es) [] pos) Ψ := fun σ H F rs as hd Q c =>
  WE.of (pe_call G hr hg hm hk hb (dvs := []) .nil hx pa_u hdb he hpl) (h σ H F rs as hd _ fun s1 xs ⟨i, hgs, hp, nd, hlen, q⟩ vs H1 F1 rs1 as1 h1 p1 g1 a1 => by
    rw [List.append_nil]
    refine call_in i h1 a1 hgs hp nd hlen fun r outs ho v H' F' as' h' g' => ?_
    rcases q r outs ho with ⟨d, rfl, q⟩ | q
    · obtain ⟨as2, q1, q2, q3⟩ := h'.dropFz (h1.sl.mono g'.fz fun _ _ q => q)
      exact c _ _ q v H' F' _ as2 q1 p1 (g1.trans (g'.sub q2)) q3
    · refine c _ _ q v H' F' (rs1 ++ [v]) as' h' (p1.trans ⟨[v], rfl⟩) (g1.trans g') ?_
      show (rs1 ++ [v])[s1.μ.length]? = _
      rw [← h1.r.l1]; simp)
theorem ex_join {l : List Nat} {ls : List (List Nat)} (h : EX X s o fun s1 x => ∃ l, x = .d (.str l) ∧ EX X s1 e fun s2 y => ∃ ls : List (List Nat), Sq s2 y (ls.map D.str) ∧ (ls.map List.length).sum + ls.length * l.length ≤ 16777216 ∧ Ψ s2 (.d (.str (TL.joinL l ls))))
    (hs : starEach [e] X.env = [(false, eval e X.env)] := by rfl) (hbase : attributeBase o "join" X.env (eval o X.env) = eval o X.env := by rfl) (hline : (apos.endLine == pos.line) = true := by rfl) :
    EX X s (.Call (.Attribute o "join" apos) [e] [] pos) Ψ := fun σ H F rs as hd Q k =>
  WE.of (pe_join pe_u pe_u hs hbase hline) (h σ H F rs as hd _ fun s1 x ⟨l, ex, h2⟩ v H1 F1 rs1 as1 h1 p1 g1 r1 => by
    subst ex
    refine ⟨⟨_, r1⟩, h2 σ H1 F1 rs1 as1 h1 _ fun s2 y ⟨ls, sq, hz, q⟩ w H2 F2 rs2 as2 h2 p2 g2 r2 => ?_⟩
    obtain ⟨p, xs, rfl, q', r⟩ := sq.get h2 r2
    cases r.strs
    have hm : (List.map (fun x => x.length) (List.map mk ls)) = ls.map List.length := by rw [List.map_map]; exact List.map_congr_left fun a _ => mk_len a
    refine ⟨mk l, p, ls.map mk, r1, rfl, q', by rw [hm, List.length_map, mk_len]; exact hz, h2.fin (fun u H' F' rs' as' h' p' g' q'' => k s2 _ q u H' F' rs' as' h' ((p1.trans p2).trans p') ((g1.trans g2).trans g') q'') _ H2 F2 go0 h2.sub ?_⟩
    show V.str _ = V.str _
    congr 1
    rw [TL.join_eq]
    have := TL.tl_join (mk l) (ls.map mk)
    rw [mk_of (Str.join (mk l) (ls.map mk))]
    show mk (TL.tl _) = _
    rw [this]
    congr 1
    show TL.joinL (mk l).cps.toList _ = _
    rw [mk_cps, List.map_map]
    congr 1
    conv => rhs; rw [← List.map_id ls]
    exact List.map_congr_left fun a _ => mk_cps a)
theorem ix_range1 {Ψ : S → Nat → (Nat → D) → Prop} (hg : Gl X "range") (hm : X.mg "range" = none) (h : EX X s a fun s1 x => ∃ j : Int, x = .d (.int j) ∧ -(2 ^ 62) ≤ j ∧ j < 2 ^ 62 ∧ Ψ s1 j.toNat (fun i => .int (0 + (i : Nat)))) (hs : starEach [a] X.env = [(false, eval a X.env)] := by rfl) :
    IX X s tg (.Call (.Name "range" p) [a] [] pos) Ψ := by
  refine ⟨_, pi_range1 hg hm pa_u hs, fun σ H F rs as hd R k => ?_⟩
  have hx : EXs X s [a] fun s2 xs => ∃ j : Int, xs = [.d (.int j)] ∧ -(2 ^ 62) ≤ j ∧ j < 2 ^ 62 ∧ Ψ s2 j.toNat (fun i => .int (0 + (i : Nat))) :=
    xs_cons (ex_mono h fun s1 x ⟨j, q0, q1, q2, q3⟩ => xs_nil ⟨j, by rw [q0], q1, q2, q3⟩) (hs := hs)
  refine hx σ H F rs as hd _ fun s1 xs ⟨j, e0, q1, q2, q3⟩ vs H1 F1 rs1 as1 h1 p1 g1 a1 => ?_
  subst e0
  obtain ⟨v, ws, e, r, e2⟩ := a1
  cases e2; cases e; cases r
  exact ⟨j, rfl, q1, q2, k s1 _ _ q3 _ H1 F1 rs1 as1 h1 p1 g1 gives_range⟩
/-! comprehensions -/
def TTX (K : PySem.W.Frag) (t : TT) (s : S) (Θ : S → Bool → Prop) : Prop := ∀ σ H F rs as, Hd K σ H F rs as s → ∀ Q : Bool → Hp → Prop, (∀ s' b, Θ s' b → ∀ H' F' rs' as', Hd K σ H' F' rs' as' s' → rs <+: rs' → Go as.flatten as'.flatten F H F' H' → Q b H') → t σ H Q
def TEX (K : PySem.W.Frag) (t : TE) (s : S) (Ψ : S → Ar → Prop) : Prop := ∀ σ H F rs as, Hd K σ H F rs as s → ∀ Q : VK, (∀ s' x, Ψ s' x → ∀ v H' F' rs' as', Hd K σ H' F' rs' as' s' → rs <+: rs' → Go as.flatten as'.flatten F H F' H' → ArOk K F' rs' x v → Q v H') → t σ H Q
theorem ttx_yes {K : PySem.W.Frag} (k : Θ s true) : TTX K tYes s Θ := fun σ H F rs as hd Q c => c s true k H F rs as hd (refl_pre _) (Go.refl _ _ _)
theorem ttx_b {scope : Scope} (h : ∀ (sh : Shared) (H0 : Hp) (C : Addr) (cl : List (Str × Addr)) (fp : List Addr), XT (X.blk sh H0 scope (PySem.compEnvC scope cl C X.env) fp) s c Θ) : TTX X.K (bT X scope c) s Θ :=
  fun σ H F rs as hd Q k sh H0 C cl fp => h sh H0 C cl fp σ H F rs as hd Q k
theorem tex_b {scope : Scope} (h : ∀ (sh : Shared) (H0 : Hp) (C : Addr) (cl : List (Str × Addr)) (fp : List Addr), EX (X.blk sh H0 scope (PySem.compEnvC scope cl C X.env) fp) s e Ψ) : TEX X.K (bE X scope e) s Ψ :=
  fun σ H F rs as hd Q k sh H0 C cl fp => h sh H0 C cl fp σ H F rs as hd Q k
/-- one turn: from (μ, out), with data d, to what J tells -/
def LcX (K : PySem.W.Frag) (g : D → List Sl → Option (List Sl)) (t : TT) (te : TE) (ρ : List Sl) (d : D) (μ : List T) (out : List D) (J : List T → List D → Prop) : Prop :=
  ∃ ρ', g d ρ = some ρ' ∧ TTX K t ⟨ρ', μ⟩ fun s2 b => (b = true → TEX K te s2 fun s3 x => ∃ y, x = .d y ∧ J s3.μ (out ++ [y])) ∧ (b = false → J s2.μ out)
theorem lc_runX {G : TG} {is vs : List Nat} {g : D → List Sl → Option (List Sl)} {t : TT} {te : TE} {wi : TI}
    (hi : ∀ σ H F rs as, Hd X.K σ H F rs as s → ∀ R : It → Hp → Prop, (∀ s1 n it, (n ≤ 16777216 ∧ ∃ I : Nat → List T → List D → Prop, I 0 s1.μ [] ∧ (∀ i μ out, i < n → I i μ out → LcX X.K g t te (wipeS s1.ρ vs) (it i) μ out (I (i + 1))) ∧ ∀ μ out, I n μ out → Ψ (S.add ⟨s1.ρ, μ⟩ (.fl out)) (.o μ.length)) →
      ∀ J H' F' rs' as', Hd X.K σ H' F' rs' as' s1 → rs <+: rs' → Go as.flatten as'.flatten F H F' H' → Gives X.K J n it F' → R J H') → wi σ H R)
    (hS : GS X.K G is g) (hv : ∀ i ∈ is, i ∈ vs) : TEX X.K (tLc wi G t te vs) s Ψ := fun σ H F rs as hd Q k => by
  refine hi σ H F rs as hd _ fun s1 n it ⟨hn, I, i0, hs, he⟩ J H1 F1 rs1 as1 h1 p1 g1 gv => ?_
  intro A hA
  obtain ⟨n1, n2⟩ := h1.newL (ds := []) (ys := []) hA rfl
  refine ⟨fun i m H2 => m = n - i ∧ i ≤ n ∧ ∃ μ out acc F2 rs2 as2, I i μ out ∧ HdR X.K H2 F2 (μ ++ [.fl out]) (rs2 ++ [.ref A]) (as2 ++ [[A]]) ∧ rs1 <+: rs2 ∧ Go as1.flatten (as2 ++ [[A]]).flatten F1 H1 F2 H2 ∧ H2 A = some (.lst acc) ∧ Reps X.K F2 out acc ∧ out.length ≤ i,
    ⟨n, by simp, Nat.zero_le _, s1.μ, [], [], F1, rs1, as1, i0, n1.r, refl_pre _, n2, upd_same, rfl, Nat.le_refl _⟩, ?_⟩
  rintro i m H2 ⟨rfl, hin, μ, out, acc, F2, rs2, as2, inv, hr, p2, g2, hAc, rp, ol⟩
  have rl : rs2.length = μ.length := by have := hr.l1; simp at this; exact this
  have f12 : Same F1 F2 := g2.fz
  obtain ⟨go, stop, yld⟩ := gv H2 F2 f12 hr.sub
  by_cases hlt : i < n
  · refine .inr ⟨go i hlt, fun H' => ∃ μ out acc F2 rs2 as2, I (i + 1) μ out ∧ HdR X.K H' F2 (μ ++ [.fl out]) (rs2 ++ [.ref A]) (as2 ++ [[A]]) ∧ rs1 <+: rs2 ∧ Go as1.flatten (as2 ++ [[A]]).flatten F1 H1 F2 H' ∧ H' A = some (.lst acc) ∧ Reps X.K F2 out acc ∧ out.length ≤ i + 1,
      fun H' w => ⟨n - (i + 1), by omega, rfl, hlt, w⟩, fun v H3 y => ?_⟩
    obtain ⟨F3, g3, sb3, r3⟩ := yld i v H3 hlt y
    obtain ⟨hr3, g3'⟩ := hr.pure g3 sb3
    have hi3 := hr3.init rl
    obtain ⟨ρ', e1, ht⟩ := hs i μ out hlt inv
    have sl3 : Slots X.K F3 rs2 (wipeS s1.ρ vs) (wipe σ vs) := (h1.sl.mono (f12.trans g3.fz) fun k v q => pre_get p2 k v q).wipe vs
    have hd3 : Hd X.K (wipe σ vs) H3 F3 rs2 as2 ⟨wipeS s1.ρ vs, μ⟩ := ⟨hi3, sl3⟩
    have hA3 : H3 A = some (.lst acc) := g3.keep A _ (fun z => nomatch z) hAc
    have notA : A ∉ as2.flatten := fun z => by
      obtain ⟨j, mm, e, hm⟩ := mem_fl z
      have hj := (List.getElem?_eq_some_iff.mp e).1
      have := hr3.n2 j as2.length mm [A] A (by rw [List.getElem?_append_left hj]; exact e) (by simp) hm (by simp)
      omega
    refine hS (wipe σ vs) H3 F3 rs2 as2 _ (it i) v ρ' hd3 r3 e1 _ fun σ4 h4 w4 => ?_
    have ww : ∀ (σ : St) (vs : List Nat), wipe (wipe σ vs) vs = wipe σ vs := by
      intro σ vs
      have gen : ∀ (us : List Nat), (∀ i ∈ us, i ∈ vs) → wipe (wipe σ us) vs = wipe σ vs := by
        intro us
        induction us with
        | nil => intro _; rfl
        | cons u us ih =>
          intro h
          show wipe ((wipe σ us).set u none) vs = _
          rw [wipe_set (h u List.mem_cons_self)]
          exact ih fun i hi => h i (List.mem_cons_of_mem _ hi)
      exact gen vs fun _ h => h
    refine ⟨by rw [w4 vs hv, ww], ht σ4 H3 F3 rs2 as2 h4 _ fun s2 b q H5 F5 rs5 as5 h5 p5 g5 => ?_⟩
    cases b with
    | true =>
      refine iteT (q.1 rfl σ4 H5 F5 rs5 as5 h5 _ fun s3 x ⟨yd, ex, inv'⟩ w H6 F6 rs6 as6 h6 p6 g6 r6 => ?_)
      subst ex
      have gg := g5.trans g6
      obtain ⟨fr, gf⟩ := hr3.frame rl h6.r gg
      have hA6 : H6 A = some (.lst acc) := gg.keep A _ notA hA3
      have rp6 : Reps X.K F6 out acc := Reps.mono ((g3.fz.trans g5.fz).trans g6.fz) _ _ rp
      have accl : acc.length = out.length := rp.len
      refine ⟨acc, hA6, by have : (16777216 : Nat) ≤ sizeLine := by decide
                           omega, ?_⟩
      have rl6 : rs6.length = s3.μ.length := h6.r.l1
      have al6 : as6.length = s3.μ.length := h6.r.l2
      have kE : (rs6 ++ [V.ref A])[s3.μ.length]? = some (.ref A) := by rw [← rl6]; simp
      have lE : (as6 ++ [[A]])[s3.μ.length]? = some [A] := by rw [← al6]; simp
      obtain ⟨st, gs⟩ := fr.set1 (t := .fl (out ++ [yd])) (H' := upd H6 A (.lst (acc ++ [w]))) kE lE (fun a o hna e => by rw [upd_ne (fun z => hna (by rw [z]; simp))]; exact e)
        (fun a e => by
          by_cases z : a = A
          · subst z; rw [upd_same] at e; cases e
          · rw [upd_ne z] at e; exact e)
        ⟨A, acc ++ [w], rfl, upd_same, rp6.append (.one r6), rfl⟩
      have eset : (s3.μ ++ [T.fl out]).set s3.μ.length (.fl (out ++ [yd])) = s3.μ ++ [.fl (out ++ [yd])] := by simp
      rw [eset] at st
      exact ⟨s3.μ, out ++ [yd], acc ++ [w], F6, rs6, as6, inv', st, (p2.trans p5).trans p6, ((g2.trans g3').trans gf).trans gs, upd_same, rp6.append (.one r6), by simp; omega⟩
    | false =>
      refine iteF ?_
      obtain ⟨fr, gf⟩ := hr3.frame rl h5.r g5
      exact ⟨s2.μ, out, acc, F5, rs5, as5, q.2 rfl, fr, p2.trans p5, (g2.trans g3').trans gf, g5.keep A _ notA hA3, Reps.mono (g3.fz.trans g5.fz) _ _ rp, by omega⟩
  · have e : i = n := by omega
    subst e
    refine .inl ⟨stop, ?_⟩
    refine k _ _ (he μ out inv) (V.ref A) H2 F2 (rs2 ++ [V.ref A]) (as2 ++ [[A]]) ⟨show HdR X.K H2 F2 (μ ++ [T.fl out]) (rs2 ++ [V.ref A]) (as2 ++ [[A]]) from hr, ?_⟩ ((p1.trans p2).trans ⟨_, rfl⟩) (g1.trans g2) ?_
    · exact (h1.sl.mono f12 fun k v q => pre_get p2 k v q).mono (Same.refl _) fun k v q => pre_get ⟨_, rfl⟩ k v q
    · show (rs2 ++ [V.ref A])[μ.length]? = _
      rw [← rl]; simp
section
variable {elt : Expr} {ifs : List Expr} {scope : Scope} {own : List (Str × Nat)} {G : TG} {is : List Nat} {g : D → List Sl → Option (List Sl)} {t : TT}
theorem ex_lc (own : List (Str × Nat)) (hN : X.N.Nodup) (ok : BlkOk X.N X.env.scope scope own)
    (hG : ∀ (sh : Shared) (H0 : Hp) (C : Addr) (cl : List (Str × Addr)) (fp : List Addr), PG (X.blk sh H0 scope (PySem.compEnvC scope cl C X.env) fp) tg G) (hS : GS X.K G is g)
    (hT : ∀ (sh : Shared) (H0 : Hp) (C : Addr) (cl : List (Str × Addr)) (fp : List Addr), PTs (X.blk sh H0 scope (PySem.compEnvC scope cl C X.env) fp) ifs t)
    (hi : IX X s tg iter fun s1 n it => n ≤ 16777216 ∧ ∃ I : Nat → List T → List D → Prop, I 0 s1.μ [] ∧ (∀ i μ out, i < n → I i μ out → LcX X.K g t (bE X scope elt) (wipeS s1.ρ (own.map (·.2))) (it i) μ out (I (i + 1))) ∧ ∀ μ out, I n μ out → Ψ (S.add ⟨s1.ρ, μ⟩ (.fl out)) (.o μ.length))
    (hv : ∀ i ∈ is, i ∈ own.map (·.2) := by decide) (hc : X.calm = true := by rfl) (hf : ∀ x, foldedSetIterable iter X.env x = pure x := by intro _; rfl) :
    EX X s (.ListComp elt [⟨tg, iter, ifs, 0⟩] scope pos) Ψ := fun σ H F rs as hd Q k => by
  obtain ⟨wi, pi, hi⟩ := hi
  exact WE.of (pe_lc hc hN pi ok hG hT pe_b hf) (lc_runX hi hS hv σ H F rs as hd Q k)
theorem w1x_setLc (i : Nat) {py spos : Pos} (own : List (Str × Nat)) (hN : X.N.Nodup) (hsw : swapsWith (.ListComp elt [⟨tg, iter, ifs, 0⟩] scope pos) (some (.Name nm py)) spos.line X.env = pure true) (ok : BlkOk X.N X.env.scope scope own)
    (hG : ∀ (sh : Shared) (H0 : Hp) (C : Addr) (cl : List (Str × Addr)) (fp : List Addr), PG (X.blk sh H0 scope (PySem.compEnvC scope cl C X.env) fp) tg G) (hS : GS X.K G is g)
    (hT : ∀ (sh : Shared) (H0 : Hp) (C : Addr) (cl : List (Str × Addr)) (fp : List Addr), PTs (X.blk sh H0 scope (PySem.compEnvC scope cl C X.env) fp) ifs t)
    (hi : IX X s tg iter fun s1 n it => n ≤ 16777216 ∧ ∃ I : Nat → List T → List D → Prop, I 0 s1.μ [] ∧ (∀ i μ out, i < n → I i μ out → LcX X.K g t (bE X scope elt) (wipeS s1.ρ (own.map (·.2))) (it i) μ out (I (i + 1))) ∧ ∀ μ out, I n μ out → D'.nx ⟨s1.ρ.set i (.o μ.length), μ ++ [.fl out]⟩)
    (hv : ∀ i ∈ is, i ∈ own.map (·.2) := by decide) (hy : X.N[i]? = some nm := by rfl) (hyl : X.env.scope.names.lookup nm = some .local := by rfl) (hc : X.calm = true := by rfl) (hf : ∀ x, foldedSetIterable iter X.env x = pure x := by intro _; rfl) :
    W1 X s (.Assign [.Name nm py] (.ListComp elt [⟨tg, iter, ifs, 0⟩] scope pos) spos) D' := fun W σ H F rs as hd g0 p => by
  obtain ⟨wi, pi, hi⟩ := hi
  refine WSt.of (ps_setLc hc hN hy hyl hsw pi ok hG hT pe_b hf) (lc_runX (Ψ := fun s2 x => ∃ (s1 : S) (μ : List T) (out : List D), s2 = S.add ⟨s1.ρ, μ⟩ (.fl out) ∧ x = .o μ.length ∧ D'.nx ⟨s1.ρ.set i (.o μ.length), μ ++ [.fl out]⟩) ?_ hS hv σ H F rs as hd _ fun s2 x ⟨s1, μ, out, e1, e2, q⟩ v H1 F1 rs1 as1 h1 p1 g1 r1 => ?_)
  · intro σ H F rs as hd R c
    exact hi σ H F rs as hd R fun s1 n it ⟨hn, I, i0, hs, he⟩ => c s1 n it ⟨hn, I, i0, hs, fun μ out q => ⟨s1, μ, out, rfl, rfl, he μ out q⟩⟩
  · subst e1 e2
    exact ⟨F1, rs1, as1, ⟨s1.ρ.set i (.o μ.length), μ ++ [.fl out]⟩, ⟨h1.r, h1.sl.set i ⟨v, rfl, r1⟩⟩, g0.trans g1, p.trans p1, q⟩
end
/-! statements -/
theorem w1x_set (i : Nat) {pos' : Pos} (h : EX X s e fun s1 x => D'.nx ⟨s1.ρ.set i x.sl, s1.μ⟩) (hN : X.N.Nodup) (hi : X.N[i]? = some nm := by rfl) (hx : Loc X.env.scope nm := by first | exact Or.inl rfl | exact Or.inr rfl)
    (hs : swapsWith e (some (.Name nm pos')) pos.line X.env = pure false := by rfl) (hf : X.fn nm = true ∨ X.env.scope.names.lookup nm = some .local := by first | exact .inl rfl | exact .inr rfl | assumption) :
    W1 X s (.Assign [.Name nm pos'] e pos) D' := fun W σ H F rs as hd g p =>
  WSt.of (ps_set hN hi hx pe_u hs hf) (h σ H F rs as hd _ fun s1 x k v H1 F1 rs1 as1 h1 p1 g1 r1 => ⟨F1, rs1, as1, ⟨s1.ρ.set i x.sl, s1.μ⟩, ⟨h1.r, h1.sl.set i (by
    cases x with
    | d d => exact ⟨v, rfl, r1⟩
    | o k => exact ⟨v, rfl, r1⟩)⟩, g.trans g1, p.trans p1, k⟩)
theorem w1x_par (i j : Nat) {px py pt pt2 : Pos} {kt k2} (h : EXs X s [a, b] fun s1 xs => ∃ x y, xs = [x, y] ∧ D'.nx ⟨(s1.ρ.set i x.sl).set j y.sl, s1.μ⟩) (hN : X.N.Nodup) (hi : X.N[i]? = some nm := by rfl) (hj : X.N[j]? = some nm2 := by rfl) (hij : i ≠ j := by decide)
    (hc : X.calm = true := by rfl) (hx : X.env.scope.names.lookup nm = some .local := by rfl) (hy : X.env.scope.names.lookup nm2 = some .local := by rfl)
    (hw : swappedStores [.Tuple [.Name nm px, .Name nm2 py] kt pt] (.Tuple [a, b] k2 pt2) X.env = pure (some [nm, nm2]) := by rfl)
    (hs : swapsWithSole [.Tuple [.Name nm px, .Name nm2 py] kt pt] (.Tuple [a, b] k2 pt2) pos.line X.env = pure false := by rfl) :
    W1 X s (.Assign [.Tuple [.Name nm px, .Name nm2 py] kt pt] (.Tuple [a, b] k2 pt2) pos) D' := fun W σ H F rs as hd g p =>
  WSt.of (ps_par hc hN hi hj hij hx hy pa_u hw hs) (h σ H F rs as hd _ fun s1 xs ⟨x, y, ex, k⟩ vs H1 F1 rs1 as1 h1 p1 g1 a1 => by
    subst ex
    obtain ⟨v, ws, e1, r1, w, ws2, e2, r2, e3⟩ := a1
    cases e3; cases e2; cases e1
    refine ⟨v, w, rfl, F1, rs1, as1, ⟨(s1.ρ.set i x.sl).set j y.sl, s1.μ⟩, ⟨h1.r, (h1.sl.set i ?_).set j ?_⟩, g.trans g1, p.trans p1, k⟩
    · cases x with
      | d d => exact ⟨v, rfl, r1⟩
      | o k => exact ⟨v, rfl, r1⟩
    · cases y with
      | d d => exact ⟨w, rfl, r2⟩
      | o k => exact ⟨w, rfl, r2⟩)
theorem w1x_asg {G : TG} {is : List Nat} {g : D → List Sl → Option (List Sl)} (hG : PG X tg G) (hS : GS X.K G is g) (h : EX X s e fun s1 x => ∃ d ρ', x = .d d ∧ g d s1.ρ = some ρ' ∧ D'.nx ⟨ρ', s1.μ⟩)
    (hs : swapsWithSole [tg] e pos.line X.env = pure false := by rfl) (hw : swappedStores [tg] e X.env = pure none := by rfl) (h1 : (assignEach [tg] X.env).map (·.2) = [assign tg X.env] := by rfl) : W1 X s (.Assign [tg] e pos) D' := fun W σ H F rs as hd g0 p =>
  WSt.of (ps_asg pe_u hG hs hw h1) (h σ H F rs as hd _ fun s1 x ⟨d, ρ', ex, hr, k⟩ v H1 F1 rs1 as1 h1 p1 g1 r1 => by
    subst ex
    exact hS σ H1 F1 rs1 as1 s1 d v ρ' h1 r1 hr _ fun σ' h' _ => ⟨F1, rs1, as1, ⟨ρ', s1.μ⟩, h', g0.trans g1, p.trans p1, k⟩)
theorem w1x_if (h : XT X s c fun s1 b => (b = true → WS X s1 body D') ∧ (b = false → WS X s1 orelse D')) : W1 X s (.If c body orelse pos) D' := fun W σ H F rs as hd g p =>
  WSt.of (ps_if pt_u pss_u pss_u) (h σ H F rs as hd _ fun s1 b q H1 F1 rs1 as1 q1 p1 g1 => by
    cases b with
    | true => exact iteT (q.1 rfl W σ H1 F1 rs1 as1 q1 (g.trans g1) (p.trans p1))
    | false => exact iteF (q.2 rfl W σ H1 F1 rs1 as1 q1 (g.trans g1) (p.trans p1)))
theorem w1x_ret (h : EX X s e D'.rt) : W1 X s (.Return (some e) pos) D' := fun W σ H F rs as hd g p =>
  WSt.of (ps_ret pe_u) (h σ H F rs as hd _ fun s1 x k v H1 F1 rs1 as1 h1 p1 g1 r1 => ⟨σ, F1, rs1, as1, s1, x, h1, g.trans g1, p.trans p1, r1, k⟩)
theorem w1x_expr (h : EX X s e fun s1 _ => D'.nx s1) (hs : swapsWith e none pos.line X.env = pure false := by rfl) : W1 X s (.Expr e pos) D' := fun W σ H F rs as hd g p =>
  WSt.of (ps_expr pe_u hs) (h σ H F rs as hd _ fun s1 x k v H1 F1 rs1 as1 h1 p1 g1 r1 => ⟨F1, rs1, as1, s1, h1, g.trans g1, p.trans p1, k⟩)
theorem w1x_for {G : TG} {is : List Nat} {g : D → List Sl → Option (List Sl)} (hG : PG X tg G) (hS : GS X.K G is g)
    (hi : IX X s tg iter fun s1 n it => ∃ I : Nat → S → Prop, I 0 s1 ∧ (∀ i s2, i < n → I i s2 → ∃ ρ', g (it i) s2.ρ = some ρ' ∧ WS X ⟨ρ', s2.μ⟩ body { nx := I (i + 1), rt := D'.rt, bk := D'.nx, ct := I (i + 1) }) ∧ ∀ s2, I n s2 → D'.nx s2)
    (hp : PassesOwn (model X.prog X.w) X.A X.env X.xe := by exact PassesOwn.never) (hc : X.calm = true := by rfl) (hf : ∀ x, foldedSetIterable iter X.env x = pure x := by intro _; rfl) : W1 X s (.For tg iter body [] pos) D' := fun W σ H F rs as hd g0 p => by
  obtain ⟨wi, pi, hi⟩ := hi
  refine WSt.of (ps_for hp hc pi hG pss_u hf) (hi σ H F rs as hd _ fun s1 n it ⟨I, i0, hs, he⟩ J H1 F1 rs1 as1 h1 p1 g1 gv => ?_)
  refine ⟨fun i m σ2 H2 => m = n - i ∧ i ≤ n ∧ At X.K ⟨H1, F1, as1.flatten, rs1⟩ (I i) σ2 H2, ⟨n, by simp, Nat.zero_le _, F1, rs1, as1, s1, h1, Go.refl _ _ _, refl_pre _, i0⟩, ?_⟩
  rintro i m σ2 H2 ⟨rfl, hin, F2, rs2, as2, s2, h2, g2, p2, inv⟩
  obtain ⟨go, stop, yld⟩ := gv H2 F2 g2.fz h2.sub
  by_cases hlt : i < n
  · refine .inr ⟨go i hlt, At X.K ⟨H1, F1, as1.flatten, rs1⟩ (I (i + 1)), fun σ' H' a => ⟨n - (i + 1), by omega, rfl, hlt, a⟩, fun v H3 y => ?_⟩
    obtain ⟨F3, g3, sb3, r3⟩ := yld i v H3 hlt y
    obtain ⟨ρ', e1, w⟩ := hs i s2 hlt inv
    obtain ⟨h3, g3'⟩ := h2.pure g3 sb3
    refine hS σ2 H3 F3 rs2 as2 s2 (it i) v ρ' h3 r3 e1 _ fun σ4 h4 _ => ?_
    exact (w ⟨H1, F1, as1.flatten, rs1⟩ σ4 H3 F3 rs2 as2 h4 (g2.trans g3') p2).mono (fun _ _ q => q) (AtR.join (g0.trans g1) (p.trans p1)) (At.join (g0.trans g1) (p.trans p1)) (fun _ _ q => q)
  · have e : i = n := by omega
    subst e
    exact .inl ⟨stop, At.join (g0.trans g1) (p.trans p1) _ _ ⟨F2, rs2, as2, s2, h2, g2, p2, he s2 inv⟩⟩
theorem w1x_while (I : S → Prop) (m : S → Nat) (h0 : I s)
    (hs : ∀ s2, I s2 → XT X s2 c fun s3 b => (b = true → WS X s3 body { nx := fun s4 => I s4 ∧ m s4 < m s2, rt := D'.rt, bk := D'.nx, ct := fun s4 => I s4 ∧ m s4 < m s2 }) ∧ (b = false → D'.nx s3))
    (hp : PassesOwn (model X.prog X.w) X.A X.env X.xe := by exact PassesOwn.never) : W1 X s (.While c body [] pos) D' := fun W σ H F rs as hd g p => by
  refine WSt.of (ps_while hp pt_u pss_u) ⟨fun k σ2 H2 => At X.K W (fun s2 => I s2 ∧ m s2 = k) σ2 H2, ⟨m s, F, rs, as, s, hd, g, p, h0, rfl⟩, ?_⟩
  rintro k σ2 H2 ⟨F2, rs2, as2, s2, h2, g2, p2, inv, rfl⟩
  refine hs s2 inv σ2 H2 F2 rs2 as2 h2 _ fun s3 b q H3 F3 rs3 as3 h3 p3 g3 => ?_
  cases b with
  | true =>
    refine ⟨fun σ4 H4 => At X.K W (fun s4 => I s4 ∧ m s4 < m s2) σ4 H4, ?_, q.1 rfl W σ2 H3 F3 rs3 as3 h3 (g2.trans g3) (p2.trans p3)⟩
    rintro σ4 H4 ⟨F4, rs4, as4, s4, h4, g4, p4, i4, l4⟩
    exact ⟨m s4, l4, F4, rs4, as4, s4, h4, g4, p4, i4, rfl⟩
  | false => exact ⟨F3, rs3, as3, s3, h3, g2.trans g3, p2.trans p3, q.2 rfl⟩
theorem w1x_setix {i : Expr} {p2 : Pos} (h : EX X s e fun s1 x => ∃ d, x = .d d ∧ EX X s1 o fun s2 y => ∃ k, y = .o k ∧ EX X s2 i fun s3 z => ∃ (j : Int) (ds : List D) (m : Nat), z = .d (.int j) ∧ s3.μ[k]? = some (.fl ds) ∧ ixN ds.length j = some m ∧ D'.nx ⟨s3.ρ, s3.μ.set k (.fl (ds.set m d))⟩)
    (ha : ∀ v, assign (.Subscript o i p2) X.env v = (do
      let ov ← holding [v] (eval o X.env)
      let iv ← holding [v, ov] (eval i X.env)
      standAt p2
      holding [v, ov, iv] (setItem ov iv v)
      release [v, ov, iv] []) := by intro _; rfl)
    (hs : swapsWithSole [.Subscript o i p2] e pos.line X.env = pure false := by rfl) (hw : swappedStores [.Subscript o i p2] e X.env = pure none := by rfl) (h1 : (assignEach [.Subscript o i p2] X.env).map (·.2) = [assign (.Subscript o i p2) X.env] := by rfl) :
    W1 X s (.Assign [.Subscript o i p2] e pos) D' := fun W σ H F rs as hd g p =>
  WSt.of (ps_asg pe_u (pg_sub pe_u pe_u set_list ha) hs hw h1) (h σ H F rs as hd _ fun s1 x ⟨d, ex, q1⟩ v H1 F1 rs1 as1 h1 p1 g1 r1 => by
    subst ex
    refine q1 σ H1 F1 rs1 as1 h1 _ fun s2 y ⟨k, ey, q2⟩ u H2 F2 rs2 as2 h2 p2 g2 r2 => ?_
    subst ey
    refine q2 σ H2 F2 rs2 as2 h2 _ fun s3 z ⟨j, ds, m, ez, hk, hm, c⟩ w H3 F3 rs3 as3 h3 p3 g3 r3 => ?_
    subst ez
    cases r3
    obtain ⟨q, xs, rfl, hq, r, up⟩ := h3.lst hk (pre_get p3 _ _ r2)
    obtain ⟨a, b⟩ := up _ _ (r.set m (Rep.mono (g2.fz.trans g3.fz) _ _ r1))
    exact ⟨q, xs, j, m, rfl, rfl, hq, by rw [r.len]; exact hm, F3, rs3, as3, ⟨s3.ρ, s3.μ.set k (.fl (ds.set m d))⟩, a, (((g.trans g1).trans g2).trans g3).trans b, ((p.trans p1).trans p2).trans p3, c⟩)
theorem ex_mt {T' id : String} {r : V → List V → Hp → VK → Prop} (pa : PlainAttrs T') (slot : Slot T' nm id) (hty : typeOf (.builtin id) = pure (.type "method_descriptor")) (hm : MtR X id r)
    (h : EX X s o fun s1 x => TyA X s1 T' x ∧ EXs X s1 (e :: es) fun s2 xs => ∃ s3 y, MtV X s2 r x xs s3 y ∧ Ψ s3 y)
    (hbase : attributeBase o nm X.env (eval o X.env) = eval o X.env := by rfl)
    (hfew : ((backTo pos (starEach (e :: es) X.env)).all (fun x => !x.1) && (backToKw pos (keywordEach [] X.env)).all (fun x => x.1.isSome) && decide ((e :: es).length + ([] : List Keyword).length + (if ([] : List Keyword).isEmpty then 0 else 1) < 30)) = true := by rfl)
    (hline : (apos.endLine == pos.line) = true := by rfl) (hs : starEach (e :: es) X.env = (false, eval e X.env) :: starEach es X.env := by rfl) (hplain : (backTo pos (starEach es X.env)).any (·.1) = false := by rfl) :
    EX X s (.Call (.Attribute o nm apos) (e :: es) [] pos) Ψ := fun σ H F rs as hd Q k =>
  WE.of (pe_bm pa slot hty hm pe_u pa_u hbase hfew hline hs hplain) (h σ H F rs as hd _ fun s1 x ⟨ty, ha⟩ v H1 F1 rs1 as1 h1 p1 g1 r1 => ⟨ty σ H1 F1 rs1 as1 v h1 r1, ha σ H1 F1 rs1 as1 h1 _ fun s2 xs ⟨s3, y, hr, q⟩ vs H2 F2 rs2 as2 h2 p2 g2 r2 =>
    hr σ H2 F2 rs2 as2 v vs h2 (r1.mono g2.fz p2) r2 Q fun u H3 F3 rs3 as3 h3 p3 g3 r3 => k s3 y q u H3 F3 rs3 as3 h3 ((p1.trans p2).trans p3) ((g1.trans g2).trans g3) r3⟩)
end
end Q
namespace Q
open PySem L2

/-- a def that can be called by its name, with its contract -/
def Cl (P : Program) (w : World) (K : PySem.W.Frag) (mg : Str → Option Value) (base : Heap) (nm : Str) (n k : Nat) (Φ : Ct) : Prop :=
  ∃ (f : Addr) (fd : FuncData) (ps : List Str), FnOk P w K mg base CX0 k f fd ps (spOf K Φ) ∧ mg nm = some (.ref f) ∧ PySem.W.keepIn K (.ref f) = true ∧ Binds K fd ps [] ∧ ps.length = n
/-- a method of the class at C, with its contract -/
def Mc (P : Program) (w : World) (K : PySem.W.Frag) (mg : Str → Option Value) (base : Heap) (C : Addr) (nm : Str) (n k : Nat) (Φ : Ct) : Prop :=
  ∃ (f : Addr) (fd : FuncData) (ps : List Str), FnOk P w K mg base CX0 k f fd ps (spOf K Φ) ∧ Meth K C nm f ∧ Binds K fd ps [] ∧ ps.length = n
theorem Cl.mono {P : Program} {w : World} {K : PySem.W.Frag} {mg : Str → Option Value} {base : Heap} {nm : Str} {n j k : Nat} {Φ : Ct} (h : Cl P w K mg base nm n j Φ) (l : j ≤ k) : Cl P w K mg base nm n k Φ := by
  obtain ⟨f, fd, ps, a, b, c, d, e⟩ := h
  exact ⟨f, fd, ps, a.mono l, b, c, d, e⟩
theorem cl_of {P : Program} {w : World} {K : PySem.W.Frag} {mg : Str → Option Value} {base : Heap} {x qual nm : Str} {st : Stmt} {f : Addr} {fd : FuncData} {ps : List Str} {k : Nat} {Φ : Ct} (F : Fun K x qual st f fd) (g : mg nm = some (.ref f)) (h : FnOk P w K mg base CX0 k f fd ps (spOf K Φ)) (b : Binds K fd ps []) : Cl P w K mg base nm ps.length k Φ :=
  ⟨f, fd, ps, h, g, F.kp, b, rfl⟩
theorem ret_d {m : Nat} {r : T} {outs : List T} {s : S} {d : D} (h : s.μ.take m = outs := by rfl) (hm : Nat.ble m s.μ.length = true := by rfl) (e : r = .fz d := by rfl) : Ret m r outs s (.d d) := ⟨h, Nat.le_of_ble_eq_true hm, e⟩
theorem ret_o {m k : Nat} {r : T} {outs : List T} {s : S} (h : s.μ.take m = outs := by rfl) (hm : Nat.ble m s.μ.length = true := by rfl) (hk : Nat.ble m k = true := by rfl) (e : s.μ[k]? = some r := by rfl) : Ret m r outs s (.o k) := ⟨h, Nat.le_of_ble_eq_true hm, Nat.le_of_ble_eq_true hk, e⟩
section
variable {X : Cx} {s s1 s2 s3 : S} {e a b c o tg iter : Expr} {es : List Expr} {x y z : Ar} {xs : List Ar} {d : D} {ds : List D} {pos p apos : Pos} {nm nm2 : Str} {Ψ : S → Ar → Prop} {D' : Ds} {n k : Nat} {Φ : Ct}
/-- a call: what comes is known by the contract's end alone -/
theorem ex_cl (C : Cl X.prog X.w X.K X.mg X.base nm n k Φ) (hr : Room k X.A)
    (h : EXs X s (e :: es) fun s1 xs => ∃ i, agOf s1.μ xs = some (Φ.args i) ∧ Φ.pre i ∧ (oks xs).Nodup ∧ (∀ r outs, Φ.post i r outs → outs.length = (oks xs).length) ∧ ∀ r outs, Φ.post i r outs →
      (∃ d, r = .fz d ∧ Ψ ⟨s1.ρ, setAll s1.μ (oks xs) outs⟩ (.d d)) ∨ Ψ ⟨s1.ρ, setAll s1.μ (oks xs) outs ++ [r]⟩ (.o s1.μ.length))
    (hg : Gl X nm := by rfl) (hx : X.xe = fun _ _ => False := by rfl) (hdb : (nm == ("__debug__" : Str)) = false := by decide) (he : starEach (e :: es) X.env = (false, eval e X.env) :: starEach es X.env := by rfl) (hpl : (backTo pos (starEach es X.env)).any (·.1) = false := by rfl) :
    EX X s (.Call (.Name nm p) (e :: es) [] pos) Ψ := by
  obtain ⟨f, fd, ps, G, hm, hk, hb, _⟩ := C
  exact ex_call G hr hg hm hk hb (CX := CX0) (E := E0) pass0 h hdb he hpl
/-- a call without owned arguments, of a def that gives data -/
theorem ex_clP (C : Cl X.prog X.w X.K X.mg X.base nm n k Φ) (hr : Room k X.A)
    (h : EXs X s (e :: es) fun s1 xs => ∃ i ds, allD xs = some ds ∧ Φ.args i = ds.map Ag.d ∧ Φ.pre i ∧ ∀ r outs, Φ.post i r outs → outs = [] ∧ ∃ d, r = .fz d ∧ Ψ s1 (.d d))
    (hg : Gl X nm := by rfl) (hx : X.xe = fun _ _ => False := by rfl) (hdb : (nm == ("__debug__" : Str)) = false := by decide) (he : starEach (e :: es) X.env = (false, eval e X.env) :: starEach es X.env := by rfl) (hpl : (backTo pos (starEach es X.env)).any (·.1) = false := by rfl) :
    EX X s (.Call (.Name nm p) (e :: es) [] pos) Ψ := by
  have ag : ∀ (μ : List T) (xs : List Ar) (ds : List D), allD xs = some ds → agOf μ xs = some (ds.map Ag.d) ∧ oks xs = [] := by
    intro μ xs
    induction xs with
    | nil => intro ds h; cases h; exact ⟨rfl, rfl⟩
    | cons x xs ih =>
      intro ds h
      cases x with
      | o k => cases h
      | d d =>
        have h' : (allD xs).map (d :: ·) = some ds := h
        cases q : allD xs with
        | none => rw [q] at h'; cases h'
        | some es =>
          rw [q] at h'; cases h'
          obtain ⟨q1, q2⟩ := ih es q
          refine ⟨?_, q2⟩
          show (agOf μ xs).map (Ag.d d :: ·) = _
          rw [q1]; rfl
  refine ex_cl C hr ?_ hg hx hdb he hpl
  intro σ H F rs as hd Q k
  refine h σ H F rs as hd Q fun s1 xs ⟨i, ds, h1, h2, h3, h4⟩ => k s1 xs ?_
  obtain ⟨q1, q2⟩ := ag s1.μ xs ds h1
  refine ⟨i, by rw [q1, h2], h3, by rw [q2]; exact List.nodup_nil, fun r outs ho => by rw [(h4 r outs ho).1, q2]; rfl, fun r outs ho => ?_⟩
  obtain ⟨e1, d, e2, q⟩ := h4 r outs ho
  exact .inl ⟨d, e2, by rw [q2]; show Ψ ⟨s1.ρ, setAll s1.μ [] outs⟩ _; rw [show setAll s1.μ [] outs = s1.μ by cases outs <;> rfl]; exact q⟩
/-- .. and the answer is the one -/
theorem ea_cl (C : Cl X.prog X.w X.K X.mg X.base nm n k Φ) (hr : Room k X.A) (h : EAs X s (e :: es) s1 xs) (i : Φ.ι) (hp : Φ.pre i) (hd : ∀ r outs, Φ.post i r outs → outs = [] ∧ r = .fz d) (ha : allD xs = some ds := by rfl) (hi : Φ.args i = ds.map Ag.d := by rfl)
    (hg : Gl X nm := by rfl) (hx : X.xe = fun _ _ => False := by rfl) (hdb : (nm == ("__debug__" : Str)) = false := by decide) (he : starEach (e :: es) X.env = (false, eval e X.env) :: starEach es X.env := by rfl) (hpl : (backTo pos (starEach es X.env)).any (·.1) = false := by rfl) :
    EA X s (.Call (.Name nm p) (e :: es) [] pos) s1 (.d d) := fun σ H F rs as hd0 Q k0 => by
  have hx' : EX X s (.Call (.Name nm p) (e :: es) [] pos) fun s2 x => s2 = s1 ∧ x = .d d := ex_clP C hr (xs_of h ⟨i, ds, ha, hi, hp, fun r outs ho => ⟨(hd r outs ho).1, d, (hd r outs ho).2, rfl, rfl⟩⟩) hg hx hdb he hpl
  exact hx' σ H F rs as hd0 Q fun s2 x ⟨e1, e2⟩ v H' F' rs' as' h1 h2 h3 h4 => by subst e1 e2; exact k0 v H' F' rs' as' h1 h2 h3 h4
/-! ### instances -/
theorem zip_lookup {K : PySem.W.Frag} {F : Hp} {f : Str} : ∀ {ns : List Str} {ds : List D} {vs : List V} {i : Nat} {d : D}, Reps K F ds vs → (∀ j g, j < i → ns[j]? = some g → g ≠ f) → ns[i]? = some f → ds[i]? = some d → ∃ v, (ns.zip vs).lookup f = some v ∧ Rep K F d v
  | [], _, _, _, _, _, _, h, _ => by simp at h
  | _ :: _, [], _, _, _, _, _, _, h => by simp at h
  | g :: ns, d :: ds, _, 0, _, ⟨v, vs, e, r, _⟩, _, h1, h2 => by
    cases e
    simp at h1 h2
    subst h1 h2
    exact ⟨v, by show List.lookup g ((g, v) :: ns.zip vs) = _; rw [List.lookup_cons]; simp, r⟩
  | g :: ns, _ :: ds, _, i + 1, d, ⟨v, vs, e, _, rr⟩, hn, h1, h2 => by
    cases e
    obtain ⟨w, q1, q2⟩ := zip_lookup (i := i) rr (fun j g' hj e => hn (j + 1) g' (by omega) (by simpa using e)) (by simpa using h1) (by simpa using h2)
    refine ⟨w, ?_, q2⟩
    have hg : g ≠ f := hn 0 g (by omega) rfl
    show (List.lookup f ((g, v) :: ns.zip vs)) = _
    rw [List.lookup_cons]
    have : (f == g) = false := by simpa using fun z => hg z.symm
    rw [this]
    exact q1
theorem zip_none {f : Str} : ∀ {ns : List Str} {vs : List V}, f ∉ ns → (ns.zip vs).lookup f = none
  | [], _, _ => rfl
  | _ :: _, [], _ => rfl
  | g :: ns, v :: vs, h => by
    show (List.lookup f ((g, v) :: ns.zip vs)) = _
    rw [List.lookup_cons]
    have : (f == g) = false := by simpa using fun z => h (by rw [z]; exact List.mem_cons_self)
    rw [this]
    exact zip_none fun z => h (List.mem_cons_of_mem _ z)
theorem ee_fld {C : Addr} {ns : List Str} {f : Str} (i : Nat) (h : EA X s e s1 (.d (.ins C ns ds))) (cl : Cls X.K C) (na : NoAttr X.K C f) (hd : ds[i]? = some d := by rfl) (hf : ns[i]? = some f := by rfl) (hn : ((ns.take i).contains f) = false := by decide +kernel)
    (hb : attributeBase e f X.env (eval e X.env) = eval e X.env := by rfl) : EA X s (.Attribute e f pos) s1 (.d d) := fun σ H F rs as hd0 Q k =>
  WE.of (pe_fld pe_u hb) (h σ H F rs as hd0 _ fun v H1 F1 rs1 as1 h1 p1 g1 ⟨a, dx, xs, ev, q, hl, r⟩ => by
    obtain ⟨w, q1, q2⟩ := zip_lookup r (i := i) (f := f) (ns := ns) (fun j g hj e z => by
      subst z
      have : ns.take i ⊆ ns.take i := fun _ h => h
      have hm : g ∈ ns.take i := List.mem_of_getElem? (i := j) (by rw [List.getElem?_take_of_lt hj]; exact e)
      have : (ns.take i).contains g = true := by simpa using hm
      rw [hn] at this; cases this) hf hd
    exact ⟨a, C, dx, _, w, ev, h1.sub _ _ q, cl, na, q1, k w H1 F1 rs1 as1 h1 p1 g1 q2⟩)
/-- a field of an owned instance -/
theorem ee_fldO {C : Addr} {ns : List Str} {f : Str} {kk : Nat} (i : Nat) (h : EA X s e s1 (.o kk)) (hk : s1.μ[kk]? = some (.ob C ns ds)) (cl : Cls X.K C) (na : NoAttr X.K C f) (hd : ds[i]? = some d := by rfl) (hf : ns[i]? = some f := by rfl) (hn : ((ns.take i).contains f) = false := by decide +kernel)
    (hb : attributeBase e f X.env (eval e X.env) = eval e X.env := by rfl) : EA X s (.Attribute e f pos) s1 (.d d) := fun σ H F rs as hd0 Q k =>
  WE.of (pe_fld pe_u hb) (h σ H F rs as hd0 _ fun v H1 F1 rs1 as1 h1 p1 g1 r1 => by
    obtain ⟨v', l, e1, e2, a, dx, xs, ev, q, hl, r, el⟩ := h1.r.at hk
    have r1' : rs1[kk]? = some v := r1
    rw [e1] at r1'; cases r1'
    obtain ⟨w, q1, q2⟩ := zip_lookup r (i := i) (f := f) (ns := ns) (fun j g hj e z => by
      subst z
      have hm : g ∈ ns.take i := List.mem_of_getElem? (i := j) (by rw [List.getElem?_take_of_lt hj]; exact e)
      have : (ns.take i).contains g = true := by simpa using hm
      rw [hn] at this; cases this) hf hd
    exact ⟨a, C, dx, _, w, ev, q, cl, na, q1, k w H1 F1 rs1 as1 h1 p1 g1 q2⟩)
theorem putF_new {f : Str} {v : V} : ∀ {ns : List Str} {vs : List V}, f ∉ ns → ns.length = vs.length → putF f v (ns.zip vs) = (ns ++ [f]).zip (vs ++ [v])
  | [], [], _, _ => rfl
  | [], _ :: _, _, h => by simp at h
  | _ :: _, [], _, h => by simp at h
  | g :: ns, u :: vs, h, hl => by
    show putF f v ((g, u) :: ns.zip vs) = (g, u) :: (ns ++ [f]).zip (vs ++ [v])
    unfold putF
    have hg : ¬ g = f := fun z => h (by rw [z]; exact List.mem_cons_self)
    rw [if_neg hg, putF_new (fun z => h (List.mem_cons_of_mem _ z)) (by simpa using hl)]
/-- self.f = e, a new field of an owned instance -/
theorem w1x_fld {C : Addr} {ns : List Str} {f : Str} {kk : Nat} {pos' : Pos} (cl : Cls X.K C) (na : NoAttr X.K C f) (h : EX X s e fun s1 x => ∃ d ds, x = .d d ∧ EX X s1 o fun s2 y => y = .o kk ∧ s2.μ[kk]? = some (.ob C ns ds) ∧ D'.nx ⟨s2.ρ, s2.μ.set kk (.ob C (ns ++ [f]) (ds ++ [d]))⟩)
    (hn : ns.contains f = false := by decide +kernel) (hl : ns.length < 1000 := by decide) (hs : swapsWith e (some (.Attribute o f pos')) pos.line X.env = pure false := by rfl) : W1 X s (.Assign [.Attribute o f pos'] e pos) D' := fun W σ H F rs as hd g p =>
  WSt.of (ps_fld pe_u pe_u hs) (h σ H F rs as hd _ fun s1 x ⟨d, ds, ex, q1⟩ v H1 F1 rs1 as1 h1 p1 g1 r1 => by
    subst ex
    refine q1 σ H1 F1 rs1 as1 h1 _ fun s2 y ⟨ey, hk, c⟩ u H2 F2 rs2 as2 h2 p2 g2 r2 => ?_
    subst ey
    obtain ⟨v', l, e1, e2, a, dx, xs, ev, q, hlx, r, el⟩ := h2.r.at hk
    have r2' : rs2[kk]? = some u := r2
    rw [e1] at r2'; cases r2'
    subst el
    have hf : f ∉ ns := fun z => by
      have : ns.contains f = true := by simpa using z
      rw [hn] at this; cases this
    refine ⟨a, C, dx, _, ev, q, cl, na, by rw [List.length_zip]; omega, ?_⟩
    rw [putF_new hf hlx]
    obtain ⟨b1, b2⟩ := h2.r.set1 (t := .ob C (ns ++ [f]) (ds ++ [d])) (H' := upd H2 a (.ins C dx ((ns ++ [f]).zip (xs ++ [v])))) e1 e2 (fun b o hna e => by rw [upd_ne (fun z => hna (by rw [z]; simp))]; exact e)
      (fun b e => by
        by_cases z : b = a
        · subst z; rw [upd_same] at e; cases e
        · rw [upd_ne z] at e; exact e)
      ⟨a, dx, xs ++ [v], ev, upd_same, by simp [hlx], r.append (.one (Rep.mono g2.fz _ _ r1)), rfl⟩
    exact ⟨F2, rs2, as2, ⟨s2.ρ, s2.μ.set kk (.ob C (ns ++ [f]) (ds ++ [d]))⟩, ⟨b1, h2.sl⟩, ((g.trans g1).trans g2).trans b2, (p.trans p1).trans p2, c⟩)
/-- a method of a frozen instance -/
theorem ex_me {C : Addr} {pl : Sem Bool} (M : Mc X.prog X.w X.K X.mg X.base C nm n k Φ) (cl : Cls X.K C) (hr : Room k X.A)
    (h : EX X s o fun s0 x => ∃ ns fs, x = .d (.ins C ns fs) ∧ nm ∉ ns ∧ EXs X s0 (e :: es) fun s1 xs => ∃ i, agOf s1.μ (.d (.ins C ns fs) :: xs) = some (Φ.args i) ∧ Φ.pre i ∧ (oks xs).Nodup ∧ (∀ r outs, Φ.post i r outs → outs.length = (oks xs).length) ∧ ∀ r outs, Φ.post i r outs →
      (∃ d, r = .fz d ∧ Ψ ⟨s1.ρ, setAll s1.μ (oks xs) outs⟩ (.d d)) ∨ Ψ ⟨s1.ρ, setAll s1.μ (oks xs) outs ++ [r]⟩ (.o s1.μ.length))
    (hx : X.xe = fun _ _ => False := by rfl) (h4 : starEach (e :: es) X.env = (false, eval e X.env) :: starEach es X.env := by rfl) (h5 : (backTo pos (starEach es X.env)).any (·.1) = false := by rfl)
    (ht : eval (.Call (.Attribute o nm apos) (e :: es) [] pos) X.env = (do
      let ov ← eval o X.env
      standAt apos.atName
      let (f, first) ← holding [ov] (getMethod ov nm pl)
      callWith pos f first (backTo pos (starEach (e :: es) X.env)) (backToKw pos (keywordEach [] X.env))) := by rfl) :
    EX X s (.Call (.Attribute o nm apos) (e :: es) [] pos) Ψ := by
  obtain ⟨f, fd, ps, G, hm, hb, _⟩ := M
  intro σ H F rs as hd Q c
  refine WE.of (pe_meth pe_u cl hm G hr hb (dvs := []) .nil (CX := CX0) (E := E0) pass0 pa_u h4 h5 ht) (h σ H F rs as hd _ fun s0 x ⟨ns, fs, ex, hn, h2⟩ v H0 F0 rs0 as0 h0 p0 g0 r0 => ?_)
  subst ex
  obtain ⟨a, dx, ys, ev, q, hl, r⟩ := id r0
  subst ev
  refine ⟨a, dx, _, rfl, h0.sub _ _ q, zip_none hn, h2 σ H0 F0 rs0 as0 h0 _ fun s1 xs ⟨i, hgs, hp, nd, hlen, q2⟩ vs H1 F1 rs1 as1 h1 p1 g1 a1 => ?_⟩
  rw [List.append_nil]
  refine call_in i h1 (xs := .d (.ins C ns fs) :: xs) ⟨_, _, rfl, ArOk.mono g1.fz p1 (x := .d (.ins C ns fs)) r0, a1⟩ hgs hp nd hlen fun r outs ho v H' F' as' h' g' => ?_
  rcases q2 r outs ho with ⟨d, rfl, q2⟩ | q2
  · obtain ⟨as2, q1, q3, q4⟩ := h'.dropFz (h1.sl.mono g'.fz fun _ _ q => q)
    exact c _ _ q2 v H' F' _ as2 q1 (p0.trans p1) ((g0.trans g1).trans (g'.sub q3)) q4
  · refine c _ _ q2 v H' F' (rs1 ++ [v]) as' h' ((p0.trans p1).trans ⟨[v], rfl⟩) ((g0.trans g1).trans g') ?_
    show (rs1 ++ [v])[s1.μ.length]? = _
    rw [← h1.r.l1]; simp
theorem ex_me0 {C : Addr} {pl : Sem Bool} (M : Mc X.prog X.w X.K X.mg X.base C nm n k Φ) (cl : Cls X.K C) (hr : Room k X.A)
    (h : EX X s o fun s1 x => ∃ ns fs, x = .d (.ins C ns fs) ∧ nm ∉ ns ∧ ∃ i, [Ag.d (.ins C ns fs)] = Φ.args i ∧ Φ.pre i ∧ ∀ r outs, Φ.post i r outs → outs = [] ∧
      ((∃ d, r = .fz d ∧ Ψ s1 (.d d)) ∨ Ψ ⟨s1.ρ, s1.μ ++ [r]⟩ (.o s1.μ.length)))
    (hx : X.xe = fun _ _ => False := by rfl)
    (ht : eval (.Call (.Attribute o nm apos) [] [] pos) X.env = (do
      let ov ← eval o X.env
      standAt apos.atName
      let (f, first) ← holding [ov] (getMethod ov nm pl)
      callWith pos f first (backTo pos (starEach [] X.env)) (backToKw pos (keywordEach [] X.env))) := by rfl) :
    EX X s (.Call (.Attribute o nm apos) [] [] pos) Ψ := by
  obtain ⟨f, fd, ps, G, hm, hb, _⟩ := M
  intro σ H F rs as hd Q c
  refine WE.of (pe_meth0 pe_u cl hm G hr hb (dvs := []) .nil (CX := CX0) (E := E0) pass0 ht) (h σ H F rs as hd _ fun s1 x ⟨ns, fs, ex, hn, i, hgs, hp, q2⟩ v H1 F1 rs1 as1 h1 p1 g1 r1 => ?_)
  subst ex
  obtain ⟨a, dx, ys, ev, q, hl, r⟩ := id r1
  subst ev
  refine ⟨a, dx, _, rfl, h1.sub _ _ q, zip_none hn, ?_⟩
  show spOf X.K Φ [V.ref a] H1 Q E0
  refine call_in i h1 (xs := [.d (.ins C ns fs)]) ⟨_, _, rfl, r1, rfl⟩ (by rw [← hgs]; rfl) hp (by exact List.nodup_nil) (fun r outs ho => by rw [(q2 r outs ho).1]; rfl) fun r outs ho v H' F' as' h' g' => ?_
  obtain ⟨e1, q3⟩ := q2 r outs ho
  subst e1
  have h' : Hd X.K σ H' F' (rs1 ++ [v]) as' ⟨s1.ρ, s1.μ ++ [r]⟩ := h'
  rcases q3 with ⟨d, rfl, q3⟩ | q3
  · obtain ⟨as2, b1, b2, b3⟩ := h'.dropFz (h1.sl.mono g'.fz fun _ _ q => q)
    exact c _ _ q3 v H' F' _ as2 b1 p1 (g1.trans (g'.sub b2)) b3
  · refine c _ _ q3 v H' F' (rs1 ++ [v]) as' h' (p1.trans ⟨[v], rfl⟩) (g1.trans g') ?_
    show (rs1 ++ [v])[s1.μ.length]? = _
    rw [← h1.r.l1]; simp
/-- a new thing beside what is told -/
theorem Hd.grow {K : PySem.W.Frag} {σ : St} {H F : Hp} {rs : List V} {as : List (List Addr)} {p : Addr} {u : HO} (hd : Hd K σ H F rs as s) (hp : H p = none) : Hd K σ (upd H p u) F rs as s ∧ Go as.flatten as.flatten F H F (upd H p u) := by
  have kp : ∀ a o, H a = some o → upd H p u a = some o := fun a o e => by rw [upd_ne (ne_of_none e hp)]; exact e
  refine ⟨⟨⟨fun a o e => kp a o (hd.sub a o e), hd.r.l1, hd.r.l2, fun i t v l e1 e2 e3 => Own.keep (Same.refl F) _ _ _ (fun a _ o e => kp a o e) (hd.r.own i t v l e1 e2 e3), hd.r.n1, hd.r.n2, hd.r.af⟩, hd.sl⟩, ⟨Same.refl F, fun _ _ e => .inl e, fun a o _ e => kp a o e, fun a e => ?_, fun _ h => .inl h⟩⟩
  by_cases ha : a = p
  · subst ha; exact hp
  · rw [upd_ne ha] at e; exact e
/-- C(..): a new instance; its __init__ is told by a contract whose first argument is the empty instance -/
theorem ex_mk {C f : Addr} {fd : FuncData} {ps : List Str} (M : Mk X.K C f) (G : FnOk X.prog X.w X.K X.mg X.base CX0 k f fd ps (spOf X.K Φ)) (hb : Binds X.K fd ps []) (hm : X.mg nm = some (.ref C)) (hr : Room (k + 1) X.A)
    (h : EXs X s (e :: es) fun s1 xs => ∃ i, agOf (s1.μ ++ [.ob C [] []]) (.o s1.μ.length :: xs) = some (Φ.args i) ∧ Φ.pre i ∧ (s1.μ.length :: oks xs).Nodup ∧ (∀ r outs, Φ.post i r outs → outs.length = (oks xs).length + 1 ∧ r = .fz .non) ∧ ∀ r outs, Φ.post i r outs →
      Ψ ⟨s1.ρ, setAll (s1.μ ++ [.ob C [] []]) (s1.μ.length :: oks xs) outs⟩ (.o s1.μ.length))
    (hg : Gl X nm := by rfl) (hx : X.xe = fun _ _ => False := by rfl) (hdb : (nm == ("__debug__" : Str)) = false := by decide) (he : starEach (e :: es) X.env = (false, eval e X.env) :: starEach es X.env := by rfl) (hpl : (backTo pos (starEach es X.env)).any (·.1) = false := by rfl) :
    EX X s (.Call (.Name nm p) (e :: es) [] pos) Ψ := fun σ H F rs as hd Q c =>
  WE.of (pe_make M G hr hg hm hb (dvs := []) .nil (CX := CX0) (E := E0) pass0 pa_u hdb he hpl) (h σ H F rs as hd _ fun s1 xs ⟨i, hgs, hp, nd, hlen, q⟩ vs H1 F1 rs1 as1 h1 p1 g1 a1 => by
    intro x dx hx0 hdx hne
    rw [List.append_nil]
    obtain ⟨ha, ga⟩ := h1.grow (u := .own x) hdx
    have hx1 : upd H1 dx (.own x) x = none := by rw [upd_ne (fun z => hne z.symm)]; exact hx0
    obtain ⟨hb1, gb1⟩ := ha.r.snoc (t := .ob C [] []) (v := .ref x) (o := .ins C dx []) hx1 ⟨x, dx, [], rfl, upd_same, rfl, rfl, rfl⟩
    have hd2 : Hd X.K σ (upd (upd H1 dx (.own x)) x (.ins C dx [])) F1 (rs1 ++ [V.ref x]) (as1 ++ [[x]]) ⟨s1.ρ, s1.μ ++ [.ob C [] []]⟩ := ⟨hb1, ha.sl.mono (Same.refl _) fun k v q => pre_get ⟨_, rfl⟩ k v q⟩
    have hself : (rs1 ++ [V.ref x])[s1.μ.length]? = some (V.ref x) := by rw [← h1.r.l1]; simp
    refine call_in i hd2 (xs := .o s1.μ.length :: xs) ⟨_, _, rfl, hself, ArsOk.mono (Same.refl _) ⟨_, rfl⟩ a1⟩ hgs hp nd (fun r outs ho => (hlen r outs ho).1) fun r outs ho v H' F' as' h' g' => ?_
    have er := (hlen r outs ho).2
    subst er
    obtain ⟨as2, q1, q3, q4⟩ := h'.dropFz (hd2.sl.mono g'.fz fun _ _ q => q)
    have q4 : v = .non := q4
    refine ⟨q4, c _ _ (q _ outs ho) (V.ref x) H' F' (rs1 ++ [V.ref x]) as2 q1 (p1.trans ⟨_, rfl⟩) (((g1.trans ga).trans gb1).trans (g'.sub q3)) hself⟩)
end
end Q
namespace Q
open PySem L2

/-! ### an owned object that changes no more -/
def frzS (k : Nat) (d : D) : List Sl → List Sl
  | [] => []
  | .o j :: ρ => (if j = k then .d d else .o j) :: frzS k d ρ
  | .d e :: ρ => .d e :: frzS k d ρ
  | .un :: ρ => .un :: frzS k d ρ
theorem slots_frz {K : PySem.W.Frag} {F : Hp} {rs : List V} {k : Nat} {d : D} {v : V} (hv : rs[k]? = some v) (r : Rep K F d v) : ∀ {ρ : List Sl} {σ : St}, Slots K F rs ρ σ → Slots K F rs (frzS k d ρ) σ
  | [], _, h => h
  | .o j :: ρ, _, ⟨x, σ', e, ⟨w, e1, e2⟩, h⟩ => by
    refine ⟨x, σ', e, ?_, slots_frz hv r h⟩
    by_cases hj : j = k
    · rw [if_pos hj]
      subst hj
      rw [hv] at e2; cases e2
      exact ⟨v, e1, r⟩
    · rw [if_neg hj]
      exact ⟨w, e1, e2⟩
  | .d _ :: ρ, _, ⟨x, σ', e, h1, h⟩ => ⟨x, σ', e, h1, slots_frz hv r h⟩
  | .un :: ρ, _, ⟨x, σ', e, h1, h⟩ => ⟨x, σ', e, h1, slots_frz hv r h⟩
theorem Hd.frz {K : PySem.W.Frag} {σ : St} {H F : Hp} {rs : List V} {as : List (List Addr)} {s : S} {k : Nat} {t : T} (hd : Hd K σ H F rs as s) (hk : s.μ[k]? = some t) (ok : t.ok = true) :
    ∃ F' as', Hd K σ H F' rs as' ⟨frzS k t.fr s.ρ, s.μ.set k (.fz t.fr)⟩ ∧ Go as.flatten as'.flatten F H F' H := by
  classical
  obtain ⟨v, l, e1, e2, o⟩ := hd.r.at hk
  have kl : k < s.μ.length := (List.getElem?_eq_some_iff.mp hk).1
  have ka : k < as.length := by rw [hd.r.l2]; exact kl
  let F' : Hp := fun a => if a ∈ l then H a else F a
  have inl : ∀ a, a ∈ l → F' a = H a := fun a ha => by show (if a ∈ l then H a else F a) = _; rw [if_pos ha]
  have nil : ∀ a, a ∉ l → F' a = F a := fun a ha => by show (if a ∈ l then H a else F a) = _; rw [if_neg ha]
  have fz : Same F F' := fun a o e => by
    by_cases ha : a ∈ l
    · rw [hd.r.af _ _ _ e2 ha] at e; cases e
    · rw [nil a ha]; exact e
  have sub' : Same F' H := fun a o e => by
    by_cases ha : a ∈ l
    · rw [inl a ha] at e; exact e
    · rw [nil a ha] at e; exact hd.r.sub a o e
  have rep : Rep K F' t.fr v := Own.fr fz t v l ok (fun a ha o e => by rw [inl a ha]; exact e) o
  have sh : ∀ {i : Nat} {m : List Addr}, (as.set k [])[i]? = some m → (i ≠ k ∧ as[i]? = some m) ∨ m = [] := fun {i m} e => by
    by_cases hi : i = k
    · subst hi
      rw [List.getElem?_set_self ka] at e; cases e
      exact .inr rfl
    · rw [List.getElem?_set_ne (fun z => hi z.symm)] at e
      exact .inl ⟨hi, e⟩
  refine ⟨F', as.set k [], ⟨⟨sub', by simp [hd.r.l1], by simp [hd.r.l2], fun i t' v' m q1 q2 q3 => ?_, fun i m q => ?_, fun i j m m' a q1 q2 h1 h2 => ?_, fun i m a q ha => ?_⟩, slots_frz e1 rep (hd.sl.mono fz fun _ _ q => q)⟩, ⟨fz, fun a o e => ?_, fun a o _ e => e, fun a e => e, fun a ha => ?_⟩⟩
  · by_cases hi : i = k
    · subst hi
      rw [List.getElem?_set_self kl] at q1; cases q1
      rw [List.getElem?_set_self ka] at q3; cases q3
      rw [e1] at q2; cases q2
      exact ⟨rep, rfl⟩
    · rw [List.getElem?_set_ne (fun z => hi z.symm)] at q1 q3
      exact Own.keep fz _ _ _ (fun a _ o e => e) (hd.r.own i t' v' m q1 q2 q3)
  · rcases sh q with ⟨_, q⟩ | rfl
    · exact hd.r.n1 _ _ q
    · exact List.nodup_nil
  · rcases sh q1 with ⟨_, q1⟩ | rfl
    · rcases sh q2 with ⟨_, q2⟩ | rfl
      · exact hd.r.n2 _ _ _ _ _ q1 q2 h1 h2
      · cases h2
    · cases h1
  · rcases sh q with ⟨hi, q⟩ | rfl
    · rw [nil a fun z => hi (hd.r.n2 _ _ _ _ _ q e2 ha z)]
      exact hd.r.af _ _ _ q ha
    · cases ha
  · by_cases ha : a ∈ l
    · exact .inr (.inr (fl_mem e2 ha))
    · rw [nil a ha] at e; exact .inl e
  · obtain ⟨i, m, q, hm⟩ := mem_fl ha
    rcases sh q with ⟨_, q⟩ | rfl
    · exact .inl (fl_mem q hm)
    · cases hm
theorem ws_frz {X : Cx} {s : S} {st : List Stmt} {D' : Ds} {t : T} (k : Nat) (hk : s.μ[k]? = some t) (ok : t.ok = true) (h : WS X ⟨frzS k t.fr s.ρ, s.μ.set k (.fz t.fr)⟩ st D') : WS X s st D' := fun W σ H F rs as hd g p => by
  obtain ⟨F', as', h1, h2⟩ := hd.frz hk ok
  exact h W σ H F' rs as' h1 (g.trans h2) p
theorem w1_frz {X : Cx} {s : S} {st : Stmt} {D' : Ds} {t : T} (k : Nat) (hk : s.μ[k]? = some t) (ok : t.ok = true) (h : W1 X ⟨frzS k t.fr s.ρ, s.μ.set k (.fz t.fr)⟩ st D') : W1 X s st D' := fun W σ H F rs as hd g p => by
  obtain ⟨F', as', h1, h2⟩ := hd.frz hk ok
  exact h W σ H F' rs as' h1 (g.trans h2) p

/-! ### lists of owned things -/
theorem Owns.append {K : PySem.W.Frag} {H F : Hp} {t : T} {v : V} {l : List Addr} (o : Own K H F t v l) : ∀ {ts : List T} {vs : List V} {bs : List Addr}, Owns K H F ts vs bs → Owns K H F (ts ++ [t]) (vs ++ [v]) (bs ++ l)
  | [], _, _, ⟨e1, e2⟩ => by subst e1 e2; exact ⟨v, [], l, [], rfl, o, ⟨rfl, rfl⟩, by simp⟩
  | _ :: _, _, _, ⟨w, ws, b, c, e1, h1, h2, e2⟩ => by subst e1 e2; exact ⟨w, _, b, _, rfl, h1, Owns.append o h2, by simp⟩
theorem Owns.len {K : PySem.W.Frag} {H F : Hp} : ∀ {ts : List T} {vs : List V} {bs : List Addr}, Owns K H F ts vs bs → vs.length = ts.length
  | [], _, _, ⟨e1, _⟩ => by subst e1; rfl
  | _ :: _, _, _, ⟨_, _, _, _, e1, _, h2, _⟩ => by subst e1; simp [Owns.len h2]
theorem Owns.upd {K : PySem.W.Frag} {H F : Hp} : ∀ {ts : List T} {vs : List V} {bs : List Addr} {m : Nat} {t : T}, bs.Nodup → Owns K H F ts vs bs → ts[m]? = some t → ∃ v l, vs[m]? = some v ∧ Own K H F t v l ∧ (∀ a ∈ l, a ∈ bs) ∧
    ∀ H' t', (∀ a o, a ∉ l → H a = some o → H' a = some o) → Own K H' F t' v l → Owns K H' F (ts.set m t') vs bs
  | [], _, _, _, _, _, _, e => by simp at e
  | t :: ts, _, _, 0, _, nd, ⟨v, ws, b, c, e1, h1, h2, e2⟩, e => by
    subst e1 e2
    simp at e; subst e
    refine ⟨v, b, rfl, h1, fun a ha => List.mem_append_left _ ha, fun H' t' k o => ⟨v, ws, b, c, rfl, o, Owns.keep (Same.refl F) _ _ _ (fun a ha o e => k a o (fun z => ?_) e) h2, rfl⟩⟩
    exact (List.nodup_append.mp nd).2.2 a z a ha rfl
  | t :: ts, _, _, m + 1, _, nd, ⟨v, ws, b, c, e1, h1, h2, e2⟩, e => by
    subst e1 e2
    have nd' := List.nodup_append.mp nd
    obtain ⟨u, l, q1, q2, q3, q4⟩ := Owns.upd nd'.2.1 h2 (m := m) (by simpa using e)
    refine ⟨u, l, by simpa using q1, q2, fun a ha => List.mem_append_right _ (q3 a ha), fun H' t' k o => ⟨v, ws, b, c, rfl, Own.keep (Same.refl F) _ _ _ (fun a ha o e => k a o (fun z => ?_) e) h1, q4 H' t' k o, rfl⟩⟩
    exact nd'.2.2 a ha a (q3 a z) rfl
/-- the m-th of an owned list of lists -/
theorem Hd.lst2 {K : PySem.W.Frag} {σ : St} {H F : Hp} {rs : List V} {as : List (List Addr)} {s : S} {k m : Nat} {v : V} {ts : List T} {ds : List D} (hd : Hd K σ H F rs as s) (hk : s.μ[k]? = some (.lst ts)) (hm : ts[m]? = some (.fl ds)) (hv : rs[k]? = some v) :
    ∃ p xs q ys, v = .ref p ∧ H p = some (.lst xs) ∧ xs.length = ts.length ∧ xs[m]? = some (.ref q) ∧ H q = some (.lst ys) ∧ Reps K F ds ys ∧
      ∀ es zs, Reps K F es zs → Hd K σ (upd H q (.lst zs)) F rs as ⟨s.ρ, s.μ.set k (.lst (ts.set m (.fl es)))⟩ ∧ Go as.flatten as.flatten F H F (upd H q (.lst zs)) := by
  obtain ⟨v', l, h1, h2, p, xs, bs, e, hp, o, el⟩ := hd.r.at hk
  rw [h1] at hv; cases hv
  have nd := hd.r.n1 _ _ h2
  subst el
  have nd' := List.nodup_cons.mp nd
  obtain ⟨u, l2, q1, ⟨q, ys, e3, hq, rr, el2⟩, q3, q4⟩ := Owns.upd nd'.2 o hm
  subst el2 e3
  refine ⟨p, xs, q, ys, e, hp, o.len, q1, hq, rr, fun es zs r => ?_⟩
  have kp : ∀ a o, a ∉ ([q] : List Addr) → H a = some o → upd H q (.lst zs) a = some o := fun a o hn e => by rw [upd_ne (fun z => hn (by rw [z]; simp))]; exact e
  have npq : p ≠ q := fun z => nd'.1 (q3 p (by rw [z]; simp))
  obtain ⟨a1, a2⟩ := hd.r.set1 (t := .lst (ts.set m (.fl es))) (H' := upd H q (.lst zs)) h1 h2 (fun a o hn e => kp a o (fun z => hn (List.mem_cons_of_mem _ (q3 a z))) e)
    (fun a e => by
      by_cases z : a = q
      · subst z; rw [upd_same] at e; cases e
      · rw [upd_ne z] at e; exact e)
    ⟨p, xs, bs, e, kp p _ (by simpa using npq) hp, q4 _ _ kp ⟨q, zs, rfl, upd_same, r, rfl⟩, rfl⟩
  exact ⟨⟨a1, hd.sl⟩, a2⟩
section
variable {X : Cx} {s s1 s2 s3 : S} {e a b c o tg iter i : Expr} {es : List Expr} {x y z : Ar} {xs : List Ar} {d : D} {ds : List D} {pos p apos : Pos} {nm nm2 : Str} {Ψ : S → Ar → Prop} {D' : Ds} {n k : Nat}
/-- an int that is told without any change -/
def PV (X : Cx) (s : S) (e : Expr) (j : Int) : Prop := ∃ t : TE, PE X e t ∧ ∀ σ H F rs as, Hd X.K σ H F rs as s → ∀ Q : VK, Q (.int j) H → t σ H Q
theorem pv_d {j : Int} (i : Nat) (h : s.ρ[i]? = some (.d (.int j)) := by rfl) (hN : X.N[i]? = some nm := by rfl) (hv : Vis X.env.scope nm := by first | exact Or.inl rfl | exact Or.inr (Or.inl rfl) | exact Or.inr (Or.inr rfl))
    (h1 : (nm == ("__debug__" : Str)) = false := by decide) (h2 : (nm == ("__classdict__" : Str)) = false := by decide) : PV X s (.Name nm pos) j := ⟨_, pe_var hN hv h1 h2, fun σ H F rs as hd Q q => by
  obtain ⟨o, e1, v, rfl, r⟩ := hd.sl.get h
  cases r
  exact ⟨_, e1, q⟩⟩
theorem pv_int {j : Int} {t} : PV X s (.Constant (.int j) t pos) j := ⟨_, pe_int, fun σ H F rs as hd Q q => q⟩
/-- x[i][j], x an owned list of lists -/
theorem ea_ix2 {p2 : Pos} {ii jj : Int} {m : Nat} {ts : List T} (ho : EA X s o s1 (.o k)) (hi : PV X s1 i ii) (hj : PV X s1 b jj) (hk : s1.μ[k]? = some (.lst ts)) (hm : ixN ts.length ii = some m) (ht : ts[m]? = some (.fl ds)) (ha : atI ds jj = some d)
    (hs : PlainIx i := by exact fun _ _ => rfl) (hs2 : PlainIx b := by exact fun _ _ => rfl) : EA X s (.Subscript (.Subscript o i p2) b pos) s1 (.d d) := fun σ H F rs as hd Q c => by
  obtain ⟨t1, pi, qi⟩ := hi
  obtain ⟨t2, pj, qj⟩ := hj
  refine WE.of (pe_ix ix_list (pe_ix ix_list pe_u pi hs) pj hs2) (ho σ H F rs as hd _ fun v H1 F1 rs1 as1 h1 p1 g1 r1 => ?_)
  obtain ⟨P, xs, Q2, ys, e1, e2, e3, e4, e5, e6, _⟩ := h1.lst2 hk ht r1
  refine qi σ H1 F1 rs1 as1 h1 _ ⟨P, xs, ii, .ref Q2, e1, rfl, .of e2, by unfold atI; rw [e3, hm]; exact e4, ?_⟩
  obtain ⟨w, a1, a2⟩ := at_reps e6 ha
  exact qj σ H1 F1 rs1 as1 h1 _ ⟨Q2, ys, jj, w, rfl, rfl, .of e5, a1, c w H1 F1 rs1 as1 h1 p1 g1 a2⟩
/-- len(x[i]) -/
theorem ca_lenT {ts : List T} (hk : s.μ[k]? = some (.lst ts)) : CaV X s (fun xs H Q => ∃ p ys, xs = [.ref p] ∧ (SqL X.K H p ys ∨ SqT X.K H p ys) ∧ Q (.int ys.length) H) [.o k] (.int (ts.length : Int)) := fun σ H F rs as vs hd ⟨v, ws, e, a, e2⟩ Q c => by
  subst e2 e
  obtain ⟨v', l, h1, h2, p, xs, bs, e, hp, o, el⟩ := hd.r.at hk
  have a' : rs[k]? = some v := a
  rw [h1] at a'; cases a'
  exact ⟨p, xs, e ▸ rfl, .inl (.of hp), c _ H F go0 hd.sub (by show V.int _ = V.int _; rw [o.len])⟩
theorem ea_len2 {p2 p3 : Pos} {ii : Int} {m : Nat} {ts : List T} (ho : EA X s o s1 (.o k)) (hi : PV X s1 i ii) (hk : s1.μ[k]? = some (.lst ts)) (hm : ixN ts.length ii = some m) (ht : ts[m]? = some (.fl ds)) (hml : X.mg "len" = none) (hg : Gl X "len" := by rfl)
    (hs : PlainIx i := by exact fun _ _ => rfl) (he : starEach [.Subscript o i p2] X.env = [(false, eval (.Subscript o i p2) X.env)] := by rfl) : EA X s (.Call (.Name "len" p3) [.Subscript o i p2] [] pos) s1 (.d (.int (ds.length : Int))) := fun σ H F rs as hd Q c => by
  obtain ⟨t1, pi, qi⟩ := hi
  refine WE.of (pe_callB call_len_seq hg hml PySem.boot_len (pa_cons (pe_ix ix_list pe_u pi hs) pa_nil he) (by decide) (by decide) he rfl) (ho σ H F rs as hd _ fun v H1 F1 rs1 as1 h1 p1 g1 r1 => ?_)
  obtain ⟨P, xs, Q2, ys, e1, e2, e3, e4, e5, e6, _⟩ := h1.lst2 hk ht r1
  refine qi σ H1 F1 rs1 as1 h1 _ ⟨P, xs, ii, .ref Q2, e1, rfl, .of e2, by unfold atI; rw [e3, hm]; exact e4, ?_⟩
  exact ⟨Q2, ys, rfl, .inl (.of e5), c _ H1 F1 rs1 as1 h1 p1 g1 (by show V.int _ = V.int _; rw [e6.len])⟩
def PVt (K : PySem.W.Frag) (t : TE) (s : S) (j : Int) : Prop := ∀ σ H F rs as, Hd K σ H F rs as s → ∀ Q : VK, Q (.int j) H → t σ H Q
theorem pvt_d {K : PySem.W.Frag} {i : Nat} {j : Int} (h : s.ρ[i]? = some (.d (.int j)) := by rfl) : PVt K (tVar i) s j := fun σ H F rs as hd Q q => by
  obtain ⟨o, e1, v, rfl, r⟩ := hd.sl.get h
  cases r
  exact ⟨_, e1, q⟩
theorem pvt_int {K : PySem.W.Frag} {j : Int} : PVt K (tC (.int j)) s j := fun σ H F rs as hd Q q => q
/-- x[i][j] = e -/
theorem w1x_setix2 {p2 p3 : Pos} {t1 t2 : TE} (pi : PE X i t1) (pj : PE X b t2) (he : EX X s e fun s1 x => ∃ d, x = .d d ∧ EX X s1 o fun s2 y => ∃ (k : Nat) (ii jj : Int) (m m2 : Nat) (ts : List T) (ds : List D), y = .o k ∧ PVt X.K t1 s2 ii ∧ PVt X.K t2 s2 jj ∧ s2.μ[k]? = some (.lst ts) ∧ ixN ts.length ii = some m ∧ ts[m]? = some (.fl ds) ∧ ixN ds.length jj = some m2 ∧ D'.nx ⟨s2.ρ, s2.μ.set k (.lst (ts.set m (.fl (ds.set m2 d))))⟩)
    (ha : ∀ v, assign (.Subscript (.Subscript o i p2) b p3) X.env v = (do
      let ov ← holding [v] (eval (.Subscript o i p2) X.env)
      let iv ← holding [v, ov] (eval b X.env)
      standAt p3
      holding [v, ov, iv] (setItem ov iv v)
      release [v, ov, iv] []) := by intro _; rfl) (hs : PlainIx i := by exact fun _ _ => rfl)
    (hs2 : swapsWithSole [.Subscript (.Subscript o i p2) b p3] e pos.line X.env = pure false := by rfl) (hw : swappedStores [.Subscript (.Subscript o i p2) b p3] e X.env = pure none := by rfl) (h1 : (assignEach [.Subscript (.Subscript o i p2) b p3] X.env).map (·.2) = [assign (.Subscript (.Subscript o i p2) b p3) X.env] := by rfl) :
    W1 X s (.Assign [.Subscript (.Subscript o i p2) b p3] e pos) D' := fun W σ H F rs as hd g p =>
  WSt.of (ps_asg pe_u (pg_sub (pe_ix ix_list pe_u pi hs) pj set_list ha) hs2 hw h1) (he σ H F rs as hd _ fun s1 x ⟨d, ex, q1⟩ v H1 F1 rs1 as1 h1 p1 g1 r1 => by
    subst ex
    refine q1 σ H1 F1 rs1 as1 h1 _ fun s2 y ⟨k, ii, jj, m, m2, ts, ds, ey, qi, qj, hk, hm, ht, hm2, c⟩ u H2 F2 rs2 as2 h2 p2 g2 r2 => ?_
    subst ey
    obtain ⟨P, xs, Q2, ys, e1, e2, e3, e4, e5, e6, up⟩ := h2.lst2 hk ht r2
    refine qi σ H2 F2 rs2 as2 h2 _ ⟨P, xs, ii, .ref Q2, e1, rfl, .of e2, by unfold atI; rw [e3, hm]; exact e4, ?_⟩
    refine qj σ H2 F2 rs2 as2 h2 _ ?_
    obtain ⟨a, b⟩ := up _ _ (e6.set m2 (Rep.mono g2.fz _ _ r1))
    exact ⟨Q2, ys, jj, m2, rfl, rfl, e5, by rw [e6.len]; exact hm2, F2, rs2, as2, ⟨s2.ρ, s2.μ.set k (.lst (ts.set m (.fl (ds.set m2 d))))⟩, a, ((g.trans g1).trans g2).trans b, (p.trans p1).trans p2, c⟩)
end
/-- the last but one goes into the last, a list of owned things -/
theorem HdR.push {K : PySem.W.Frag} {H F : Hp} {ts out : List T} {vs acc : List V} {as : List (List Addr)} {t : T} {w : V} {A : Addr} {l lA : List Addr} (h : HdR K H F ((ts ++ [t]) ++ [.lst out]) ((vs ++ [w]) ++ [.ref A]) ((as ++ [l]) ++ [lA])) (hl : vs.length = ts.length) (hA : H A = some (.lst acc)) :
    ∃ lA', HdR K (upd H A (.lst (acc ++ [w]))) F (ts ++ [.lst (out ++ [t])]) (vs ++ [.ref A]) (as ++ [lA']) ∧ Go ((as ++ [l]) ++ [lA]).flatten (as ++ [lA']).flatten F H F (upd H A (.lst (acc ++ [w]))) := by
  have hla : as.length = ts.length := by have := h.l2; simp at this; exact this
  have gT : ∀ (i : Nat) t', ts[i]? = some t' → ((ts ++ [t]) ++ [T.lst out])[i]? = some t' := fun i t' e => by
    have := (List.getElem?_eq_some_iff.mp e).1
    rw [List.getElem?_append_left (by simp; omega), List.getElem?_append_left this]; exact e
  have gV : ∀ (i : Nat) t', vs[i]? = some t' → ((vs ++ [w]) ++ [V.ref A])[i]? = some t' := fun i t' e => by
    have := (List.getElem?_eq_some_iff.mp e).1
    rw [List.getElem?_append_left (by simp; omega), List.getElem?_append_left this]; exact e
  have gA : ∀ (i : Nat) t', as[i]? = some t' → ((as ++ [l]) ++ [lA])[i]? = some t' := fun i t' e => by
    have := (List.getElem?_eq_some_iff.mp e).1
    rw [List.getElem?_append_left (by simp; omega), List.getElem?_append_left this]; exact e
  have t1 : ((ts ++ [t]) ++ [T.lst out])[ts.length]? = some t := by simp
  have t2 : ((ts ++ [t]) ++ [T.lst out])[ts.length + 1]? = some (.lst out) := by simp
  have v1 : ((vs ++ [w]) ++ [V.ref A])[ts.length]? = some w := by rw [← hl]; simp
  have v2 : ((vs ++ [w]) ++ [V.ref A])[ts.length + 1]? = some (.ref A) := by rw [← hl]; simp
  have a1 : ((as ++ [l]) ++ [lA])[ts.length]? = some l := by rw [← hla]; simp
  have a2 : ((as ++ [l]) ++ [lA])[ts.length + 1]? = some lA := by rw [← hla]; simp
  have o1 := h.own _ _ _ _ t1 v1 a1
  obtain ⟨A', acc', bs, eA, hA', o2, el⟩ := h.own _ _ _ _ t2 v2 a2
  have eA := V.ref.inj eA
  subst eA
  rw [hA] at hA'; cases hA'
  have n1l := h.n1 _ _ a1
  have n1A := h.n1 _ _ a2
  have dj : ∀ a, a ∈ l → a ∉ lA := fun a ha z => by have := h.n2 _ _ _ _ _ a1 a2 ha z; omega
  subst el
  have ndA := List.nodup_cons.mp n1A
  have kp : ∀ a o, a ≠ A → H a = some o → upd H A (.lst (acc ++ [w])) a = some o := fun a o hn e => by rw [upd_ne hn]; exact e
  have lne : ∀ a, a ∈ l → a ≠ A := fun a ha z => dj a ha (by rw [z]; exact List.mem_cons_self)
  have bne : ∀ a, a ∈ bs → a ≠ A := fun a ha z => ndA.1 (by rw [← z]; exact ha)
  have th : ∀ a, upd H A (.lst (acc ++ [w])) a = none → H a = none := fun a e => by
    by_cases z : a = A
    · subst z; rw [upd_same] at e; cases e
    · rw [upd_ne z] at e; exact e
  have ne1 : ∀ (i : Nat) (m : List Addr) a, as[i]? = some m → a ∈ m → a ≠ A := fun i m a e ha z => by
    have hi := (List.getElem?_eq_some_iff.mp e).1
    have := h.n2 _ _ _ _ _ (gA i m e) a2 ha (by rw [z]; exact List.mem_cons_self)
    omega
  have sh : ∀ (i : Nat) m, (as ++ [A :: (bs ++ l)])[i]? = some m → as[i]? = some m ∨ (i = as.length ∧ m = A :: (bs ++ l)) := fun i m e => by
    rcases app_get e with q | ⟨q0, q⟩
    · exact .inl q
    · have : i - as.length = 0 := by have := (List.getElem?_eq_some_iff.mp q).1; simp at this; omega
      rw [this] at q; simp at q
      exact .inr ⟨by omega, q.symm⟩
  have old : ∀ a, a ∈ A :: (bs ++ l) → ∃ (j : Nat) (m : List Addr), ts.length ≤ j ∧ ((as ++ [l]) ++ [A :: bs])[j]? = some m ∧ a ∈ m := fun a ha => by
    rcases List.mem_cons.mp ha with rfl | ha
    · exact ⟨_, _, Nat.le_succ _, a2, List.mem_cons_self⟩
    · rcases List.mem_append.mp ha with ha | ha
      · exact ⟨_, _, Nat.le_succ _, a2, List.mem_cons_of_mem _ ha⟩
      · exact ⟨_, _, Nat.le_refl _, a1, ha⟩
  refine ⟨A :: (bs ++ l), ⟨fun a o e => kp a o (fun z => ?_) (h.sub a o e), by simp [hl], by simp [hla], fun i t' v' m e1 e2 e3 => ?_, fun i m e => ?_, fun i j m m' a e1 e2 h1 h2 => ?_, fun i m a e ha => ?_⟩, ⟨Same.refl F, fun _ _ e => .inl e, fun a o hn e => kp a o (fun z => hn ?_) e, th, fun a ha => ?_⟩⟩
  · subst z
    rw [h.af _ _ _ a2 List.mem_cons_self] at e; cases e
  · rcases app_get e1 with q | ⟨q0, q⟩
    · have hi := (List.getElem?_eq_some_iff.mp q).1
      rw [List.getElem?_append_left (by omega)] at e2
      rw [List.getElem?_append_left (by omega)] at e3
      exact Own.keep (Same.refl F) _ _ _ (fun a ha o e => kp a o (ne1 i m a e3 ha) e) (h.own i t' v' m (gT i t' q) (gV i v' e2) (gA i m e3))
    · have i0 : i = ts.length := by have := (List.getElem?_eq_some_iff.mp q).1; simp at this; omega
      subst i0
      simp at q; subst q
      rw [← hl] at e2; simp at e2; subst e2
      rw [← hla] at e3; simp at e3; subst e3
      refine ⟨A, acc ++ [w], bs ++ l, rfl, upd_same, ?_, rfl⟩
      exact Owns.append (Own.keep (Same.refl F) _ _ _ (fun a ha o e => kp a o (lne a ha) e) o1) (Owns.keep (Same.refl F) _ _ _ (fun a ha o e => kp a o (bne a ha) e) o2)
  · rcases sh i m e with q | ⟨_, rfl⟩
    · exact h.n1 _ _ (gA i m q)
    · refine List.nodup_cons.mpr ⟨fun z => ?_, List.nodup_append.mpr ⟨ndA.2, n1l, fun a ha b hb z => ?_⟩⟩
      · rcases List.mem_append.mp z with z | z
        · exact ndA.1 z
        · exact lne A z rfl
      · subst z; exact dj a hb (List.mem_cons_of_mem _ ha)
  · rcases sh i m e1 with q | ⟨i0, rfl⟩
    · have hi := (List.getElem?_eq_some_iff.mp q).1
      rcases sh j m' e2 with z | ⟨j0, rfl⟩
      · exact h.n2 _ _ _ _ _ (gA i m q) (gA j m' z) h1 h2
      · obtain ⟨j', m2, hj, e', ha'⟩ := old a h2
        have := h.n2 _ _ _ _ _ (gA i m q) e' h1 ha'
        omega
    · rcases sh j m' e2 with z | ⟨j0, rfl⟩
      · have hj := (List.getElem?_eq_some_iff.mp z).1
        obtain ⟨j', m2, hj', e', ha'⟩ := old a h1
        have := h.n2 _ _ _ _ _ (gA j m' z) e' h2 ha'
        omega
      · omega
  · rcases sh i m e with q | ⟨_, rfl⟩
    · exact h.af _ _ _ (gA i m q) ha
    · obtain ⟨j', m2, _, e', ha'⟩ := old a ha
      exact h.af _ _ _ e' ha'
  · rw [z]; exact fl_mem a2 List.mem_cons_self
  · obtain ⟨i, m, e, hm⟩ := mem_fl ha
    rcases sh i m e with q | ⟨_, rfl⟩
    · exact .inl (fl_mem (gA i m q) hm)
    · obtain ⟨j', m2, _, e', ha'⟩ := old a hm
      exact .inl (fl_mem e' ha')
/-! comprehensions whose elements are new lists -/
def LcT (K : PySem.W.Frag) (g : D → List Sl → Option (List Sl)) (te : TE) (ρ : List Sl) (d : D) (μ : List T) (out : List T) (J : List T → List T → Prop) : Prop :=
  ∃ ρ', g d ρ = some ρ' ∧ TEX K te ⟨ρ', μ⟩ fun s3 x => ∃ s4 t, s3 = S.add s4 t ∧ x = .o s4.μ.length ∧ μ.length ≤ s4.μ.length ∧ J s4.μ (out ++ [t])
theorem lc_runT {X : Cx} {s : S} {Ψ : S → Ar → Prop} {G : TG} {is vs : List Nat} {g : D → List Sl → Option (List Sl)} {te : TE} {wi : TI}
    (hi : ∀ σ H F rs as, Hd X.K σ H F rs as s → ∀ R : It → Hp → Prop, (∀ s1 n it, (n ≤ 16777216 ∧ ∃ I : Nat → List T → List T → Prop, I 0 s1.μ [] ∧ (∀ i μ out, i < n → I i μ out → LcT X.K g te (wipeS s1.ρ vs) (it i) μ out (I (i + 1))) ∧ ∀ μ out, I n μ out → Ψ (S.add ⟨s1.ρ, μ⟩ (.lst out)) (.o μ.length)) →
      ∀ J H' F' rs' as', Hd X.K σ H' F' rs' as' s1 → rs <+: rs' → Go as.flatten as'.flatten F H F' H' → Gives X.K J n it F' → R J H') → wi σ H R)
    (hS : GS X.K G is g) (hv : ∀ i ∈ is, i ∈ vs) : TEX X.K (tLc wi G tYes te vs) s Ψ := fun σ H F rs as hd Q k => by
  refine hi σ H F rs as hd _ fun s1 n it ⟨hn, I, i0, hs, he⟩ J H1 F1 rs1 as1 h1 p1 g1 gv => ?_
  intro A hA
  obtain ⟨n1, n2⟩ := h1.r.snoc (t := .lst []) (v := .ref A) (o := .lst []) hA ⟨A, [], [], rfl, upd_same, ⟨rfl, rfl⟩, rfl⟩
  refine ⟨fun i m H2 => m = n - i ∧ i ≤ n ∧ ∃ μ out acc F2 rs2 as2 lA, I i μ out ∧ HdR X.K H2 F2 (μ ++ [.lst out]) (rs2 ++ [.ref A]) (as2 ++ [lA]) ∧ rs1 <+: rs2 ∧ Go as1.flatten (as2 ++ [lA]).flatten F1 H1 F2 H2 ∧ H2 A = some (.lst acc) ∧ acc.length ≤ i,
    ⟨n, by simp, Nat.zero_le _, s1.μ, [], [], F1, rs1, as1, [A], i0, n1, refl_pre _, n2, upd_same, Nat.le_refl _⟩, ?_⟩
  rintro i m H2 ⟨rfl, hin, μ, out, acc, F2, rs2, as2, lA, inv, hr, p2, g2, hAc, ol⟩
  have rl : rs2.length = μ.length := by have := hr.l1; simp at this; exact this
  have f12 : Same F1 F2 := g2.fz
  obtain ⟨go, stop, yld⟩ := gv H2 F2 f12 hr.sub
  by_cases hlt : i < n
  · refine .inr ⟨go i hlt, fun H' => ∃ μ out acc F2 rs2 as2 lA, I (i + 1) μ out ∧ HdR X.K H' F2 (μ ++ [.lst out]) (rs2 ++ [.ref A]) (as2 ++ [lA]) ∧ rs1 <+: rs2 ∧ Go as1.flatten (as2 ++ [lA]).flatten F1 H1 F2 H' ∧ H' A = some (.lst acc) ∧ acc.length ≤ i + 1,
      fun H' w => ⟨n - (i + 1), by omega, rfl, hlt, w⟩, fun v H3 y => ?_⟩
    obtain ⟨F3, g3, sb3, r3⟩ := yld i v H3 hlt y
    obtain ⟨hr3, g3'⟩ := hr.pure g3 sb3
    have hi3 := hr3.init rl
    obtain ⟨ρ', e1, ht⟩ := hs i μ out hlt inv
    have sl3 : Slots X.K F3 rs2 (wipeS s1.ρ vs) (wipe σ vs) := (h1.sl.mono (f12.trans g3.fz) fun k v q => pre_get p2 k v q).wipe vs
    have hd3 : Hd X.K (wipe σ vs) H3 F3 rs2 as2 ⟨wipeS s1.ρ vs, μ⟩ := ⟨hi3, sl3⟩
    have hA3 : H3 A = some (.lst acc) := g3.keep A _ (fun z => nomatch z) hAc
    have hal : as2.length = μ.length := by have := hr3.l2; simp at this; exact this
    have memA : A ∈ lA := by
      obtain ⟨a, xs, bs, e, _, _, el⟩ := hr3.own μ.length (.lst out) (.ref A) lA (by simp) (by rw [← rl]; simp) (by rw [← hal]; simp)
      cases e
      rw [el]; exact List.mem_cons_self
    have notA : A ∉ as2.flatten := fun z => by
      obtain ⟨j, mm, e, hm⟩ := mem_fl z
      have hj := (List.getElem?_eq_some_iff.mp e).1
      have := hr3.n2 j as2.length mm lA A (by rw [List.getElem?_append_left hj]; exact e) (by simp) hm memA
      omega
    refine hS (wipe σ vs) H3 F3 rs2 as2 _ (it i) v ρ' hd3 r3 e1 _ fun σ4 h4 w4 => ?_
    have ww : ∀ (σ : St) (vs : List Nat), wipe (wipe σ vs) vs = wipe σ vs := by
      intro σ vs
      have gen : ∀ (us : List Nat), (∀ i ∈ us, i ∈ vs) → wipe (wipe σ us) vs = wipe σ vs := by
        intro us
        induction us with
        | nil => intro _; rfl
        | cons u us ih =>
          intro h
          show wipe ((wipe σ us).set u none) vs = _
          rw [wipe_set (h u List.mem_cons_self)]
          exact ih fun i hi => h i (List.mem_cons_of_mem _ hi)
      exact gen vs fun _ h => h
    refine ⟨by rw [w4 vs hv, ww], ?_⟩
    unfold tYes
    dsimp only
    rw [if_pos rfl]
    refine (ht σ4 H3 F3 rs2 as2 h4 _ fun s3 x ⟨s4, t, e3, ex, hlen, inv'⟩ w H6 F6 rs6 as6 h6 p6 g6 r6 => ?_)
    subst e3 ex
    have hl6 : rs6.length = s4.μ.length + 1 := by have := h6.r.l1; simp [S.add] at this; exact this
    have hla6 : as6.length = s4.μ.length + 1 := by have := h6.r.l2; simp [S.add] at this; exact this
    obtain ⟨rs7, w', rfl⟩ : ∃ rs7 w', rs6 = rs7 ++ [w'] := ⟨rs6.dropLast, rs6.getLast (fun z => by rw [z] at hl6; simp at hl6), (List.dropLast_concat_getLast _).symm⟩
    obtain ⟨as7, l7, rfl⟩ : ∃ as7 l7, as6 = as7 ++ [l7] := ⟨as6.dropLast, as6.getLast (fun z => by rw [z] at hla6; simp at hla6), (List.dropLast_concat_getLast _).symm⟩
    have hl7 : rs7.length = s4.μ.length := by simpa using hl6
    have ew : w = w' := by
      have r6' : (rs7 ++ [w'])[s4.μ.length]? = some w := r6
      rw [← hl7] at r6'
      simpa using r6'.symm
    subst ew
    obtain ⟨fr, gf⟩ := hr3.frame rl h6.r g6
    have hA6 : H6 A = some (.lst acc) := g6.keep A _ notA hA3
    obtain ⟨lA', q1, q2⟩ := HdR.push (ts := s4.μ) (t := t) (out := out) fr hl7 hA6
    have p7 : rs2 <+: rs7 := by
      refine List.prefix_of_prefix_length_le p6 ⟨_, rfl⟩ ?_
      omega
    refine ⟨acc, hA6, by have : (16777216 : Nat) ≤ sizeLine := by decide
                         omega, s4.μ, out ++ [t], acc ++ [w], F6, rs7, as7, lA', inv', q1, p2.trans p7, ((g2.trans g3').trans gf).trans q2, upd_same, by simp; omega⟩
  · have e : i = n := by omega
    subst e
    refine .inl ⟨stop, ?_⟩
    refine k _ _ (he μ out inv) (V.ref A) H2 F2 (rs2 ++ [V.ref A]) (as2 ++ [lA]) ⟨show HdR X.K H2 F2 (μ ++ [T.lst out]) (rs2 ++ [V.ref A]) (as2 ++ [lA]) from hr, ?_⟩ ((p1.trans p2).trans ⟨_, rfl⟩) (g1.trans g2) ?_
    · exact (h1.sl.mono f12 fun k v q => pre_get p2 k v q).mono (Same.refl _) fun k v q => pre_get ⟨_, rfl⟩ k v q
    · show (rs2 ++ [V.ref A])[μ.length]? = _
      rw [← rl]; simp
end Q
namespace Q
open PySem PySem.Spec PyProof.Rows L2
/-! ### zip and enumerate over lists, tuples and texts -/
inductive Kd | kl (a : Addr) | kt (a : Addr) | ks (x : Str)
def Kd.v : Kd → V
  | .kl a => .ref a
  | .kt a => .ref a
  | .ks x => .str x
def Kd.has (K : PySem.W.Frag) (H : Hp) : Kd → List V → Prop
  | .kl a, xs => SqL K H a xs
  | .kt a, xs => SqT K H a xs
  | .ks x, xs => xs = x.cps.toList.map fun c => V.str ⟨#[c]⟩
def Kd.st (h : Heap) (it : Addr) (i : Nat) : Kd → Prop
  | .kl a => h.IsListIter it a i
  | .kt a => h.IsTupleIter it a i
  | .ks x => ∃ t, h.IsStrIter it (strIterType x) x t i
def Kd.ad : Kd → List Addr
  | .kl a => [a]
  | .kt a => [a]
  | .ks _ => []
theorem Kd.st_obj {h : Heap} {it : Addr} {i : Nat} : ∀ {k : Kd}, k.st h it i → ∃ o, h.get? it = some o ∧ ∀ v, o.data ≠ .cell v
  | .kl a, ⟨o, e, _, d⟩ => ⟨o, e, fun v q => by rw [d] at q; cases q⟩
  | .kt a, ⟨o, e, _, d⟩ => ⟨o, e, fun v q => by rw [d] at q; cases q⟩
  | .ks x, ⟨t, o, e, _, d⟩ => ⟨o, e, fun v q => by rw [d] at q; cases q⟩
theorem Kd.st_at {h h' : Heap} {it : Addr} {i : Nat} : ∀ {k : Kd}, k.st h it i → (∀ o, h.get? it = some o → h'.get? it = some o) → k.st h' it i
  | .kl a, ⟨o, e, c, d⟩, q => ⟨o, q o e, c, d⟩
  | .kt a, ⟨o, e, c, d⟩, q => ⟨o, q o e, c, d⟩
  | .ks x, ⟨t, o, e, c, d⟩, q => ⟨t, o, q o e, c, d⟩
theorem Kd.has_mono {K : PySem.W.Frag} {H H' : Hp} {xs : List V} (e : Same H H') : ∀ {k : Kd}, k.has K H xs → k.has K H' xs
  | .kl a, q => e.seq q
  | .kt a, q => same_t e q
  | .ks x, q => q
section
variable {X : Cx} {pins : List (Addr × Obj)} {σ : L2.St} {H : Hp} {s : Shared}
theorem Kd.has_inj (I : Inv X pins σ H s) {xs ys : List V} : ∀ {k : Kd}, k.has X.K H xs → k.has X.K H ys → xs = ys
  | .kl a, q, r => I.list_inj q r
  | .kt a, q, r => I.tuple_inj q r
  | .ks x, q, r => q.trans r.symm
theorem rv_rev {xs : List V} {us : List Value} (r : Vals xs us) {j : Nat} {v : Value} (h : us.toArray[j]? = some v) : ∃ y, xs[j]? = some y ∧ RelV y v := by
  have h' : us[j]? = some v := by simpa using h
  have hl := r.length
  have hj : j < xs.length := by rw [hl]; exact (List.getElem?_eq_some_iff.mp h').1
  obtain ⟨u, hu, ru⟩ := r.get (List.getElem?_eq_getElem hj)
  rw [h'] at hu; cases hu
  exact ⟨_, List.getElem?_eq_getElem hj, ru⟩
theorem Kd.draws (I : Inv X pins σ H s) (hc : X.calm = true) {xs : List V} {it : Addr} {i : Nat} : ∀ {k : Kd}, k.has X.K H xs → k.st s.heap it i → it ∉ k.ad →
    ∃ (n : Nat) (P : Nat → Value → Prop) (S : Nat → Heap → Prop), n = xs.length ∧ Draws X.prog X.w X.A.in1 it (it :: k.ad) n P S ∧ S i s.heap ∧ (∀ j h, S j h → k.st h it j) ∧ ∀ j v, P j v → ∃ y, xs[j]? = some y ∧ RelV y v
  | .kl a, hq, st, hne => by
    obtain ⟨its, rv, p, _⟩ := I.list hq
    have hh : X.A.in1.handled = none := I.ok.hd hc
    exact ⟨_, _, _, by simpa using rv.length.symm, Draws.list hh it a (fun e => hne (by rw [e]; exact List.mem_singleton_self _)) its.toArray, ⟨st, p.isList⟩, fun j h q => q.1, fun j v q => rv_rev rv q⟩
  | .kt a, hq, st, hne => by
    obtain ⟨its, rv, p, _⟩ := I.tuple hq
    have hh : X.A.in1.handled = none := I.ok.hd hc
    exact ⟨_, _, _, by simpa using rv.length.symm, Draws.tuple hh it a (fun e => hne (by rw [e]; exact List.mem_singleton_self _)) its.toArray, ⟨st, p⟩, fun j h q => q.1, fun j v q => rv_rev rv q⟩
  | .ks x, hq, ⟨t, st⟩, hne => by
    have hh : X.A.in1.handled = none := I.ok.hd hc
    have e : xs = x.cps.toList.map fun c => V.str ⟨#[c]⟩ := hq
    refine ⟨_, _, _, by rw [e]; simp, Draws.text hh it x t, st, fun j h q => ⟨t, q⟩, fun j v q => ?_⟩
    obtain ⟨c, u, hc, rfl⟩ := q
    refine ⟨.str ⟨#[c]⟩, ?_, ⟨u, rfl⟩⟩
    rw [e, List.getElem?_map, Array.getElem?_toList, hc]; rfl
theorem Kd.begins (I : Inv X pins σ H s) {xs : List V} {u : Value} : ∀ {k : Kd}, k.has X.K H xs → RelV k.v u → ∃ (o : Obj) (B : Heap → Prop), Begins u o B ∧ B s.heap ∧ (∀ h' it, h'.get? it = some o → k.st h' it 0) ∧ ∀ a ∈ k.ad, a < s.heap.objs.size
  | .kl a, hq, r => by
    obtain ⟨its, rv, p, _⟩ := I.list hq
    cases r
    exact ⟨_, _, begins_list a its.toArray, p.isList, fun h' it e => ⟨_, e, rfl, rfl⟩, fun b hb => by rw [List.mem_singleton.mp hb]; exact p.lt⟩
  | .kt a, hq, r => by
    obtain ⟨its, rv, p, _⟩ := I.tuple hq
    cases r
    obtain ⟨o1, ho1, _⟩ := id p
    exact ⟨_, _, begins_tuple a its.toArray, p, fun h' it e => ⟨_, e, rfl, rfl⟩, fun b hb => by rw [List.mem_singleton.mp hb]; exact Heap.lt_size ho1⟩
  | .ks x, hq, ⟨t, r⟩ => by
    subst r
    exact ⟨_, _, begins_text x t, trivial, fun h' it e => ⟨t, _, e, rfl, rfl⟩, fun b hb => absurd hb (by simp [Kd.ad])⟩
end
def Iz2 (K : PySem.W.Frag) (k1 k2 : Kd) : It :=
  ⟨fun i H => ∃ (xs ys : List V) (x y : V), k1.has K H xs ∧ k2.has K H ys ∧ xs[i]? = some x ∧ ys[i]? = some y,
    fun i H v H' => ∃ T x y, v = .ref T ∧ H T = none ∧ H' = upd H T (.tup [x, y]) ∧ (∀ xs, k1.has K H xs → xs[i]? = some x) ∧ ∀ ys, k2.has K H ys → ys[i]? = some y,
    fun i H => ∃ xs ys : List V, k1.has K H xs ∧ k2.has K H ys ∧ i ≤ xs.length ∧ i ≤ ys.length ∧ (i = xs.length ∨ i = ys.length)⟩
theorem turn_z2 {P : Program} {w : World} {K : PySem.W.Frag} {elts : List Expr} {kk : Nat} {tpos : Pos} {k1 k2 : Kd} {z TI TO i1 i2 : Addr} (D : ZipSep2 z TI TO i1 i2 (i1 :: k1.ad) (i2 :: k2.ad)) (n1 : i1 ∉ k1.ad) (n2 : i2 ∉ k2.ad) :
    Turn P w K (.Tuple elts kk tpos) (Iz2 K k1 k2) [z, TI, TO, i1, i2] z (fun i h => IsZip h z TI TO .none ∧ IsTupOf2 h TI (.ref i1) (.ref i2) ∧ (∃ x y, IsTupOf2 h TO x y) ∧ k1.st h i1 i ∧ k2.st h i2 i) where
  mem := by simp
  obj := fun i h st c hc => by
    obtain ⟨hz, hTI, ⟨x, y, hTO⟩, h1, h2⟩ := st
    have e' : c = z ∨ c = TI ∨ c = TO ∨ c = i1 ∨ c = i2 := by simpa using hc
    rcases e' with q | q | q | q | q
    · rw [q]; exact ⟨_, hz, fun v q => nomatch q⟩
    · rw [q]; exact ⟨_, hTI, fun v q => nomatch q⟩
    · rw [q]; exact ⟨_, hTO, fun v q => nomatch q⟩
    · rw [q]; exact Kd.st_obj h1
    · rw [q]; exact Kd.st_obj h2
  keep := fun i h h' st k => by
    obtain ⟨hz, hTI, ⟨x, y, hTO⟩, h1, h2⟩ := st
    exact ⟨k z (by simp) _ hz, k TI (by simp) _ hTI, ⟨x, y, k TO (by simp) _ hTO⟩, Kd.st_at h1 fun o q => k i1 (by simp) o q, Kd.st_at h2 fun o q => k i2 (by simp) o q⟩
  item := by
    intro X hP hw hK hc i pins s σ H E I hf st hg
    subst hP hw hK
    obtain ⟨hz, hTI, ⟨x0, y0, hTO⟩, h1, h2⟩ := st
    obtain ⟨xs, ys, x, y, hqx, hqy, hx, hy⟩ := hg
    obtain ⟨m1, P1, S1, rfl, D1, s1, b1, r1⟩ := Kd.draws I hc hqx h1 n1
    obtain ⟨m2, P2, S2, rfl, D2, s2, b2, r2⟩ := Kd.draws I hc hqy h2 n2
    have hzl : z < s.heap.objs.size := Heap.lt_size hz
    have hTOl : TO < s.heap.objs.size := Heap.lt_size hTO
    refine wpAny_pyNext_zipD2_item D D1 D2 hz hTI hTO s1 s2 (List.getElem?_eq_some_iff.mp hx).1 (List.getElem?_eq_some_iff.mp hy).1 fun u u2 h' tk pu pu2 z' TO' h1' h2' hT hsz hk => ?_
    refine ⟨_, rfl, wpAny_letOwnedTupleGo_zip (s := { s with heap := h', toks := tk }) z' fun h'' z'' sb => ?_⟩
    obtain ⟨x', hx', ru⟩ := r1 _ _ pu
    obtain ⟨y', hy', ru2⟩ := r2 _ _ pu2
    rw [hx] at hx'; cases hx'
    rw [hy] at hy'; cases hy'
    have hT2 : h''.get? s.heap.objs.size = some { cls := .type "tuple", data := .seq #[u, u2] } := (sb.2 _ (Nat.ne_of_gt hzl)).trans hT
    have new : ObjOk X.prog X.w (upd H s.heap.objs.size (.tup [x, y])) h'' s.heap.objs.size (.tup [x, y]) :=
      ⟨by show 2 ≤ sizeLine; decide, [u, u2], .cons ru (.cons ru2 .nil), ⟨_, hT2, rfl, _, rfl⟩⟩
    have I1 : Inv X pins σ (upd H s.heap.objs.size (.tup [x, y])) { s with heap := h'', toks := tk } :=
      I.turnedNew (t' := tk) (ch := [z, TI, TO, i1, i2]) (fun c o hb q => (sb.2 c (fun q' => hb (by simp [q']))).trans (hk c o (fun q' => hb (by simp [q'])) (fun q' => hb (by simp [q'])) (fun q' => hb (by simp [q'])) (fun q' => hb (by simp [q'])) q)) hf (Nat.le_refl _) new
    have iz1 : i1 ≠ z := fun e => D.zf1 (by rw [e]; exact List.mem_cons_self)
    have iz2 : i2 ≠ z := fun e => D.zf2 (by rw [e]; exact List.mem_cons_self)
    have ex1 := b1 _ _ h1'
    have ex2 := b2 _ _ h2'
    refine ⟨.ref s.heap.objs.size, _, I1, rfl, ⟨_, x, y, rfl, I.hok.fresh (Nat.le_refl _), rfl, fun l hl => by rw [Kd.has_inj I hl hqx]; exact hx, fun l hl => by rw [Kd.has_inj I hl hqy]; exact hy⟩, ⟨z'', ?_, ⟨u, u2, ?_⟩, ?_, ?_⟩, fun c hcm => ?_⟩
    · have hTO1 : TI ≠ TO := D.TITO
      exact (sb.2 _ D.TIz).trans (hk _ _ D.TIz D.TITO D.TIi1 D.TIi2 hTI)
    · exact (sb.2 _ D.TOz).trans TO'
    · exact Kd.st_at ex1 fun o q => (sb.2 _ iz1).trans q
    · exact Kd.st_at ex2 fun o q => (sb.2 _ iz2).trans q
    · have hlt : c < s.heap.objs.size := by
        have e' : c = z ∨ c = TI ∨ c = TO ∨ c = i1 ∨ c = i2 := by simpa using hcm
        rcases e' with q | q | q | q | q
        · rw [q]; exact hzl
        · rw [q]; exact Heap.lt_size hTI
        · rw [q]; exact Heap.lt_size hTO
        · rw [q]; obtain ⟨_, e1, _⟩ := Kd.st_obj h1; exact Heap.lt_size e1
        · rw [q]; obtain ⟨_, e2, _⟩ := Kd.st_obj h2; exact Heap.lt_size e2
      rw [upd_ne (Nat.ne_of_lt hlt)]
      exact (hf c hcm).1
  done := by
    intro X hP hw hK hc i pins s σ H E I hf st hg
    subst hP hw hK
    obtain ⟨hz, hTI, ⟨x0, y0, hTO⟩, h1, h2⟩ := st
    obtain ⟨xs, ys, hqx, hqy, l1, l2, hend⟩ := hg
    obtain ⟨m1, P1, S1, rfl, D1, s1, b1, r1⟩ := Kd.draws I hc hqx h1 n1
    obtain ⟨m2, P2, S2, rfl, D2, s2, b2, r2⟩ := Kd.draws I hc hqy h2 n2
    exact wpAny_pyNext_zipD2_end D D1 D2 hz hTI hTO s1 s2 l1 l2 hend fun h' tk hk => ⟨rfl, I.turnedL (t' := tk) (ch := [z, TI, TO, i1, i2]) (fun c o hb q =>
      hk c o (fun q' => hb (by simp [q'])) (fun q' => hb (by simp [q'])) (fun q' => hb (by simp [q'])) (fun q' => hb (by simp [q'])) q) hf⟩
  self := fun A i s Q E st h => wpAny_pyIter_zip st.1 h
theorem fa_lt {n j : Nat} (h : n + j < n) : False := by omega
theorem fa_ne {n a b : Nat} (h : a ≠ b) : n + a ≠ n + b := by omega
def iZ2 (K : PySem.W.Frag) (ta : TA) : TI := fun σ H R => ta σ H fun vs H1 => ∃ k1 k2 xs ys, vs = [Kd.v k1, Kd.v k2] ∧ k1.has K H1 xs ∧ k2.has K H1 ys ∧ R (Iz2 K k1 k2) H1
theorem pi_z2 {X : Cx} {e e2 : Expr} {ta : TA} {p pos tpos : Pos} {elts : List Expr} {kk : Nat} (hg : Gl X "zip") (hm : X.mg "zip" = none) (ha : PA X [e, e2] ta)
    (hs : starEach [e, e2] X.env = (false, eval e X.env) :: starEach [e2] X.env := by rfl) (hpl : (backTo pos (starEach [e2] X.env)).any (·.1) = false := by rfl) :
    PI X (.Tuple elts kk tpos) (.Call (.Name "zip" p) [e, e2] [] pos) (iZ2 X.K ta) := by
  refine ⟨fun pins s σ H R I h => ?_⟩
  refine Call_ (ld_blt I hg hm PyProof.Rows.boot_zip (PyProof.Rows.callWith_type1 (thn (ha.run pos pins s σ H _ I h) fun us s1 ⟨vs, H1, I1, r1, q1⟩ => ?_) hs hpl))
  obtain ⟨k1, k2, xs, ys, ex, hqx, hqy, q⟩ := q1
  subst ex
  cases r1 with
  | cons r rr =>
    cases rr with
    | cons r' rr =>
      cases rr
      have fresh5 : ∀ c, c ∈ [s1.heap.objs.size + 4, s1.heap.objs.size + 2, s1.heap.objs.size + 3, s1.heap.objs.size, s1.heap.objs.size + 1] → FpOk X pins H1 c := fun c hcm => by
        have hle : s1.heap.objs.size ≤ c := by
          have e' : c = s1.heap.objs.size + 4 ∨ c = s1.heap.objs.size + 2 ∨ c = s1.heap.objs.size + 3 ∨ c = s1.heap.objs.size ∨ c = s1.heap.objs.size + 1 := by simpa using hcm
          rcases e' with z | z | z | z | z
          · rw [z]; exact Nat.le_add_right _ _
          · rw [z]; exact Nat.le_add_right _ _
          · rw [z]; exact Nat.le_add_right _ _
          · rw [z]; exact Nat.le_refl _
          · rw [z]; exact Nat.le_add_right _ _
        exact I1.fpOk hle (I1.hok.fresh hle)
      obtain ⟨o1, B1, g1, hb1, f1, l1⟩ := Kd.begins I1 hqx r
      obtain ⟨o2, B2, g2, hb2, f2, l2⟩ := Kd.begins I1 hqy r'
      refine zip_begins2 g1 g2 hb1 hb2 fun h' hz hTI hTO e1 e2 hsz hk => wpAny_pyIter_zip hz ?_
      have I2 : Inv X pins σ H1 { s1 with heap := h' } := I1.kept (t' := s1.toks) hk
      have far : ∀ {A : List Addr} {j : Nat}, (∀ a ∈ A, a < s1.heap.objs.size) → s1.heap.objs.size + j ∉ A := fun l m => fa_lt (l _ m)
      have far0 : ∀ {A : List Addr}, (∀ a ∈ A, a < s1.heap.objs.size) → s1.heap.objs.size ∉ A := fun l m => Nat.lt_irrefl _ (l _ m)
      refine ⟨s1.heap.objs.size + 4, [s1.heap.objs.size + 4, s1.heap.objs.size + 2, s1.heap.objs.size + 3, s1.heap.objs.size, s1.heap.objs.size + 1], _, _, H1, rfl, I2, turn_z2 (i1 := s1.heap.objs.size) (i2 := s1.heap.objs.size + 1) ?_ (far0 l1) (far l2), ⟨hz, hTI, ⟨_, _, hTO⟩, f1 _ _ e1, f2 _ _ e2⟩, fresh5, q⟩
      have sep : ∀ {j : Nat} {A : List Addr} {i : Nat}, (∀ a ∈ A, a < s1.heap.objs.size) → j ≠ i → s1.heap.objs.size + j ∉ (s1.heap.objs.size + i) :: A := fun l h m => by
        rcases List.mem_cons.mp m with e | m
        · exact h (Nat.add_left_cancel e)
        · exact far l m
      exact ⟨fa_ne (by decide), fa_ne (by decide), fa_ne (by decide), fa_ne (b := 0) (by decide), List.mem_cons_self, sep (i := 0) l1 (by decide), sep (i := 0) l1 (by decide), fa_ne (by decide), List.mem_cons_self, sep l2 (by decide), sep l2 (by decide), sep (j := 0) l2 (by decide), sep (i := 0) l1 (by decide)⟩

/-- the items of what can be gone through -/
def sq : D → Option (List D)
  | .lst ds => some ds
  | .rl ds => some ds
  | .tup ds => some ds
  | .str l => some (l.map fun c => .str [c])
  | _ => none
theorem sq_has {K : PySem.W.Frag} {F H : Hp} (sub : Same F H) : ∀ {d : D} {ds : List D} {v : V}, sq d = some ds → Rep K F d v → ∃ k xs, v = Kd.v k ∧ k.has K F xs ∧ Reps K F ds xs
  | .lst ds', ds, v, e, ⟨a, xs, ev, q, r⟩ => by cases e; exact ⟨.kl a, xs, ev, .of q, r⟩
  | .rl ds', ds, v, e, ⟨a, xs, ev, q, r⟩ => by cases e; exact ⟨.kl a, xs, ev, q, r⟩
  | .tup ds', ds, v, e, ⟨a, xs, ev, q, r⟩ => by cases e; exact ⟨.kt a, xs, ev, q, r⟩
  | .str l, ds, v, e, r => by
    cases e
    refine ⟨.ks (mk l), _, r, rfl, ?_⟩
    rw [mk_cps]
    clear r
    induction l with
    | nil => rfl
    | cons c l ih => exact ⟨_, _, rfl, rfl, ih⟩
  | .non, _, _, e, _ => nomatch e
  | .bl _, _, _, e, _ => nomatch e
  | .int _, _, _, e, _ => nomatch e
  | .ins .., _, _, e, _ => nomatch e
  | .val _, _, _, e, _ => nomatch e
theorem it_pair {K : PySem.W.Frag} {F2 H2 : Hp} {T : Addr} {x y : V} {d e : D} (sb : Same F2 H2) (hT : H2 T = none) (r1 : Rep K F2 d x) (r2 : Rep K F2 e y) :
    ∃ F3, Go [] [] F2 H2 F3 (upd H2 T (.tup [x, y])) ∧ Same F3 (upd H2 T (.tup [x, y])) ∧ Rep K F3 (.tup [d, e]) (.ref T) := by
  obtain ⟨g, sb'⟩ := go_new (o := .tup [x, y]) hT sb
  exact ⟨_, g, sb', ⟨T, _, rfl, .inl (.inl upd_same), ⟨x, _, rfl, Rep.mono g.fz _ _ r1, y, _, rfl, Rep.mono g.fz _ _ r2, rfl⟩⟩⟩
theorem gives_zip {K : PySem.W.Frag} {k1 k2 : Kd} {xs ys : List V} {ds es : List D} {F : Hp} (q1 : k1.has K F xs) (r1 : Reps K F ds xs) (q2 : k2.has K F ys) (r2 : Reps K F es ys) :
    Gives K (Iz2 K k1 k2) (min ds.length es.length) (fun i => .tup [ds.getD i .non, es.getD i .non]) F := fun H2 F2 e1 e2 => by
  have l1 := r1.len
  have l2 := r2.len
  have h1 := Kd.has_mono (e1.trans e2) q1
  have h2 := Kd.has_mono (e1.trans e2) q2
  refine ⟨fun i hi => ?_, ?_, fun i v H3 hi y => ?_⟩
  · exact ⟨xs, ys, xs[i]'(by omega), ys[i]'(by omega), h1, h2, List.getElem?_eq_getElem _, List.getElem?_eq_getElem _⟩
  · exact ⟨xs, ys, h1, h2, by omega, by omega, by omega⟩
  · obtain ⟨T, x, y, rfl, hT, rfl, g1, g2⟩ := y
    obtain ⟨x', hx', rx⟩ := r1.get (getD_of (show i < ds.length by omega))
    obtain ⟨y', hy', ry⟩ := r2.get (getD_of (show i < es.length by omega))
    rw [g1 xs h1] at hx'; cases hx'
    rw [g2 ys h2] at hy'; cases hy'
    exact it_pair e2 hT (Rep.mono e1 _ _ rx) (Rep.mono e1 _ _ ry)

/-! enumerate -/
def Ie (K : PySem.W.Frag) (k : Kd) : It :=
  ⟨fun i H => ∃ (xs : List V) (x : V), k.has K H xs ∧ xs[i]? = some x, fun i H v H' => ∃ T x, v = .ref T ∧ H T = none ∧ H' = upd H T (.tup [.int (i : Nat), x]) ∧ ∀ xs, k.has K H xs → xs[i]? = some x, fun i H => ∃ xs : List V, k.has K H xs ∧ xs.length = i⟩
theorem turn_e {P : Program} {w : World} {K : PySem.W.Frag} {elts : List Expr} {kk : Nat} {tpos : Pos} {k : Kd} {e it : Addr} (hne : e ≠ it) (hit : it ∉ k.ad) (hea : e ∉ k.ad) :
    Turn P w K (.Tuple elts kk tpos) (Ie K k) [e, it] e (fun i h => (∃ old, IsEnum h e it ((i : Nat) : Int) old) ∧ k.st h it i) where
  mem := by simp
  obj := fun i h st b hb => by
    obtain ⟨⟨old, he⟩, h1⟩ := st
    have e' : b = e ∨ b = it := by simpa using hb
    rcases e' with z | z
    · rw [z]; exact ⟨_, he, fun v q => nomatch q⟩
    · rw [z]; exact Kd.st_obj h1
  keep := fun i h h' st k => let ⟨⟨old, he⟩, hi⟩ := st; ⟨⟨old, k e (by simp) _ he⟩, Kd.st_at hi fun o q => k it (by simp) o q⟩
  item := by
    intro X hP hw hK hc i pins s σ H E I hf st hg
    subst hP hw hK
    obtain ⟨⟨old, he⟩, h1⟩ := st
    obtain ⟨xs, x, hq, hx⟩ := hg
    obtain ⟨m1, P1, S1, rfl, D1, s1, b1, r1⟩ := Kd.draws I hc hq h1 hit
    have hel : e < s.heap.objs.size := Heap.lt_size he
    have hil : it < s.heap.objs.size := by obtain ⟨_, q, _⟩ := Kd.st_obj h1; exact Heap.lt_size q
    refine wpAny_pyNext_enum_itemC D1 he s1 (List.getElem?_eq_some_iff.mp hx).1 hne (fun m => by rcases List.mem_cons.mp m with z | z; exact hne z; exact hea z) fun u h' tk pu ho h1' hT hsz hk => ?_
    obtain ⟨x', hx', ru⟩ := r1 _ _ pu
    rw [hx] at hx'; cases hx'
    refine ⟨_, rfl, wpAny_letOwnedTupleGo_enum (s := { s with heap := h', toks := tk + 1 }) ho fun h'' he' sb => ?_⟩
    have hT2 : h''.get? s.heap.objs.size = some { cls := .type "tuple", data := .seq #[.int i tk, u] } := (sb.2 _ (Nat.ne_of_gt hel)).trans hT
    have new : ObjOk X.prog X.w (upd H s.heap.objs.size (.tup [.int (i : Nat), x])) h'' s.heap.objs.size (.tup [.int (i : Nat), x]) :=
      ⟨by show 2 ≤ sizeLine; decide, [.int i tk, u], .cons ⟨_, rfl⟩ (.cons ru .nil), ⟨_, hT2, rfl, _, rfl⟩⟩
    have I1 : Inv X pins σ (upd H s.heap.objs.size (.tup [.int (i : Nat), x])) { s with heap := h'', toks := tk + 1 } :=
      I.turnedNew (ch := [e, it]) (fun b ob hb q => (sb.2 b (fun z => hb (by simp [z]))).trans (hk b ob (fun z => hb (by simp [z])) (fun z => hb (by simp [z])) q)) hf (Nat.le_refl _) new
    refine ⟨.ref s.heap.objs.size, _, I1, rfl, ⟨_, x, rfl, I.hok.fresh (Nat.le_refl _), rfl, fun ys hy => by rw [Kd.has_inj I hy hq]; exact hx⟩, ⟨⟨u, ?_⟩, Kd.st_at (b1 _ _ h1') fun o q => (sb.2 it (Ne.symm hne)).trans q⟩, fun b hb => ?_⟩
    · have e1 : ((i + 1 : Nat) : Int) = (i : Int) + 1 := by omega
      rw [e1]; exact he'
    · have hb' : b < s.heap.objs.size := by
        have e' : b = e ∨ b = it := by simpa using hb
        rcases e' with z | z
        · rw [z]; exact hel
        · rw [z]; exact hil
      rw [upd_ne (Nat.ne_of_lt hb')]
      exact (hf b hb).1
  done := by
    intro X hP hw hK hc i pins s σ H E I hf st hg
    subst hP hw hK
    obtain ⟨⟨old, he⟩, h1⟩ := st
    obtain ⟨xs, hq, rfl⟩ := hg
    obtain ⟨m1, P1, S1, rfl, D1, s1, b1, r1⟩ := Kd.draws I hc hq h1 hit
    obtain ⟨f0, f1, f2, f3, f4, f5⟩ := hf it (by simp)
    exact wpAny_pyNext_enum_endD D1 he s1 fun h' eb => ⟨rfl, I.turned (t' := s.toks) (fun b o hb q => eb b o hb q) f0 f1 f3 f4 f5⟩
  self := fun A i s Q E st h => let ⟨⟨_, he⟩, _⟩ := st; wpAny_pyIter_enum he h
def iE (K : PySem.W.Frag) (ta : TA) : TI := fun σ H R => ta σ H fun vs H1 => ∃ k xs, vs = [Kd.v k] ∧ k.has K H1 xs ∧ R (Ie K k) H1
set_option maxHeartbeats 4000000 in
theorem meets_en1 {v : Value} {o : Obj} {H : Heap → Prop} (B : Begins v o H) :
    Meets (Builtin.«enumerate.__new__» ⟨[.type "enumerate", v], []⟩) (fun _ R s => H s.heap ∧
      R (.ok (.ret (.ref (s.heap.push o).objs.size))) { s with heap := (s.heap.push o).push { cls := .type "enumerate", data := .fields #[.none, .bool false, .ref s.heap.objs.size, rawInt 0, .none, .none] } }) :=
  .of_wp fun prog w A R s h => by
    obtain ⟨hp, g, d, tk, os⟩ := s; obtain ⟨h1, h⟩ := h
    have hsub := sub_enumerate
    have q1 : ∀ {A' : Around} {E : Value → Shared → Prop} {Q : Value → Shared → Prop}, Q (.ref hp.objs.size) ⟨hp.push o, g, d, tk, os⟩ → wpAny (model prog w) A' (pyIter v) Q E ⟨hp, g, d, tk, os⟩ :=
      fun q => B.iter prog w _ _ ⟨hp, g, d, tk, os⟩ _ h1 q
    wp_walk using q1
    refine wpAny_stack_any fun st => wpAny_pure ?_
    split
    · rename_i c _ _ _ _ _
      cases (c == Value.type "enumerate")
      · wp_walk using q1
        exact ⟨_, rfl, h⟩
      · wp_walk using q1
        exact ⟨_, rfl, h⟩
    · wp_walk using q1
      exact ⟨_, rfl, h⟩
section
variable {prog : Program} {w : World} {A : Around} {E : Value → Shared → Prop} {s : Shared}
theorem en_begins {v : Value} {o : Obj} {H : Heap → Prop} {Q : Value → Shared → Prop} (B : Begins v o H) (h1 : H s.heap)
    (h : ∀ h', IsEnum h' (s.heap.objs.size + 1) s.heap.objs.size 0 .none → h'.get? s.heap.objs.size = some o → h'.objs.size = s.heap.objs.size + 2 →
      (∀ b o, s.heap.get? b = some o → h'.get? b = some o) → Q (.ref (s.heap.objs.size + 1)) { s with heap := h' }) :
    wpAny (model prog w) A (call (.type "enumerate") [v]) Q E s := by
  refine callType_new F.called_enumerate (by decide) (F.typeCall_enumerate_1 _) (F.newCall_enumerate_1 _) (fun obj => F.args_object_init_2 obj _) F.entry_enumerate_new
    (meets_en1 B) ⟨h1, ?_⟩
  have hz : (s.heap.push o).objs.size = s.heap.objs.size + 1 := Heap.size_push ..
  show _ ∧ _
  rw [hz]
  have he : IsEnum ((s.heap.push o).push { cls := .type "enumerate", data := .fields #[.none, .bool false, .ref s.heap.objs.size, rawInt 0, .none, .none] }) (s.heap.objs.size + 1) s.heap.objs.size 0 .none := by
    have := Heap.get?_push_size (s.heap.push o) (o := { cls := .type "enumerate", data := .fields #[.none, .bool false, .ref s.heap.objs.size, rawInt 0, .none, .none] }) rfl
    rw [hz] at this; exact this
  refine ⟨⟨_, he, rfl⟩, h _ he (Heap.get?_push_of_some _ (Heap.get?_push_size _ B.free)) (by rw [Heap.size_push, hz]) fun b o x => Heap.get?_push_of_some _ (Heap.get?_push_of_some _ x)⟩
end
theorem pi_e {X : Cx} {e : Expr} {ta : TA} {p pos tpos : Pos} {elts : List Expr} {kk : Nat} (hg : Gl X "enumerate") (hm : X.mg "enumerate" = none) (ha : PA X [e] ta) (hs : starEach [e] X.env = [(false, eval e X.env)] := by rfl) :
    PI X (.Tuple elts kk tpos) (.Call (.Name "enumerate" p) [e] [] pos) (iE X.K ta) := by
  refine ⟨fun pins s σ H R I h => ?_⟩
  refine Call_ (ld_blt I hg hm boot_enumerate (PyProof.Rows.callWith_type1 (thn (ha.run pos pins s σ H _ I h) fun us s1 ⟨vs, H1, I1, r1, q1⟩ => ?_) hs rfl))
  obtain ⟨k, xs, ex, hq, q⟩ := q1
  subst ex
  cases r1 with
  | cons r rr =>
    cases rr
    obtain ⟨o1, B1, g1, hb1, f1, l1⟩ := Kd.begins I1 hq r
    refine en_begins g1 hb1 fun h' he hit hsz hk => wpAny_pyIter_enum he ?_
    have I2 : Inv X pins σ H1 { s1 with heap := h' } := I1.kept (t' := s1.toks) hk
    have far : ∀ {A : List Addr} {j : Nat}, (∀ a ∈ A, a < s1.heap.objs.size) → s1.heap.objs.size + j ∉ A := fun l m => fa_lt (l _ m)
    have far0 : ∀ {A : List Addr}, (∀ a ∈ A, a < s1.heap.objs.size) → s1.heap.objs.size ∉ A := fun l m => Nat.lt_irrefl _ (l _ m)
    refine ⟨s1.heap.objs.size + 1, [s1.heap.objs.size + 1, s1.heap.objs.size], _, _, H1, rfl, I2, turn_e (e := s1.heap.objs.size + 1) (it := s1.heap.objs.size) (Nat.succ_ne_self _) (far0 l1) (far l1), ⟨⟨.none, he⟩, f1 _ _ hit⟩, fun b hb => ?_, q⟩
    have hle : s1.heap.objs.size ≤ b := by
      have e' : b = s1.heap.objs.size + 1 ∨ b = s1.heap.objs.size := by simpa using hb
      rcases e' with z | z
      · rw [z]; exact Nat.le_add_right _ _
      · rw [z]; exact Nat.le_refl _
    exact I1.fpOk hle (I1.hok.fresh hle)
theorem gives_en {K : PySem.W.Frag} {k : Kd} {xs : List V} {ds : List D} {F : Hp} (q1 : k.has K F xs) (r1 : Reps K F ds xs) :
    Gives K (Ie K k) ds.length (fun i => .tup [.int (i : Nat), ds.getD i .non]) F := fun H2 F2 e1 e2 => by
  have l1 := r1.len
  have h1 := Kd.has_mono (e1.trans e2) q1
  refine ⟨fun i hi => ?_, ?_, fun i v H3 hi y => ?_⟩
  · exact ⟨xs, xs[i]'(by omega), h1, List.getElem?_eq_getElem _⟩
  · exact ⟨xs, h1, l1⟩
  · obtain ⟨T, x, rfl, hT, rfl, g1⟩ := y
    obtain ⟨x', hx', rx⟩ := r1.get (getD_of (show i < ds.length by omega))
    rw [g1 xs h1] at hx'; cases hx'
    exact it_pair e2 hT rfl (Rep.mono e1 _ _ rx)
section
variable {X : Cx} {s s1 s2 s3 : S} {a b e : Expr} {x y : D} {ds es : List D} {p pos tpos : Pos} {elts : List Expr} {kk : Nat} {Ψ : S → Nat → (Nat → D) → Prop}
theorem it_zip (hg : Gl X "zip") (hm : X.mg "zip" = none) (ha : EA X s a s1 (.d x)) (hb : EA X s1 b s2 (.d y)) (hx : sq x = some ds := by rfl) (hy : sq y = some es := by rfl)
    (hs : starEach [a, b] X.env = [(false, eval a X.env), (false, eval b X.env)] := by rfl) (hs2 : starEach [b] X.env = [(false, eval b X.env)] := by rfl) (hpl : (backTo pos (starEach [b] X.env)).any (·.1) = false := by rfl) :
    IT X s (.Tuple elts kk tpos) (.Call (.Name "zip" p) [a, b] [] pos) s2 (min ds.length es.length) (fun i => .tup [ds.getD i .non, es.getD i .non]) :=
  ⟨_, pi_z2 hg hm pa_u (by rw [hs, hs2]) hpl, fun σ H F rs as hd R k => (es_cons ha (es_cons hb es_nil (hs := hs2)) (hs := by rw [hs, hs2])) σ H F rs as hd _ fun vs H1 F1 rs1 as1 q1 p1 g1 ⟨v, ws, e, r, v2, ws2, e3, r2, e2⟩ => by
  cases e2; cases e3; cases e
  obtain ⟨k1, xs, rfl, h1, r1⟩ := sq_has q1.sub hx r
  obtain ⟨k2, ys, rfl, h2, r2⟩ := sq_has q1.sub hy r2
  exact ⟨k1, k2, xs, ys, rfl, Kd.has_mono q1.sub h1, Kd.has_mono q1.sub h2, k _ H1 F1 rs1 as1 q1 p1 g1 (gives_zip h1 r1 h2 r2)⟩⟩
theorem it_en (hg : Gl X "enumerate") (hm : X.mg "enumerate" = none) (ha : EA X s a s1 (.d x)) (hx : sq x = some ds := by rfl) (hs : starEach [a] X.env = [(false, eval a X.env)] := by rfl) :
    IT X s (.Tuple elts kk tpos) (.Call (.Name "enumerate" p) [a] [] pos) s1 ds.length (fun i => .tup [.int (i : Nat), ds.getD i .non]) :=
  ⟨_, pi_e hg hm pa_u hs, fun σ H F rs as hd R k => (es_cons ha es_nil (hs := hs)) σ H F rs as hd _ fun vs H1 F1 rs1 as1 q1 p1 g1 ⟨v, ws, e, r, e2⟩ => by
  cases e2; cases e
  obtain ⟨k1, xs, rfl, h1, r1⟩ := sq_has q1.sub hx r
  exact ⟨k1, xs, rfl, Kd.has_mono q1.sub h1, k _ H1 F1 rs1 as1 q1 p1 g1 (gives_en h1 r1)⟩⟩
theorem ix_zip (hg : Gl X "zip") (hm : X.mg "zip" = none) (h : EXs X s [a, b] fun s2 zs => ∃ x y ds es, zs = [.d x, .d y] ∧ sq x = some ds ∧ sq y = some es ∧ Ψ s2 (min ds.length es.length) (fun i => .tup [ds.getD i .non, es.getD i .non]))
    (hs : starEach [a, b] X.env = (false, eval a X.env) :: starEach [b] X.env := by rfl) (hpl : (backTo pos (starEach [b] X.env)).any (·.1) = false := by rfl) :
    IX X s (.Tuple elts kk tpos) (.Call (.Name "zip" p) [a, b] [] pos) Ψ :=
  ⟨_, pi_z2 hg hm pa_u hs hpl, fun σ H F rs as hd R k => h σ H F rs as hd _ fun s2 zs ⟨x, y, ds, es, ez, hx, hy, q⟩ vs H1 F1 rs1 as1 q1 p1 g1 r0 => by
  subst ez
  obtain ⟨v, ws, rfl, r, v2, ws2, rfl, r2, rfl⟩ := r0
  obtain ⟨k1, xs, rfl, h1, r1⟩ := sq_has q1.sub hx r
  obtain ⟨k2, ys, rfl, h2, r2⟩ := sq_has q1.sub hy r2
  exact ⟨k1, k2, xs, ys, rfl, Kd.has_mono q1.sub h1, Kd.has_mono q1.sub h2, k _ _ _ q _ H1 F1 rs1 as1 q1 p1 g1 (gives_zip h1 r1 h2 r2)⟩⟩
end
end Q
namespace Q
open PySem PySem.Spec PyProof.Rows L2
/-! ### isinstance -/
def tyD : D → Option String
  | .non => some "NoneType"
  | .bl _ => some "bool"
  | .int _ => some "int"
  | .str _ => some "str"
  | .lst _ => some "list"
  | .rl _ => some "list"
  | .tup _ => some "tuple"
  | _ => none
theorem tyD_ok {K : PySem.W.Frag} {F H : Hp} (sub : Same F H) {d : D} {v : V} {t : String} (r : Rep K F d v) (h : tyD d = some t) : TyX K H v (.type t) := by
  cases d with
  | non => cases h; cases r; exact .base .non
  | bl b => cases h; cases r; exact .base (.bl _)
  | int i => cases h; cases r; exact .base (.int _)
  | str l => cases h; cases r; exact .base (.str _)
  | lst ds =>
    cases h
    obtain ⟨a, xs, rfl, q, _⟩ := r
    exact .base (.lst (sub _ _ q))
  | rl ds =>
    cases h
    obtain ⟨a, xs, rfl, q, _⟩ := r
    rcases q with (q | ⟨o, q⟩) | ⟨o, its, n, k, c, _⟩
    · exact .base (.lst (sub _ _ q))
    · exact .base (.frz (sub _ _ q))
    · exact .kList k c
  | tup ds =>
    cases h
    obtain ⟨a, xs, rfl, q, _⟩ := r
    rcases q with (q | ⟨o, q⟩) | ⟨o, its, n, k, c, _⟩
    · exact .base (.tup (sub _ _ q))
    · exact .fTuple (sub _ _ q)
    · exact .kTuple k c
  | ins C ns ds => cases h
  | val v => cases h
section
variable {X : Cx} {s s1 s2 s3 : S} {e a b c o : Expr} {x y : Ar} {d : D} {ds : List D} {pos p : Pos} {t : String}
theorem ca_isi {T : String} {r : Bool} (ht : tyD d = some t) (hk : kitB t T = some r) : CaV X s (rIsi X.K) [.d d, .d (.val (.ty T))] (.bl r) := fun σ H F rs as vs hd ⟨v, ws, e, a, v2, ws2, e3, a2, e2⟩ Q k => by
  cases e2; cases e3; cases e; cases a2
  exact ⟨v, _, _, _, r, rfl, .ty T, tyD_ok hd.sub a ht, kit_ty hk, k _ H F go0 hd.sub rfl⟩
theorem isi_list : kitB "list" "list" = some true := by decide +kernel
/-- isinstance(e, T) -/
theorem ee_isi (T : String) (r : Bool) (hm : X.mg "isinstance" = none) (hmT : X.mg nm = none) (he : EA X s e s1 (.d d)) (ht : tyD d = some t) (hk : kitB t T = some r := by decide +kernel) (hv : bootBuiltins nm = some (.type T) := by decide +kernel)
    (hg : Gl X "isinstance" := by rfl) (hgT : Gl X nm := by rfl) (hn : nm ≠ "__name__" := by decide) (hd : (nm == ("__debug__" : Str)) = false := by decide)
    (h1 : starEach [e, .Name nm p] X.env = (false, eval e X.env) :: starEach [.Name nm p] X.env := by rfl) (h2 : starEach [.Name nm p] X.env = (false, eval (.Name nm p) X.env) :: starEach [] X.env := by rfl) (h3 : (backTo pos (starEach [Expr.Name nm p] X.env)).any (·.1) = false := by rfl) :
    EA X s (.Call (.Name "isinstance" apos) [e, .Name nm p] [] pos) s1 (.d (.bl r)) :=
  ea_callB call_isi hg hm (by decide +kernel) (es_cons he (es_cons (ee_ty hgT hmT hv hn hd) es_nil (hs := h2)) (hs := h1)) (ca_isi ht hk) (he := h1) (hpl := h3)
end
/-! ### t * k, k from 1 on -/
theorem tuple_mul1 (l : Addr) (items : Array Value) (n : Nat) (dd : Option Addr) (sl : Array (Option Value)) (x : Int) (u : Tok) (c0 : (decide (x < -(2 ^ 63)) || decide (x ≥ 2 ^ 63)) = false) (c1 : (items.isEmpty || x == 1) = true) :
    Meets (Builtin.«tuple.__mul__» ⟨[.ref l, .int x u], []⟩) (fun _ R s => s.heap.get? l = some { cls := .type "tuple", dict := dd, data := .seq items n, slots := sl } ∧
      R (.ok (.ret (Value.ref l))) s) :=
  .of_wp fun prog w A R s h => by
    obtain ⟨hp, g, d, tk, os⟩ := s
    obtain ⟨hl, h⟩ := h
    have f1 := AutoSeq1.idx_int
    wp_walk using wpAny_loadPart' hl
    refine wpAny_ite_false (decide_eq_false (by rw [c0]; exact Bool.false_ne_true)) ?_; wp_walk using wpAny_loadPart' hl
    exact ⟨_, rfl, h⟩
def rRepU (K : PySem.W.Frag) : R2 := fun x y H Q => rRepT K x y H Q ∨ ∃ l xs, x = .ref l ∧ y = .int 1 ∧ SqT K H l xs ∧ Q (.ref l) H
theorem op_repU {X : Cx} : OpR X (binaryOp .Mult) (rRepU X.K) := by
  intro pins s σ H x y v u Q I rx ry h
  rcases h with h | h
  · exact op_repT pins s σ H x y v u Q I rx ry h
  obtain ⟨l, xs, rfl, rfl, hT, q⟩ := h
  cases rx
  obtain ⟨t, rfl⟩ := ry
  obtain ⟨its, r, ⟨⟨cls, dd, data, sl⟩, ho, hc, n, hd⟩, hs⟩ := I.tuple hT
  simp only at hc hd
  subst hc hd
  have c1 : (its.toArray.isEmpty || (1 : Int) == 1) = true := by simp
  refine wpAny_binaryOp_repeat_ref (T := "tuple") (U := "int") (by decide) ⟨_, ho, rfl⟩ (fun s' => typeIs_int s' 1 t) noFill_tuple_mul F.fills_int_mul F.slot_int_rmul repeat_tuple F.slot_int_index.lookup
    (call_meets F.slot_int_rmul (typeIs_int s 1 t) F.entry_int_rmul (F.args_int_rmul_2 _ _) (int_rmul_tuple 1 t l its.toArray n dd sl)
      ⟨ho, rfl, ⟨_, ho, rfl⟩, call_meets F.slot_tuple_mul ⟨_, ho, rfl⟩ F.entry_tuple_mul (F.args_tuple_mul_2 _ _) (tuple_mul1 l its.toArray n dd sl 1 t (by decide) c1) ⟨ho, ?_⟩⟩)
  exact ⟨.ref l, H, I, rfl, q⟩
theorem ov_repU {X : Cx} {s : S} {ds : List D} {i : Int} {k : Nat} (hk : i = (k : Int)) (h0 : ds ≠ []) (h1 : 1 ≤ k) (h2 : k ≤ 1000) (h3 : ds.length ≤ 1000) : OpV X s (rRepU X.K) (.d (.tup ds)) (.d (.int i)) (.tup (List.replicate k ds).flatten) := fun σ H F rs as v w hd a b Q c => by
  by_cases h : 2 ≤ k
  · exact .inl (ov_repT hk h0 h h2 h3 σ H F rs as v w hd a b Q c)
  · obtain rfl : k = 1 := by omega
    subst hk
    obtain ⟨l, xs, rfl, q, r⟩ := a
    cases b
    refine .inr ⟨l, xs, rfl, rfl, same_t hd.sub q, c _ H F go0 hd.sub ⟨l, xs, rfl, q, by simpa using r⟩⟩

/-! ### contracts of functions of data alone -/
/-- what data go in, what comes -/
def pu {ι : Type} (args : ι → List D) (pre : ι → Prop) (val : ι → T) : Ct := ⟨ι, fun i => (args i).map .d, pre, fun i r outs => outs = [] ∧ r = val i⟩
theorem agsT_d : ∀ ds : List D, agsT (ds.map Ag.d) = []
  | [] => rfl
  | d :: ds => by show agsT (ds.map Ag.d) = _; exact agsT_d ds
theorem slots0_d : ∀ (ds : List D) (k : Nat), slots0 (ds.map Ag.d) k = ds.map Sl.d
  | [], _ => rfl
  | d :: ds, k => by show Sl.d d :: slots0 (ds.map Ag.d) k = _; rw [slots0_d ds k]; rfl
def rtp (t : T) : Ds := { nx := fun _ => t = .fz .non, rt := fun s x => (∃ d, x = .d d ∧ t = .fz d) ∨ ∃ k, x = .o k ∧ s.μ[k]? = some t }
section
variable {P : Program} {w : World} {K : PySem.W.Frag} {mg : Str → Option Value} {base : Heap}
theorem rtp_rets {ι : Type} {args : ι → List D} {pre : ι → Prop} {val : ι → T} {i : ι} {X : Cx} {s : S} {b : List Stmt} (h : WS X s b (rtp (val i))) : WS X s b (rets (agsT ((pu args pre val).args i)).length ((pu args pre val).post i)) := by
  have e : (agsT ((pu args pre val).args i)).length = 0 := by rw [show agsT ((pu args pre val).args i) = [] from agsT_d _]; rfl
  rw [e]
  refine WS.mono h ?_ ?_ (fun _ z => z) fun _ z => z
  · intro s1 q
    exact ⟨val i, [], ⟨rfl, rfl⟩, rfl, Nat.zero_le _, q⟩
  · intro s1 x q
    rcases q with ⟨d, rfl, q⟩ | ⟨k, rfl, q⟩
    · exact ⟨val i, [], ⟨rfl, rfl⟩, rfl, Nat.zero_le _, q⟩
    · exact ⟨val i, [], ⟨rfl, rfl⟩, rfl, Nat.zero_le _, Nat.zero_le _, q⟩
theorem fn_pu {ι : Type} {args : ι → List D} {pre : ι → Prop} {val : ι → T} {x qual : Str} {st : Stmt} {f : Addr} {fd : FuncData} {N ps : List Str} {k : Nat} (F : Fun K x qual st f fd) (S : FnScope N ps (defScope st)) (hl : ∀ i, (args i).length = ps.length)
    (hb : ∀ (cdv : Value) (A : Around) (outer : List Env) (s : Shared) (H : Hp) (E : XK), Room k (A.deeper (PyProof.Rows.envOfC qual (defScope st) s.heap.objs.size f cdv)) → ∀ i, pre i →
      WS (cxOf CX0 P w K mg base N qual (defScope st) f cdv A outer s H E).nox ⟨(args i).map Sl.d ++ List.replicate (N.length - ps.length) .un, []⟩ (defBody st) (rtp (val i))) : FnOk P w K mg base CX0 (k + 1) f fd ps (spOf K (pu args pre val)) := by
  refine fn_ok F S (fun i => by show ((args i).map Ag.d).length = _; rw [List.length_map]; exact hl i) fun cdv A outer s H E hr i hp => rtp_rets ?_
  have := hb cdv A outer s H E hr i hp
  unfold st0
  rw [show (pu args pre val).args i = (args i).map Ag.d from rfl, slots0_d, agsT_d, List.length_map, hl i]
  exact this
end
end Q
namespace Q
open PySem PySem.Spec PyProof.Rows L2
theorem allD_ag {μ : List T} : ∀ {xs : List Ar} {ds : List D}, allD xs = some ds → agOf μ xs = some (ds.map Ag.d) ∧ oks xs = []
  | [], ds, h => by cases h; exact ⟨rfl, rfl⟩
  | .d d :: xs, ds, h => by
    have h' : (allD xs).map (d :: ·) = some ds := h
    cases e : allD xs with
    | none => rw [e] at h'; cases h'
    | some es =>
      rw [e] at h'; cases h'
      obtain ⟨h1, h2⟩ := allD_ag e
      exact ⟨by show (agOf μ xs).map _ = _; rw [h1]; rfl, h2⟩
  | .o k :: xs, ds, h => nomatch h
section
variable {X : Cx} {s s0 s1 s2 s3 : S} {e a b c o : Expr} {es : List Expr} {x y : Ar} {xs : List Ar} {d : D} {ds : List D} {t : T} {pos p apos : Pos} {nm : Str} {n k : Nat} {ι : Type} {args : ι → List D} {pre : ι → Prop} {val : ι → T} {Φ : Ct}
theorem ea_of_ex (h : EX X s e fun s2 y => s2 = s1 ∧ y = x) : EA X s e s1 x := fun σ H F rs as hd Q k0 => h σ H F rs as hd Q fun s2 x ⟨e1, e2⟩ v H' F' rs' as' h1 h2 h3 h4 => by subst e1 e2; exact k0 v H' F' rs' as' h1 h2 h3 h4
/-- a call of a function of data: data come -/
theorem ea_pu (C : Cl X.prog X.w X.K X.mg X.base nm n k (pu args pre val)) (hr : Room k X.A) (i : ι) (h : EAs X s (e :: es) s1 xs) (hp : pre i) (hv : val i = .fz d := by rfl) (ha : allD xs = some (args i) := by rfl)
    (hg : Gl X nm := by rfl) (hx : X.xe = fun _ _ => False := by rfl) (hdb : (nm == ("__debug__" : Str)) = false := by decide) (he : starEach (e :: es) X.env = (false, eval e X.env) :: starEach es X.env := by rfl) (hpl : (backTo pos (starEach es X.env)).any (·.1) = false := by rfl) :
    EA X s (.Call (.Name nm p) (e :: es) [] pos) s1 (.d d) :=
  ea_cl (Φ := pu args pre val) C hr h i hp (fun r outs ⟨h1, h2⟩ => ⟨h1, h2.trans hv⟩) ha rfl hg hx hdb he hpl
/-- .. an owned object comes -/
theorem ea_puT (C : Cl X.prog X.w X.K X.mg X.base nm n k (pu args pre val)) (hr : Room k X.A) (i : ι) (h : EAs X s (e :: es) s1 xs) (hp : pre i) (hv : val i = t := by rfl) (ha : allD xs = some (args i) := by rfl)
    (hg : Gl X nm := by rfl) (hx : X.xe = fun _ _ => False := by rfl) (hdb : (nm == ("__debug__" : Str)) = false := by decide) (he : starEach (e :: es) X.env = (false, eval e X.env) :: starEach es X.env := by rfl) (hpl : (backTo pos (starEach es X.env)).any (·.1) = false := by rfl) :
    EA X s (.Call (.Name nm p) (e :: es) [] pos) (s1.add t) (.o s1.μ.length) := ea_of_ex (ex_cl (Φ := pu args pre val) C hr (xs_of h (by
      obtain ⟨h1, h2⟩ := allD_ag (μ := s1.μ) ha
      refine ⟨i, h1, hp, by rw [h2]; exact .nil, fun r outs ⟨q, _⟩ => by rw [q, h2]; rfl, fun r outs ⟨q, q2⟩ => .inr ?_⟩
      subst q q2
      rw [h2]
      exact ⟨by rw [hv]; rfl, rfl⟩)) hg hx hdb he hpl)
/-- a method of a frozen instance, a function of data -/
theorem ea_mpu {C : Addr} {ns : List Str} {fs : List D} {pl : Sem Bool} (M : Mc X.prog X.w X.K X.mg X.base C nm n k (pu args pre val)) (cl : Cls X.K C) (hr : Room k X.A) (ho : EA X s o s0 (.d (.ins C ns fs))) (i : ι) (h : EAs X s0 (e :: es) s1 xs) (hp : pre i) (hv : val i = .fz d := by rfl) (ha : (allD xs).map (.ins C ns fs :: ·) = some (args i) := by rfl) (hn : nm ∉ ns := by decide +kernel)
    (hx : X.xe = fun _ _ => False := by rfl) (h4 : starEach (e :: es) X.env = (false, eval e X.env) :: starEach es X.env := by rfl) (h5 : (backTo pos (starEach es X.env)).any (·.1) = false := by rfl)
    (ht : eval (.Call (.Attribute o nm apos) (e :: es) [] pos) X.env = (do
      let ov ← eval o X.env
      standAt apos.atName
      let (f, first) ← holding [ov] (getMethod ov nm pl)
      callWith pos f first (backTo pos (starEach (e :: es) X.env)) (backToKw pos (keywordEach [] X.env))) := by rfl) :
    EA X s (.Call (.Attribute o nm apos) (e :: es) [] pos) s1 (.d d) := ea_of_ex (ex_me (Φ := pu args pre val) (pl := pl) M cl hr (ex_of ho ⟨ns, fs, rfl, hn, xs_of h (by
      cases ea : allD xs with
      | none => rw [ea] at ha; cases ha
      | some es' =>
        obtain ⟨h1, h2⟩ := allD_ag (μ := s1.μ) ea
        rw [ea] at ha
        have ha' : D.ins C ns fs :: es' = args i := Option.some.inj ha
        refine ⟨i, ?_, hp, by rw [h2]; exact .nil, fun r outs ⟨q, _⟩ => by rw [q, h2]; rfl, fun r outs ⟨q, q2⟩ => .inl ⟨d, q2.trans hv, ?_⟩⟩
        · show (agOf s1.μ xs).map _ = some ((args i).map Ag.d)
          rw [h1, ← ha']; rfl
        · subst q
          rw [h2]
          exact ⟨rfl, rfl⟩)⟩) hx h4 h5 ht)
theorem ea_mpu0 {C : Addr} {ns : List Str} {fs : List D} {pl : Sem Bool} (M : Mc X.prog X.w X.K X.mg X.base C nm n k (pu args pre val)) (cl : Cls X.K C) (hr : Room k X.A) (ho : EA X s o s1 (.d (.ins C ns fs))) (i : ι) (hp : pre i) (hv : val i = .fz d := by rfl) (ha : args i = [.ins C ns fs] := by rfl) (hn : nm ∉ ns := by decide +kernel)
    (hx : X.xe = fun _ _ => False := by rfl)
    (ht : eval (.Call (.Attribute o nm apos) [] [] pos) X.env = (do
      let ov ← eval o X.env
      standAt apos.atName
      let (f, first) ← holding [ov] (getMethod ov nm pl)
      callWith pos f first (backTo pos (starEach [] X.env)) (backToKw pos (keywordEach [] X.env))) := by rfl) :
    EA X s (.Call (.Attribute o nm apos) [] [] pos) s1 (.d d) := ea_of_ex (ex_me0 (Φ := pu args pre val) (pl := pl) M cl hr (ex_of ho ⟨ns, fs, rfl, hn, i, by show _ = (args i).map Ag.d; rw [ha]; rfl, hp, fun r outs ⟨q, q2⟩ => ⟨q, .inl ⟨d, q2.trans hv, rfl, rfl⟩⟩⟩) hx ht)
theorem ea_mpu0T {C : Addr} {ns : List Str} {fs : List D} {pl : Sem Bool} (M : Mc X.prog X.w X.K X.mg X.base C nm n k (pu args pre val)) (cl : Cls X.K C) (hr : Room k X.A) (ho : EA X s o s1 (.d (.ins C ns fs))) (i : ι) (hp : pre i) (hv : val i = t := by rfl) (ha : args i = [.ins C ns fs] := by rfl) (hn : nm ∉ ns := by decide +kernel)
    (hx : X.xe = fun _ _ => False := by rfl)
    (ht : eval (.Call (.Attribute o nm apos) [] [] pos) X.env = (do
      let ov ← eval o X.env
      standAt apos.atName
      let (f, first) ← holding [ov] (getMethod ov nm pl)
      callWith pos f first (backTo pos (starEach [] X.env)) (backToKw pos (keywordEach [] X.env))) := by rfl) :
    EA X s (.Call (.Attribute o nm apos) [] [] pos) (s1.add t) (.o s1.μ.length) := ea_of_ex (ex_me0 (Φ := pu args pre val) (pl := pl) M cl hr (ex_of ho ⟨ns, fs, rfl, hn, i, by show _ = (args i).map Ag.d; rw [ha]; rfl, hp, fun r outs ⟨q, q2⟩ => ⟨q, .inr ⟨by rw [q2, hv]; rfl, rfl⟩⟩⟩) hx ht)
end
end Q
namespace Q
open PySem PySem.Spec PyProof.Rows L2
section
variable {X : Cx} {s s1 s2 s3 : S} {elt iter tg : Expr} {scope : Scope} {pos : Pos} {n : Nat} {it : Nat → D} {G : TG} {is : List Nat} {g : D → List Sl → Option (List Sl)} {α : Type} {D' : Ds} {nm : Str}
/-- what a comprehension's element gives, item by item -/
def EltP (X : Cx) (s : S) (scope : Scope) (elt : Expr) (g : D → List Sl → Option (List Sl)) (vs : List Nat) (d y : D) : Prop :=
  ∃ ρ', g d (wipeS s.ρ vs) = some ρ' ∧ ∃ ρ2, ∀ (sh : Shared) (H0 : Hp) (C : Addr) (cl : List (Str × Addr)) (fp : List Addr), EA (X.blk sh H0 scope (PySem.compEnvC scope cl C X.env) fp) ⟨ρ', s.μ⟩ elt ⟨ρ2, s.μ⟩ (.d y)
theorem take_succ_map {β : Type} {xs : List α} {f : α → β} {i : Nat} {a : α} (h : xs[i]? = some a) : (xs.take (i + 1)).map f = (xs.take i).map f ++ [f a] := by
  rw [List.take_add_one, h]; simp
theorem lcTurnP {f : α → D} {item : α → D} {xs : List α} {vs : List Nat} (hit : ∀ i a, xs[i]? = some a → it i = item a) (he : ∀ a ∈ xs, EltP X s1 scope elt g vs (item a) (f a)) (i : Nat) (hi : i < xs.length) :
    LcTurn X.K g tYes (bE X scope elt) (wipeS s1.ρ vs) (it i) s1.μ s1.μ ((xs.take i).map f) ((xs.take (i + 1)).map f) := by
  have hx : xs[i]? = some xs[i] := List.getElem?_eq_getElem hi
  obtain ⟨ρ', h1, ρ2, h2⟩ := he xs[i] (List.getElem_mem hi)
  rw [← hit i _ hx] at h1
  exact ⟨ρ', true, ⟨ρ', s1.μ⟩, h1, tts_yes, fun _ => ⟨⟨ρ2, s1.μ⟩, f xs[i], tes_b h2, rfl, take_succ_map hx⟩, fun z => nomatch z⟩
theorem ea_lcP (xs : List α) (item f : α → D) (own : List (Str × Nat)) (hi : IT X s tg iter s1 n it) (hn : n = xs.length) (hit : ∀ i a, xs[i]? = some a → it i = item a) (hN : X.N.Nodup) (ok : BlkOk X.N X.env.scope scope own)
    (hG : ∀ (sh : Shared) (H0 : Hp) (C : Addr) (cl : List (Str × Addr)) (fp : List Addr), PG (X.blk sh H0 scope (PySem.compEnvC scope cl C X.env) fp) tg G) (hS : GS X.K G is g)
    (he : ∀ a ∈ xs, EltP X s1 scope elt g (own.map (·.2)) (item a) (f a)) (hl : xs.length ≤ 16777216)
    (hv : ∀ i ∈ is, i ∈ own.map (·.2) := by decide) (hc : X.calm = true := by rfl) (hf : ∀ x, foldedSetIterable iter X.env x = pure x := by intro _; rfl) :
    EA X s (.ListComp elt [⟨tg, iter, [], 0⟩] scope pos) (s1.add (.fl (xs.map f))) (.o s1.μ.length) := by
  have e : (xs.take n).map f = xs.map f := by rw [hn, List.take_length]
  have := ea_lc (t := tYes) (ifs := []) (pos := pos) own (fun _ => s1.μ) (fun i => (xs.take i).map f) hi hN ok hG hS (fun _ _ _ _ _ => pts_nil) (by rw [hn]; exact hl) rfl rfl (fun _ => rfl) (fun i h => lcTurnP hit he i (by rw [← hn]; exact h)) hv hc hf
  rw [e] at this
  exact this
/-- .. frozen at once -/
theorem ee_lcP (xs : List α) (item f : α → D) (own : List (Str × Nat)) (hi : IT X s tg iter s1 n it) (hn : n = xs.length) (hit : ∀ i a, xs[i]? = some a → it i = item a) (hN : X.N.Nodup) (ok : BlkOk X.N X.env.scope scope own)
    (hG : ∀ (sh : Shared) (H0 : Hp) (C : Addr) (cl : List (Str × Addr)) (fp : List Addr), PG (X.blk sh H0 scope (PySem.compEnvC scope cl C X.env) fp) tg G) (hS : GS X.K G is g)
    (he : ∀ a ∈ xs, EltP X s1 scope elt g (own.map (·.2)) (item a) (f a)) (hl : xs.length ≤ 16777216) (lw : low s1.μ.length s1.ρ = true := by rfl) (hlen : s.μ.length ≤ s1.μ.length := by exact Nat.le_refl _)
    (hv : ∀ i ∈ is, i ∈ own.map (·.2) := by decide) (hc : X.calm = true := by rfl) (hf : ∀ x, foldedSetIterable iter X.env x = pure x := by intro _; rfl) :
    EA X s (.ListComp elt [⟨tg, iter, [], 0⟩] scope pos) s1 (.d (.lst (xs.map f))) := ee_fl (ea_lcP xs item f own hi hn hit hN ok hG hS he hl hv hc hf) lw hlen
theorem w1_setLcP (i : Nat) {py spos : Pos} (xs : List α) (item f : α → D) (own : List (Str × Nat)) (hi : IT X s tg iter s1 n it) (hn : n = xs.length) (hit : ∀ i a, xs[i]? = some a → it i = item a) (hN : X.N.Nodup) (hsw : swapsWith (.ListComp elt [⟨tg, iter, [], 0⟩] scope pos) (some (.Name nm py)) spos.line X.env = pure true) (ok : BlkOk X.N X.env.scope scope own)
    (hG : ∀ (sh : Shared) (H0 : Hp) (C : Addr) (cl : List (Str × Addr)) (fp : List Addr), PG (X.blk sh H0 scope (PySem.compEnvC scope cl C X.env) fp) tg G) (hS : GS X.K G is g)
    (he : ∀ a ∈ xs, EltP X s1 scope elt g (own.map (·.2)) (item a) (f a)) (hl : xs.length ≤ 16777216)
    (k : D'.nx ⟨s1.ρ.set i (.o s1.μ.length), s1.μ ++ [.fl (xs.map f)]⟩)
    (hv : ∀ i ∈ is, i ∈ own.map (·.2) := by decide) (hy : X.N[i]? = some nm := by rfl) (hyl : X.env.scope.names.lookup nm = some .local := by rfl) (hc : X.calm = true := by rfl) (hf : ∀ x, foldedSetIterable iter X.env x = pure x := by intro _; rfl) :
    W1 X s (.Assign [.Name nm py] (.ListComp elt [⟨tg, iter, [], 0⟩] scope pos) spos) D' := by
  have e : (xs.take n).map f = xs.map f := by rw [hn, List.take_length]
  rw [← e] at k
  exact w1_setLc (t := tYes) (ifs := []) i own (fun _ => s1.μ) (fun i => (xs.take i).map f) hi hN hsw ok hG hS (fun _ _ _ _ _ => pts_nil) (by rw [hn]; exact hl) rfl rfl (fun _ => rfl) (fun i h => lcTurnP hit he i (by rw [← hn]; exact h)) k hv hy hyl hc hf
end
theorem getD_some {α : Type} {xs : List α} {i : Nat} {a d : α} (h : xs[i]? = some a) : xs.getD i d = a := by simp [List.getD, h]
theorem getD_map {α : Type} {xs : List α} {item : α → D} {i : Nat} {a : α} {d : D} (h : xs[i]? = some a) : (xs.map item).getD i d = item a := by simp [List.getD, h]
end Q
namespace Q
open PySem PySem.Spec PyProof.Rows L2
theorem Room.eq {k : Nat} {A : Around} (r : Room k A) : A.units + 64 < cLine := Nat.lt_of_le_of_lt (by omega) r.un
theorem Room.isin {k : Nat} {A : Around} (r : Room k A) : A.units + 65 < cLine := Nat.lt_of_le_of_lt (by omega) r.un
/-! ### short words for built-ins -/
section
variable {X : Cx} {s s1 s2 s3 : S} {a b c o e e2 : Expr} {x y : Ar} {d d2 : D} {ds : List D} {pos p : Pos} {l m : List Nat} {i j : Int}
section
variable (he : EA X s e s1 x) (hg : Gl X "len" := by rfl) (h1 : starEach [e] X.env = [(false, eval e X.env)] := by rfl)
theorem e_len (hm : X.mg "len" = none) (he : EA X s e s1 x) (h : Sq s1 x ds := by rfl) (hg : Gl X "len" := by rfl) (h1 : starEach [e] X.env = [(false, eval e X.env)] := by rfl) :
    EA X s (.Call (.Name "len" p) [e] [] pos) s1 (.d (.int (ds.length : Int))) := ea_callB call_len_seq hg hm (by decide +kernel) (es_cons he es_nil (hs := h1)) (ca_len h) (he := h1)
theorem e_lenS (hm : X.mg "len" = none) (he : EA X s e s1 (.d (.str l))) (h : l.length ≤ 16777216) (hg : Gl X "len" := by rfl) (h1 : starEach [e] X.env = [(false, eval e X.env)] := by rfl) :
    EA X s (.Call (.Name "len" p) [e] [] pos) s1 (.d (.int (l.length : Int))) := ea_callB call_len_str hg hm (by decide +kernel) (es_cons he es_nil (hs := h1)) (ca_lenS h) (he := h1)
theorem e_all {bs : List Bool} (hm : X.mg "all" = none) (he : EA X s e s1 x) (h : Ls s1 x (bs.map D.bl) := by rfl) (hg : Gl X "all" := by rfl) (hc : X.calm = true := by rfl) (h1 : starEach [e] X.env = [(false, eval e X.env)] := by rfl) :
    EA X s (.Call (.Name "all" p) [e] [] pos) s1 (.d (.bl (bs.all id))) := ea_callB (cr_all hc) hg hm (by decide +kernel) (es_cons he es_nil (hs := h1)) (ca_all h rfl) (he := h1)
theorem e_any {bs : List Bool} (hm : X.mg "any" = none) (he : EA X s e s1 x) (h : Ls s1 x (bs.map D.bl) := by rfl) (hg : Gl X "any" := by rfl) (hc : X.calm = true := by rfl) (h1 : starEach [e] X.env = [(false, eval e X.env)] := by rfl) :
    EA X s (.Call (.Name "any" p) [e] [] pos) s1 (.d (.bl (bs.any id))) := ea_callB (cr_any hc) hg hm (by decide +kernel) (es_cons he es_nil (hs := h1)) (ca_any h rfl) (he := h1)
theorem e_sum {is : List Int} (hm : X.mg "sum" = none) (he : EA X s e s1 x) (h : Ls s1 x (is.map D.int) := by rfl) (hg : Gl X "sum" := by rfl) (hc : X.calm = true := by rfl) (h1 : starEach [e] X.env = [(false, eval e X.env)] := by rfl) :
    EA X s (.Call (.Name "sum" p) [e] [] pos) s1 (.d (.int is.sum)) := ea_callB (cr_sum hc) hg hm (by decide +kernel) (es_cons he es_nil (hs := h1)) (ca_sum h rfl) (he := h1)
theorem e_intB {t : Bool} (hm : X.mg "int" = none) (he : EA X s e s1 (.d (.bl t))) (hg : Gl X "int" := by rfl) (h1 : starEach [e] X.env = [(false, eval e X.env)] := by rfl) :
    EA X s (.Call (.Name "int" p) [e] [] pos) s1 (.d (.int (if t then 1 else 0))) := ea_callT call_int1 hg hm (by decide +kernel) (es_cons he es_nil (hs := h1)) ca_intB (he := h1)
theorem e_tuple (hm : X.mg "tuple" = none) (he : EA X s e s1 x) (h : Ls s1 x ds := by rfl) (hg : Gl X "tuple" := by rfl) (h1 : starEach [e] X.env = [(false, eval e X.env)] := by rfl) :
    EA X s (.Call (.Name "tuple" p) [e] [] pos) s1 (.d (.tup ds)) := ea_callT call_tuple_of hg hm (by decide +kernel) (es_cons he es_nil (hs := h1)) (ca_tuple h) (he := h1)
theorem e_list (hm : X.mg "list" = none) (he : EA X s e s1 x) (h : Sq s1 x ds := by rfl) (hg : Gl X "list" := by rfl) (h1 : starEach [e] X.env = [(false, eval e X.env)] := by rfl) :
    EA X s (.Call (.Name "list" p) [e] [] pos) (s1.add (.fl ds)) (.o s1.μ.length) := ea_callTL call_list_of hg hm (by decide +kernel) (es_cons he es_nil (hs := h1)) (cl_list h) (he := h1)
end
theorem e_max (hm : X.mg "max" = none) (ha : EA X s a s1 (.d (.int i))) (hb : EA X s1 b s2 (.d (.int j))) (hg : Gl X "max" := by rfl) (hc : X.calm = true := by rfl) (h1 : starEach [a, b] X.env = (false, eval a X.env) :: starEach [b] X.env := by rfl) (h2 : starEach [b] X.env = [(false, eval b X.env)] := by rfl) (h3 : (backTo pos (starEach [b] X.env)).any (·.1) = false := by rfl) :
    EA X s (.Call (.Name "max" p) [a, b] [] pos) s2 (.d (.int (max i j))) := ea_callB (call_max2 hc) hg hm (by decide +kernel) (es_cons ha (es_cons hb es_nil (hs := h2)) (hs := h1)) ca_max (he := h1) (hpl := h3)
theorem e_min (hm : X.mg "min" = none) (ha : EA X s a s1 (.d (.int i))) (hb : EA X s1 b s2 (.d (.int j))) (hg : Gl X "min" := by rfl) (hc : X.calm = true := by rfl) (h1 : starEach [a, b] X.env = (false, eval a X.env) :: starEach [b] X.env := by rfl) (h2 : starEach [b] X.env = [(false, eval b X.env)] := by rfl) (h3 : (backTo pos (starEach [b] X.env)).any (·.1) = false := by rfl) :
    EA X s (.Call (.Name "min" p) [a, b] [] pos) s2 (.d (.int (min i j))) := ea_callB (call_min2 hc) hg hm (by decide +kernel) (es_cons ha (es_cons hb es_nil (hs := h2)) (hs := h1)) ca_min (he := h1) (hpl := h3)
theorem atN {α : Type} {xs : List α} {k : Nat} {z : α} (h : xs[k]? = some z) : atI xs (k : Int) = some z := by
  have hk := (List.getElem?_eq_some_iff.mp h).1
  unfold atI ixN
  rw [if_pos (by omega), if_pos (by omega)]
  simpa using h
theorem ixM {n k : Nat} (h : k < n) : ixN n (k : Int) = some k := by
  unfold ixN
  rw [if_pos (by omega), if_pos (by omega)]
  simp
/-- x[i], x a list (owned or frozen) -/
theorem e_ixL (ha : EA X s a s1 x) (hb : EA X s1 b s2 (.d (.int i))) (hi : atI ds i = some d) (h : Ls s2 x ds := by rfl) (hs : PlainIx b := by exact fun _ _ => rfl) : EA X s (.Subscript a b pos) s2 (.d d) := ee_ix ix_list ha hb (ov_ixL h hi) hs
theorem e_ixT (ha : EA X s a s1 (.d (.tup ds))) (hb : EA X s1 b s2 (.d (.int i))) (hi : atI ds i = some d) (hs : PlainIx b := by exact fun _ _ => rfl) : EA X s (.Subscript a b pos) s2 (.d d) := ee_ix ix_tup ha hb (ov_ixT hi) hs
theorem e_ixS {k : Nat} (ha : EA X s a s1 (.d (.str l))) (hb : EA X s1 b s2 (.d (.int i))) (hi : atI l i = some k) (hz : l.length ≤ 16777216) (hs : PlainIx b := by exact fun _ _ => rfl) : EA X s (.Subscript a b pos) s2 (.d (.str [k])) := ee_ix ix_str ha hb (ov_ixS hz hi) hs
theorem e_add (ha : EA X s a s1 (.d (.int i))) (hb : EA X s1 b s2 (.d (.int j))) : EA X s (.BinOp a .Add b pos) s2 (.d (.int (i + j))) := ea_op op_add ha hb ov_add
theorem e_sub (ha : EA X s a s1 (.d (.int i))) (hb : EA X s1 b s2 (.d (.int j))) : EA X s (.BinOp a .Sub b pos) s2 (.d (.int (i - j))) := ea_op op_sub ha hb ov_sub
theorem e_cat (ha : EA X s a s1 (.d (.str l))) (hb : EA X s1 b s2 (.d (.str m))) (h : l.length + m.length ≤ 16777216) : EA X s (.BinOp a .Add b pos) s2 (.d (.str (l ++ m))) := ea_op op_add_str ha hb (ov_cat h)
theorem t_lt (ha : EA X s a s1 (.d (.int i))) (hb : EA X s1 b s2 (.d (.int j))) : ET X s (.Compare a [.Lt] [b] pos) s2 (decide (i < j)) := et_cmp op_lt ha hb ov_lt
theorem t_le (ha : EA X s a s1 (.d (.int i))) (hb : EA X s1 b s2 (.d (.int j))) : ET X s (.Compare a [.LtE] [b] pos) s2 (decide (i ≤ j)) := et_cmp op_le ha hb ov_le
theorem t_gt (ha : EA X s a s1 (.d (.int i))) (hb : EA X s1 b s2 (.d (.int j))) : ET X s (.Compare a [.Gt] [b] pos) s2 (decide (j < i)) := et_cmp op_gt ha hb ov_gt
theorem t_ge (ha : EA X s a s1 (.d (.int i))) (hb : EA X s1 b s2 (.d (.int j))) : ET X s (.Compare a [.GtE] [b] pos) s2 (decide (j ≤ i)) := et_cmp op_ge ha hb ov_ge
theorem t_eqI (ha : EA X s a s1 (.d (.int i))) (hb : EA X s1 b s2 (.d (.int j))) : ET X s (.Compare a [.Eq] [b] pos) s2 (decide (i = j)) := et_cmp op_eq ha hb ov_eqI
theorem t_neI (ha : EA X s a s1 (.d (.int i))) (hb : EA X s1 b s2 (.d (.int j))) : ET X s (.Compare a [.NotEq] [b] pos) s2 (!decide (i = j)) := et_cmp op_ne ha hb ov_neI
theorem t_eqS (ha : EA X s a s1 (.d (.str l))) (hb : EA X s1 b s2 (.d (.str m))) : ET X s (.Compare a [.Eq] [b] pos) s2 (decide (l = m)) := et_cmp op_eq ha hb ov_eqS
theorem t_neS (ha : EA X s a s1 (.d (.str l))) (hb : EA X s1 b s2 (.d (.str m))) : ET X s (.Compare a [.NotEq] [b] pos) s2 (!decide (l = m)) := et_cmp op_ne ha hb ov_neS
theorem e_eqI (ha : EA X s a s1 (.d (.int i))) (hb : EA X s1 b s2 (.d (.int j))) : EA X s (.Compare a [.Eq] [b] pos) s2 (.d (.bl (decide (i = j)))) := ea_cmp op_eq ha hb ov_eqI
theorem e_leI (ha : EA X s a s1 (.d (.int i))) (hb : EA X s1 b s2 (.d (.int j))) : EA X s (.Compare a [.LtE] [b] pos) s2 (.d (.bl (decide (i ≤ j)))) := ea_cmp op_le ha hb ov_le
theorem e_ltI (ha : EA X s a s1 (.d (.int i))) (hb : EA X s1 b s2 (.d (.int j))) : EA X s (.Compare a [.Lt] [b] pos) s2 (.d (.bl (decide (i < j)))) := ea_cmp op_lt ha hb ov_lt
theorem e_neS (ha : EA X s a s1 (.d (.str l))) (hb : EA X s1 b s2 (.d (.str m))) : EA X s (.Compare a [.NotEq] [b] pos) s2 (.d (.bl (!decide (l = m)))) := ea_cmp op_ne ha hb ov_neS
/-- a whole number of the module, a text of the module -/
theorem e_gi {nm : Str} {z : Int} (h : ∃ t, X.mg nm = some (.int z t)) (hg : Gl X nm := by rfl) (hd : (nm == ("__debug__" : Str)) = false := by decide) : EA X s (.Name nm pos) s (.d (.int z)) := by
  obtain ⟨t, h⟩ := h
  exact ee_glob (v := .int z) hg h ⟨t, rfl⟩ (fun _ => rfl) hd
theorem e_gs {nm z : Str} (l : List Nat) (h : ∃ t, X.mg nm = some (.str z t)) (hz : z = mk l := by decide +kernel) (hg : Gl X nm := by rfl) (hd : (nm == ("__debug__" : Str)) = false := by decide) : EA X s (.Name nm pos) s (.d (.str l)) := by
  obtain ⟨t, h⟩ := h
  exact ee_glob (v := .str z) hg h ⟨t, rfl⟩ (fun _ => by subst hz; rfl) hd
/-- a text in a text -/
theorem e_inC {k : Nat} (ha : EA X s a s1 (.d (.str [k]))) (hb : EA X s1 b s2 (.d (.str l))) (hm : behindInMarks .In b = false := by rfl) : EA X s (.Compare a [.In] [b] pos) s2 (.d (.bl (decide (k ∈ l)))) := ea_cmp op_in_sign ha hb ov_inC hm
theorem t_inC {k : Nat} (ha : EA X s a s1 (.d (.str [k]))) (hb : EA X s1 b s2 (.d (.str l))) (hm : behindInMarks .In b = false := by rfl) : ET X s (.Compare a [.In] [b] pos) s2 (decide (k ∈ l)) := et_cmp op_in_sign ha hb ov_inC hm
end
end Q
namespace Q
open PySem PySem.Spec PyProof.Rows L2
theorem blk (N : List Str) (sc : Scope) {scope : Scope} {own : List (Str × Nat)} (h1 : scope.kind = .function := by rfl) (h2 : ∀ y ∈ scope.names, scope.names.lookup y.1 = some y.2 := by decide +kernel) (h3 : ∀ p ∈ own, N[p.2]? = some p.1 := by decide +kernel)
    (h4 : ∀ y ∈ scope.names, y.2 = .free → sc.names.lookup y.1 = some .cell ∨ sc.names.lookup y.1 = some .free := by decide +kernel) (h5 : ∀ y ∈ scope.names, y.2 = .local ∨ y.2 = .cell → y.1 ∈ own.map (·.1) ∨ y.1 ∉ N := by decide +kernel) : BlkOk N sc scope own := ⟨h1, h2, h3, h4, h5⟩
/-- the end of a function of data: data, or an owned object -/
theorem rt_d {d t : D} {s : S} (e : T.fz d = .fz t := by rfl) : (∃ d', Ar.d d = .d d' ∧ T.fz t = .fz d') ∨ ∃ k, Ar.d d = .o k ∧ s.μ[k]? = some (.fz t) := .inl ⟨d, rfl, e.symm⟩
theorem rt_b {b c : Bool} {s : S} (e : b = c) : (∃ d', Ar.d (.bl b) = .d d' ∧ T.fz (.bl c) = .fz d') ∨ ∃ k, Ar.d (.bl b) = .o k ∧ s.μ[k]? = some (.fz (.bl c)) := .inl ⟨_, rfl, by rw [e]⟩
theorem rt_i {b c : Int} {s : S} (e : b = c) : (∃ d', Ar.d (.int b) = .d d' ∧ T.fz (.int c) = .fz d') ∨ ∃ k, Ar.d (.int b) = .o k ∧ s.μ[k]? = some (.fz (.int c)) := .inl ⟨_, rfl, by rw [e]⟩
theorem rt_o {k : Nat} {t : T} {s : S} (e : s.μ[k]? = some t := by rfl) : (∃ d', Ar.o k = .d d' ∧ t = .fz d') ∨ ∃ k', Ar.o k = .o k' ∧ s.μ[k']? = some t := .inr ⟨k, rfl, e⟩
theorem rt_o' {k : Nat} {t u : T} {s : S} (e : s.μ[k]? = some u) (h : u = t) : (∃ d', Ar.o k = .d d' ∧ t = .fz d') ∨ ∃ k', Ar.o k = .o k' ∧ s.μ[k']? = some t := .inr ⟨k, rfl, by rw [e, h]⟩
end Q
namespace Q
theorem nt {b : Bool} (h : (!b) = true) : b = false := by cases b <;> simp_all
theorem nf {b : Bool} (h : (!b) = false) : b = true := by cases b <;> simp_all
end Q
namespace Q
open PySem PySem.Spec PyProof.Rows L2
def blkB (N : List Str) (sc scope : Scope) (own : List (Str × Nat)) : Bool :=
  decide (scope.kind = .function) && decide (∀ y ∈ scope.names, scope.names.lookup y.1 = some y.2) && decide (∀ p ∈ own, N[p.2]? = some p.1) &&
    decide (∀ y ∈ scope.names, y.2 = .free → sc.names.lookup y.1 = some .cell ∨ sc.names.lookup y.1 = some .free) && decide (∀ y ∈ scope.names, y.2 = .local ∨ y.2 = .cell → y.1 ∈ own.map (·.1) ∨ y.1 ∉ N)
theorem blk_of {N : List Str} {sc scope : Scope} {own : List (Str × Nat)} (h : blkB N sc scope own = true := by kernel_rfl) : BlkOk N sc scope own := by
  unfold blkB at h
  simp only [Bool.and_eq_true, decide_eq_true_eq] at h
  exact ⟨h.1.1.1.1, h.1.1.1.2, h.1.1.2, h.1.2, h.2⟩
end Q
namespace Q
open PySem PySem.Spec PyProof.Rows L2
theorem range_get {n i a : Nat} (h : (List.range n)[i]? = some a) : i < n ∧ a = i := by
  have hi := (List.getElem?_eq_some_iff.mp h).1
  rw [List.length_range] at hi
  rw [List.getElem?_range hi] at h
  exact ⟨hi, (Option.some.inj h).symm⟩
theorem all_map {α β : Type} {xs : List α} {g : α → β} {f : β → Bool} (h : ∀ x ∈ xs, f (g x) = true) : ((xs.map g).map f).all id = true := by
  rw [List.map_map, List.all_map, List.all_eq_true]
  exact fun x hx => h x hx
end Q
namespace Q
theorem getD_at {α : Type} {xs : List α} {i : Nat} {d : α} (h : i < xs.length) : xs[i]? = some (xs.getD i d) := by
  rw [List.getElem?_eq_getElem h]; simp [List.getD, List.getElem?_eq_getElem h]
end Q
namespace Q
open PySem PySem.Spec PyProof.Rows L2
section
variable {X : Cx} {s s1 : S} {e : Expr} {d : D} {t : String} {nm nm2 : Str} {p pos apos tpos q1 q2 : Pos} {kk : Nat}
/-- isinstance(e, (T1, T2)) -/
theorem e_isi2 (T1 T2 : String) (r1 r2 : Bool) (hm : X.mg "isinstance" = none) (hm1 : X.mg nm = none) (hm2 : X.mg nm2 = none) (he : EA X s e s1 (.d d)) (ht : tyD d = some t) (hk1 : kitB t T1 = some r1 := by decide +kernel) (hk2 : kitB t T2 = some r2 := by decide +kernel)
    (hv1 : bootBuiltins nm = some (.type T1) := by decide +kernel) (hv2 : bootBuiltins nm2 = some (.type T2) := by decide +kernel) (hg : Gl X "isinstance" := by rfl) (hg1 : Gl X nm := by rfl) (hg2 : Gl X nm2 := by rfl)
    (hn1 : nm ≠ "__name__" := by decide) (hd1 : (nm == ("__debug__" : Str)) = false := by decide) (hn2 : nm2 ≠ "__name__" := by decide) (hd2 : (nm2 == ("__debug__" : Str)) = false := by decide)
    (h1 : starEach [e, .Tuple [.Name nm q1, .Name nm2 q2] kk tpos] X.env = (false, eval e X.env) :: starEach [.Tuple [.Name nm q1, .Name nm2 q2] kk tpos] X.env := by rfl) (h2 : starEach [Expr.Tuple [.Name nm q1, .Name nm2 q2] kk tpos] X.env = (false, eval (.Tuple [.Name nm q1, .Name nm2 q2] kk tpos) X.env) :: starEach [] X.env := by rfl)
    (h3 : starEach [Expr.Name nm q1, .Name nm2 q2] X.env = (false, eval (.Name nm q1) X.env) :: starEach [.Name nm2 q2] X.env := by rfl) (h4 : starEach [Expr.Name nm2 q2] X.env = (false, eval (.Name nm2 q2) X.env) :: starEach [] X.env := by rfl)
    (h5 : (backTo pos (starEach [Expr.Tuple [.Name nm q1, .Name nm2 q2] kk tpos] X.env)).any (·.1) = false := by rfl) :
    EA X s (.Call (.Name "isinstance" apos) [e, .Tuple [.Name nm q1, .Name nm2 q2] kk tpos] [] pos) s1 (.d (.bl (r1 || r2))) := fun σ H F rs as hd Q k =>
  WE.of (pe_callB call_isiT hg hm (by decide +kernel) (pa_cons pe_u (pa_cons (pe_tup (pa_cons (pe_bltn (v := .ty T1) hg1 hm1 hv1 rfl hn1 hd1) (pa_cons (pe_bltn (v := .ty T2) hg2 hm2 hv2 rfl hn2 hd2) pa_nil h4) h3)) pa_nil h2) h1) (by decide) (by decide) h1 h5) (he σ H F rs as hd _ fun v H1 F1 rs1 as1 i1 p1 g1 a1 => by
    refine ⟨by show 2 ≤ sizeLine; rw [sizeLine_eq]; omega, fun tp htp => ?_⟩
    obtain ⟨g, sb⟩ := go_new (o := .tup [.ty T1, .ty T2]) htp i1.sub
    have ty := tyD_ok (K := X.K) i1.sub a1 ht
    have a2 : Rep X.K (upd F1 tp (.tup [.ty T1, .ty T2])) d v := Rep.mono g.fz _ _ a1
    refine ⟨v, tp, [.ty T1, .ty T2], .type t, [.type T1, .type T2], r1 || r2, rfl, upd_same, .cons (.ty _) (.cons (.ty _) .nil), tyD_ok sb a2 ht, ?_, ?_⟩
    · refine kitAny_cons (kit_ty hk1) (fun z => ?_) (fun z => by rw [z]; rfl)
      refine kitAny_cons (kit_ty hk2) (fun z2 => by rw [z, z2]; exact kitAny_nil) (fun z2 => by rw [z, z2]; rfl)
    · obtain ⟨hd2, g2⟩ := i1.pure g sb
      exact k _ _ _ _ _ hd2 p1 (g1.trans g2) rfl)
theorem e_leS {a b : Expr} {s2 : S} {l m : List Nat} (ha : EA X s a s1 (.d (.str l))) (hb : EA X s1 b s2 (.d (.str m))) : EA X s (.Compare a [.LtE] [b] pos) s2 (.d (.bl (!decide (m < l)))) := ea_cmp op_le_str ha hb ov_leS
end
end Q
namespace Q
open PySem L2
theorem y1 {X : Cx} {s s1 : S} {e : Expr} {b : Bool} (h : EA X s e s1 (.d (.bl b))) (hb : b = true) : EA X s e s1 (.d (.bl true)) := by rw [← hb]; exact h
theorem y0 {X : Cx} {s s1 : S} {e : Expr} {b : Bool} (h : EA X s e s1 (.d (.bl b))) (hb : b = false) : EA X s e s1 (.d (.bl false)) := by rw [← hb]; exact h
theorem ty1 {X : Cx} {s s1 : S} {e : Expr} {b : Bool} (h : ET X s e s1 b) (hb : b = true) : ET X s e s1 true := by rw [← hb]; exact h
theorem ty0 {X : Cx} {s s1 : S} {e : Expr} {b : Bool} (h : ET X s e s1 b) (hb : b = false) : ET X s e s1 false := by rw [← hb]; exact h
end Q
namespace Q
open PySem L2
theorem cut_nat {α : Type} {xs : List α} {lo k : Nat} (h : lo + k ≤ xs.length) : cut xs (some (lo : Int)) (some ((lo : Int) + (k : Nat))) = (xs.drop lo).take k := by
  unfold cut
  have a : min lo xs.length = lo := by omega
  have b : min (lo + k) xs.length = lo + k := by omega
  rw [show ((lo : Int) + (k : Nat)) = ((lo + k : Nat) : Int) from by omega, HT.sIx_nat, HT.sIx_nat, a, b, Nat.add_sub_cancel_left]
theorem cut_to {α : Type} {xs : List α} {k : Nat} : cut xs none (some (k : Int)) = xs.take k := by
  unfold cut
  rw [HT.sIx_nat, HT.sIx_none]
  simp
end Q

namespace Q
theorem lt1 (a b : Nat) : ([a] < [b]) ↔ a < b := by simp [List.cons_lt_cons_iff]
end Q
namespace Q
open PySem PySem.Spec PyProof.Rows L2
section
variable {X : Cx} {s s1 s2 : S} {o e : Expr} {d : D} {ds : List D} {k : Nat} {pos apos : Pos} {Ψ : S → Ar → Prop}
theorem e_append (ho : EA X s o s1 (.o k)) (he : EA X s1 e s2 (.d d)) (hk : s2.μ[k]? = some (.fl ds)) (hz : ds.length < 16777216) (hk1 : ∃ es, s1.μ[k]? = some (.fl es) := by exact ⟨_, rfl⟩)
    (hbase : attributeBase o "append" X.env (eval o X.env) = eval o X.env := by rfl)
    (hfew : ((backTo pos (starEach [e] X.env)).all (fun x => !x.1) && (backToKw pos (keywordEach [] X.env)).all (fun x => x.1.isSome) && decide ([e].length + ([] : List Keyword).length + (if ([] : List Keyword).isEmpty then 0 else 1) < 30)) = true := by rfl)
    (hline : (apos.endLine == pos.line) = true := by rfl) (hs : starEach [e] X.env = (false, eval e X.env) :: starEach [] X.env := by rfl) (hplain : (backTo pos (starEach [] X.env)).any (·.1) = false := by rfl) :
    EA X s (.Call (.Attribute o "append" apos) [e] [] pos) ⟨s2.ρ, s2.μ.set k (.fl (ds ++ [d]))⟩ (.d .non) := by
  obtain ⟨es, h1⟩ := hk1
  exact ea_mt PySem.F.plainAttrs_list PySem.F.slot_list_append PySem.F.type_list_append mt_append ho (ty_list (ds := es) h1) (es_cons he es_nil (hs := hs)) (mv_append hk hz) hbase hfew hline hs hplain
theorem x_append (h : EX X s o fun s1 x => ∃ k es, x = .o k ∧ s1.μ[k]? = some (.fl es) ∧ EX X s1 e fun s2 y => ∃ d ds, y = .d d ∧ s2.μ[k]? = some (.fl ds) ∧ ds.length < 16777216 ∧ Ψ ⟨s2.ρ, s2.μ.set k (.fl (ds ++ [d]))⟩ (.d .non))
    (hbase : attributeBase o "append" X.env (eval o X.env) = eval o X.env := by rfl)
    (hfew : ((backTo pos (starEach [e] X.env)).all (fun x => !x.1) && (backToKw pos (keywordEach [] X.env)).all (fun x => x.1.isSome) && decide ([e].length + ([] : List Keyword).length + (if ([] : List Keyword).isEmpty then 0 else 1) < 30)) = true := by rfl)
    (hline : (apos.endLine == pos.line) = true := by rfl) (hs : starEach [e] X.env = (false, eval e X.env) :: starEach [] X.env := by rfl) (hplain : (backTo pos (starEach [] X.env)).any (·.1) = false := by rfl) :
    EX X s (.Call (.Attribute o "append" apos) [e] [] pos) Ψ :=
  ex_mt PySem.F.plainAttrs_list PySem.F.slot_list_append PySem.F.type_list_append mt_append (ex_mono h fun s1 x ⟨k, es, ex, hk, h2⟩ => by
    subst ex
    exact ⟨ty_list (ds := es) hk, xs_cons (ex_mono h2 fun s2 y ⟨d, ds, ey, hk2, hz, q⟩ => by
      subst ey
      exact xs_nil ⟨_, _, mv_append hk2 hz, q⟩) (hs := hs)⟩) hbase hfew hline hs hplain
end
end Q
namespace Q
open PySem PySem.Spec PyProof.Rows L2
section
variable {X : Cx} {s s1 s2 s3 : S} {elt iter tg : Expr} {scope : Scope} {pos : Pos} {G : TG} {is : List Nat} {g : D → List Sl → Option (List Sl)} {D' : Ds} {nm : Str} {Ψ : S → Ar → Prop}
theorem ex_lcT (own : List (Str × Nat)) (hN : X.N.Nodup) (ok : BlkOk X.N X.env.scope scope own)
    (hG : ∀ (sh : Shared) (H0 : Hp) (C : Addr) (cl : List (Str × Addr)) (fp : List Addr), PG (X.blk sh H0 scope (PySem.compEnvC scope cl C X.env) fp) tg G) (hS : GS X.K G is g)
    (hi : IX X s tg iter fun s1 n it => n ≤ 16777216 ∧ ∃ I : Nat → List T → List T → Prop, I 0 s1.μ [] ∧ (∀ i μ out, i < n → I i μ out → LcT X.K g (bE X scope elt) (wipeS s1.ρ (own.map (·.2))) (it i) μ out (I (i + 1))) ∧ ∀ μ out, I n μ out → Ψ (S.add ⟨s1.ρ, μ⟩ (.lst out)) (.o μ.length))
    (hv : ∀ i ∈ is, i ∈ own.map (·.2) := by decide) (hc : X.calm = true := by rfl) (hf : ∀ x, foldedSetIterable iter X.env x = pure x := by intro _; rfl) :
    EX X s (.ListComp elt [⟨tg, iter, [], 0⟩] scope pos) Ψ := fun σ H F rs as hd Q k => by
  obtain ⟨wi, pi, hi⟩ := hi
  exact WE.of (pe_lc hc hN pi ok hG (fun _ _ _ _ _ => pts_nil) pe_b hf) (lc_runT hi hS hv σ H F rs as hd Q k)
theorem w1x_setLcT (i : Nat) {py spos : Pos} (own : List (Str × Nat)) (hN : X.N.Nodup) (hsw : swapsWith (.ListComp elt [⟨tg, iter, [], 0⟩] scope pos) (some (.Name nm py)) spos.line X.env = pure true) (ok : BlkOk X.N X.env.scope scope own)
    (hG : ∀ (sh : Shared) (H0 : Hp) (C : Addr) (cl : List (Str × Addr)) (fp : List Addr), PG (X.blk sh H0 scope (PySem.compEnvC scope cl C X.env) fp) tg G) (hS : GS X.K G is g)
    (hi : IX X s tg iter fun s1 n it => n ≤ 16777216 ∧ ∃ I : Nat → List T → List T → Prop, I 0 s1.μ [] ∧ (∀ i μ out, i < n → I i μ out → LcT X.K g (bE X scope elt) (wipeS s1.ρ (own.map (·.2))) (it i) μ out (I (i + 1))) ∧ ∀ μ out, I n μ out → D'.nx ⟨s1.ρ.set i (.o μ.length), μ ++ [.lst out]⟩)
    (hv : ∀ i ∈ is, i ∈ own.map (·.2) := by decide) (hy : X.N[i]? = some nm := by rfl) (hyl : X.env.scope.names.lookup nm = some .local := by rfl) (hc : X.calm = true := by rfl) (hf : ∀ x, foldedSetIterable iter X.env x = pure x := by intro _; rfl) :
    W1 X s (.Assign [.Name nm py] (.ListComp elt [⟨tg, iter, [], 0⟩] scope pos) spos) D' := fun W σ H F rs as hd g0 p => by
  obtain ⟨wi, pi, hi⟩ := hi
  refine WSt.of (ps_setLc hc hN hy hyl hsw pi ok hG (fun _ _ _ _ _ => pts_nil) pe_b hf) (lc_runT (Ψ := fun s2 x => ∃ (s1 : S) (μ : List T) (out : List T), s2 = S.add ⟨s1.ρ, μ⟩ (.lst out) ∧ x = .o μ.length ∧ D'.nx ⟨s1.ρ.set i (.o μ.length), μ ++ [.lst out]⟩) ?_ hS hv σ H F rs as hd _ fun s2 x ⟨s1, μ, out, e1, e2, q⟩ v H1 F1 rs1 as1 h1 p1 g1 r1 => ?_)
  · intro σ H F rs as hd R c
    exact hi σ H F rs as hd R fun s1 n it ⟨hn, I, i0, hs, he⟩ => c s1 n it ⟨hn, I, i0, hs, fun μ out q => ⟨s1, μ, out, rfl, rfl, he μ out q⟩⟩
  · subst e1 e2
    exact ⟨F1, rs1, as1, ⟨s1.ρ.set i (.o μ.length), μ ++ [.lst out]⟩, ⟨h1.r, h1.sl.set i ⟨v, rfl, r1⟩⟩, g0.trans g1, p.trans p1, q⟩
end
/-- list(text): its signs, owned -/
def rListS : List V → Hp → VK → Prop := fun xs H Q => ∃ z : Str, xs = [.str z] ∧ z.cps.size ≤ sizeLine ∧ ∀ l, H l = none → Q (.ref l) (upd H l (.lst (z.cps.toList.map fun c => V.str ⟨#[c]⟩)))
theorem vals_at {xs : List V} : ∀ {us : List Value}, us.length = xs.length → (∀ (j : Nat) (x : V) (u : Value), xs[j]? = some x → us[j]? = some u → RelV x u) → Vals xs us := by
  induction xs with
  | nil =>
    intro us h _
    cases us with
    | nil => exact .nil
    | cons _ _ => cases h
  | cons x xs ih =>
    intro us h f
    cases us with
    | nil => cases h
    | cons u us => exact .cons (f 0 x u rfl rfl) (ih (by simpa using h) fun j y w h1 h2 => f (j + 1) y w (by simpa using h1) (by simpa using h2))
theorem call_listS {X : Cx} (hc : X.calm = true) : CallR X (.type "list") rListS := by
  intro pins s σ H xs us Q I r h
  obtain ⟨z, e, hz, q⟩ := h
  subst e
  obtain ⟨u, eu, t, rx⟩ := vals1 r
  subst eu
  subst rx
  refine call_list_str (I.ok.hd hc) z t (fun h' tk acc' c' hkeep hS hacc => ?_) hz
  refine ⟨.ref s.heap.objs.size, upd H s.heap.objs.size (.lst (z.cps.toList.map fun c => V.str ⟨#[c]⟩)), I.laid hkeep (Nat.le_refl _) (show ObjOk X.prog X.w _ _ _ (.lst (z.cps.toList.map fun c => V.str ⟨#[c]⟩)) from ⟨?_, acc'.toList, c', ?_, ?_⟩), rfl, q _ (I.hok.fresh (Nat.le_refl _))⟩
  · rw [List.length_map]; simpa using hz
  · refine vals_at (by simpa using hacc.1) fun j x w h1 h2 => ?_
    obtain ⟨c, u, hc', rfl⟩ := hacc.2 j w (by rw [← Array.getElem?_toList]; exact h2)
    rw [List.getElem?_map, Array.getElem?_toList, hc'] at h1
    cases h1
    exact ⟨u, rfl⟩
  · rw [Array.toArray_toList]; exact hS
section
variable {X : Cx} {s s1 : S} {e : Expr} {l : List Nat} {p pos : Pos}
theorem reps_str {K : PySem.W.Frag} {F : Hp} : ∀ l : List Nat, Reps K F (l.map fun c => D.str [c]) (l.map fun c => V.str ⟨#[c]⟩)
  | [] => rfl
  | c :: l => ⟨_, _, rfl, rfl, reps_str l⟩
theorem e_listS (hm : X.mg "list" = none) (he : EA X s e s1 (.d (.str l))) (hz : l.length ≤ 16777216) (hg : Gl X "list" := by rfl) (hc : X.calm = true := by rfl) (h1 : starEach [e] X.env = [(false, eval e X.env)] := by rfl) :
    EA X s (.Call (.Name "list" p) [e] [] pos) (s1.add (.fl (l.map fun c => .str [c]))) (.o s1.μ.length) :=
  ea_callTL (call_listS hc) hg hm (by decide +kernel) (es_cons he es_nil (hs := h1)) (fun σ H F rs as vs hd ⟨v, ws, e, a, e2⟩ => by
    subst e2 e
    cases a
    have hs : (mk l).cps.size = l.length := mk_len l
    refine ⟨_, reps_str l, fun Q k => ⟨mk l, rfl, by rw [hs]; exact hz, fun p hp => ?_⟩⟩
    rw [mk_cps]
    exact k p hp) (he := h1)
end
end Q
namespace Q
open PySem PySem.Spec PyProof.Rows L2
theorem e_lenT {X : Cx} {s s1 : S} {e : Expr} {k : Nat} {ts : List T} {p pos : Pos} (hm : X.mg "len" = none) (he : EA X s e s1 (.o k)) (hk : s1.μ[k]? = some (.lst ts) := by rfl) (hg : Gl X "len" := by rfl) (h1 : starEach [e] X.env = [(false, eval e X.env)] := by rfl) :
    EA X s (.Call (.Name "len" p) [e] [] pos) s1 (.d (.int (ts.length : Int))) := ea_callB call_len_seq hg hm (by decide +kernel) (es_cons he es_nil (hs := h1)) (ca_lenT hk) (he := h1)
end Q
namespace Q
def frzA (k : Nat) (d : D) : Sl → Sl
  | .o j => if j = k then .d d else .o j
  | x => x
theorem frzS_map (k : Nat) (d : D) : ∀ ρ : List Sl, frzS k d ρ = ρ.map (frzA k d)
  | [] => rfl
  | .o j :: ρ => congrArg (_ :: ·) (frzS_map k d ρ)
  | .d e :: ρ => congrArg (_ :: ·) (frzS_map k d ρ)
  | .un :: ρ => congrArg (_ :: ·) (frzS_map k d ρ)
end Q
namespace Q
open PySem PySem.Spec PyProof.Rows L2
section
variable {X : Cx} {s s1 s2 s3 : S} {a e b : Expr} {pos p2 : Pos} {Ψ : S → Ar → Prop}
theorem ex_slTo {r : V → Option Int → Option Int → Hp → VK → Prop} (hr0 : SlR X r) (h : EX X s a fun s1 x => EX X s1 e fun s2 y => ∃ j d, y = .d (.int j) ∧ SlV X s2 r x none (some j) d ∧ Ψ s2 (.d d)) :
    EX X s (.Subscript a (.Slice none (some e) none p2) pos) Ψ := fun σ H F rs as hd Q k =>
  WE.of (pe_slice hr0 pe_u po_none (po_some pe_u)) (h σ H F rs as hd _ fun s1 x h2 v H1 F1 rs1 as1 h1 p1 g1 r1 => h2 σ H1 F1 rs1 as1 h1 _ fun s2 y ⟨j, d, ey, hr, q⟩ w H2 F2 rs2 as2 h2 p2 g2 r2 => by
    subst ey
    cases r2
    exact ⟨j, rfl, hr σ H2 F2 rs2 as2 v h2 (r1.mono g2.fz p2) Q (h2.fin fun u H' F' rs' as' h' p' g' q' => k s2 _ q u H' F' rs' as' h' ((p1.trans p2).trans p') ((g1.trans g2).trans g') q')⟩)
end
end Q
namespace Q
open PySem L2
theorem xs_mono {X : Cx} {s : S} {es : List Expr} {Ψ Ψ' : S → List Ar → Prop} (h : EXs X s es Ψ) (k : ∀ s1 xs, Ψ s1 xs → Ψ' s1 xs) : EXs X s es Ψ' := fun σ H F rs as hd Q c => h σ H F rs as hd Q fun s1 x q => c s1 x (k s1 x q)
end Q
namespace Q
open PySem L2
/-- a condition between a statement and the rest -/
theorem ws_mid {X : Cx} {s : S} {st : Stmt} {rest : List Stmt} {D' : Ds} (Φ : S → Prop) (h : W1 X s st { nx := Φ, rt := D'.rt, bk := D'.bk, ct := D'.ct }) (k : ∀ s2, Φ s2 → WS X s2 rest D') : WS X s (st :: rest) D' :=
  ws_cons (W1.mono h k (fun _ _ q => q) (fun _ q => q) fun _ q => q)
end Q

namespace Q
open PySem PySem.Spec PyProof.Rows L2
/-- J gives the n data it 0, it 1, .. as long as what was frozen stays and the owned objects are as Φ says -/
def GiveR (K : PySem.W.Frag) (J : It) (n : Nat) (it : Nat → D) (rs1 : List V) (Φ : List T → Prop) (F : Hp) : Prop := ∀ H2 F2 μ rs as, Same F F2 → HdR K H2 F2 μ rs as → rs1 <+: rs → Φ μ → (∀ i, i < n → J.go i H2) ∧ J.stop n H2 ∧
  ∀ i x H3, i < n → J.yld i H2 x H3 → ∃ F3, Go [] [] F2 H2 F3 H3 ∧ Same F3 H3 ∧ Rep K F3 (it i) x
theorem lc_runO {X : Cx} {s : S} {Ψ : S → Ar → Prop} {Φ : List T → Prop} {G : TG} {is vs : List Nat} {g : D → List Sl → Option (List Sl)} {t : TT} {te : TE} {wi : TI}
    (hi : ∀ σ H F rs as, Hd X.K σ H F rs as s → ∀ R : It → Hp → Prop, (∀ s1 n it, (n ≤ 16777216 ∧ ∃ I : Nat → List T → List D → Prop, I 0 s1.μ [] ∧ (∀ i μ out, I i μ out → ∀ t, Φ (μ ++ [t])) ∧ (∀ i μ out, i < n → I i μ out → LcX X.K g t te (wipeS s1.ρ vs) (it i) μ out (I (i + 1))) ∧ ∀ μ out, I n μ out → Ψ (S.add ⟨s1.ρ, μ⟩ (.fl out)) (.o μ.length)) →
      ∀ J H' F' rs' as', Hd X.K σ H' F' rs' as' s1 → rs <+: rs' → Go as.flatten as'.flatten F H F' H' → GiveR X.K J n it rs' Φ F' → R J H') → wi σ H R)
    (hS : GS X.K G is g) (hv : ∀ i ∈ is, i ∈ vs) : TEX X.K (tLc wi G t te vs) s Ψ := fun σ H F rs as hd Q k => by
  refine hi σ H F rs as hd _ fun s1 n it ⟨hn, I, i0, hΦ, hs, he⟩ J H1 F1 rs1 as1 h1 p1 g1 gv => ?_
  intro A hA
  obtain ⟨n1, n2⟩ := h1.newL (ds := []) (ys := []) hA rfl
  refine ⟨fun i m H2 => m = n - i ∧ i ≤ n ∧ ∃ μ out acc F2 rs2 as2, I i μ out ∧ HdR X.K H2 F2 (μ ++ [.fl out]) (rs2 ++ [.ref A]) (as2 ++ [[A]]) ∧ rs1 <+: rs2 ∧ Go as1.flatten (as2 ++ [[A]]).flatten F1 H1 F2 H2 ∧ H2 A = some (.lst acc) ∧ Reps X.K F2 out acc ∧ out.length ≤ i,
    ⟨n, by simp, Nat.zero_le _, s1.μ, [], [], F1, rs1, as1, i0, n1.r, refl_pre _, n2, upd_same, rfl, Nat.le_refl _⟩, ?_⟩
  rintro i m H2 ⟨rfl, hin, μ, out, acc, F2, rs2, as2, inv, hr, p2, g2, hAc, rp, ol⟩
  have rl : rs2.length = μ.length := by have := hr.l1; simp at this; exact this
  have f12 : Same F1 F2 := g2.fz
  obtain ⟨go, stop, yld⟩ := gv H2 F2 (μ ++ [.fl out]) (rs2 ++ [.ref A]) (as2 ++ [[A]]) f12 hr (p2.trans ⟨_, rfl⟩) (hΦ i μ out inv _)
  by_cases hlt : i < n
  · refine .inr ⟨go i hlt, fun H' => ∃ μ out acc F2 rs2 as2, I (i + 1) μ out ∧ HdR X.K H' F2 (μ ++ [.fl out]) (rs2 ++ [.ref A]) (as2 ++ [[A]]) ∧ rs1 <+: rs2 ∧ Go as1.flatten (as2 ++ [[A]]).flatten F1 H1 F2 H' ∧ H' A = some (.lst acc) ∧ Reps X.K F2 out acc ∧ out.length ≤ i + 1,
      fun H' w => ⟨n - (i + 1), by omega, rfl, hlt, w⟩, fun v H3 y => ?_⟩
    obtain ⟨F3, g3, sb3, r3⟩ := yld i v H3 hlt y
    obtain ⟨hr3, g3'⟩ := hr.pure g3 sb3
    have hi3 := hr3.init rl
    obtain ⟨ρ', e1, ht⟩ := hs i μ out hlt inv
    have sl3 : Slots X.K F3 rs2 (wipeS s1.ρ vs) (wipe σ vs) := (h1.sl.mono (f12.trans g3.fz) fun k v q => pre_get p2 k v q).wipe vs
    have hd3 : Hd X.K (wipe σ vs) H3 F3 rs2 as2 ⟨wipeS s1.ρ vs, μ⟩ := ⟨hi3, sl3⟩
    have hA3 : H3 A = some (.lst acc) := g3.keep A _ (fun z => nomatch z) hAc
    have notA : A ∉ as2.flatten := fun z => by
      obtain ⟨j, mm, e, hm⟩ := mem_fl z
      have hj := (List.getElem?_eq_some_iff.mp e).1
      have := hr3.n2 j as2.length mm [A] A (by rw [List.getElem?_append_left hj]; exact e) (by simp) hm (by simp)
      omega
    refine hS (wipe σ vs) H3 F3 rs2 as2 _ (it i) v ρ' hd3 r3 e1 _ fun σ4 h4 w4 => ?_
    have ww : ∀ (σ : L2.St) (vs : List Nat), wipe (wipe σ vs) vs = wipe σ vs := by
      intro σ vs
      have gen : ∀ (us : List Nat), (∀ i ∈ us, i ∈ vs) → wipe (wipe σ us) vs = wipe σ vs := by
        intro us
        induction us with
        | nil => intro _; rfl
        | cons u us ih =>
          intro h
          show wipe ((wipe σ us).set u none) vs = _
          rw [wipe_set (h u List.mem_cons_self)]
          exact ih fun i hi => h i (List.mem_cons_of_mem _ hi)
      exact gen vs fun _ h => h
    refine ⟨by rw [w4 vs hv, ww], ht σ4 H3 F3 rs2 as2 h4 _ fun s2 b q H5 F5 rs5 as5 h5 p5 g5 => ?_⟩
    cases b with
    | true =>
      refine iteT (q.1 rfl σ4 H5 F5 rs5 as5 h5 _ fun s3 x ⟨yd, ex, inv'⟩ w H6 F6 rs6 as6 h6 p6 g6 r6 => ?_)
      subst ex
      have gg := g5.trans g6
      obtain ⟨fr, gf⟩ := hr3.frame rl h6.r gg
      have hA6 : H6 A = some (.lst acc) := gg.keep A _ notA hA3
      have rp6 : Reps X.K F6 out acc := Reps.mono ((g3.fz.trans g5.fz).trans g6.fz) _ _ rp
      have accl : acc.length = out.length := rp.len
      refine ⟨acc, hA6, by have : (16777216 : Nat) ≤ sizeLine := by decide
                           omega, ?_⟩
      have rl6 : rs6.length = s3.μ.length := h6.r.l1
      have al6 : as6.length = s3.μ.length := h6.r.l2
      have kE : (rs6 ++ [V.ref A])[s3.μ.length]? = some (.ref A) := by rw [← rl6]; simp
      have lE : (as6 ++ [[A]])[s3.μ.length]? = some [A] := by rw [← al6]; simp
      obtain ⟨st, gs⟩ := fr.set1 (t := .fl (out ++ [yd])) (H' := upd H6 A (.lst (acc ++ [w]))) kE lE (fun a o hna e => by rw [upd_ne (fun z => hna (by rw [z]; simp))]; exact e)
        (fun a e => by
          by_cases z : a = A
          · subst z; rw [upd_same] at e; cases e
          · rw [upd_ne z] at e; exact e)
        ⟨A, acc ++ [w], rfl, upd_same, rp6.append (.one r6), rfl⟩
      have eset : (s3.μ ++ [T.fl out]).set s3.μ.length (.fl (out ++ [yd])) = s3.μ ++ [.fl (out ++ [yd])] := by simp
      rw [eset] at st
      exact ⟨s3.μ, out ++ [yd], acc ++ [w], F6, rs6, as6, inv', st, (p2.trans p5).trans p6, ((g2.trans g3').trans gf).trans gs, upd_same, rp6.append (.one r6), by simp; omega⟩
    | false =>
      refine iteF ?_
      obtain ⟨fr, gf⟩ := hr3.frame rl h5.r g5
      exact ⟨s2.μ, out, acc, F5, rs5, as5, q.2 rfl, fr, p2.trans p5, (g2.trans g3').trans gf, g5.keep A _ notA hA3, Reps.mono (g3.fz.trans g5.fz) _ _ rp, by omega⟩
  · have e : i = n := by omega
    subst e
    refine .inl ⟨stop, ?_⟩
    refine k _ _ (he μ out inv) (V.ref A) H2 F2 (rs2 ++ [V.ref A]) (as2 ++ [[A]]) ⟨show HdR X.K H2 F2 (μ ++ [T.fl out]) (rs2 ++ [V.ref A]) (as2 ++ [[A]]) from hr, ?_⟩ ((p1.trans p2).trans ⟨_, rfl⟩) (g1.trans g2) ?_
    · exact (h1.sl.mono f12 fun k v q => pre_get p2 k v q).mono (Same.refl _) fun k v q => pre_get ⟨_, rfl⟩ k v q
    · show (rs2 ++ [V.ref A])[μ.length]? = _
      rw [← rl]; simp

theorem giveR_fl {K : PySem.W.Frag} {rs1 : List V} {k : Nat} {ds : List D} {F : Hp} {a : Addr} (hk : rs1[k]? = some (.ref a)) : GiveR K (Itl K a) ds.length (fun i => ds.getD i .non) rs1 (fun μ => μ[k]? = some (.fl ds)) F := fun H2 F2 μ rs as e1 hr p hμ => by
  obtain ⟨v, l, hv, hl, ⟨b, xs, eb, hb, rp, el⟩⟩ := hr.at hμ
  have hk2 := pre_get p k _ hk
  rw [hk2] at hv
  cases hv
  cases eb
  have q2 : SqL K H2 a xs := .of hb
  have w := walk_list (K := K) (a := a) (xs := xs)
  refine ⟨fun i hi => w.goes i H2 (by rw [rp.len]; exact hi) q2, by have := w.stops H2 q2; rwa [rp.len] at this, fun i x H3 hi y => ?_⟩
  obtain ⟨rfl, hx⟩ := w.yields i H2 x H3 (by rw [rp.len]; exact hi) q2 y
  obtain ⟨v, h1, h2⟩ := rp.get (getD_of hi)
  rw [hx] at h1; cases h1
  exact ⟨F2, go0, hr.sub, h2⟩
theorem ex_lcO {X : Cx} {s s1 : S} {Ψ : S → Ar → Prop} {elt iter tg : Expr} {scope : Scope} {pos : Pos} {G : TG} {is : List Nat} {g : D → List Sl → Option (List Sl)} {k : Nat} {ds : List D} (own : List (Str × Nat)) (he : EA X s iter s1 (.o k)) (hk : s1.μ[k]? = some (.fl ds)) (hz : ds.length ≤ 16777216) (hN : X.N.Nodup) (ok : BlkOk X.N X.env.scope scope own)
    (hG : ∀ (sh : Shared) (H0 : Hp) (C : Addr) (cl : List (Str × Addr)) (fp : List Addr), PG (X.blk sh H0 scope (PySem.compEnvC scope cl C X.env) fp) tg G) (hS : GS X.K G is g)
    (hi : ∃ I : Nat → List T → List D → Prop, I 0 s1.μ [] ∧ (∀ i μ out, I i μ out → ∀ t, (μ ++ [t])[k]? = some (.fl ds)) ∧ (∀ i μ out, i < ds.length → I i μ out → LcX X.K g tYes (bE X scope elt) (wipeS s1.ρ (own.map (·.2))) (ds.getD i .non) μ out (I (i + 1))) ∧ ∀ μ out, I ds.length μ out → Ψ (S.add ⟨s1.ρ, μ⟩ (.fl out)) (.o μ.length))
    (hv : ∀ i ∈ is, i ∈ own.map (·.2) := by decide) (hc : X.calm = true := by rfl) (hf : ∀ x, foldedSetIterable iter X.env x = pure x := by intro _; rfl) :
    EX X s (.ListComp elt [⟨tg, iter, [], 0⟩] scope pos) Ψ := fun σ H F rs as hd Q c =>
  WE.of (pe_lc hc hN (pi_list pe_u) ok hG (fun _ _ _ _ _ => pts_nil) pe_b hf) (lc_runO (Φ := fun μ => μ[k]? = some (.fl ds)) (fun σ H F rs as hd R cc => he σ H F rs as hd _ fun v H1 F1 rs1 as1 h1 p1 g1 r1 => by
    obtain ⟨v', l, e1, e2, ⟨b, xs, eb, hb, rp, el⟩⟩ := h1.r.at hk
    have r1' : rs1[k]? = some v := r1
    rw [r1'] at e1
    cases e1
    subst eb
    exact ⟨b, rfl, ⟨xs, .of hb⟩, cc s1 ds.length (fun i => ds.getD i .non) ⟨hz, hi⟩ _ H1 F1 rs1 as1 h1 p1 g1 (giveR_fl r1')⟩) hS hv σ H F rs as hd Q c)
/-- .. items taken alone, frozen at once -/
theorem ee_lcO {α : Type} {X : Cx} {s s1 : S} {elt iter tg : Expr} {scope : Scope} {pos : Pos} {G : TG} {is : List Nat} {g : D → List Sl → Option (List Sl)} {k : Nat} (xs : List α) (item f : α → D) (own : List (Str × Nat)) (he : EA X s iter s1 (.o k)) (hk : s1.μ[k]? = some (.fl (xs.map item))) (hz : xs.length ≤ 16777216) (hN : X.N.Nodup) (ok : BlkOk X.N X.env.scope scope own)
    (hG : ∀ (sh : Shared) (H0 : Hp) (C : Addr) (cl : List (Str × Addr)) (fp : List Addr), PG (X.blk sh H0 scope (PySem.compEnvC scope cl C X.env) fp) tg G) (hS : GS X.K G is g)
    (hp : ∀ a ∈ xs, EltP X s1 scope elt g (own.map (·.2)) (item a) (f a)) (lw : low s1.μ.length s1.ρ = true := by rfl) (hlen : s.μ.length ≤ s1.μ.length := by exact Nat.le_refl _)
    (hv : ∀ i ∈ is, i ∈ own.map (·.2) := by decide) (hc : X.calm = true := by rfl) (hf : ∀ x, foldedSetIterable iter X.env x = pure x := by intro _; rfl) :
    EA X s (.ListComp elt [⟨tg, iter, [], 0⟩] scope pos) s1 (.d (.lst (xs.map f))) := ee_fl (ea_of_ex (ex_lcO own he hk (by rw [List.length_map]; exact hz) hN ok hG hS ⟨fun m μ out => μ = s1.μ ∧ out = (xs.take m).map f, ⟨rfl, rfl⟩, fun i μ out ⟨e1, _⟩ t => by
      subst e1
      rw [List.getElem?_append_left (List.getElem?_eq_some_iff.mp hk).1]; exact hk, fun i μ out hi ⟨e1, e2⟩ => by
      subst e1 e2
      rw [List.length_map] at hi
      have hx : xs[i]? = some xs[i] := List.getElem?_eq_getElem hi
      obtain ⟨ρ', h1, ρ2, h2⟩ := hp xs[i] (List.getElem_mem hi)
      rw [getD_map hx]
      exact ⟨ρ', h1, ttx_yes ⟨fun _ => tex_b fun sh H0 C cl fp => ex_of (h2 sh H0 C cl fp) ⟨_, rfl, rfl, (take_succ_map hx).symm⟩, fun z => nomatch z⟩⟩, fun μ out ⟨e1, e2⟩ => by
      subst e1 e2
      rw [List.length_map, List.take_length]
      exact ⟨rfl, rfl⟩⟩ hv hc hf)) lw hlen
end Q
namespace Q
open PySem PySem.Spec PyProof.Rows L2
section
variable {X : Cx} {s s1 s2 : S} {a b : Expr} {rest : List Expr} {pos : Pos} {x : Ar} {ds : List D}
theorem reps_emp {K : PySem.W.Frag} {F : Hp} {ds : List D} {xs : List V} (r : Reps K F ds xs) : (!xs.isEmpty) = !ds.isEmpty := by
  have := r.len
  cases xs <;> cases ds <;> simp_all
theorem tru_rl {K : PySem.W.Frag} {F H : Hp} {v : V} (sub : Same F H) (r : Rep K F (.rl ds) v) : TruV K v H (!ds.isEmpty) := by
  obtain ⟨p, xs, rfl, q, r⟩ := r
  exact .inl ⟨xs, sub.seq q, (reps_emp r).symm⟩
/-- xs or b, xs a readable list -/
theorem e_orR (h : EA X s a s1 (.d (.rl ds))) (hne : ds ≠ []) : EA X s (.BoolOp .Or (a :: b :: rest) pos) s1 (.d (.rl ds)) := fun σ H F rs as hd Q k =>
  WE.of (pe_orT pe_u pe_u) (h σ H F rs as hd _ fun v H1 F1 rs1 as1 h1 p1 g1 r1 => ⟨true, by
    have := tru_rl h1.sub r1
    rwa [show (!ds.isEmpty) = true from by cases ds <;> simp_all] at this, iteT (k v H1 F1 rs1 as1 h1 p1 g1 r1)⟩)
theorem e_orE (h : EA X s a s1 (.d (.rl []))) (h2 : EA X s1 (.BoolOp .Or (b :: rest) pos) s2 x) : EA X s (.BoolOp .Or (a :: b :: rest) pos) s2 x := fun σ H F rs as hd Q k =>
  WE.of (pe_orT pe_u pe_u) (h σ H F rs as hd _ fun v H1 F1 rs1 as1 h1 p1 g1 r1 => ⟨false, tru_rl h1.sub r1, iteF (h2 σ H1 F1 rs1 as1 h1 _ fun w H2 F2 rs2 as2 h2 p2 g2 r2 => k w H2 F2 rs2 as2 h2 (p1.trans p2) (g1.trans g2) r2)⟩)
end
end Q
namespace Q
open PySem L2
/-- slots forgotten -/
theorem ws_weak {X : Cx} {s : S} {st : List Stmt} {D' : Ds} (ρ' : List Sl) (hw : Weak s.ρ ρ') (h : WS X ⟨ρ', s.μ⟩ st D') : WS X s st D' := fun W σ H F rs as hd g p => h W σ H F rs as ⟨hd.r, hd.sl.weak hw⟩ g p
/-- the slots kept: those of true; behind the mask all are forgotten -/
def keepM : List Bool → List Sl → List Sl
  | _, [] => []
  | true :: m, p :: ρ => p :: keepM m ρ
  | false :: m, _ :: ρ => .un :: keepM m ρ
  | [], _ :: ρ => .un :: keepM [] ρ
theorem weak_keep : ∀ (m : List Bool) (ρ : List Sl), Weak ρ (keepM m ρ)
  | [], [] => rfl
  | true :: _, [] => rfl
  | false :: _, [] => rfl
  | true :: m, p :: ρ => ⟨p, _, rfl, .inr rfl, weak_keep m ρ⟩
  | false :: m, _ :: ρ => ⟨.un, _, rfl, .inl rfl, weak_keep m ρ⟩
  | [], _ :: ρ => ⟨.un, _, rfl, .inl rfl, weak_keep [] ρ⟩
theorem ws_keep {X : Cx} {s : S} {st : List Stmt} {D' : Ds} (m : List Bool) (h : WS X ⟨keepM m s.ρ, s.μ⟩ st D') : WS X s st D' := ws_weak _ (weak_keep m s.ρ) h
/-- xs or [..]: a readable list, or a list -/
def orR (ds es : List D) : D := if ds.isEmpty = true then .lst es else .rl ds
theorem e_or5 {X : Cx} {s s1 : S} {a b : Expr} {rest : List Expr} {pos : Pos} {ds es : List D} (h : EA X s a s1 (.d (.rl ds))) (h2 : EA X s1 (.BoolOp .Or (b :: rest) pos) s1 (.d (.lst es))) : EA X s (.BoolOp .Or (a :: b :: rest) pos) s1 (.d (orR ds es)) := by
  unfold orR
  cases ds with
  | nil => exact e_orE h h2
  | cons d ds => exact e_orR h (by simp)
theorem sl_or {X : Cx} {s : S} {ds es : List D} {lo hi : Option Int} : SlL X s (rSlL X.K) (.d (orR ds es)) lo hi (cut (if ds.isEmpty = true then es else ds) lo hi) := by
  unfold orR
  cases ds with
  | nil => exact sl_lst rfl
  | cons d ds => exact sl_rl
end Q
namespace Q
open PySem PySem.Spec PyProof.Rows L2
section
variable {X : Cx} {s s1 s2 s3 : S} {elt iter tg cond : Expr} {scope : Scope} {pos : Pos} {n : Nat} {it : Nat → D} {G : TG} {is : List Nat} {g : D → List Sl → Option (List Sl)} {α : Type} {D' : Ds} {nm : Str}
/-- test and element of a comprehension, item by item -/
def EltF (X : Cx) (s : S) (scope : Scope) (cond elt : Expr) (g : D → List Sl → Option (List Sl)) (vs : List Nat) (d : D) (b : Bool) (y : D) : Prop :=
  ∃ ρ', g d (wipeS s.ρ vs) = some ρ' ∧ ∃ ρ2, (∀ (sh : Shared) (H0 : Hp) (C : Addr) (cl : List (Str × Addr)) (fp : List Addr), ET (X.blk sh H0 scope (PySem.compEnvC scope cl C X.env) fp) ⟨ρ', s.μ⟩ cond ⟨ρ2, s.μ⟩ b) ∧
    ∃ ρ3, b = true → ∀ (sh : Shared) (H0 : Hp) (C : Addr) (cl : List (Str × Addr)) (fp : List Addr), EA (X.blk sh H0 scope (PySem.compEnvC scope cl C X.env) fp) ⟨ρ2, s.μ⟩ elt ⟨ρ3, s.μ⟩ (.d y)
theorem take_succ_filter {β : Type} {xs : List α} {b : α → Bool} {f : α → β} {i : Nat} {a : α} (h : xs[i]? = some a) : ((xs.take (i + 1)).filter b).map f = ((xs.take i).filter b).map f ++ (if b a = true then [f a] else []) := by
  rw [List.take_add_one, h]
  simp only [Option.toList_some, List.filter_append, List.map_append, List.filter_cons, List.filter_nil]
  cases b a <;> simp
theorem lcTurnF {b : α → Bool} {f : α → D} {item : α → D} {xs : List α} {vs : List Nat} (hit : ∀ i a, xs[i]? = some a → it i = item a) (he : ∀ a ∈ xs, EltF X s1 scope cond elt g vs (item a) (b a) (f a)) (i : Nat) (hi : i < xs.length) :
    LcTurn X.K g (bT X scope cond) (bE X scope elt) (wipeS s1.ρ vs) (it i) s1.μ s1.μ (((xs.take i).filter b).map f) (((xs.take (i + 1)).filter b).map f) := by
  have hx : xs[i]? = some xs[i] := List.getElem?_eq_getElem hi
  obtain ⟨ρ', h1, ρ2, h2, ρ3, h3⟩ := he xs[i] (List.getElem_mem hi)
  rw [← hit i _ hx] at h1
  refine ⟨ρ', b xs[i], ⟨ρ2, s1.μ⟩, h1, tts_b h2, fun hb => ⟨⟨ρ3, s1.μ⟩, f xs[i], tes_b (h3 hb), rfl, ?_⟩, fun hb => ⟨rfl, ?_⟩⟩
  · rw [take_succ_filter hx, if_pos hb]
  · rw [take_succ_filter hx, if_neg (by rw [hb]; decide), List.append_nil]
theorem ee_lcF (xs : List α) (item f : α → D) (b : α → Bool) (own : List (Str × Nat)) (hi : IT X s tg iter s1 n it) (hn : n = xs.length) (hit : ∀ i a, xs[i]? = some a → it i = item a) (hN : X.N.Nodup) (ok : BlkOk X.N X.env.scope scope own)
    (hG : ∀ (sh : Shared) (H0 : Hp) (C : Addr) (cl : List (Str × Addr)) (fp : List Addr), PG (X.blk sh H0 scope (PySem.compEnvC scope cl C X.env) fp) tg G) (hS : GS X.K G is g)
    (he : ∀ a ∈ xs, EltF X s1 scope cond elt g (own.map (·.2)) (item a) (b a) (f a)) (hl : xs.length ≤ 16777216) (lw : low s1.μ.length s1.ρ = true := by rfl) (hlen : s.μ.length ≤ s1.μ.length := by exact Nat.le_refl _)
    (hv : ∀ i ∈ is, i ∈ own.map (·.2) := by decide) (hc : X.calm = true := by rfl) (hf : ∀ x, foldedSetIterable iter X.env x = pure x := by intro _; rfl) :
    EA X s (.ListComp elt [⟨tg, iter, [cond], 0⟩] scope pos) s1 (.d (.lst ((xs.filter b).map f))) := ee_fl (by
  have e : ((xs.take n).filter b).map f = (xs.filter b).map f := by rw [hn, List.take_length]
  have := ea_lc (t := bT X scope cond) (ifs := [cond]) (elt := elt) (pos := pos) own (fun _ => s1.μ) (fun i => ((xs.take i).filter b).map f) hi hN ok hG hS (fun s H0 C cl fp => pts_b s H0 C cl fp) (by rw [hn]; exact hl) rfl rfl (fun _ => rfl) (fun i h => lcTurnF hit he i (by rw [← hn]; exact h)) hv hc hf
  rw [e] at this
  exact this) lw hlen
end
end Q
namespace Q
open PySem PySem.Spec PyProof.Rows L2
theorem reps_ints {K : PySem.W.Frag} {F : Hp} : ∀ ns : List Int, Reps K F (ns.map D.int) (ns.map V.int)
  | [] => rfl
  | n :: ns => ⟨_, _, rfl, rfl, reps_ints ns⟩
abbrev ct_law0 : Ct := pu (ι := List Int) (fun ns => [.rl (ns.map .int)]) (fun ns => ns.length ≤ 63) fun _ => .fz (.bl true)
theorem law_sp {K : PySem.W.Frag} {H : Hp} {a : Addr} {ns : List Int} {E : XK} (hl : ns.length ≤ 63) (hS : SqL K H a (ns.map V.int)) : spOf K ct_law0 [.ref a] H (fun v _ => v = .bl true) E := by
  refine ⟨H, [], ns, ⟨Same.refl H, rfl, rfl, fun i t v l e => (by cases e), fun i l e => (by cases e), fun i j l m a e => (by cases e), fun i l a e => (by cases e)⟩, ⟨_, _, rfl, ⟨a, _, rfl, hS, reps_ints ns⟩, rfl⟩, hl, ?_⟩
  rintro r outs ⟨rfl, rfl⟩ v H' F' ass' hr g
  obtain ⟨v', l, h1, h2, h3⟩ := hr.at (i := 0) (t := .fz (.bl true)) rfl
  have e : v = v' := by
    have : ([] ++ [v])[0]? = some v' := h1
    simpa using this
  subst e
  exact h3.1
end Q
namespace K12
open PySem L2 Q
def top (i : Nat) : Stmt := PySem.Challenge.pw_dotread_k12_fits_of_windows.main.body.getD i (.Pass ⟨0, 0, 0, 0⟩)
/-! ## data -/
def isNum : D → Int → Int → Bool
  | .int i, lo, hi => decide (lo ≤ i) && decide (i ≤ hi)
  | _, _, _ => false
/-- no kind of thing but plain data, texts not too long -/
def ok1 : D → Prop
  | .str l => l.length ≤ 16777216
  | .ins .. => False
  | .val _ => False
  | _ => True
theorem ok1.ty {d : D} (h : ok1 d) : ∃ t, tyD d = some t := by
  cases d <;> first | exact ⟨_, rfl⟩ | exact h.elim
def isRow : D → Bool
  | .str l => (decide ((1 : Int) ≤ (l.length : Nat)) && decide (((l.length : Nat) : Int) ≤ 120)) && (l.map fun c => decide ([c] ∈ [[35], [46]])).all id
  | _ => false
def dlen : D → Nat
  | .str l => l.length
  | .tup ds => ds.length
  | .lst ds => ds.length
  | .rl ds => ds.length
  | _ => 0
def isPic : D → Bool
  | .tup ds => (decide ((1 : Int) ≤ (ds.length : Nat)) && decide (((ds.length : Nat) : Int) ≤ 60)) && ((ds.map isRow).all id && (ds.map fun d => decide ((dlen d : Int) = (dlen (ds.getD 0 .non) : Nat))).all id)
  | _ => false
theorem isRow_str (l : List Nat) : isRow (.str l) = ((decide ((1 : Int) ≤ (l.length : Nat)) && decide (((l.length : Nat) : Int) ≤ 120)) && (l.map fun c => decide ([c] ∈ [[35], [46]])).all id) := rfl
theorem isPic_tup (ds : List D) : isPic (.tup ds) = ((decide ((1 : Int) ≤ (ds.length : Nat)) && decide (((ds.length : Nat) : Int) ≤ 60)) && ((ds.map isRow).all id && (ds.map fun d => decide ((dlen d : Int) = (dlen (ds.getD 0 .non) : Nat))).all id)) := rfl
theorem isRow_is {d : D} (h : isRow d = true) : ∃ l, d = .str l := by
  cases d <;> first | exact ⟨_, rfl⟩ | cases h
structure En (mg : Str → Option Value) : Prop where
  isinstance : mg "isinstance" = none
  int : mg "int" = none
  str : mg "str" = none
  bool : mg "bool" = none
  tuple : mg "tuple" = none
  list : mg "list" = none
  len : mg "len" = none
  all : mg "all" = none
  any : mg "any" = none
  sum : mg "sum" = none
  zip : mg "zip" = none
  range : mg "range" = none
  enumerate : mg "enumerate" = none
  max : mg "max" = none
  DOT : ∃ t, mg "DOT" = some (.str ("#" : Str) t)
  WHITE : ∃ t, mg "WHITE" = some (.str ("." : Str) t)
  MOST_ROWS : ∃ t, mg "MOST_ROWS" = some (.int 60 t)
  MOST_COLUMNS : ∃ t, mg "MOST_COLUMNS" = some (.int 120 t)
  MOST_WIDE_reading : ∃ t, mg "MOST_WIDE_reading" = some (.int 60 t)
  MOST_HIGH : ∃ t, mg "MOST_HIGH" = some (.int 9 t)
  MOST_WIDE_alphabets : ∃ t, mg "MOST_WIDE_alphabets" = some (.int 8 t)
  MOST_SHAPES : ∃ t, mg "MOST_SHAPES" = some (.int 16 t)
section
variable {P : Program} {w : World} {K : PySem.W.Frag} {mg : Str → Option Value} {base : Heap}
abbrev ct_num : Ct := pu (ι := D × Int × Int) (fun (d, lo, hi) => [d, .int lo, .int hi]) (fun (d, _, _) => ok1 d) fun (d, lo, hi) => .fz (.bl (isNum d lo hi))
theorem sc_num {i : Nat} (h : i = 11 ∨ i = 20) : FnScope ["thing", "low", "high"] ["thing", "low", "high"] (defScope (top i)) := by
  rcases h with rfl | rfl
  all_goals exact ⟨rfl, rfl, rfl, by decide +kernel, rfl, by decide +kernel, by decide +kernel⟩
theorem ok_num (E : En mg) {f : Addr} {fd : FuncData} {i : Nat} (h : i = 11 ∨ i = 20) (F : Fun K "is_number" "is_number" (top i) f fd) : FnOk P w K mg base CX0 1 f fd ["thing", "low", "high"] (spOf K ct_num) := by
  have sc := sc_num h
  rcases h with rfl | rfl
  all_goals
    refine fn_pu F sc (fun _ => rfl) fun cdv A outer s H Eh hr (d, lo, hi) hp => ?_
    refine ws_cons ?_
    cases d with
    | int i => exact w1_ret (ee_and (ee_isi "int" true E.isinstance E.int (ea_d 0) rfl) fun _ => ee_and (ee_not (ee_isi "bool" false E.isinstance E.bool (ea_d 0) rfl)) fun _ => ee_one (ee_chain op_le op_le (ea_d 1) (ea_d 0) ov_le (ea_d 2) ov_le)) rt_d
    | bl b => exact w1_ret (ee_and (u := false) (ee_isi "int" true E.isinstance E.int (ea_d 0) rfl) fun _ => ee_and (u := false) (ee_not (ee_isi "bool" true E.isinstance E.bool (ea_d 0) rfl)) fun z => nomatch z) rt_d
    | ins C ns ds => exact hp.elim
    | val v => exact hp.elim
    | non => exact w1_ret (ee_and (u := false) (ee_isi "int" false E.isinstance E.int (ea_d 0) rfl) fun z => nomatch z) rt_d
    | str l => exact w1_ret (ee_and (u := false) (ee_isi "int" false E.isinstance E.int (ea_d 0) rfl) fun z => nomatch z) rt_d
    | lst l => exact w1_ret (ee_and (u := false) (ee_isi "int" false E.isinstance E.int (ea_d 0) rfl) fun z => nomatch z) rt_d
    | tup l => exact w1_ret (ee_and (u := false) (ee_isi "int" false E.isinstance E.int (ea_d 0) rfl) fun z => nomatch z) rt_d
    | rl l => exact w1_ret (ee_and (u := false) (ee_isi "int" false E.isinstance E.int (ea_d 0) rfl) fun z => nomatch z) rt_d
/-! is_row -/
abbrev ct_row : Ct := pu (ι := D) (fun d => [d]) ok1 fun d => .fz (.bl (isRow d))
theorem sc_row : FnScope ["thing", "sign"] ["thing"] (defScope (top 13)) := ⟨rfl, rfl, rfl, by decide +kernel, rfl, by decide +kernel, by decide +kernel⟩
theorem ok_row (E : En mg) {f : Addr} {fd : FuncData} (F : Fun K "is_row" "is_row" (top 13) f fd) : FnOk P w K mg base CX0 1 f fd ["thing"] (spOf K ct_row) := by
  refine fn_pu F sc_row (fun _ => rfl) fun cdv A outer s H Eh hr d hp => ?_
  have no : ∀ t, tyD d = some t → kitB t "str" = some false → isRow d = false → WS (cxOf CX0 P w K mg base ["thing", "sign"] "is_row" (defScope (top 13)) f cdv A outer s H Eh).nox ⟨[Sl.d d, .un], []⟩ (defBody (top 13)) (rtp (.fz (.bl (isRow d)))) := fun t ht hk e => by
    rw [e]
    refine ws_cons (w1_if (b := true) (et_of_w (ew_or (t := true) (u := false) (et_not (t := false) (et_val (ee_isi "str" false E.isinstance E.str (ea_d 0) ht hk))) fun z => nomatch z)) (fun _ => ?_) fun z => nomatch z)
    exact ws_cons (w1_ret ee_bl rt_d)
  cases d with
  | str l =>
    have hz : l.length ≤ 16777216 := hp
    refine ws_cons (w1_if (et_of_w (ew_or (et_not (et_val (ee_isi "str" true E.isinstance E.str (ea_d 0) rfl))) fun _ => ew_or1 (et_not (et_chain op_le op_le ee_int (e_lenS E.len (ea_d 0) hz) ov_le (e_gi E.MOST_COLUMNS) ov_le)))) (fun h => ?_) (fun h => ?_))
    · have h' : (!(decide ((1 : Int) ≤ (l.length : Nat)) && decide (((l.length : Nat) : Int) ≤ 120))) = true := h
      exact ws_cons (w1_ret ee_bl (rt_b (by rw [isRow_str, nt h']; rfl)))
    · have h' : (!(decide ((1 : Int) ≤ (l.length : Nat)) && decide (((l.length : Nat) : Int) ≤ 120))) = false := h
      refine ws_nil ?_
      refine ws_cons (w1_ret (e_all (bs := l.map fun c => decide ([c] ∈ [[35], [46]])) E.all (ee_lcP l (fun c => .str [c]) (fun c => .bl (decide ([c] ∈ [[35], [46]]))) [("sign", 1)] (it_str (ea_d 0)) rfl (fun i a h => by rw [getD_some h]) sc_row.nd blk_of (fun _ _ _ _ _ => pg_name (i := 1) sc_row.nd rfl (Or.inl rfl)) (gs_name 1) (fun c _ => ⟨_, rfl, _, fun _ _ _ _ _ => ea_cmp op_in_seq (ea_d 1) (ee_tup (es_cons (e_gs [35] E.DOT) (es_cons (e_gs [46] E.WHITE) es_nil))) (ov_inS (ls := [[35], [46]]) rfl)⟩) hz) (by show _ = _; rw [List.map_map]; rfl)) (rt_b ?_))
      rw [isRow_str, nf h']; rfl
  | ins C ns ds => exact hp.elim
  | val v => exact hp.elim
  | _ => exact no _ rfl (by decide +kernel) rfl
/-! is_picture -/
def okP (d : D) : Prop := ok1 d ∧ ∀ ds, d = .tup ds → ds.length ≤ 16777216 ∧ ∀ e ∈ ds, ok1 e
abbrev ct_pic : Ct := pu (ι := D) (fun d => [d]) okP fun d => .fz (.bl (isPic d))
theorem sc_pic : FnScope ["thing", "row"] ["thing"] (defScope (top 14)) := ⟨rfl, rfl, rfl, by decide +kernel, rfl, by decide +kernel, by decide +kernel⟩
theorem ok_pic (E : En mg) (Crow : Cl P w K mg base "is_row" 1 1 ct_row) {f : Addr} {fd : FuncData} (F : Fun K "is_picture" "is_picture" (top 14) f fd) : FnOk P w K mg base CX0 4 f fd ["thing"] (spOf K ct_pic) := by
  refine fn_pu F sc_pic (fun _ => rfl) fun cdv A outer s H Eh hr d hp => ?_
  have no : ∀ t, tyD d = some t → kitB t "tuple" = some false → isPic d = false → WS (cxOf CX0 P w K mg base ["thing", "row"] "is_picture" (defScope (top 14)) f cdv A outer s H Eh).nox ⟨[Sl.d d, .un], []⟩ (defBody (top 14)) (rtp (.fz (.bl (isPic d)))) := fun t ht hk e => by
    rw [e]
    refine ws_cons (w1_if (b := true) (et_of_w (ew_or (t := true) (u := false) (et_not (t := false) (et_val (ee_isi "tuple" false E.isinstance E.tuple (ea_d 0) ht hk))) fun z => nomatch z)) (fun _ => ?_) fun z => nomatch z)
    exact ws_cons (w1_ret ee_bl rt_d)
  cases d with
  | tup ds =>
    obtain ⟨hz, hall⟩ := hp.2 ds rfl
    refine ws_cons (w1_if (et_of_w (ew_or (et_not (et_val (ee_isi "tuple" true E.isinstance E.tuple (ea_d 0) rfl))) fun _ => ew_or1 (et_not (et_chain op_le op_le ee_int (e_len (ds := ds) E.len (ea_d 0)) ov_le (e_gi E.MOST_ROWS) ov_le)))) (fun h => ?_) (fun h => ?_))
    · have h' : (!(decide ((1 : Int) ≤ (ds.length : Nat)) && decide (((ds.length : Nat) : Int) ≤ 60))) = true := h
      exact ws_cons (w1_ret ee_bl (rt_b (by rw [isPic_tup, nt h']; rfl)))
    · have h' : (!(decide ((1 : Int) ≤ (ds.length : Nat)) && decide (((ds.length : Nat) : Int) ≤ 60))) = false := h
      have h2 := nf h'
      refine ws_nil ?_
      refine ws_cons (w1_ret (ee_and (e_all (bs := ds.map isRow) E.all (ee_lcP ds (fun d => d) (fun d => .bl (isRow d)) [("row", 1)] (it_tup (ea_d 0)) rfl (fun i a h => by rw [getD_some h]) sc_pic.nd blk_of (fun _ _ _ _ _ => pg_name (i := 1) sc_pic.nd rfl (Or.inl rfl)) (gs_name 1) (fun c hc => ⟨_, rfl, _, fun _ _ _ _ _ => ea_pu Crow (hr.mono (by decide)) c (es_cons (ea_d 1) es_nil) (hall c hc)⟩) hz) (by show _ = _; rw [List.map_map]; rfl)) fun hA => ee_one (e_all (bs := ds.map fun d => decide ((dlen d : Int) = (dlen (ds.getD 0 .non) : Nat))) E.all (ee_lcP ds (fun d => d) (fun d => .bl (decide ((dlen d : Int) = (dlen (ds.getD 0 .non) : Nat)))) [("row", 1)] (it_tup (ea_d 0)) rfl (fun i a h => by rw [getD_some h]) sc_pic.nd blk_of (fun _ _ _ _ _ => pg_name (i := 1) sc_pic.nd rfl (Or.inl rfl)) (gs_name 1) (fun c hc => ?_) hz) (by show _ = _; rw [List.map_map]; rfl))) (rt_b ?_))
      · have rw_ : ∀ e ∈ ds, isRow e = true := fun e he => by
          have := List.all_eq_true.mp hA (isRow e) (List.mem_map_of_mem he)
          exact this
        obtain ⟨l, rfl⟩ := isRow_is (rw_ c hc)
        have h1 : 0 < ds.length := List.length_pos_of_mem hc
        have e0 : ds[0]? = some ds[0] := List.getElem?_eq_getElem h1
        obtain ⟨l0, q0⟩ := isRow_is (rw_ ds[0] (List.getElem_mem h1))
        rw [q0] at e0
        have z0 : l0.length ≤ 16777216 := hall (.str l0) (List.mem_of_getElem? e0)
        have z1 : l.length ≤ 16777216 := hall _ hc
        have e2 : dlen (ds.getD 0 .non) = l0.length := by rw [getD_some e0]; rfl
        simp only [e2]
        exact ⟨_, rfl, _, fun _ _ _ _ _ => e_eqI (e_lenS E.len (ea_d 1) z1) (e_lenS E.len (e_ixT (ea_d 0) ee_int (atN (k := 0) e0)) z0)⟩
      · rw [isPic_tup, h2]; rfl
  | ins C ns ds => exact hp.1.elim
  | val v => exact hp.1.elim
  | _ => exact no _ rfl (by decide +kernel) rfl
end
end K12
namespace K12
open PySem L2 Q
/-- a picture of rows of codes -/
def pc (p : List (List Nat)) : D := .tup (p.map .str)
structure IsP (p : List (List Nat)) (h w : Nat) : Prop where
  len : p.length = h
  h1 : 1 ≤ h
  h2 : h ≤ 60
  w1 : 1 ≤ w
  w2 : w ≤ 120
  row : ∀ r ∈ p, r.length = w
  sg : ∀ r ∈ p, ∀ c ∈ r, c = 35 ∨ c = 46
def colt (p : List (List Nat)) : List (List Nat) := (List.range (p.getD 0 []).length).map fun k => p.map fun r => r.getD k 0
theorem IsP.isRow {p : List (List Nat)} {h w : Nat} (q : IsP p h w) {r : List Nat} (hr : r ∈ p) : isRow (.str r) = true := by
  rw [isRow_str]
  have e := q.row r hr
  have := q.w1
  have := q.w2
  rw [show (r.map fun c => decide ([c] ∈ [[35], [46]])).all id = true from by rw [List.all_map, List.all_eq_true]; intro c hc; rcases q.sg r hr c hc with rfl | rfl <;> decide]
  simp [e]; omega
theorem IsP.pic {p : List (List Nat)} {h w : Nat} (q : IsP p h w) : isPic (pc p) = true := by
  have := q.h1
  have := q.h2
  have hl := q.len
  have e0 : ∃ r0, p[0]? = some r0 := ⟨_, List.getElem?_eq_getElem (by omega)⟩
  obtain ⟨r0, e0⟩ := e0
  have w0 := q.row r0 (List.mem_of_getElem? e0)
  rw [pc, isPic_tup, all_map fun r hr => q.isRow hr, all_map fun r hr => ?_]
  · simp [hl]; omega
  · rw [getD_map e0]
    show decide (((r.length : Nat) : Int) = ((r0.length : Nat) : Int)) = true
    rw [q.row r hr, w0]; simp
theorem IsP.ok {p : List (List Nat)} {h w : Nat} (q : IsP p h w) : okP (pc p) := ⟨trivial, fun ds e => by
  cases e
  have hl := q.len
  have := q.h2
  refine ⟨by rw [List.length_map]; omega, fun e he => ?_⟩
  obtain ⟨r, hr, rfl⟩ := List.mem_map.mp he
  have := q.row r hr
  have := q.w2
  show r.length ≤ 16777216
  omega⟩
theorem flat1 {α : Type} {f : α → Nat} : ∀ xs : List α, (xs.map fun x => [f x]).flatten = xs.map f
  | [] => rfl
  | x :: xs => by rw [List.map_cons, List.flatten_cons, flat1 xs]; rfl
theorem len1 {α : Type} {f : α → Nat} : ∀ xs : List α, (xs.map (List.length ∘ fun x => [f x])).sum = xs.length
  | [] => rfl
  | x :: xs => by rw [List.map_cons, List.sum_cons, len1 xs]; simp; omega
section
variable {P : Program} {w : World} {K : PySem.W.Frag} {mg : Str → Option Value} {base : Heap}
/-! column_texts -/
abbrev ct_colt : Ct := pu (ι := List (List Nat)) (fun p => [pc p]) (fun p => ∃ h w, IsP p h w) fun p => .fl ((colt p).map .str)
theorem sc_colt : FnScope ["picture", "row", "k"] ["picture"] (defScope (top 16)) := ⟨rfl, rfl, rfl, by decide +kernel, rfl, by decide +kernel, by decide +kernel⟩
theorem ok_colt (E : En mg) {f : Addr} {fd : FuncData} (F : Fun K "column_texts" "column_texts" (top 16) f fd) : FnOk P w K mg base CX0 1 f fd ["picture"] (spOf K ct_colt) := by
  refine fn_pu F sc_colt (fun _ => rfl) fun cdv A outer s H Eh hr p ⟨h, wd, q⟩ => ?_
  have hl := q.len
  have := q.h1
  have := q.h2
  have := q.w2
  obtain ⟨r0, e0⟩ : ∃ r0, p[0]? = some r0 := ⟨_, List.getElem?_eq_getElem (by omega)⟩
  have w0 := q.row r0 (List.mem_of_getElem? e0)
  have ew : (p.getD 0 []).length = wd := by rw [getD_some e0]; exact w0
  have e0' : (p.map D.str)[0]? = some (.str r0) := by rw [List.getElem?_map, e0]; rfl
  have ix : ∀ r ∈ p, ∀ k ∈ List.range wd, r[k]? = some (r.getD k 0) := fun r hr k hk => by
    have := List.mem_range.mp hk
    have h2 := q.row r hr
    exact getD_at (by omega)
  have sz : ∀ k, ((p.map fun r => [r.getD k 0]).map List.length).sum + (p.map fun r => [r.getD k 0]).length * ([] : List Nat).length ≤ 16777216 := fun k => by
    rw [List.map_map, show ((p.map (List.length ∘ fun r => [r.getD k 0])).sum = p.length) from len1 p]
    simp; omega
  refine ws_cons (w1_ret (ea_lcP (List.range wd) (fun k => .int (k : Nat)) (fun k => .str (TL.joinL [] (p.map fun r => [r.getD k 0]))) [("k", 2)] (it_range1 rfl E.range (e_lenS E.len (e_ixT (ea_d 0) ee_int (atN (k := 0) e0')) (by omega)) (by omega) (by omega)) (by rw [w0]; simp) (fun i a h => by rw [(range_get h).2]; simp) sc_colt.nd blk_of (fun _ _ _ _ _ => pg_name (i := 2) sc_colt.nd rfl (Or.inr rfl)) (gs_name 2)
    (fun k hk => ⟨_, rfl, _, fun _ _ _ _ _ => ee_join (ls := p.map fun r => [r.getD k 0]) (ee_str []) (ee_lcP p (fun r => .str r) (fun r => .str [r.getD k 0]) [("row", 1)] (it_tup (ea_d 0)) (by simp) (fun i a h => by rw [getD_map h]) sc_colt.nd blk_of (fun _ _ _ _ _ => pg_name (i := 1) sc_colt.nd rfl (Or.inl rfl)) (gs_name 1)
      (fun r hr => ⟨_, rfl, _, fun _ _ _ _ _ => e_ixS (ea_d 1) (ea_d 2) (atN (ix r hr k hk)) (by have := q.row r hr; omega)⟩) (by omega)) rfl (sz k) (by rw [List.map_map]; rfl)⟩) (by simp; omega)) (rt_o' rfl ?_))
  rw [colt, ew, List.map_map]
  exact congrArg T.fl (List.map_congr_left fun k _ => by rw [joinL_nil, flat1]; rfl)
end
end K12
namespace K12
open PySem L2 Q
def unl (a b : List Nat) : Int := ((a.zip b).map fun p => if (!decide ([p.1] = [p.2])) = true then (1 : Int) else 0).sum
/-- an alphabet: its height, its shapes (sign, picture) -/
def shs (sh : List (List Nat × List (List Nat))) : List D := sh.map fun p => .tup [.str p.1, pc p.2]
def al (C : Addr) (h : Nat) (sh : List (List Nat × List (List Nat))) : D := .ins C ["rows", "drawn_signs"] [.int (h : Int), .lst (shs sh)]
structure IsA (h : Nat) (sh : List (List Nat × List (List Nat))) : Prop where
  h1 : 1 ≤ h
  h2 : h ≤ 9
  n1 : 1 ≤ sh.length
  n2 : sh.length ≤ 16
  pic : ∀ p ∈ sh, ∃ w, w ≤ 8 ∧ IsP p.2 h w
def fitN (line p : List (List Nat)) (at_ : Nat) : Int := (((((colt line).drop at_).take (p.getD 0 []).length).zip (colt p)).map fun q => unl q.1 q.2).sum
theorem zip_get {α β : Type} {xs : List α} {ys : List β} {i : Nat} {p : α × β} (h : (xs.zip ys)[i]? = some p) : xs[i]? = some p.1 ∧ ys[i]? = some p.2 := by
  rw [List.getElem?_zip_eq_some] at h
  exact h
section
variable {P : Program} {w : World} {K : PySem.W.Frag} {mg : Str → Option Value} {base : Heap} {C : Addr}
structure EnC (K : PySem.W.Frag) (C : Addr) : Prop where
  cl : Cls K C
  rows : NoAttr K C "rows"
  drawn : NoAttr K C "drawn_signs"
/-! unlike_signs -/
abbrev ct_unl : Ct := pu (ι := List Nat × List Nat) (fun (a, b) => [.str a, .str b]) (fun (a, b) => a.length ≤ 1000) fun (a, b) => .fz (.int (unl a b))
theorem sc_unl : FnScope ["one", "other", "sign", "more"] ["one", "other"] (defScope (top 17)) := ⟨rfl, rfl, rfl, by decide +kernel, rfl, by decide +kernel, by decide +kernel⟩
theorem ok_unl (E : En mg) {f : Addr} {fd : FuncData} (F : Fun K "unlike_signs" "unlike_signs" (top 17) f fd) : FnOk P w K mg base CX0 1 f fd ["one", "other"] (spOf K ct_unl) := by
  refine fn_pu F sc_unl (fun _ => rfl) fun cdv A outer s H Eh hr (a, b) hp => ?_
  have hp : a.length ≤ 1000 := hp
  refine ws_cons (w1_ret (e_sum (is := (a.zip b).map fun p => if (!decide ([p.1] = [p.2])) = true then (1 : Int) else 0) E.sum (ee_lcP (a.zip b) (fun p => .tup [.str [p.1], .str [p.2]]) (fun p => .int (if (!decide ([p.1] = [p.2])) = true then 1 else 0)) [("sign", 2), ("more", 3)] (it_zip rfl E.zip (ea_d 0) (ea_d 1)) (by simp) (fun i p h => by
    obtain ⟨h1, h2⟩ := zip_get h
    rw [getD_map h1, getD_map h2]) sc_unl.nd blk_of (fun _ _ _ _ _ => pg_tup rfl (pgs_cons (pg_name (i := 2) sc_unl.nd rfl (Or.inl rfl)) (pgs_cons (pg_name (i := 3) sc_unl.nd rfl (Or.inl rfl)) pgs_nil))) (gs_tup (gss_cons (gs_name 2) (gss_cons (gs_name 3) gss_nil)) (tcons_len (tcons_len tnil_len)))
    (fun p _ => ⟨_, rfl, _, fun _ _ _ _ _ => e_intB E.int (e_neS (ea_d 2) (ea_d 3))⟩) (by rw [List.length_zip]; omega)) (by show _ = _; rw [List.map_map]; rfl)) rt_d)
/-! the alphabet's methods -/
theorem sc_high : FnScope ["self"] ["self"] (defScope (inClass (top 31) 3)) := ⟨rfl, rfl, rfl, by decide +kernel, rfl, by decide +kernel, by decide +kernel⟩
abbrev ct_high (C : Addr) : Ct := pu (ι := Nat × List (List Nat × List (List Nat))) (fun (h, sh) => [al C h sh]) (fun _ => True) fun (h, sh) => .fz (.int (h : Int))
theorem ok_high (EC : EnC K C) {f : Addr} {fd : FuncData} (F : Fun K "high" "Alphabet.high" (inClass (top 31) 3) f fd) : FnOk P w K mg base CX0 1 f fd ["self"] (spOf K (ct_high C)) := by
  refine fn_pu F sc_high (fun _ => rfl) fun cdv A outer s H Eh hr (h, sh) hp => ?_
  exact ws_cons (w1_ret (ee_fld 0 (ea_d 0) EC.cl EC.rows) rt_d)
theorem sc_shapes : FnScope ["self"] ["self"] (defScope (inClass (top 31) 4)) := ⟨rfl, rfl, rfl, by decide +kernel, rfl, by decide +kernel, by decide +kernel⟩
abbrev ct_shapes (C : Addr) : Ct := pu (ι := Nat × List (List Nat × List (List Nat))) (fun (h, sh) => [al C h sh]) (fun _ => True) fun (h, sh) => .fl (shs sh)
theorem ok_shapes (E : En mg) (EC : EnC K C) {f : Addr} {fd : FuncData} (F : Fun K "shapes" "Alphabet.shapes" (inClass (top 31) 4) f fd) : FnOk P w K mg base CX0 1 f fd ["self"] (spOf K (ct_shapes C)) := by
  refine fn_pu F sc_shapes (fun _ => rfl) fun cdv A outer s H Eh hr (h, sh) hp => ?_
  exact ws_cons (w1_ret (e_list (ds := shs sh) E.list (ee_fld 1 (ea_d 0) EC.cl EC.drawn)) rt_o)
theorem sc_need : FnScope ["self", "number"] ["self", "number"] (defScope (inClass (top 31) 6)) := ⟨rfl, rfl, rfl, by decide +kernel, rfl, by decide +kernel, by decide +kernel⟩
abbrev ct_need (C : Addr) : Ct := pu (ι := Nat × List (List Nat × List (List Nat)) × Nat) (fun (h, sh, k) => [al C h sh, .int (k : Int)]) (fun (_, sh, k) => k < sh.length) fun _ => .fz .non
theorem ok_need (E : En mg) (EC : EnC K C) (Cn : Cl P w K mg base "is_number_dots" 3 1 ct_num) {f : Addr} {fd : FuncData} (F : Fun K "need" "Alphabet.need" (inClass (top 31) 6) f fd) : FnOk P w K mg base CX0 2 f fd ["self", "number"] (spOf K (ct_need C)) := by
  refine fn_pu F sc_need (fun _ => rfl) fun cdv A outer s H Eh hr (h, sh, k) hp => ?_
  have hk : k < sh.length := hp
  have e : isNum (.int (k : Int)) 0 (((shs sh).length : Nat) - 1) = true := by
    unfold isNum shs
    simp; omega
  refine ws_cons (w1_if (b := false) (et_not (t := true) (et_val (ea_pu Cn (hr.mono (by decide)) (.int (k : Int), 0, ((shs sh).length : Nat) - 1) (es_cons (ea_d 1) (es_cons ee_int (es_cons (e_sub (e_len (ds := shs sh) E.len (ee_fld 1 (ea_d 0) EC.cl EC.drawn)) ee_int) es_nil))) trivial (by rw [← e])))) (fun z => nomatch z) (fun _ => ws_nil (ws_nil rfl)))
theorem sc_wide : FnScope ["self", "number"] ["self", "number"] (defScope (inClass (top 31) 7)) := ⟨rfl, rfl, rfl, by decide +kernel, rfl, by decide +kernel, by decide +kernel⟩
abbrev ct_wide (C : Addr) : Ct := pu (ι := Nat × List (List Nat × List (List Nat)) × Nat) (fun (h, sh, k) => [al C h sh, .int (k : Int)]) (fun (h, sh, k) => IsA h sh ∧ k < sh.length) fun (h, sh, k) => .fz (.int ((((sh.getD k ([], [])).2.getD 0 []).length : Nat) : Int))
theorem ok_wide (E : En mg) (EC : EnC K C) (Cn : Mc P w K mg base C "need" 2 2 (ct_need C)) {f : Addr} {fd : FuncData} (F : Fun K "wide" "Alphabet.wide" (inClass (top 31) 7) f fd) : FnOk P w K mg base CX0 3 f fd ["self", "number"] (spOf K (ct_wide C)) := by
  refine fn_pu F sc_wide (fun _ => rfl) fun cdv A outer s H Eh hr (h, sh, k) hp => ?_
  obtain ⟨ia, hk⟩ : IsA h sh ∧ k < sh.length := hp
  obtain ⟨p, hp⟩ : ∃ p, sh[k]? = some p := ⟨_, List.getElem?_eq_getElem hk⟩
  obtain ⟨wd, w8, q⟩ := ia.pic p (List.mem_of_getElem? hp)
  have hl := q.len
  have := q.h1
  obtain ⟨r0, e0⟩ : ∃ r0, p.2[0]? = some r0 := ⟨_, List.getElem?_eq_getElem (by omega)⟩
  have w0 := q.row r0 (List.mem_of_getElem? e0)
  have e1 : (shs sh)[k]? = some (.tup [.str p.1, pc p.2]) := by unfold shs; rw [List.getElem?_map, hp]; rfl
  have e2 : (p.2.map D.str)[0]? = some (.str r0) := by rw [List.getElem?_map, e0]; rfl
  refine ws_cons (w1_expr (ea_mpu Cn EC.cl hr (ea_d 0) (h, sh, k) (es_cons (ea_d 1) es_nil) hk) ?_)
  refine ws_cons (w1_ret (e_lenS E.len (e_ixT (e_ixT (e_ixL (ee_fld 1 (ea_d 0) EC.cl EC.drawn) (ea_d 1) (atN e1)) ee_int (by rfl)) ee_int (atN (k := 0) e2)) (by omega)) (rt_i (by rw [getD_some hp, getD_some e0])))
end
end K12
namespace K12
open PySem L2 Q
structure IsS (p : List Nat × List (List Nat)) (h w : Nat) : Prop where
  sign : ∃ c, p.1 = [c] ∧ 33 ≤ c ∧ c ≤ 126
  pic : IsP p.2 h w
  w8 : w ≤ 8
  dot : ∃ r ∈ p.2, 35 ∈ r
section
variable {P : Program} {w : World} {K : PySem.W.Frag} {mg : Str → Option Value} {base : Heap} {C : Addr}
/-! is_line, need_line, fit -/
abbrev ct_line (C : Addr) : Ct := pu (ι := Nat × List (List Nat × List (List Nat)) × List (List Nat)) (fun (h, sh, p) => [al C h sh, pc p]) (fun (h, sh, p) => ∃ w, w ≤ 60 ∧ IsP p h w) fun _ => .fz (.bl true)
theorem sc_line : FnScope ["alphabet", "thing"] ["alphabet", "thing"] (defScope (top 22)) := ⟨rfl, rfl, rfl, by decide +kernel, rfl, by decide +kernel, by decide +kernel⟩
theorem ok_line (E : En mg) (EC : EnC K C) (Cp : Cl P w K mg base "is_picture" 1 4 ct_pic) (Ch : Mc P w K mg base C "high" 1 1 (ct_high C)) {f : Addr} {fd : FuncData} (F : Fun K "is_line" "is_line" (top 22) f fd) : FnOk P w K mg base CX0 5 f fd ["alphabet", "thing"] (spOf K (ct_line C)) := by
  refine fn_pu F sc_line (fun _ => rfl) fun cdv A outer s H Eh hr (h, sh, p) hp => ?_
  obtain ⟨wd, w60, q⟩ : ∃ w, w ≤ 60 ∧ IsP p h w := hp
  have hl := q.len
  have := q.h1
  obtain ⟨r0, e0⟩ : ∃ r0, p[0]? = some r0 := ⟨_, List.getElem?_eq_getElem (by omega)⟩
  have w0 := q.row r0 (List.mem_of_getElem? e0)
  have e2 : (p.map D.str)[0]? = some (.str r0) := by rw [List.getElem?_map, e0]; rfl
  refine ws_cons (w1_ret (ee_and (t := true) (u := true && true) (ea_pu Cp (hr.mono (by decide)) (pc p) (es_cons (ea_d 1) es_nil) q.ok (by rw [q.pic])) fun _ => ee_and (t := true) (u := true) (y1 (e_eqI (e_len (ds := p.map D.str) E.len (ea_d 1)) (ea_mpu0 Ch EC.cl (hr.mono (by decide)) (ea_d 0) (h, sh) trivial)) (by simp [hl])) fun _ => ee_one (y1 (e_leI (e_lenS E.len (e_ixT (ea_d 1) ee_int (atN (k := 0) e2)) (by omega)) (e_gi E.MOST_WIDE_reading)) (by simp; omega))) rt_d)
abbrev ct_needl (C : Addr) : Ct := pu (ι := Nat × List (List Nat × List (List Nat)) × List (List Nat)) (fun (h, sh, p) => [al C h sh, pc p]) (fun (h, sh, p) => ∃ w, w ≤ 60 ∧ IsP p h w) fun _ => .fz .non
theorem sc_needl : FnScope ["alphabet", "thing"] ["alphabet", "thing"] (defScope (top 23)) := ⟨rfl, rfl, rfl, by decide +kernel, rfl, by decide +kernel, by decide +kernel⟩
theorem ok_needl (Cp : Cl P w K mg base "is_line" 2 5 (ct_line C)) {f : Addr} {fd : FuncData} (F : Fun K "need_line" "need_line" (top 23) f fd) : FnOk P w K mg base CX0 6 f fd ["alphabet", "thing"] (spOf K (ct_needl C)) := by
  refine fn_pu F sc_needl (fun _ => rfl) fun cdv A outer s H Eh hr (h, sh, p) hp => ?_
  exact ws_cons (w1_if (b := false) (et_not (t := true) (et_val (ea_pu Cp hr (h, sh, p) (es_cons (ea_d 0) (es_cons (ea_d 1) es_nil)) hp))) (fun z => nomatch z) (fun _ => ws_nil (ws_nil rfl)))
/-- what fit is asked -/
structure IsF (h : Nat) (sh : List (List Nat × List (List Nat))) (line : List (List Nat)) (at_ k wl : Nat) : Prop where
  a : IsA h sh
  l : IsP line h wl
  l60 : wl ≤ 60
  kk : k < sh.length
  w : at_ + (((sh.getD k ([], [])).2.getD 0 []).length) ≤ wl
abbrev ct_fit (C : Addr) : Ct := pu (ι := Nat × List (List Nat × List (List Nat)) × List (List Nat) × Nat × Nat) (fun (h, sh, line, at_, k) => [al C h sh, pc line, .int (at_ : Int), .int (k : Int)]) (fun (h, sh, line, at_, k) => ∃ wl, IsF h sh line at_ k wl) fun (h, sh, line, at_, k) => .fz (.int (fitN line (sh.getD k ([], [])).2 at_))
theorem sc_fit : FnScope ["alphabet", "line", "column", "number", "wide", "there", "shape", "one", "other"] ["alphabet", "line", "column", "number"] (defScope (top 24)) := ⟨rfl, rfl, rfl, by decide +kernel, rfl, by decide +kernel, by decide +kernel⟩
theorem ok_fit (E : En mg) (EC : EnC K C) (Cn : Cl P w K mg base "need_line" 2 6 (ct_needl C)) (Cw : Mc P w K mg base C "wide" 2 3 (ct_wide C)) (Ci : Cl P w K mg base "is_number_reading" 3 1 ct_num) (Cc : Cl P w K mg base "column_texts" 1 1 ct_colt) (Cs : Mc P w K mg base C "shapes" 1 1 (ct_shapes C)) (Cu : Cl P w K mg base "unlike_signs" 2 1 ct_unl)
    {f : Addr} {fd : FuncData} (F : Fun K "fit" "fit" (top 24) f fd) : FnOk P w K mg base CX0 7 f fd ["alphabet", "line", "column", "number"] (spOf K (ct_fit C)) := by
  refine fn_pu F sc_fit (fun _ => rfl) fun cdv A outer s H Eh hr (h, sh, line, at_, k) hp => ?_
  obtain ⟨wl, ⟨ia, q, l60, hk, hw⟩⟩ : ∃ wl, IsF h sh line at_ k wl := hp
  have hl := q.len
  have := q.h1
  obtain ⟨sp, hsp⟩ : ∃ p, sh[k]? = some p := ⟨_, List.getElem?_eq_getElem hk⟩
  obtain ⟨ws, w8, qs⟩ := ia.pic sp (List.mem_of_getElem? hsp)
  have hls := qs.len
  obtain ⟨r0, e0⟩ : ∃ r0, line[0]? = some r0 := ⟨_, List.getElem?_eq_getElem (by omega)⟩
  have w0 := q.row r0 (List.mem_of_getElem? e0)
  have e2 : (line.map D.str)[0]? = some (.str r0) := by rw [List.getElem?_map, e0]; rfl
  obtain ⟨r1, e1⟩ : ∃ r0, sp.2[0]? = some r0 := ⟨_, List.getElem?_eq_getElem (by omega)⟩
  have w1 := qs.row r1 (List.mem_of_getElem? e1)
  have es : (shs sh)[k]? = some (.tup [.str sp.1, pc sp.2]) := by unfold shs; rw [List.getElem?_map, hsp]; rfl
  rw [getD_some hsp, getD_some e1, w1] at hw
  have en : isNum (.int (at_ : Int)) 0 (((r0.length : Nat) : Int) - (r1.length : Nat)) = true := by
    unfold isNum
    simp; omega
  have ev : (((sh.getD k ([], [])).2.getD 0 []).length : Int) = (r1.length : Nat) := by rw [getD_some hsp, getD_some e1]
  have ecut : cut ((colt line).map D.str) (some (at_ : Int)) (some ((at_ : Int) + (r1.length : Nat))) = (((colt line).drop at_).take r1.length).map D.str := by
    have hc : (colt line).length = wl := by simp [colt, e0, List.getD, w0]
    rw [cut_nat (by rw [List.length_map]; omega), List.map_take, List.map_drop]
  have el : ∀ x ∈ colt line, x.length ≤ 1000 := fun x hx => by
    obtain ⟨k, _, rfl⟩ := List.mem_map.mp hx
    have := q.h2
    rw [List.length_map]; omega
  refine ws_cons (w1_expr (ea_pu Cn (hr.mono (by decide)) (h, sh, line) (es_cons (ea_d 0) (es_cons (ea_d 1) es_nil)) ⟨wl, l60, q⟩) ?_)
  refine ws_cons (w1_set 4 (ea_mpu (d := .int (r1.length : Nat)) Cw EC.cl (hr.mono (by decide)) (ea_d 0) (h, sh, k) (es_cons (ea_d 3) es_nil) ⟨ia, hk⟩ (by rw [← ev])) ?_ sc_fit.nd)
  refine ws_cons (w1_if (b := false) (et_not (t := true) (et_val (ea_pu Ci (hr.mono (by decide)) (.int (at_ : Int), 0, ((r0.length : Nat) : Int) - (r1.length : Nat)) (es_cons (ea_d 2) (es_cons ee_int (es_cons (e_sub (e_lenS E.len (e_ixT (ea_d 1) ee_int (atN (k := 0) e2)) (by omega)) (ea_d 4)) es_nil))) trivial (by rw [← en])))) (fun z => nomatch z) (fun _ => ws_nil ?_))
  refine ws_cons (w1_set 5 (ea_slL sl_list (ea_puT Cc (hr.mono (by decide)) line (es_cons (ea_d 1) es_nil) ⟨h, wl, q⟩) (ep_some (ea_d 2)) (ep_some (e_add (ea_d 2) (ea_d 4))) (sl_lst (ds := (colt line).map D.str) rfl)) ?_ sc_fit.nd)
  refine ws_cons (w1_set 6 (ea_puT Cc (hr.mono (by decide)) sp.2 (es_cons (e_ixT (e_ixL (ea_mpu0T Cs EC.cl (hr.mono (by decide)) (ea_d 0) (h, sh) trivial) (ea_d 3) (atN es)) ee_int (by rfl)) es_nil) ⟨h, ws, qs⟩) ?_ sc_fit.nd)
  show WS _ ⟨[.d (al C h sh), .d (pc line), .d (.int (at_ : Int)), .d (.int (k : Int)), .d (.int (r1.length : Nat)), .o 1, .o 3, .un, .un], [.fl ((colt line).map .str), .fl (cut ((colt line).map D.str) (some (at_ : Int)) (some ((at_ : Int) + (r1.length : Nat)))), .fl (shs sh), .fl ((colt sp.2).map .str)]⟩ _ _
  rw [ecut]
  refine ws_frz 1 rfl rfl (ws_frz 3 rfl rfl ?_)
  show WS _ ⟨[.d (al C h sh), .d (pc line), .d (.int (at_ : Int)), .d (.int (k : Int)), .d (.int (r1.length : Nat)), .d (.lst ((((colt line).drop at_).take r1.length).map D.str)), .d (.lst ((colt sp.2).map .str)), .un, .un], [.fl ((colt line).map .str), .fz (.lst ((((colt line).drop at_).take r1.length).map D.str)), .fl (shs sh), .fz (.lst ((colt sp.2).map .str))]⟩ _ _
  refine ws_cons (w1_ret (e_sum (is := (((((colt line).drop at_).take r1.length).zip (colt sp.2)).map fun q => unl q.1 q.2)) E.sum (ee_lcP (((colt line).drop at_).take r1.length |>.zip (colt sp.2)) (fun p => .tup [.str p.1, .str p.2]) (fun p => .int (unl p.1 p.2)) [("one", 7), ("other", 8)] (it_zip rfl E.zip (ea_d 5) (ea_d 6)) (by simp) (fun i p h => by
    obtain ⟨h1, h2⟩ := zip_get h
    rw [getD_map h1, getD_map h2]) sc_fit.nd blk_of (fun _ _ _ _ _ => pg_tup rfl (pgs_cons (pg_name (i := 7) sc_fit.nd rfl (Or.inl rfl)) (pgs_cons (pg_name (i := 8) sc_fit.nd rfl (Or.inl rfl)) pgs_nil))) (gs_tup (gss_cons (gs_name 7) (gss_cons (gs_name 8) gss_nil)) (tcons_len (tcons_len tnil_len)))
    (fun p hp => ⟨_, rfl, _, fun _ _ _ _ _ => ea_pu Cu (hr.mono (by decide)) (p.1, p.2) (es_cons (ea_d 7) (es_cons (ea_d 8) es_nil)) (el _ ?_)⟩) ?_) (by show _ = _; rw [List.map_map]; rfl)) (rt_i ?_))
  · exact List.mem_of_mem_drop (List.mem_of_mem_take (List.of_mem_zip hp).1)
  · have : (colt line).length = wl := by simp [colt, e0, List.getD, w0]
    simp; omega
  · unfold fitN
    rw [getD_some hsp, getD_some e1]
end
end K12
namespace K12
open PySem L2 Q
def pics (sh : List (List Nat × List (List Nat))) : List D := sh.map fun p => pc p.2
/-- what an alphabet is made of -/
structure IsM (h : Nat) (sh : List (List Nat × List (List Nat))) : Prop where
  h1 : 1 ≤ h
  h2 : h ≤ 9
  n1 : 1 ≤ sh.length
  n2 : sh.length ≤ 16
  s : ∀ p ∈ sh, ∃ w, IsS p h w
  nd : ∀ i p, sh[i]? = some p → pc p.2 ∉ (pics sh).take i
theorem IsM.a {h : Nat} {sh : List (List Nat × List (List Nat))} (m : IsM h sh) : IsA h sh := ⟨m.h1, m.h2, m.n1, m.n2, fun p hp => let ⟨w, q⟩ := m.s p hp; ⟨w, q.w8, q.pic⟩⟩
theorem dk_pc {p : List (List Nat)} {h w : Nat} (q : IsP p h w) : Dk 2 (pc p) := by
  show ∀ d ∈ p.map D.str, Dk 1 d
  intro d hd
  obtain ⟨r, hr, rfl⟩ := List.mem_map.mp hd
  intro c hc
  rcases q.sg r hr c hc with rfl | rfl <;> decide
section
variable {P : Program} {w : World} {K : PySem.W.Frag} {mg : Str → Option Value} {base : Heap} {C : Addr}
abbrev ct_sign : Ct := pu (ι := Nat) (fun c => [.str [c]]) (fun c => 33 ≤ c ∧ c ≤ 126) fun _ => .fz (.bl true)
theorem sc_sign : FnScope ["thing"] ["thing"] (defScope (top 29)) := ⟨rfl, rfl, rfl, by decide +kernel, rfl, by decide +kernel, by decide +kernel⟩
theorem ok_sign (E : En mg) {f : Addr} {fd : FuncData} (F : Fun K "is_sign" "is_sign" (top 29) f fd) : FnOk P w K mg base CX0 1 f fd ["thing"] (spOf K ct_sign) := by
  refine fn_pu F sc_sign (fun _ => rfl) fun cdv A outer s H Eh hr c hp => ?_
  obtain ⟨c1, c2⟩ : 33 ≤ c ∧ c ≤ 126 := hp
  refine ws_cons (w1_ret (ee_and (t := true) (u := true && true) (ee_isi "str" true E.isinstance E.str (ea_d 0) rfl) fun _ => ee_and (t := true) (u := true) (y1 (e_eqI (e_lenS E.len (ea_d 0) (by show 1 ≤ 16777216; decide)) ee_int) (by rfl)) fun _ => ee_one (y1 (ee_chain op_le_str op_le_str (ee_str [33]) (ea_d 0) ov_leS (ee_str [126]) ov_leS) ?_)) rt_d)
  rw [decide_eq_false (by rw [lt1]; omega), decide_eq_false (by rw [lt1]; omega)]; rfl
abbrev ct_shape : Ct := pu (ι := (List Nat × List (List Nat)) × Nat) (fun (p, h) => [.tup [.str p.1, pc p.2], .int (h : Int)]) (fun (p, h) => ∃ w, IsS p h w) fun _ => .fz (.bl true)
theorem sc_shape : FnScope ["thing", "high", "rows", "row"] ["thing", "high"] (defScope (top 30)) := ⟨rfl, rfl, rfl, by decide +kernel, rfl, by decide +kernel, by decide +kernel⟩
theorem ok_shape (E : En mg) (Cs : Cl P w K mg base "is_sign" 1 1 ct_sign) (Cp : Cl P w K mg base "is_picture" 1 4 ct_pic) {f : Addr} {fd : FuncData} (F : Fun K "is_shape" "is_shape" (top 30) f fd) : FnOk P w K mg base CX0 5 f fd ["thing", "high"] (spOf K ct_shape) := by
  refine fn_pu F sc_shape (fun _ => rfl) fun cdv A outer s H Eh hr (⟨sg, p⟩, h) hp => ?_
  obtain ⟨wd, ⟨⟨c, rfl, c1, c2⟩, q, w8, ⟨rd, hrd, hd⟩⟩⟩ : ∃ w, IsS (sg, p) h w := hp
  have q : IsP p h wd := q
  have hrd : rd ∈ p := hrd
  have hl := q.len
  have := q.h1
  obtain ⟨r0, e0⟩ : ∃ r0, p[0]? = some r0 := ⟨_, List.getElem?_eq_getElem (by omega)⟩
  have w0 := q.row r0 (List.mem_of_getElem? e0)
  have e2 : (p.map D.str)[0]? = some (.str r0) := by rw [List.getElem?_map, e0]; rfl
  refine ws_cons (w1_if (b := false) (et_of_w (ew_or (t := false) (u := false) (et_not (t := true) (et_val (ee_isi "tuple" true E.isinstance E.tuple (ea_d 0) rfl))) fun _ => ew_or (t := false) (u := false) (ty0 (t_neI (e_len (ds := [.str [c], pc p]) E.len (ea_d 0)) ee_int) rfl) fun _ => ew_or (t := false) (u := false) (et_not (t := true) (et_val (ea_pu Cs (hr.mono (by decide)) c (es_cons (e_ixT (ea_d 0) ee_int (d := .str [c]) rfl) es_nil) ⟨c1, c2⟩))) fun _ => ew_or1 (et_not (t := true) (et_val (ea_pu Cp (hr.mono (by decide)) (pc p) (es_cons (e_ixT (ea_d 0) ee_int (d := pc p) rfl) es_nil) q.ok (by rw [q.pic])))))) (fun z => nomatch z) fun _ => ws_nil ?_)
  refine ws_cons (w1_set 2 (e_ixT (ea_d 0) ee_int (d := pc p) rfl) ?_ sc_shape.nd)
  have any : (p.map fun r => decide (35 ∈ r)).any id = true := by
    rw [List.any_map, List.any_eq_true]
    exact ⟨rd, hrd, decide_eq_true hd⟩
  refine ws_cons (w1_ret (ee_and (t := true) (u := true && true) (y1 (e_eqI (e_len (ds := p.map D.str) E.len (ea_d 2)) (ea_d 1)) (by simp [hl])) fun _ => ee_and (t := true) (u := true) (y1 (e_leI (e_lenS E.len (e_ixT (ea_d 2) ee_int (atN (k := 0) e2)) (by omega)) (e_gi E.MOST_WIDE_alphabets)) (by simp; omega)) fun _ => ee_one (y1 (e_any (bs := p.map fun r => decide (35 ∈ r)) E.any (ee_lcP p (fun r => .str r) (fun r => .bl (decide (35 ∈ r))) [("row", 3)] (it_tup (ea_d 2)) (by simp) (fun i a h => by rw [getD_map h]) sc_shape.nd blk_of (fun _ _ _ _ _ => pg_name (i := 3) sc_shape.nd rfl (Or.inl rfl)) (gs_name 3) (fun r _ => ⟨_, rfl, _, fun _ _ _ _ _ => e_inC (e_gs [35] E.DOT) (ea_d 3)⟩) (by have := q.h2; omega)) (by show _ = _; rw [List.map_map]; rfl)) any)) rt_d)
/-! the making of an alphabet -/
def ct_init (C : Addr) : Ct where
  ι := Nat × List (List Nat × List (List Nat))
  args := fun (h, sh) => [.o (.ob C [] []), .d (.int (h : Int)), .d (.lst (shs sh))]
  pre := fun (h, sh) => IsM h sh
  post := fun (h, sh) r outs => r = .fz .non ∧ outs = [.ob C ["rows", "drawn_signs"] [.int (h : Int), .lst (shs sh)]]
theorem sc_init : FnScope ["self", "high", "shapes", "met", "at", "shape"] ["self", "high", "shapes"] (defScope (inClass (top 31) 0)) := ⟨rfl, rfl, rfl, by decide +kernel, rfl, by decide +kernel, by decide +kernel⟩
theorem ok_init (E : En mg) (EC : EnC K C) (Cn : Cl P w K mg base "is_number_dots" 3 1 ct_num) (Cs : Cl P w K mg base "is_shape" 2 5 ct_shape) {f : Addr} {fd : FuncData} (F : Fun K "__init__" "Alphabet.__init__" (inClass (top 31) 0) f fd) : FnOk P w K mg base CX0 6 f fd ["self", "high", "shapes"] (spOf K (ct_init C)) := by
  refine fn_ok F sc_init (fun _ => rfl) fun cdv A outer s H Eh hr (h, sh) hp => ?_
  have m : IsM h sh := hp
  show WS _ ⟨[.o 0, .d (.int (h : Int)), .d (.lst (shs sh)), .un, .un, .un], [.ob C [] []]⟩ _ (rets 1 _)
  have := m.h1
  have := m.h2
  have := m.n1
  have := m.n2
  have ls : (shs sh).length = sh.length := by simp [shs]
  refine ws_cons (w1_if (b := false) (et_not (t := true) (et_val (ea_pu Cn (hr.mono (by decide)) (.int (h : Int), 1, 9) (es_cons (ea_d 1) (es_cons ee_int (es_cons (e_gi E.MOST_HIGH) es_nil))) trivial (by show T.fz (.bl (decide ((1 : Int) ≤ (h : Int)) && decide ((h : Int) ≤ 9))) = _; rw [decide_eq_true (by omega), decide_eq_true (by omega)]; rfl)))) (fun z => nomatch z) fun _ => ws_nil ?_)
  refine ws_cons (w1_if (b := false) (et_of_w (ew_or (t := false) (u := false) (et_not (t := true) (et_val (e_isi2 "list" "tuple" true false E.isinstance E.list E.tuple (ea_d 2) rfl))) fun _ => ew_or1 (ty0 (t_eqI (e_len (ds := shs sh) E.len (ea_d 2)) ee_int) (by rw [ls]; exact decide_eq_false (by omega))))) (fun z => nomatch z) fun _ => ws_nil ?_)
  refine ws_cons (w1_set 3 (ea_lst es_nil) ?_ sc_init.nd)
  refine ws_cons (w1_for (fun i s2 => s2.μ = [.ob C [] [], .fl ((pics sh).take i)] ∧ ∃ a b, low 2 [a, b] = true ∧ s2.ρ = [.o 0, .d (.int (h : Int)), .d (.lst (shs sh)), .o 1, a, b]) (it_en (ds := shs sh) rfl E.enumerate (ea_d 2)) (pg_tup rfl (pgs_cons (pg_name (i := 4) sc_init.nd rfl (Or.inl rfl)) (pgs_cons (pg_name (i := 5) sc_init.nd rfl (Or.inl rfl)) pgs_nil))) (gs_tup (gss_cons (gs_name 4) (gss_cons (gs_name 5) gss_nil)) (tcons_len (tcons_len tnil_len))) ⟨rfl, _, _, rfl, rfl⟩ ?_ ?_)
  · rintro i ⟨ρ, μ⟩ hi ⟨rfl, a, b, lab, rfl⟩
    rw [ls] at hi
    obtain ⟨p, hp⟩ : ∃ p, sh[i]? = some p := ⟨_, List.getElem?_eq_getElem hi⟩
    obtain ⟨wd, is⟩ := m.s p (List.mem_of_getElem? hp)
    have e1 : (shs sh).getD i .non = .tup [.str p.1, pc p.2] := by unfold shs; rw [getD_map hp]
    have lp : (pics sh).length = sh.length := by simp [pics]
    rw [e1]
    refine ⟨_, rfl, ?_⟩
    show WS _ ⟨[.o 0, .d (.int (h : Int)), .d (.lst (shs sh)), .o 1, .d (.int (i : Nat)), .d (.tup [.str p.1, pc p.2])], _⟩ _ _
    refine ws_cons (w1_if (b := false) (et_of_w (ew_or (t := false) (u := false) (ty0 (t_eqI (ea_d 4) (e_gi E.MOST_SHAPES)) (decide_eq_false (by omega))) fun _ => ew_or (t := false) (u := false) (et_not (t := true) (et_val (ea_pu Cs (hr.mono (by decide)) (p, h) (es_cons (ea_d 5) (es_cons (ea_d 1) es_nil)) ⟨wd, is⟩))) fun _ => ew_or1 (et_cmp (op_inD (Room.isin hr)) (e_ixT (ea_d 5) ee_int (d := pc p.2) rfl) (ea_o 3 (k := 1)) (ov_inD (t := false) (n := 2) (d := pc p.2) (ds := (pics sh).take i) rfl ⟨_, rfl, rfl, rfl⟩ (dk_pc is.pic) (fun z hz => ?_) (ht := Iff.intro (fun z => nomatch z) (fun z => absurd z (m.nd i p hp))))))) (fun z => nomatch z) fun _ => ws_nil ?_)
    · obtain ⟨q, hq, rfl⟩ := List.mem_map.mp (List.mem_of_mem_take hz)
      obtain ⟨_, iq⟩ := m.s q hq
      exact dk_pc iq.pic
    refine ws_cons (w1_expr (e_append (ea_o 3 (k := 1)) (e_ixT (ea_d 5) ee_int (d := pc p.2) rfl) rfl (by rw [List.length_take]; omega)) ?_)
    refine ws_nil ⟨?_, _, _, rfl, rfl⟩
    show [T.ob C [] [], T.fl ((pics sh).take i ++ [pc p.2])] = _
    have : (pics sh)[i]? = some (pc p.2) := by unfold pics; rw [List.getElem?_map, hp]; rfl
    rw [List.take_add_one, this]; rfl
  · rintro ⟨ρ, μ⟩ ⟨rfl, a, b, lab, rfl⟩
    have nd : (["rows", "drawn_signs"] : List Str).Nodup := by decide +kernel
    refine ws_cons (w1x_fld (C := C) (ns := []) (kk := 0) EC.cl EC.rows (ex_of (ea_d 1) ⟨_, [], rfl, ex_of (ea_o 0 (k := 0)) ⟨rfl, rfl, ?_⟩⟩))
    refine ws_cons (w1x_fld (C := C) (ns := ["rows"]) (kk := 0) EC.cl EC.drawn (ex_of (ee_fl (e_list (ds := shs sh) E.list (ea_d 2)) (lw := lab)) ⟨_, [.int (h : Int)], rfl, ex_of (ea_o 0 (k := 0)) ⟨rfl, rfl, ?_⟩⟩))
    exact ws_nil ⟨.fz .non, _, ⟨rfl, rfl⟩, ret_d rfl rfl rfl⟩
end
end K12
namespace K12
open PySem L2 Q
def dr (a b : Int) (c : Nat) : T := .fl [.int a, .int b, .int (c : Int)]
/-- a draw's state, at most n numbers mixed -/
def Dr (n : Nat) (t : T) : Prop := ∃ a b c, t = dr a b c ∧ c ≤ n
theorem Dr.mono {n m : Nat} {t : T} (h : Dr n t) (l : n ≤ m) : Dr m t := let ⟨a, b, c, e, q⟩ := h; ⟨a, b, c, e, Nat.le_trans q l⟩
theorem bits_le {i : Int} {k : Nat} (h0 : 0 ≤ i) (h : i < 2 ^ k) : Builtin.Int.intBits i ≤ k := by
  unfold Builtin.Int.intBits
  split
  · exact Nat.zero_le _
  · rename_i h1
    have h1' : i ≠ 0 := fun e => h1 (by rw [e]; rfl)
    have n0 : i.natAbs ≠ 0 := by omega
    have hlt : i.natAbs < 2 ^ k := by
      have e : ((i.natAbs : Nat) : Int) = i := by omega
      have : ((i.natAbs : Nat) : Int) < ((2 ^ k : Nat) : Int) := by rw [e]; simpa using h
      exact Int.ofNat_lt.mp this
    exact (Nat.log2_lt n0).mpr hlt
section
variable {P : Program} {w : World} {K : PySem.W.Frag} {mg : Str → Option Value} {base : Heap} {C : Addr}
abbrev ct_begun : Ct := pu (ι := Int × Nat) (fun (cell, k) => [.int cell, .int (k : Int)]) (fun (_, k) => k ≤ 1000) fun (cell, k) => dr (max 0 (cell - 10 ^ 18)) (cell + 977 * k) 0
theorem sc_begun : FnScope ["cell", "k"] ["cell", "k"] (defScope (top 33)) := ⟨rfl, rfl, rfl, by decide +kernel, rfl, by decide +kernel, by decide +kernel⟩
theorem ok_begun (E : En mg) {f : Addr} {fd : FuncData} (F : Fun K "_law_begun" "_law_begun" (top 33) f fd) : FnOk P w K mg base CX0 1 f fd ["cell", "k"] (spOf K ct_begun) := by
  refine fn_pu F sc_begun (fun _ => rfl) fun cdv A outer s H Eh hr (cell, k) hp => ?_
  have hk : k ≤ 1000 := hp
  exact ws_cons (w1_ret (ea_lst (es_cons (e_max E.max ee_int (e_sub (ea_d 0) (ea_op op_powW ee_int ee_int (ov_I (i := 10) (j := 18) (d := .int (10 ^ 18)) ⟨by decide, by decide +kernel⟩ fun _ => rfl)))) (es_cons (e_add (ea_d 0) (ea_op op_mul ee_int (ea_d 1) (ov_mul (.inr ⟨by omega, by omega⟩)))) (es_cons ee_int es_nil)))) rt_o)
def ct_next : Ct where
  ι := Nat × T × Int
  args := fun (n, t, j) => [.o t, .d (.int j)]
  pre := fun (n, t, j) => Dr n t ∧ n < 1073741824 ∧ 0 < j ∧ j < 1073741824
  post := fun (n, t, j) r outs => ∃ v t', r = .fz (.int v) ∧ 0 ≤ v ∧ v < j ∧ outs = [t'] ∧ Dr (n + 1) t'
theorem sc_next : FnScope ["draw", "below", "found"] ["draw", "below"] (defScope (top 34)) := ⟨rfl, rfl, rfl, by decide +kernel, rfl, by decide +kernel, by decide +kernel⟩
theorem ok_next {f : Addr} {fd : FuncData} (F : Fun K "_law_next" "_law_next" (top 34) f fd) : FnOk P w K mg base CX0 1 f fd ["draw", "below"] (spOf K ct_next) := by
  refine fn_ok F sc_next (fun _ => rfl) fun cdv A outer s H E hr i hp => ?_
  obtain ⟨n, t, j⟩ := i
  obtain ⟨⟨a, b, c, rfl, hc⟩, hn, hj, hj2⟩ : Dr n t ∧ n < 1073741824 ∧ 0 < j ∧ j < 1073741824 := hp
  show WS _ ⟨[.o 0, .d (.int j), .un], [dr a b c]⟩ _ (rets 1 _)
  have g0 : ∀ c' : Int, atI [D.int a, .int b, .int c'] 0 = some (.int a) := fun _ => rfl
  have g1 : ∀ c' : Int, atI [D.int a, .int b, .int c'] 1 = some (.int b) := fun _ => rfl
  have g2 : ∀ c' : Int, atI [D.int a, .int b, .int c'] 2 = some (.int c') := fun _ => rfl
  refine ws_cons (w1_if (t_gt (e_ixL (ea_o 0 (k := 0)) ee_int (g0 c)) ee_int) (fun h => ?_) (fun h => ?_))
  · refine ws_cons (w1_set 2 (ea_op op_mod (e_ixL (ea_o 0 (k := 0)) ee_int (g0 c)) (ea_d 1) (ov_mod hj)) ?_ sc_next.nd)
    refine ws_cons (w1_setix (ea_op op_fdiv (e_ixL (ea_o 0 (k := 0)) ee_int (g0 c)) (ea_d 1) (ov_div ⟨hj, hj2⟩)) (ea_o 0 (k := 0)) ee_int (ds := [.int a, .int b, .int c]) (m := 0) rfl (by rfl) ?_)
    refine ws_cons (w1_ret (ea_d 2) ?_)
    exact ⟨.fz (.int (a % j)), [dr (a / j) b c], ⟨_, _, rfl, Int.emod_nonneg _ (by omega), Int.emod_lt_of_pos _ hj, rfl, _, _, _, rfl, by omega⟩, rfl, Nat.le_of_ble_eq_true rfl, rfl⟩
  · refine ws_nil ?_
    have m1 : 0 ≤ b % 2147483629 ∧ b % 2147483629 < 2147483629 := ⟨Int.emod_nonneg _ (by decide), Int.emod_lt_of_pos _ (by decide)⟩
    have m2 : 0 ≤ b % 2147483587 ∧ b % 2147483587 < 2147483587 := ⟨Int.emod_nonneg _ (by decide), Int.emod_lt_of_pos _ (by decide)⟩
    refine ws_cons (w1_setix (e_add (e_ixL (ea_o 0 (k := 0)) ee_int (g2 c)) ee_int) (ea_o 0 (k := 0)) ee_int (ds := [.int a, .int b, .int c]) (m := 2) rfl (by rfl) ?_)
    show WS _ ⟨[.o 0, .d (.int j), .un], [.fl [.int a, .int b, .int ((c : Int) + 1)]]⟩ _ _
    generalize hc1 : ((c : Int) + 1) = c1
    have b1 : 0 ≤ c1 ∧ c1 ≤ 1073741824 := by omega
    refine ws_cons (w1_set 2 (e_add (ea_op op_mod (e_ixL (ea_o 0 (k := 0)) ee_int (g1 c1)) ee_int (ov_mod (by decide))) (ea_op op_mul ee_int (e_ixL (ea_o 0 (k := 0)) ee_int (g2 c1)) (ov_mul (.inl ⟨by decide, by decide⟩)))) ?_ sc_next.nd)
    show WS _ ⟨[.o 0, .d (.int j), .d (.int (b % 2147483629 + 104729 * c1))], [.fl [.int a, .int b, .int c1]]⟩ _ _
    generalize hx : b % 2147483629 + 104729 * c1 = x
    have bx : 0 ≤ x ∧ x < 2 ^ 48 := by omega
    have c2 : 0 ≤ 7919 * c1 * c1 ∧ 7919 * c1 * c1 ≤ 7919 * 1073741824 * 1073741824 := by
      refine ⟨Int.mul_nonneg (by omega) b1.1, ?_⟩
      exact Int.mul_le_mul (by omega) b1.2 b1.1 (by omega)
    refine ws_cons (w1_set 2 (ea_op op_mul (ea_d 2) (e_add (e_add (ea_op op_mod (e_ixL (ea_o 0 (k := 0)) ee_int (g1 c1)) ee_int (ov_mod (by decide))) (ea_op op_mul (ea_op op_mul ee_int (e_ixL (ea_o 0 (k := 0)) ee_int (g2 c1)) (ov_mul (.inl ⟨by decide, by decide⟩))) (e_ixL (ea_o 0 (k := 0)) ee_int (g2 c1)) (ov_mul (.inr ⟨by omega, by omega⟩)))) ee_int) (ov_mul (.inl ⟨by omega, by omega⟩))) ?_ sc_next.nd)
    show WS _ ⟨[.o 0, .d (.int j), .d (.int (x * (b % 2147483587 + 7919 * c1 * c1 + 11)))], [.fl [.int a, .int b, .int c1]]⟩ _ _
    generalize hy : b % 2147483587 + 7919 * c1 * c1 + 11 = y
    have by_ : 0 ≤ y ∧ y < 2 ^ 80 := by omega
    have bz : 0 ≤ x * y ∧ x * y < 2 ^ 128 := by
      refine ⟨Int.mul_nonneg bx.1 by_.1, ?_⟩
      have := Int.mul_lt_mul' (Int.le_of_lt bx.2) by_.2 by_.1 (by decide : (0 : Int) < 2 ^ 48)
      exact this
    have bb := bits_le bz.1 bz.2
    refine ws_cons (w1_ret (ea_op op_mod (ea_op op_fdiv (ea_op op_mod (ea_op op_powW (ea_d 2) ee_int (ov_I (i := x * y) (j := 3) (d := .int ((x * y) ^ (3 : Int).toNat)) ⟨by decide, by omega⟩ fun _ => rfl)) ee_int (ov_mod (by decide))) ee_int (ov_div (by decide))) (ea_d 1) (ov_mod hj)) ?_)
    exact ⟨.fz (.int ((x * y) ^ (3 : Int).toNat % 2147483647 / 11 % j)), [dr a b (c + 1)], ⟨_, _, rfl, Int.emod_nonneg _ (by omega), Int.emod_lt_of_pos _ hj, rfl, _, _, _, rfl, by omega⟩, by rw [← hc1]; rfl, Nat.le_of_ble_eq_true rfl, rfl⟩
end
end K12
namespace K12
open PySem L2 Q
/-- how many numbers may be mixed -/
abbrev lim : Nat := 1073741824
section
variable {X : Cx} {s s1 : S} {e e0 : Expr} {p pos : Pos} {k k0 n : Nat} {Ψ : S → Ar → Prop}
theorem x_next (Cn : Cl X.prog X.w X.K X.mg X.base "_law_next" 2 1 ct_next) (hr : Room k X.A) (hd : EA X s e0 s (.o k0)) (hk : 1 ≤ k)
    (h : EX X s e fun s1 x => ∃ (j : Int) (t : T) (n : Nat), x = .d (.int j) ∧ s1.μ[k0]? = some t ∧ Dr n t ∧ n < lim ∧ 0 < j ∧ j < 1073741824 ∧ ∀ v t', 0 ≤ v → v < j → Dr (n + 1) t' → Ψ ⟨s1.ρ, s1.μ.set k0 t'⟩ (.d (.int v)))
    (hg : Gl X "_law_next" := by rfl) (hx : X.xe = fun _ _ => False := by rfl) (he : starEach (e0 :: [e]) X.env = (false, eval e0 X.env) :: starEach [e] X.env := by rfl) (he2 : starEach [e] X.env = (false, eval e X.env) :: starEach [] X.env := by rfl) (hpl : (backTo pos (starEach [e] X.env)).any (·.1) = false := by rfl) :
    EX X s (.Call (.Name "_law_next" p) [e0, e] [] pos) Ψ :=
  ex_cl (Φ := ct_next) Cn (hr.mono hk) (xs_cons (ex_of hd (xs_cons (ex_mono h fun s1 x ⟨j, t, n, ex, ht, d, hn, h1, h2, c⟩ => xs_nil (by
    subst ex
    refine ⟨(n, t, j), by show (s1.μ[k0]?).bind _ = _; rw [ht]; rfl, ⟨d, hn, h1, h2⟩, by simp [oks], fun r outs ⟨v, t', q⟩ => by rw [q.2.2.2.1]; rfl, fun r outs ⟨v, t', e1, q1, q2, e2, q3⟩ => .inl ⟨.int v, e1, ?_⟩⟩
    subst e2
    exact c v t' q1 q2 q3)) (hs := he2))) (hs := he)) hg hx (by decide) he hpl
/-! _law_pick -/
def items : Ag → Option (List D)
  | .d d => sq d
  | .o (.fl ds) => some ds
  | _ => none
def rest : Ag → List T
  | .d _ => []
  | .o t => [t]
def ct_pick : Ct where
  ι := Nat × T × Ag × List D
  args := fun (n, t, g, _) => [.o t, g]
  pre := fun (n, t, g, ds) => Dr n t ∧ n < lim ∧ items g = some ds ∧ 0 < ds.length ∧ ds.length ≤ 1000000 ∧ ∀ d', g ≠ .d (.rl d')
  post := fun (n, t, g, ds) r outs => ∃ x t', r = .fz x ∧ x ∈ ds ∧ outs = t' :: rest g ∧ Dr (n + 1) t'
end
section
variable {P : Program} {w : World} {K : PySem.W.Frag} {mg : Str → Option Value} {base : Heap} {C : Addr}
theorem sc_pick : FnScope ["draw", "some"] ["draw", "some"] (defScope (top 35)) := ⟨rfl, rfl, rfl, by decide +kernel, rfl, by decide +kernel, by decide +kernel⟩
theorem atI_in {ds : List D} {v : Int} (h0 : 0 ≤ v) (h1 : v < (ds.length : Nat)) : ∃ x, atI ds v = some x ∧ x ∈ ds := by
  obtain ⟨k, rfl⟩ := Int.eq_ofNat_of_zero_le h0
  have hk : k < ds.length := by omega
  exact ⟨ds[k], atN (List.getElem?_eq_getElem hk), List.getElem_mem hk⟩
theorem ok_pick (E : En mg) (Cn : Cl P w K mg base "_law_next" 2 1 ct_next) {f : Addr} {fd : FuncData} (F : Fun K "_law_pick" "_law_pick" (top 35) f fd) : FnOk P w K mg base CX0 2 f fd ["draw", "some"] (spOf K ct_pick) := by
  refine fn_ok F sc_pick (fun _ => rfl) fun cdv A outer s H Eh hr i hp => ?_
  obtain ⟨n, t, g, ds⟩ := i
  obtain ⟨d, hn, hi, h0, h1, nr⟩ : Dr n t ∧ n < lim ∧ items g = some ds ∧ 0 < ds.length ∧ ds.length ≤ 1000000 ∧ ∀ d', g ≠ .d (.rl d') := hp
  cases g with
  | o u =>
    cases u with
    | fl es =>
      cases hi
      show WS _ ⟨[.o 0, .o 1], [t, .fl ds]⟩ _ (rets 2 _)
      refine ws_cons (w1x_ret (ex_ix ix_list (ex_of (ea_o 1 (k := 1)) (x_next Cn hr (ea_o 0 (k := 0)) (Nat.le_refl _) (ex_of (e_len (ds := ds) E.len (ea_o 1 (k := 1))) ⟨_, t, n, rfl, rfl, d, hn, by omega, by omega, fun v t' q1 q2 q3 => ?_⟩)))))
      obtain ⟨x, e1, e2⟩ := atI_in q1 q2
      refine ⟨x, ov_ixL (ds := ds) rfl e1, .fz x, _, ⟨x, t', rfl, e2, rfl, q3⟩, rfl, Nat.le_of_ble_eq_true rfl, rfl⟩
    | _ => cases hi
  | d y =>
    show WS _ ⟨[.o 0, .d y], [t]⟩ _ (rets 1 _)
    cases y with
    | lst es =>
      cases hi
      refine ws_cons (w1x_ret (ex_ix ix_list (ex_of (ea_d 1) (x_next Cn hr (ea_o 0 (k := 0)) (Nat.le_refl _) (ex_of (e_len (ds := ds) E.len (ea_d 1)) ⟨_, t, n, rfl, rfl, d, hn, by omega, by omega, fun v t' q1 q2 q3 => ?_⟩)))))
      obtain ⟨x, e1, e2⟩ := atI_in q1 q2
      refine ⟨x, ov_ixL (ds := ds) rfl e1, .fz x, _, ⟨x, t', rfl, e2, rfl, q3⟩, rfl, Nat.le_of_ble_eq_true rfl, rfl⟩
    | str l =>
      cases hi
      rw [List.length_map] at h0 h1
      refine ws_cons (w1x_ret (ex_ix ix_str (ex_of (ea_d 1) (x_next Cn hr (ea_o 0 (k := 0)) (Nat.le_refl _) (ex_of (e_lenS E.len (ea_d 1) (by omega)) ⟨_, t, n, rfl, rfl, d, hn, by omega, by omega, fun v t' q1 q2 q3 => ?_⟩)))))
      obtain ⟨k, rfl⟩ := Int.eq_ofNat_of_zero_le q1
      have hk : k < l.length := by omega
      refine ⟨.str [l[k]], ov_ixS (by omega) (atN (List.getElem?_eq_getElem hk)), .fz (.str [l[k]]), _, ⟨_, t', rfl, List.mem_map.mpr ⟨_, List.getElem_mem hk, rfl⟩, rfl, q3⟩, rfl, Nat.le_of_ble_eq_true rfl, rfl⟩
    | tup es =>
      cases hi
      refine ws_cons (w1x_ret (ex_ix ix_tup (ex_of (ea_d 1) (x_next Cn hr (ea_o 0 (k := 0)) (Nat.le_refl _) (ex_of (e_len (ds := ds) E.len (ea_d 1)) ⟨_, t, n, rfl, rfl, d, hn, by omega, by omega, fun v t' q1 q2 q3 => ?_⟩)))))
      obtain ⟨x, e1, e2⟩ := atI_in q1 q2
      refine ⟨x, ov_ixT e1, .fz x, _, ⟨x, t', rfl, e2, rfl, q3⟩, rfl, Nat.le_of_ble_eq_true rfl, rfl⟩
    | rl es => exact absurd rfl (nr es)
    | _ => cases hi
end
end K12
namespace K12
open PySem L2 Q
section
variable {X : Cx} {s s1 : S} {e e0 : Expr} {p pos : Pos} {k k0 n : Nat} {Ψ : S → Ar → Prop}
theorem x_pickD (Cn : Cl X.prog X.w X.K X.mg X.base "_law_pick" 2 2 ct_pick) (hr : Room k X.A) (hd : EA X s e0 s (.o k0)) (hk : 2 ≤ k)
    (h : EX X s e fun s1 x => ∃ (y : D) (ds : List D) (t : T) (n : Nat), x = .d y ∧ sq y = some ds ∧ (∀ d', y ≠ .rl d') ∧ s1.μ[k0]? = some t ∧ Dr n t ∧ n < lim ∧ 0 < ds.length ∧ ds.length ≤ 1000000 ∧ ∀ z t', z ∈ ds → Dr (n + 1) t' → Ψ ⟨s1.ρ, s1.μ.set k0 t'⟩ (.d z))
    (hg : Gl X "_law_pick" := by rfl) (hx : X.xe = fun _ _ => False := by rfl) (he : starEach (e0 :: [e]) X.env = (false, eval e0 X.env) :: starEach [e] X.env := by rfl) (he2 : starEach [e] X.env = (false, eval e X.env) :: starEach [] X.env := by rfl) (hpl : (backTo pos (starEach [e] X.env)).any (·.1) = false := by rfl) :
    EX X s (.Call (.Name "_law_pick" p) [e0, e] [] pos) Ψ :=
  ex_cl (Φ := ct_pick) Cn (hr.mono hk) (xs_cons (ex_of hd (xs_cons (ex_mono h fun s1 x ⟨y, ds, t, n, ex, hs, nr, ht, d, hn, h1, h2, c⟩ => xs_nil (by
    subst ex
    refine ⟨(n, t, .d y, ds), by show (s1.μ[k0]?).bind _ = _; rw [ht]; rfl, ⟨d, hn, hs, h1, h2, fun d' e => nr d' (Ag.d.inj e)⟩, by simp [oks], fun r outs ⟨x, t', q⟩ => by rw [q.2.2.1]; rfl, fun r outs ⟨x, t', e1, q1, e2, q3⟩ => .inl ⟨x, e1, ?_⟩⟩
    subst e2
    exact c x t' q1 q3)) (hs := he2))) (hs := he)) hg hx (by decide) he hpl
theorem x_pickO (Cn : Cl X.prog X.w X.K X.mg X.base "_law_pick" 2 2 ct_pick) (hr : Room k X.A) (hd : EA X s e0 s (.o k0)) (hk : 2 ≤ k)
    (h : EX X s e fun s1 x => ∃ (k1 : Nat) (ds : List D) (t : T) (n : Nat), x = .o k1 ∧ k0 ≠ k1 ∧ s1.μ[k1]? = some (.fl ds) ∧ s1.μ[k0]? = some t ∧ Dr n t ∧ n < lim ∧ 0 < ds.length ∧ ds.length ≤ 1000000 ∧ ∀ z t', z ∈ ds → Dr (n + 1) t' → Ψ ⟨s1.ρ, s1.μ.set k0 t'⟩ (.d z))
    (hg : Gl X "_law_pick" := by rfl) (hx : X.xe = fun _ _ => False := by rfl) (he : starEach (e0 :: [e]) X.env = (false, eval e0 X.env) :: starEach [e] X.env := by rfl) (he2 : starEach [e] X.env = (false, eval e X.env) :: starEach [] X.env := by rfl) (hpl : (backTo pos (starEach [e] X.env)).any (·.1) = false := by rfl) :
    EX X s (.Call (.Name "_law_pick" p) [e0, e] [] pos) Ψ :=
  ex_cl (Φ := ct_pick) Cn (hr.mono hk) (xs_cons (ex_of hd (xs_cons (ex_mono h fun s1 x ⟨k1, ds, t, n, ex, ne, hs, ht, d, hn, h1, h2, c⟩ => xs_nil (by
    subst ex
    refine ⟨(n, t, .o (.fl ds), ds), by show (s1.μ[k0]?).bind (fun t => ((s1.μ[k1]?).bind _).map _) = _; rw [ht, hs]; rfl, ⟨d, hn, rfl, h1, h2, fun d' e => nomatch e⟩, by simp [oks, ne], fun r outs ⟨x, t', q⟩ => by rw [q.2.2.1]; rfl, fun r outs ⟨x, t', e1, q1, e2, q3⟩ => .inl ⟨x, e1, ?_⟩⟩
    subst e2
    have es : setAll s1.μ (oks [.o k0, .o k1]) [t', .fl ds] = s1.μ.set k0 t' := by
      show (s1.μ.set k0 t').set k1 (.fl ds) = _
      refine List.ext_getElem? fun m => ?_
      by_cases h : k1 = m
      · subst h
        have l1 : k1 < s1.μ.length := (List.getElem?_eq_some_iff.mp hs).1
        rw [List.getElem?_set_self (by simpa using l1), List.getElem?_set_ne ne, hs]
      · rw [List.getElem?_set_ne h]
    show Ψ ⟨s1.ρ, setAll s1.μ (oks [.o k0, .o k1]) [t', .fl ds]⟩ (.d x)
    rw [es]
    exact c x t' q1 q3)) (hs := he2))) (hs := he)) hg hx (by decide) he hpl
end
theorem low_tl {n : Nat} {a b : Sl} (h : low n [a, b] = true) : low n [b] = true := by
  cases a with
  | o k => exact (Bool.and_eq_true_iff.mp h).2
  | _ => exact h
/-! _law_picture -/
def ct_picture : Ct where
  ι := Nat × T × Nat × Nat × Int
  args := fun (n, t, h, w, j) => [.o t, .d (.int (h : Int)), .d (.int (w : Int)), .d (.int j)]
  pre := fun (n, t, h, w, j) => Dr n t ∧ n + 2000 < lim ∧ 1 ≤ h ∧ h ≤ 9 ∧ 1 ≤ w ∧ w ≤ 60
  post := fun (n, t, h, w, j) r outs => ∃ p t', r = .fz (pc p) ∧ IsP p h w ∧ outs = [t'] ∧ Dr (n + h * w) t'
section
variable {P : Program} {w : World} {K : PySem.W.Frag} {mg : Str → Option Value} {base : Heap} {C : Addr}
/-- rows so far -/
def RowsOk (ds : List D) (i w : Nat) : Prop := ∃ p : List (List Nat), ds = p.map .str ∧ p.length = i ∧ ∀ r ∈ p, r.length = w ∧ ∀ c ∈ r, c = 35 ∨ c = 46
theorem sc_picture : FnScope ["draw", "high", "wide", "dense", "rows", "row", "column"] ["draw", "high", "wide", "dense"] (defScope (top 36)) := ⟨rfl, rfl, rfl, by decide +kernel, rfl, by decide +kernel, by decide +kernel⟩
theorem ok_picture (E : En mg) (Cn : Cl P w K mg base "_law_next" 2 1 ct_next) {f : Addr} {fd : FuncData} (F : Fun K "_law_picture" "_law_picture" (top 36) f fd) : FnOk P w K mg base CX0 2 f fd ["draw", "high", "wide", "dense"] (spOf K ct_picture) := by
  refine fn_ok F sc_picture (fun _ => rfl) fun cdv A outer s H Eh hr i hp => ?_
  obtain ⟨n, t, h, wd, j⟩ := i
  obtain ⟨d, hn, h1, h2, w1, w2⟩ : Dr n t ∧ n + 2000 < lim ∧ 1 ≤ h ∧ h ≤ 9 ∧ 1 ≤ wd ∧ wd ≤ 60 := hp
  have hhw : h * wd ≤ 9 * 60 := Nat.mul_le_mul h2 w2
  show WS _ ⟨[.o 0, .d (.int (h : Int)), .d (.int (wd : Int)), .d (.int j), .un, .un, .un], [t]⟩ _ (rets 1 _)
  refine ws_cons (w1_set 4 (ea_lst es_nil) ?_ sc_picture.nd)
  show WS _ ⟨[.o 0, .d (.int (h : Int)), .d (.int (wd : Int)), .d (.int j), .o 1, .un, .un], [t, .fl []]⟩ _ (rets 1 _)
  refine ws_cons (w1_for (fun i s2 => ∃ t' ds a b, s2 = ⟨[.o 0, .d (.int (h : Int)), .d (.int (wd : Int)), .d (.int j), .o 1, a, b], [t', .fl ds]⟩ ∧ low 2 [a, b] = true ∧ Dr (n + i * wd) t' ∧ RowsOk ds i wd) (it_range1 rfl E.range (ea_d 1) (by omega) (by omega)) (pg_name (i := 5) sc_picture.nd rfl (Or.inl rfl)) (gs_name 5) ⟨t, [], _, _, rfl, rfl, by simpa using d, [], rfl, rfl, fun r hr => nomatch hr⟩ ?_ ?_)
  · rintro i _ hi ⟨t', ds, a, b, rfl, lab, dt, ro⟩
    have hi : i < h := by simpa using hi
    have him : (i + 1) * wd ≤ h * wd := Nat.mul_le_mul_right wd hi
    have e1 : (i + 1) * wd = i * wd + wd := Nat.succ_mul i wd
    refine ⟨_, rfl, ?_⟩
    show WS _ ⟨[.o 0, .d (.int (h : Int)), .d (.int (wd : Int)), .d (.int j), .o 1, .d (.int (0 + (i : Nat))), b], [t', .fl ds]⟩ _ _
    refine ws_cons (w1x_expr (x_append (ex_of (ea_o 4 (k := 1)) ⟨1, ds, rfl, rfl, ?_⟩)))
    refine ex_join (l := []) (ls := []) (ex_of (ee_str []) ⟨[], rfl, ex_fl ?_⟩)
    refine ex_lc [("column", 6)] sc_picture.nd blk_of (fun _ _ _ _ _ => pg_name (i := 6) sc_picture.nd rfl (Or.inl rfl)) (gs_name 6) (fun _ _ _ _ _ => pts_nil) (ix_of (it_range1 rfl E.range (ea_d 2) (by omega) (by omega)) ⟨by omega, fun m μ out => ∃ t2 l, μ = [t2, .fl ds] ∧ Dr (n + i * wd + m) t2 ∧ out = l.map (fun c => D.str [c]) ∧ l.length = m ∧ ∀ c ∈ l, c = 35 ∨ c = 46, ⟨t', [], rfl, dt, rfl, rfl, fun _ z => nomatch z⟩, ?_, ?_⟩)
    · rintro m _ out hm ⟨t2, l, rfl, dt2, rfl, hl, hc⟩
      have hm : m < wd := by simpa using hm
      refine ⟨_, rfl, ttx_yes ⟨fun _ => tex_b fun _ _ _ _ _ => ?_, fun z => nomatch z⟩⟩
      refine ex_ix ix_str (ex_of (ee_str [46, 35]) (ex_callT call_int1 rfl E.int (by decide +kernel) (xs_cons ?_)))
      refine ex_cmp op_lt (x_next Cn hr (ea_o 0 (k := 0)) (Nat.le_refl _) (ex_of ee_int ⟨10, t2, _, rfl, rfl, dt2, by omega, by decide, by decide, fun v t3 v0 v1 d3 => ?_⟩))
      refine ex_of (ea_d 3) ⟨.bl (decide (v < j)), ov_lt, xs_nil ⟨_, ca_intB, ?_⟩⟩
      by_cases hv : v < j
      · rw [decide_eq_true hv]
        exact ⟨.str [35], ov_ixS (by decide) (by rfl), .str [35], rfl, t3, l ++ [35], rfl, d3, by simp, by simp [hl], fun c hcm => by
          rcases List.mem_append.mp hcm with q | q
          · exact hc c q
          · exact .inl (List.mem_singleton.mp q)⟩
      · rw [decide_eq_false hv]
        exact ⟨.str [46], ov_ixS (by decide) (by rfl), .str [46], rfl, t3, l ++ [46], rfl, d3, by simp, by simp [hl], fun c hcm => by
          rcases List.mem_append.mp hcm with q | q
          · exact hc c q
          · exact .inr (List.mem_singleton.mp q)⟩
    · rintro _ out ⟨t2, l, rfl, dt2, rfl, hl, hc⟩
      have hl : l.length = wd := by simpa using hl
      refine ⟨⟨[.o 0, .d (.int (h : Int)), .d (.int (wd : Int)), .d (.int j), .o 1, .d (.int (0 + (i : Nat))), b], [t2, .fl ds]⟩, l.map fun c => D.str [c], rfl, rfl, ?_, Nat.le_refl _, l.map fun c => [c], ?_, ?_, ?_⟩
      · exact low_tl lab
      · show _ = _
        rw [List.map_map]; rfl
      · rw [List.map_map, show (l.map (List.length ∘ fun c => [c])).sum = l.length from len1 l]
        simp; omega
      · rw [joinL_nil, show (l.map fun c => [c]).flatten = l from by rw [flat1 (f := fun c => c)]; simp]
        obtain ⟨p, rfl, hp1, hp2⟩ := ro
        refine ⟨.str l, p.map .str, rfl, rfl, by simp; omega, ?_⟩
        refine ws_nil ⟨t2, (p ++ [l]).map .str, _, b, by rw [List.map_append]; rfl, ?_, ?_, p ++ [l], rfl, by simp [hp1], ?_⟩
        · exact low_tl lab
        · rw [e1]
          have := dt2
          simp at this
          rw [← Nat.add_assoc]; exact this
        · intro r hr
          rcases List.mem_append.mp hr with q | q
          · exact hp2 r q
          · rw [List.mem_singleton.mp q]; exact ⟨hl, hc⟩
  · rintro _ ⟨t', ds, a, b, rfl, lab, dt, p, rfl, hl, hro⟩
    refine ws_cons (w1_ret (e_tuple (ds := p.map D.str) E.tuple (ea_o 4 (k := 1))) ?_)
    have hl : p.length = h := by simpa using hl
    exact ⟨.fz (pc p), [t'], ⟨p, t', rfl, ⟨hl, by omega, by omega, w1, by omega, fun r hr => (hro r hr).1, fun r hr => (hro r hr).2⟩, rfl, by simpa using dt⟩, rfl, Nat.le_of_ble_eq_true rfl, rfl⟩
end
end K12
namespace K12
open PySem L2 Q
def ct_near : Ct where
  ι := Nat × T × List (List Nat) × Nat × Nat
  args := fun (n, t, p, h, w) => [.o t, .d (pc p)]
  pre := fun (n, t, p, h, w) => Dr n t ∧ n + 10 < lim ∧ IsP p h w
  post := fun (n, t, p, h, w) r outs => ∃ p' t', r = .fz (pc p') ∧ IsP p' h w ∧ outs = [t'] ∧ Dr (n + 5) t'
def jn (r : List Nat) : D := .str (TL.joinL [] (r.map fun c => [c]))
def lsT (p : List (List Nat)) : T := .lst (p.map fun r => .fl (r.map fun c => .str [c]))
theorem lsT_ok (p : List (List Nat)) : (lsT p).ok = true := by
  show T.oks (p.map fun r => T.fl (r.map fun c => .str [c])) = true
  induction p with
  | nil => rfl
  | cons r p ih => exact ih
theorem lsT_fr (p : List (List Nat)) : (lsT p).fr = .lst (p.map fun r => .lst (r.map fun c => .str [c])) := by
  show D.lst (T.frs (p.map fun r => T.fl (r.map fun c => .str [c]))) = _
  congr 1
  induction p with
  | nil => rfl
  | cons r p ih => exact congrArg (_ :: ·) ih
theorem IsP.set {p : List (List Nat)} {h w : Nat} (q : IsP p h w) {m k c : Nat} (hm : m < h) (hk : k < w) (hc : c = 35 ∨ c = 46) : IsP (p.set m ((p.getD m []).set k c)) h w where
  len := by rw [List.length_set]; exact q.len
  h1 := q.h1
  h2 := q.h2
  w1 := q.w1
  w2 := q.w2
  row := fun r hr => by
    rcases List.mem_or_eq_of_mem_set hr with z | z
    · exact q.row r z
    · subst z
      rw [List.length_set]
      have := getD_at (d := []) (show m < p.length by rw [q.len]; exact hm)
      exact q.row _ (List.mem_of_getElem? this)
  sg := fun r hr => by
    rcases List.mem_or_eq_of_mem_set hr with z | z
    · exact q.sg r z
    · subst z
      intro x hx
      rcases List.mem_or_eq_of_mem_set hx with y | y
      · have := getD_at (d := []) (show m < p.length by rw [q.len]; exact hm)
        exact q.sg _ (List.mem_of_getElem? this) x y
      · rw [y]; exact hc
section
variable {P : Program} {w : World} {K : PySem.W.Frag} {mg : Str → Option Value} {base : Heap} {C : Addr}
theorem sc_near : FnScope ["draw", "picture", "rows", "turn", "at", "column", "row"] ["draw", "picture"] (defScope (top 37)) := ⟨rfl, rfl, rfl, by decide +kernel, rfl, by decide +kernel, by decide +kernel⟩
theorem ok_near (E : En mg) (Cn : Cl P w K mg base "_law_next" 2 1 ct_next) {f : Addr} {fd : FuncData} (F : Fun K "_law_near" "_law_near" (top 37) f fd) : FnOk P w K mg base CX0 2 f fd ["draw", "picture"] (spOf K ct_near) := by
  refine fn_ok F sc_near (fun _ => rfl) fun cdv A outer s H Eh hr i hp => ?_
  obtain ⟨n, t, p, h, wd⟩ := i
  obtain ⟨d, hn, q⟩ : Dr n t ∧ n + 10 < lim ∧ IsP p h wd := hp
  have h1 := q.h1
  have h2 := q.h2
  have w1 := q.w1
  have w2 := q.w2
  have hl := q.len
  show WS _ ⟨[.o 0, .d (pc p), .un, .un, .un, .un, .un], [t]⟩ _ (rets 1 _)
  refine ws_cons (w1x_setLcT 2 [("row", 6)] sc_near.nd rfl blk_of (fun _ _ _ _ _ => pg_name (i := 6) sc_near.nd rfl (Or.inl rfl)) (gs_name 6) (ix_of (it_tup (ds := p.map D.str) (ea_d 1)) ⟨by simp; omega, fun m μ out => μ = [t] ∧ out = (p.take m).map fun r => .fl (r.map fun c => .str [c]), ⟨rfl, rfl⟩, ?_, ?_⟩))
  · rintro m _ _ hm ⟨rfl, rfl⟩
    have hm : m < p.length := by simpa using hm
    have e0 := getD_at (d := []) hm
    have lr := q.row _ (List.mem_of_getElem? e0)
    have eg : (p.map D.str).getD m .non = .str (p.getD m []) := getD_map e0
    show LcT _ _ _ _ ((p.map D.str).getD m .non) _ _ _
    rw [eg]
    refine ⟨_, rfl, tex_b fun _ _ _ _ _ => ex_of (e_listS E.list (ea_d 6) (by omega)) ⟨⟨_, _⟩, _, rfl, rfl, Nat.le_refl _, rfl, ?_⟩⟩
    rw [List.take_add_one, e0]; simp
  rintro _ _ ⟨rfl, rfl⟩
  rw [show (p.map D.str).length = p.length from by simp, List.take_length]
  show WS _ ⟨[.o 0, .d (pc p), .o 1, .un, .un, .un, .un], [t, lsT p]⟩ _ _
  refine ws_cons (w1x_for (pg_name (i := 3) sc_near.nd rfl (Or.inl rfl)) (gs_name 3) (ix_range1 rfl E.range (ex_op op_add (ex_of ee_int (x_next Cn hr (ea_o 0 (k := 0)) (Nat.le_refl _) (ex_of ee_int ⟨2, t, n, rfl, rfl, d, by omega, by decide, by decide, fun v t1 v0 v1 d1 => ⟨_, ov_add, 1 + v, rfl, by omega, by omega, fun m s2 => ∃ t' p' a b c, s2 = ⟨[.o 0, .d (pc p), .o 1, a, b, c, .un], [t', lsT p']⟩ ∧ Dr (n + 1 + 2 * m) t' ∧ IsP p' h wd, ⟨t1, p, _, _, _, rfl, d1, q⟩, ?_, ?_⟩⟩))))))
  · rintro m _ hm ⟨t', p', a, b, c, rfl, d', q'⟩
    have hm : m < 2 := by omega
    have hl' := q'.len
    obtain ⟨r0, e0⟩ : ∃ r0, p'[0]? = some r0 := ⟨_, List.getElem?_eq_getElem (by omega)⟩
    have w0 := q'.row r0 (List.mem_of_getElem? e0)
    have z0 : (p'.map fun r => T.fl (r.map fun c => .str [c]))[0]? = some (.fl (r0.map fun c => .str [c])) := by rw [List.getElem?_map, e0]; rfl
    refine ⟨_, rfl, ?_⟩
    show WS _ ⟨[.o 0, .d (pc p), .o 1, .d (.int (0 + (m : Nat))), b, c, .un], [t', lsT p']⟩ _ _
    refine ws_cons (w1x_par 4 5 (xs_cons (x_next Cn hr (ea_o 0 (k := 0)) (Nat.le_refl _) (ex_of (e_lenT E.len (ea_o 2 (k := 1))) ⟨_, t', _, rfl, rfl, d', by omega, by simp; omega, by simp; omega, fun v1 t1 v10 v11 d1 => xs_cons (x_next Cn hr (ea_o 0 (k := 0)) (Nat.le_refl _) (ex_of (ea_len2 (ii := 0) (m := 0) (ea_o 2 (k := 1)) pv_int rfl (ixM (by simp; omega)) z0 E.len) ⟨_, t1, _, rfl, rfl, d1, by omega, by simp; omega, by simp; omega, fun v2 t2 v20 v21 d2 => xs_nil ⟨_, _, rfl, ?_⟩⟩))⟩))) sc_near.nd)
    obtain ⟨i1, rfl⟩ := Int.eq_ofNat_of_zero_le v10
    obtain ⟨i2, rfl⟩ := Int.eq_ofNat_of_zero_le v20
    have b1 : i1 < h := by simp at v11; omega
    have b2 : i2 < wd := by simp at v21; omega
    have e1 := getD_at (d := []) (show i1 < p'.length by omega)
    have w1' := q'.row _ (List.mem_of_getElem? e1)
    have z1 : (p'.map fun r => T.fl (r.map fun c => .str [c]))[i1]? = some (.fl ((p'.getD i1 []).map fun c => .str [c])) := by rw [List.getElem?_map, e1]; rfl
    have e2 := getD_at (d := 0) (show i2 < (p'.getD i1 []).length by omega)
    have z2 : ((p'.getD i1 []).map fun c => D.str [c])[i2]? = some (.str [(p'.getD i1 []).getD i2 0]) := by rw [List.getElem?_map, e2]; rfl
    show WS _ ⟨[.o 0, .d (pc p), .o 1, .d (.int (0 + (m : Nat))), .d (.int (i1 : Int)), .d (.int (i2 : Int)), .un], [t2, lsT p']⟩ _ _
    have put : ∀ c, c = 35 ∨ c = 46 → ∃ tt pp a b cc, (⟨[.o 0, .d (pc p), .o 1, .d (.int (0 + (m : Nat))), .d (.int (i1 : Int)), .d (.int (i2 : Int)), .un], [t2, .lst ((p'.map fun r => T.fl (r.map fun c => .str [c])).set i1 (.fl (((p'.getD i1 []).map fun c => D.str [c]).set i2 (.str [c]))))]⟩ : S) = ⟨[.o 0, .d (pc p), .o 1, a, b, cc, .un], [tt, lsT pp]⟩ ∧ Dr (n + 1 + 2 * (m + 1)) tt ∧ IsP pp h wd := fun c hc => by
      refine ⟨t2, p'.set i1 ((p'.getD i1 []).set i2 c), .d (.int (0 + (m : Nat))), .d (.int (i1 : Int)), .d (.int (i2 : Int)), ?_, d2, q'.set b1 b2 hc⟩
      unfold lsT
      rw [List.map_set, List.map_set]
    refine ws_cons (w1x_setix2 (pv 4) (pv 5) (ex_if (xt_of (t_eqS (l := [(p'.getD i1 []).getD i2 0]) (ea_ix2 (ii := (i1 : Int)) (jj := (i2 : Int)) (m := i1) (ea_o 2 (k := 1)) (pv_d 4) (pv_d 5) rfl (ixM (by simp; omega)) z1 (atN z2)) (ee_str [35])) ⟨fun _ => ex_of (ee_str [46]) ⟨_, rfl, ex_of (ea_o 2 (k := 1)) ⟨1, i1, i2, i1, i2, _, _, rfl, pvt_d, pvt_d, rfl, ixM (by simp; omega), z1, ixM (by rw [List.length_map]; omega), ws_nil (put 46 (.inr rfl))⟩⟩, fun _ => ex_of (ee_str [35]) ⟨_, rfl, ex_of (ea_o 2 (k := 1)) ⟨1, i1, i2, i1, i2, _, _, rfl, pvt_d, pvt_d, rfl, ixM (by simp; omega), z1, ixM (by rw [List.length_map]; omega), ws_nil (put 35 (.inl rfl))⟩⟩⟩)))
  · rintro _ ⟨t', p', a, b, c, rfl, d', q'⟩
    have hl' := q'.len
    refine ws_frz 1 rfl (lsT_ok p') ?_
    rw [lsT_fr, frzS_map]
    show WS _ ⟨[.o 0, .d (pc p), .d (.lst (p'.map fun r => .lst (r.map fun c => .str [c]))), frzA 1 _ a, frzA 1 _ b, frzA 1 _ c, .un], [t', .fz (.lst (p'.map fun r => .lst (r.map fun c => .str [c])))]⟩ _ _
    refine ws_cons (w1_ret (e_tuple (ds := p'.map jn) E.tuple (ea_lcP p' (fun r => .lst (r.map fun c => .str [c])) jn [("row", 6)] (it_list (ea_d 2)) (by simp) (fun i a h => by rw [getD_map h]) sc_near.nd blk_of (fun _ _ _ _ _ => pg_name (i := 6) sc_near.nd rfl (Or.inl rfl)) (gs_name 6)
      (fun r hr => ⟨_, rfl, _, fun _ _ _ _ _ => ee_join (ls := r.map fun c => [c]) (ee_str []) (ea_d 6 (d := .lst (r.map fun c => .str [c]))) rfl (by
        have := q'.row r hr
        rw [List.map_map, show (r.map (List.length ∘ fun c => [c])).sum = r.length from len1 r]
        simp; omega) (by rw [List.map_map]; rfl)⟩) (by omega)) rfl) ?_)
    have ej : p'.map jn = p'.map .str := List.map_congr_left fun r _ => by
      rw [jn, joinL_nil, show (r.map fun c => [c]).flatten = r from by rw [flat1 (f := fun c => c)]; simp]
    rw [ej]
    exact ⟨.fz (pc p'), [t'], ⟨p', t', rfl, q', rfl, d'.mono (by omega)⟩, rfl, Nat.le_of_ble_eq_true rfl, rfl⟩
end
end K12
namespace K12
open PySem L2 Q
section
variable {X : Cx} {s s1 : S} {e e0 e1 e2 : Expr} {es : List Expr} {p pos : Pos} {k k0 n : Nat} {Ψ : S → Ar → Prop}
theorem x_near (Cn : Cl X.prog X.w X.K X.mg X.base "_law_near" 2 2 ct_near) (hr : Room k X.A) (hd : EA X s e0 s (.o k0)) (hk : 2 ≤ k)
    (h : EX X s e fun s1 x => ∃ (q : List (List Nat)) (h w : Nat) (t : T) (n : Nat), x = .d (pc q) ∧ s1.μ[k0]? = some t ∧ Dr n t ∧ n + 10 < lim ∧ IsP q h w ∧ ∀ q' t', IsP q' h w → Dr (n + 5) t' → Ψ ⟨s1.ρ, s1.μ.set k0 t'⟩ (.d (pc q')))
    (hg : Gl X "_law_near" := by rfl) (hx : X.xe = fun _ _ => False := by rfl) (he : starEach (e0 :: [e]) X.env = (false, eval e0 X.env) :: starEach [e] X.env := by rfl) (he2 : starEach [e] X.env = (false, eval e X.env) :: starEach [] X.env := by rfl) (hpl : (backTo pos (starEach [e] X.env)).any (·.1) = false := by rfl) :
    EX X s (.Call (.Name "_law_near" p) [e0, e] [] pos) Ψ :=
  ex_cl (Φ := ct_near) Cn (hr.mono hk) (xs_cons (ex_of hd (xs_cons (ex_mono h fun s1 x ⟨q, h, w, t, n, ex, ht, d, hn, hq, c⟩ => xs_nil (by
    subst ex
    refine ⟨(n, t, q, h, w), by show (s1.μ[k0]?).bind _ = _; rw [ht]; rfl, ⟨d, hn, hq⟩, by simp [oks], fun r outs ⟨q', t', z⟩ => by rw [z.2.2.1]; rfl, fun r outs ⟨q', t', e1, q1, e2, q3⟩ => .inl ⟨pc q', e1, ?_⟩⟩
    subst e2
    exact c q' t' q1 q3)) (hs := he2))) (hs := he)) hg hx (by decide) he hpl
theorem x_picture (Cn : Cl X.prog X.w X.K X.mg X.base "_law_picture" 4 2 ct_picture) (hr : Room k X.A) (hd : EA X s e0 s (.o k0)) (hk : 2 ≤ k)
    (h : EXs X s [e, e1, e2] fun s1 xs => ∃ (h w : Nat) (j : Int) (t : T) (n : Nat), xs = [.d (.int (h : Int)), .d (.int (w : Int)), .d (.int j)] ∧ s1.μ[k0]? = some t ∧ Dr n t ∧ n + 2000 < lim ∧ 1 ≤ h ∧ h ≤ 9 ∧ 1 ≤ w ∧ w ≤ 60 ∧ ∀ q' t', IsP q' h w → Dr (n + h * w) t' → Ψ ⟨s1.ρ, s1.μ.set k0 t'⟩ (.d (pc q')))
    (hg : Gl X "_law_picture" := by rfl) (hx : X.xe = fun _ _ => False := by rfl) (he : starEach (e0 :: [e, e1, e2]) X.env = (false, eval e0 X.env) :: starEach [e, e1, e2] X.env := by rfl) (hpl : (backTo pos (starEach [e, e1, e2] X.env)).any (·.1) = false := by rfl) :
    EX X s (.Call (.Name "_law_picture" p) [e0, e, e1, e2] [] pos) Ψ :=
  ex_cl (Φ := ct_picture) Cn (hr.mono hk) (xs_cons (ex_of hd (xs_mono h fun s1 xs ⟨h, w, j, t, n, ex, ht, d, hn, h1, h2, w1, w2, c⟩ => by
    subst ex
    refine ⟨(n, t, h, w, j), by show (s1.μ[k0]?).bind _ = _; rw [ht]; rfl, ⟨d, hn, h1, h2, w1, w2⟩, by simp [oks], fun r outs ⟨q', t', z⟩ => by rw [z.2.2.1]; rfl, fun r outs ⟨q', t', e1, q1, e2, q3⟩ => .inl ⟨pc q', e1, ?_⟩⟩
    subst e2
    exact c q' t' q1 q3)) (hs := he)) hg hx (by decide) he hpl
end
/-- shapes so far -/
structure GoodS (h : Nat) (sh : List (List Nat × List (List Nat))) : Prop where
  s : ∀ p ∈ sh, ∃ w, IsS p h w
  nd : ∀ i p, sh[i]? = some p → pc p.2 ∉ (pics sh).take i
theorem GoodS.snoc {h : Nat} {sh : List (List Nat × List (List Nat))} (g : GoodS h sh) {p : List Nat × List (List Nat)} {w : Nat} (is : IsS p h w) (ni : pc p.2 ∉ pics sh) : GoodS h (sh ++ [p]) where
  s := fun q hq => by
    rcases List.mem_append.mp hq with z | z
    · exact g.s q z
    · rw [List.mem_singleton.mp z]; exact ⟨w, is⟩
  nd := fun i q hq => by
    have lp : (pics sh).length = sh.length := by simp [pics]
    have e : pics (sh ++ [p]) = pics sh ++ [pc p.2] := by simp [pics]
    rw [e]
    by_cases hi : i < sh.length
    · rw [List.getElem?_append_left hi] at hq
      rw [List.take_append_of_le_length (by omega)]
      exact g.nd i q hq
    · have hi2 : i = sh.length := by
        have := (List.getElem?_eq_some_iff.mp hq).1
        simp at this; omega
      subst hi2
      simp at hq
      subst hq
      rw [← lp, List.take_append_of_le_length (Nat.le_refl _), List.take_length]
      exact ni
theorem shs_snoc (sh : List (List Nat × List (List Nat))) (p : List Nat × List (List Nat)) : shs (sh ++ [p]) = shs sh ++ [.tup [.str p.1, pc p.2]] := by simp [shs]
theorem sum_le {xs : List Nat} {n b : Nat} (h : ∀ x ∈ xs, x ≤ b) (hn : xs.length = n) : xs.sum ≤ n * b := by
  induction xs generalizing n with
  | nil => simp
  | cons x xs ih =>
    cases n with
    | zero => simp at hn
    | succ n =>
      have := ih (n := n) (fun y hy => h y (List.mem_cons_of_mem _ hy)) (by simpa using hn)
      have := h x List.mem_cons_self
      rw [List.sum_cons, Nat.succ_mul]; omega
theorem rep1 {α : Type} (x : α) : ∀ h : Nat, (List.replicate h [x]).flatten = List.replicate h x
  | 0 => rfl
  | h + 1 => by rw [List.replicate_succ, List.flatten_cons, rep1 x h]; rfl
def SignT (z : D) : Prop := ∃ l, z = .str l ∧ l.length = 6 ∧ ∀ c ∈ l, 33 ≤ c ∧ c ≤ 126
def ct_lshapes : Ct where
  ι := Nat × T × Nat × Nat
  args := fun (n, t, h, w) => [.o t, .d (.int (h : Int)), .d (.int 6), .d (.int (w : Int))]
  pre := fun (n, t, h, w) => Dr n t ∧ n + 5000 < lim ∧ 1 ≤ h ∧ h ≤ 9 ∧ 1 ≤ w ∧ w ≤ 8
  post := fun (n, t, h, w) r outs => ∃ sh t', r = .fl (shs sh) ∧ IsM h sh ∧ outs = [t'] ∧ Dr (n + 2000) t'
theorem dk_shape {p : List Nat × List (List Nat)} {h w : Nat} (q : IsS p h w) : Dk 3 (.tup [.str p.1, pc p.2]) := by
  show ∀ d ∈ [D.str p.1, pc p.2], Dk 2 d
  intro d hd
  rcases List.mem_cons.mp hd with z | z
  · subst z
    obtain ⟨c, e, c1, c2⟩ := q.sign
    rw [e]
    intro x hx
    rw [List.mem_singleton.mp hx]; omega
  · rw [List.mem_singleton.mp z]; exact dk_pc q.pic
section
variable {P : Program} {w : World} {K : PySem.W.Frag} {mg : Str → Option Value} {base : Heap} {C : Addr}
theorem sc_lshapes : FnScope ["draw", "high", "most", "wide", "found", "signs", "turn", "way", "one", "row", "more", "sign", "picture"] ["draw", "high", "most", "wide"] (defScope (top 38)) := ⟨rfl, rfl, rfl, by decide +kernel, rfl, by decide +kernel, by decide +kernel⟩
theorem ok_lshapes (E : En mg) (Cn : Cl P w K mg base "_law_next" 2 1 ct_next) (Cp : Cl P w K mg base "_law_pick" 2 2 ct_pick) (Cpic : Cl P w K mg base "_law_picture" 4 2 ct_picture) (Cnr : Cl P w K mg base "_law_near" 2 2 ct_near)
    {f : Addr} {fd : FuncData} (F : Fun K "_law_shapes" "_law_shapes" (top 38) f fd) : FnOk P w K mg base CX0 3 f fd ["draw", "high", "most", "wide"] (spOf K ct_lshapes) := by
  refine fn_ok F sc_lshapes (fun _ => rfl) fun cdv A outer s H Eh hr i hp => ?_
  obtain ⟨n, t, h, wd⟩ := i
  obtain ⟨d, hn, h1, h2, w1, w2⟩ : Dr n t ∧ n + 5000 < lim ∧ 1 ≤ h ∧ h ≤ 9 ∧ 1 ≤ wd ∧ wd ≤ 8 := hp
  show WS _ ⟨[.o 0, .d (.int (h : Int)), .d (.int 6), .d (.int (wd : Int)), .un, .un, .un, .un, .un, .un, .un, .un, .un], [t]⟩ _ (rets 1 _)
  refine ws_cons (w1x_par 4 5 (xs_cons (ex_of (ea_lst es_nil) (xs_cons (x_pickD Cp hr (ea_o 0 (k := 0)) (Nat.le_refl _) (ex_of (ee_fl (ea_lst (es_cons (ee_str [97, 98, 99, 100, 101, 102]) (es_cons (ee_str [108, 73, 105, 49, 124, 33]) (es_cons (ee_str [63, 97, 98, 45, 46, 44]) (es_cons (ee_str [122, 90, 126, 33, 35, 65]) es_nil)))))) ⟨_, _, t, n, rfl, rfl, (fun _ z => nomatch z), rfl, d, by omega, by decide, by decide, fun z t1 hz d1 => xs_nil ⟨_, _, rfl, ?_⟩⟩))))) sc_lshapes.nd)
  obtain ⟨sg, rfl, ls, hs⟩ : SignT z := by
    simp only [List.mem_cons, List.not_mem_nil, or_false] at hz
    rcases hz with rfl | rfl | rfl | rfl
    all_goals exact ⟨_, rfl, rfl, by decide⟩
  show WS _ ⟨[.o 0, .d (.int (h : Int)), .d (.int 6), .d (.int (wd : Int)), .o 1, .d (.str sg), .un, .un, .un, .un, .un, .un, .un], [t1, .fl []]⟩ _ _
  refine ws_cons (w1x_for (pg_name (i := 6) sc_lshapes.nd rfl (Or.inl rfl)) (gs_name 6) (ix_range1 rfl E.range (ex_op op_add (ex_of ee_int (x_next Cn hr (ea_o 0 (k := 0)) (by decide) (ex_of (ea_d 2) ⟨6, t1, n + 1, rfl, rfl, d1, by omega, by decide, by decide, fun v t2 v0 v1 d2 => ⟨_, ov_add, 1 + v, rfl, by omega, by omega, fun m s2 => ∃ t' sh a b c, s2 = ⟨[.o 0, .d (.int (h : Int)), .d (.int 6), .d (.int (wd : Int)), .o 1, .d (.str sg), a, b, c, .un, .un, .un, .un], [t', .fl (shs sh)]⟩ ∧ low 2 [a, b, c, .un, .un, .un, .un] = true ∧ Dr (n + 2 + 100 * m) t' ∧ sh.length ≤ m ∧ GoodS h sh, ⟨t2, [], _, _, _, rfl, rfl, d2, Nat.le_refl _, ⟨fun _ z => (nomatch z), fun _ _ z => by simp at z⟩⟩, ?_, ?_⟩⟩))))))
  · rintro m _ hm ⟨t', sh, a, b, c, rfl, lab, d', lm, gs⟩
    have hm : m < 6 := by omega
    refine ⟨_, rfl, ?_⟩
    show WS _ ⟨[.o 0, .d (.int (h : Int)), .d (.int 6), .d (.int (wd : Int)), .o 1, .d (.str sg), .d (.int (0 + (m : Nat))), b, c, .un, .un, .un, .un], [t', .fl (shs sh)]⟩ _ _
    have dks : ∀ z ∈ shs sh, Dk 3 z := fun z hz => by
      obtain ⟨p, hp, rfl⟩ := List.mem_map.mp hz
      obtain ⟨w', is⟩ := gs.s p hp
      exact dk_shape is
    refine ws_cons (w1x_par 7 8 ?_ sc_lshapes.nd)
    refine xs_cons (x_next Cn hr (ea_o 0 (k := 0)) (by decide) (ex_of ee_int ⟨4, t', _, rfl, rfl, d', by omega, by decide, by decide, fun way t3 wy0 wy1 d3 => ?_⟩))
    refine xs_cons (x_picture Cpic hr (ea_o 0 (k := 0)) (by decide) ?_)
    refine xs_cons (ex_of (ea_d 1) (xs_cons (ex_op op_add (ex_of ee_int ?_))))
    refine x_next Cn hr (ea_o 0 (k := 0)) (by decide) (ex_of (ea_d 3) ⟨wd, t3, _, rfl, rfl, d3, by omega, by omega, by omega, fun v4 t4 v40 v41 d4 => ⟨_, ov_add, ?_⟩⟩)
    refine xs_cons (ex_op op_add (ex_of ee_int ?_))
    refine x_next Cn hr (ea_o 0 (k := 0)) (by decide) (ex_of ee_int ⟨6, t4, _, rfl, rfl, d4, by omega, by decide, by decide, fun v5 t5 v50 v51 d5 => ⟨_, ov_add, xs_nil ?_⟩⟩)
    obtain ⟨w4, rfl⟩ := Int.eq_ofNat_of_zero_le v40
    have hw4 : h * (1 + w4) ≤ 9 * 8 := Nat.mul_le_mul h2 (by omega)
    refine ⟨h, 1 + w4, 3 + v5, t5, _, by rw [show ((1 + w4 : Nat) : Int) = 1 + (w4 : Int) from by omega], rfl, d5, by omega, h1, h2, by omega, by omega, fun p t6 ip d6 => xs_nil ⟨_, _, rfl, ?_⟩⟩
    show WS _ ⟨[.o 0, .d (.int (h : Int)), .d (.int 6), .d (.int (wd : Int)), .o 1, .d (.str sg), .d (.int (0 + (m : Nat))), .d (.int way), .d (pc p), .un, .un, .un, .un], [t6, .fl (shs sh)]⟩ _ _
    have d6' : Dr (n + 2 + 100 * m + 3 + 72) t6 := d6.mono (by omega)
    clear d6 d5 d4 d3
    have emp : (sh.isEmpty = true ↔ D.lst (shs sh) = D.lst []) := by cases sh <;> simp [shs]
    have lsh : (shs sh).length = sh.length := by simp [shs]
    have pick1 : ∀ z ∈ shs sh, ∃ (sp : List Nat × List (List Nat)) (wq : Nat), z = .tup [.str sp.1, pc sp.2] ∧ wq ≤ 8 ∧ IsP sp.2 h wq := fun z hz => by
      obtain ⟨sp, hsp, rfl⟩ := List.mem_map.mp hz
      obtain ⟨wq, is⟩ := gs.s sp hsp
      exact ⟨sp, wq, rfl, is.w8, is.pic⟩
    refine ws_mid (fun s2 => ∃ q t7 w', s2 = ⟨[.o 0, .d (.int (h : Int)), .d (.int 6), .d (.int (wd : Int)), .o 1, .d (.str sg), .d (.int (0 + (m : Nat))), .d (.int way), .d (pc q), .un, .un, .un, .un], [t7, .fl (shs sh)]⟩ ∧ w' ≤ 8 ∧ IsP q h w' ∧ Dr (n + 2 + 100 * m + 90) t7) ?_ ?_
    · refine w1_if (et_of_w (ew_and (et_cmp (op_neD (Room.eq hr)) (ea_o 4 (k := 1)) (ee_fl (ea_lst es_nil)) (ov_neD (n := 4) (d := .lst (shs sh)) (e := .lst []) ⟨_, rfl, rfl, rfl⟩ rfl dks (fun _ z => nomatch z) (ht := emp))) fun _ => ew_and1 (t_eqI (ea_d 7) ee_int))) (fun hb => ?_) (fun hb => ?_)
      · have ne : sh ≠ [] := fun e => by rw [e] at hb; cases hb
        have npos : 0 < sh.length := List.length_pos_iff.mpr ne
        refine ws_cons (w1x_set 8 ?_ sc_lshapes.nd)
        refine x_near Cnr hr (ea_o 0 (k := 0)) (by decide) (ex_ix ix_tup ?_)
        refine x_pickO Cp hr (ea_o 0 (k := 0)) (by decide) (ex_of (ea_o 4 (k := 1)) ⟨1, shs sh, t6, _, rfl, by decide, rfl, rfl, d6', by omega, by omega, by omega, fun z t7 hz d7 => ?_⟩)
        obtain ⟨sp, wq, rfl, w8, iq⟩ := pick1 z hz
        refine ex_of ee_int ⟨pc sp.2, ov_ixT rfl, sp.2, h, wq, t7, _, rfl, rfl, d7, by omega, iq, fun q' t8 iq' d8 => ws_nil ⟨q', t8, wq, rfl, w8, iq', d8.mono (by omega)⟩⟩
      · refine ws_cons (w1_if (et_of_w (ew_and (et_cmp (op_neD (Room.eq hr)) (ea_o 4 (k := 1)) (ee_fl (ea_lst es_nil)) (ov_neD (n := 4) (d := .lst (shs sh)) (e := .lst []) ⟨_, rfl, rfl, rfl⟩ rfl dks (fun _ z => nomatch z) (ht := emp))) fun _ => ew_and1 (t_eqI (ea_d 7) ee_int))) (fun hb => ?_) (fun hb => ?_))
        · have ne : sh ≠ [] := fun e => by rw [e] at hb; cases hb
          have npos : 0 < sh.length := List.length_pos_iff.mpr ne
          refine ws_cons (w1x_set 8 ?_ sc_lshapes.nd)
          refine ex_callT call_tuple_of rfl E.tuple (by decide +kernel) (xs_cons (ex_fl ?_))
          refine ex_lc [("row", 9), ("more", 10)] sc_lshapes.nd blk_of (fun _ _ _ _ _ => pg_tup rfl (pgs_cons (pg_name (i := 9) sc_lshapes.nd rfl (Or.inl rfl)) (pgs_cons (pg_name (i := 10) sc_lshapes.nd rfl (Or.inl rfl)) pgs_nil))) (gs_tup (gss_cons (gs_name 9) (gss_cons (gs_name 10) gss_nil)) (tcons_len (tcons_len tnil_len))) (fun _ _ _ _ _ => pts_nil) (ix_zip rfl E.zip (xs_cons (ex_ix ix_tup ?_)))
          refine x_pickO Cp hr (ea_o 0 (k := 0)) (by decide) (ex_of (ea_o 4 (k := 1)) ⟨1, shs sh, t6, _, rfl, by decide, rfl, rfl, d6', by omega, by omega, by omega, fun z t7 hz d7 => ?_⟩)
          obtain ⟨sp, wq, rfl, w8, iq⟩ := pick1 z hz
          have lq := iq.len
          have lp := ip.len
          refine ex_of ee_int ⟨pc sp.2, ov_ixT rfl, xs_cons (ex_of (ea_d 8) (xs_nil ⟨pc sp.2, pc p, sp.2.map .str, p.map .str, rfl, rfl, rfl, by simp; omega, fun m μ out => μ = [t7, .fl (shs sh)] ∧ out = ((sp.2.zip p).take m).map fun r => .str (r.1 ++ r.2), ⟨rfl, rfl⟩, ?_, ?_⟩))⟩
          · rintro m' _ _ hm' ⟨rfl, rfl⟩
            have hm1 : m' < sp.2.length := by simp at hm'; omega
            have hm2 : m' < p.length := by simp at hm'; omega
            have q1 := getD_at (d := []) hm1
            have q2 := getD_at (d := []) hm2
            have z1 := iq.row _ (List.mem_of_getElem? q1)
            have z2 := ip.row _ (List.mem_of_getElem? q2)
            have zz : (sp.2.zip p)[m']? = some (sp.2.getD m' [], p.getD m' []) := by rw [List.getElem?_zip_eq_some]; exact ⟨q1, q2⟩
            show LcX _ _ _ _ _ (.tup [(sp.2.map D.str).getD m' .non, (p.map D.str).getD m' .non]) _ _ _
            rw [getD_map q1, getD_map q2]
            refine ⟨_, rfl, ttx_yes ⟨fun _ => tex_b fun _ _ _ _ _ => ex_of (e_cat (ea_d 9) (ea_d 10) (by omega)) ⟨_, rfl, rfl, ?_⟩, fun z => nomatch z⟩⟩
            rw [take_succ_map zz]
          · rintro _ _ ⟨rfl, rfl⟩
            have ezl : min (sp.2.map D.str).length (p.map D.str).length = (sp.2.zip p).length := by simp
            rw [ezl, List.take_length]
            refine ⟨⟨[.o 0, .d (.int (h : Int)), .d (.int 6), .d (.int (wd : Int)), .o 1, .d (.str sg), .d (.int (0 + (m : Nat))), .d (.int way), .d (pc p), .un, .un, .un, .un], [t7, .fl (shs sh)]⟩, _, rfl, rfl, rfl, Nat.le_refl _, xs_nil ⟨_, ca_tuple (ds := (sp.2.zip p).map fun r : List Nat × List Nat => D.str (r.1 ++ r.2)) rfl, ?_⟩⟩
            show WS _ ⟨[.o 0, .d (.int (h : Int)), .d (.int 6), .d (.int (wd : Int)), .o 1, .d (.str sg), .d (.int (0 + (m : Nat))), .d (.int way), .d (.tup ((sp.2.zip p).map fun r => .str (r.1 ++ r.2))), .un, .un, .un, .un], [t7, .fl (shs sh)]⟩ _ _
            refine ws_cons (w1_set 8 (e_tuple (ds := (sp.2.zip p).map fun r => .str (cut (r.1 ++ r.2) none (some (wd : Int)))) E.tuple (ee_lcP (sp.2.zip p) (fun r => .str (r.1 ++ r.2)) (fun r => .str (cut (r.1 ++ r.2) none (some (wd : Int)))) [("row", 9)] (it_tup (ea_d 8)) (by simp) (fun i a h => by rw [getD_map h]) sc_lshapes.nd blk_of (fun _ _ _ _ _ => pg_name (i := 9) sc_lshapes.nd rfl (Or.inl rfl)) (gs_name 9) (fun r hr => ⟨_, rfl, _, fun _ _ _ _ _ => ee_sl sl_str (ea_d 9) ep_none (ep_some (ea_d 3)) (sv_str (by
              have := iq.row _ (List.of_mem_zip hr).1
              have := ip.row _ (List.of_mem_zip hr).2
              rw [List.length_append]; omega))⟩) (by simp; omega)) rfl) ?_ sc_lshapes.nd)
            have ec : ((sp.2.zip p).map fun r => D.str (cut (r.1 ++ r.2) none (some (wd : Int)))) = ((sp.2.zip p).map fun r => (r.1 ++ r.2).take wd).map .str := by
              rw [List.map_map]
              exact List.map_congr_left fun r _ => by rw [cut_to]; rfl
            rw [ec]
            have zr : ∀ r ∈ (sp.2.zip p).map fun r => (r.1 ++ r.2).take wd, r.length = min wd (wq + (1 + w4)) ∧ ∀ c ∈ r, c = 35 ∨ c = 46 := fun r hr => by
              obtain ⟨r0, h0, rfl⟩ := List.mem_map.mp hr
              have m1 := (List.of_mem_zip h0).1
              have m2 := (List.of_mem_zip h0).2
              have l1 := iq.row _ m1
              have l2 := ip.row _ m2
              refine ⟨by simp; omega, fun c hc => ?_⟩
              rcases List.mem_append.mp (List.mem_of_mem_take hc) with z | z
              · exact iq.sg _ m1 c z
              · exact ip.sg _ m2 c z
            refine ws_nil (ws_nil ⟨(sp.2.zip p).map fun r => (r.1 ++ r.2).take wd, t7, min wd (wq + (1 + w4)), rfl, by omega, ⟨by simp; omega, h1, by omega, by omega, by omega, fun r hr => (zr r hr).1, fun r hr => (zr r hr).2⟩, d7.mono (by omega)⟩)
        · exact ws_nil (ws_nil ⟨p, t6, 1 + w4, rfl, by omega, ip, d6'.mono (by omega)⟩)
    · rintro _ ⟨q, t7, w', rfl, w8, iq, d7⟩
      have lq := iq.len
      have lps : (pics sh).length = sh.length := by simp [pics]
      have dkp : ∀ z ∈ pics sh, Dk 2 z := fun z hz => by
        obtain ⟨sp, hsp, rfl⟩ := List.mem_map.mp hz
        obtain ⟨wq, is⟩ := gs.s sp hsp
        exact dk_pc is.pic
      have szq : ((q.map List.length).sum + q.length * ([] : List Nat).length ≤ 16777216) := by
        have : (q.map List.length).sum ≤ q.length * 8 := sum_le (fun x hx => by
          obtain ⟨r, hr, rfl⟩ := List.mem_map.mp hx
          rw [iq.row r hr]; exact w8) (by simp)
        simp; omega
      have jn_ : TL.joinL [] q = q.flatten := joinL_nil q
      have iter_ : ∀ i p, sh[i]? = some p → (shs sh).getD i .non = .tup [.str p.1, pc p.2] := fun i p hp => by unfold shs; rw [getD_map hp]
      have done_ : Rets 1 (ct_lshapes.post (n, t, h, wd)) = Rets 1 (ct_lshapes.post (n, t, h, wd)) := rfl
      refine ws_cons (w1x_if (xt_w (xw_and ?_)))
      refine xt_of (t_inC (ee_str [35]) (ee_join (ds := q.map .str) (ls := q) (ee_str []) (ea_d 8 (d := pc q)) rfl szq)) ⟨fun hin => xw_and1 ?_, fun _ => ⟨(fun z => nomatch z), fun _ => ws_nil (ws_nil ⟨t7, sh, _, _, _, rfl, rfl, d7.mono (by omega), by omega, gs⟩)⟩⟩
      have hin : 35 ∈ q.flatten := by rw [← jn_]; exact of_decide_eq_true hin
      by_cases hmem : pc q ∈ pics sh
      · refine xt_of (et_cmp (op_notInD (Room.isin hr)) (ea_d 8 (d := pc q)) (ee_lcO sh (fun p => .tup [.str p.1, pc p.2]) (fun p => pc p.2) [("sign", 11), ("picture", 12)] (ea_o 4 (k := 1)) rfl (by omega) sc_lshapes.nd blk_of (fun _ _ _ _ _ => pg_tup rfl (pgs_cons (pg_name (i := 11) sc_lshapes.nd rfl (Or.inl rfl)) (pgs_cons (pg_name (i := 12) sc_lshapes.nd rfl (Or.inl rfl)) pgs_nil))) (gs_tup (gss_cons (gs_name 11) (gss_cons (gs_name 12) gss_nil)) (tcons_len (tcons_len tnil_len))) (fun p hp => ⟨_, rfl, _, fun _ _ _ _ _ => ea_d 12⟩)) (ov_niD (t := true) (n := 2) (d := pc q) (ds := pics sh) rfl rfl (dk_pc iq) dkp (ht := ⟨fun _ => hmem, fun _ => rfl⟩))) ⟨(fun z => nomatch z), fun _ => ws_nil (ws_nil ⟨t7, sh, _, _, _, rfl, rfl, d7.mono (by omega), by omega, gs⟩)⟩
      · refine xt_of (et_cmp (op_notInD (Room.isin hr)) (ea_d 8 (d := pc q)) (ee_lcO sh (fun p => .tup [.str p.1, pc p.2]) (fun p => pc p.2) [("sign", 11), ("picture", 12)] (ea_o 4 (k := 1)) rfl (by omega) sc_lshapes.nd blk_of (fun _ _ _ _ _ => pg_tup rfl (pgs_cons (pg_name (i := 11) sc_lshapes.nd rfl (Or.inl rfl)) (pgs_cons (pg_name (i := 12) sc_lshapes.nd rfl (Or.inl rfl)) pgs_nil))) (gs_tup (gss_cons (gs_name 11) (gss_cons (gs_name 12) gss_nil)) (tcons_len (tcons_len tnil_len))) (fun p hp => ⟨_, rfl, _, fun _ _ _ _ _ => ea_d 12⟩)) (ov_niD (t := false) (n := 2) (d := pc q) (ds := pics sh) rfl rfl (dk_pc iq) dkp (ht := ⟨(fun z => nomatch z), fun z => absurd z hmem⟩))) ⟨fun _ => ?_, fun z => nomatch z⟩
        refine ws_cons (w1x_expr (x_append (ex_of (ea_o 4 (k := 1)) ⟨1, shs sh, rfl, rfl, ?_⟩)))
        refine ex_tup (xs_cons ?_)
        refine x_pickD Cp hr (ea_o 0 (k := 0)) (by decide) (ex_slTo sl_str (ex_of (ea_d 5) (ex_op op_add (ex_of ee_int ?_))))
        refine x_next Cn hr (ea_o 0 (k := 0)) (by decide) (ex_of ee_int ⟨6, t7, _, rfl, rfl, d7, by omega, by decide, by decide, fun v8 t8 v80 v81 d8 => ⟨_, ov_add, _, _, rfl, sv_str (by omega), ?_⟩⟩)
        obtain ⟨k8, rfl⟩ := Int.eq_ofNat_of_zero_le v80
        have ek : (1 : Int) + (k8 : Int) = ((1 + k8 : Nat) : Int) := by omega
        rw [ek, cut_to]
        have lk : (sg.take (1 + k8)).length = 1 + k8 := by rw [List.length_take]; omega
        refine ⟨_, (sg.take (1 + k8)).map fun c => .str [c], t8, _, rfl, rfl, (fun _ z => nomatch z), rfl, d8, by omega, by rw [List.length_map]; omega, by rw [List.length_map]; omega, fun z t9 hz d9 => ?_⟩
        obtain ⟨c, hc, rfl⟩ := List.mem_map.mp hz
        have hcs := hs c (List.mem_of_mem_take hc)
        obtain ⟨r, hr1, hr2⟩ := List.mem_flatten.mp hin
        refine xs_cons (ex_of (ea_d 8 (d := pc q)) (xs_nil ⟨[.str [c], pc q], rfl, by show 2 ≤ 100000; decide, _, shs sh, rfl, rfl, by omega, ?_⟩))
        refine ws_nil (ws_nil ⟨t9, sh ++ [([c], q)], .d (.int (0 + (m : Nat))), .d (.int way), .d (pc q), ?_, rfl, d9.mono (by omega), by simp; omega, gs.snoc (w := w') ⟨⟨c, rfl, hcs.1, hcs.2⟩, iq, w8, ⟨r, hr1, hr2⟩⟩ hmem⟩)
        rw [shs_snoc]; rfl
  · rintro _ ⟨t', sh, a, b, c, rfl, lab, d', lm, gs⟩
    have emp : (sh.isEmpty = true ↔ D.lst (shs sh) = D.lst []) := by cases sh <;> simp [shs]
    have dks : ∀ z ∈ shs sh, Dk 3 z := fun z hz => by
      obtain ⟨p, hp, rfl⟩ := List.mem_map.mp hz
      obtain ⟨w', is⟩ := gs.s p hp
      exact dk_shape is
    have lo : (1 + v).toNat ≤ 6 := by omega
    refine ws_cons (w1x_ret (ex_if (xt_of (et_cmp (op_neD (Room.eq hr)) (ea_o 4 (k := 1)) (ee_fl (ea_lst es_nil) (lw := lab)) (ov_neD (n := 4) (d := .lst (shs sh)) (e := .lst []) ⟨_, rfl, rfl, rfl⟩ rfl dks (fun _ z => nomatch z) (ht := emp))) ⟨fun hb => ?_, fun hb => ?_⟩)))
    · have ne : sh ≠ [] := fun e => by rw [e] at hb; cases hb
      have npos : 0 < sh.length := List.length_pos_iff.mpr ne
      refine ex_of (ea_o 4 (k := 1)) ⟨.fl (shs sh), [t'], ⟨sh, t', rfl, ⟨h1, h2, npos, by omega, gs.s, gs.nd⟩, rfl, d'.mono (by omega)⟩, rfl, Nat.le_of_ble_eq_true rfl, Nat.le_of_ble_eq_true rfl, rfl⟩
    · have ep : D.tup (List.replicate h [D.str [35]]).flatten = pc (List.replicate h [35]) := by
        unfold pc
        rw [rep1, List.map_replicate]
      refine ex_of (ea_lst (es_cons (ee_tup (es_cons (ee_str [97]) (es_cons (ea_op op_repU (ee_tup (es_cons (ee_str [35]) es_nil)) (ea_d 1) (ov_repU (ds := [.str [35]]) (k := h) rfl (by simp) h1 (by omega) (by decide))) es_nil))) es_nil)) ?_
      have is : IsS ([97], List.replicate h [35]) h 1 := ⟨⟨97, rfl, by decide, by decide⟩, ⟨by simp, h1, by omega, Nat.le_refl _, by decide, fun r hr => by rw [(List.mem_replicate.mp hr).2]; rfl, fun r hr c hc => by rw [(List.mem_replicate.mp hr).2] at hc; exact .inl (List.mem_singleton.mp hc)⟩, by decide, ⟨[35], List.mem_replicate.mpr ⟨by omega, rfl⟩, List.mem_singleton.mpr rfl⟩⟩
      refine ⟨.fl (shs [([97], List.replicate h [35])]), [t'], ⟨_, t', rfl, ⟨h1, h2, Nat.le_refl _, by show 1 ≤ 16; decide, fun p hp => by rw [List.mem_singleton.mp hp]; exact ⟨1, is⟩, fun i p hp => ?_⟩, rfl, d'.mono (by omega)⟩, rfl, Nat.le_of_ble_eq_true rfl, Nat.le_of_ble_eq_true rfl, ?_⟩
      · cases i with
        | zero => intro z; cases z
        | succ i => simp at hp
      · show some (T.fl [D.tup [D.str [97], D.tup (List.replicate h [D.str [35]]).flatten]]) = _
        rw [ep]; rfl
end
end K12
namespace K12
open PySem L2 Q
theorem low_mono : ∀ {ρ : List Sl} {n m : Nat}, n ≤ m → low n ρ = true → low m ρ = true
  | [], _, _, _, _ => rfl
  | .o k :: ρ, n, m, l, h => by
    have h' : (decide (k < n) && low n ρ) = true := h
    rw [Bool.and_eq_true, decide_eq_true_eq] at h'
    show (decide (k < m) && low m ρ) = true
    rw [Bool.and_eq_true, decide_eq_true_eq]
    exact ⟨by omega, low_mono l h'.2⟩
  | .d _ :: ρ, _, _, l, h => low_mono (ρ := ρ) l h
  | .un :: ρ, _, _, l, h => low_mono (ρ := ρ) l h
theorem low1 {ρ : List Sl} {n : Nat} (h : low 0 ρ = true) : low (n + 1) (.o 0 :: ρ) = true := by
  show (decide (0 < n + 1) && low (n + 1) ρ) = true
  rw [low_mono (Nat.zero_le _) h]; simp
def ct_lline : Ct where
  ι := Nat × T × Nat × Nat × List (List Nat × List (List Nat))
  args := fun (n, t, h, w, sh) => [.o t, .d (.int (h : Int)), .d (.int (w : Int)), .d (.lst (shs sh))]
  pre := fun (n, t, h, w, sh) => Dr n t ∧ n + 5000 < lim ∧ IsM h sh ∧ 1 ≤ w ∧ w ≤ 20
  post := fun (n, t, h, w, sh) r outs => ∃ p t', r = .fz (pc p) ∧ IsP p h w ∧ outs = [t'] ∧ Dr (n + 2000) t'
/-- rows on the way -/
structure RowsP (p : List (List Nat)) (h m : Nat) : Prop where
  len : p.length = h
  row : ∀ r ∈ p, r.length = m
  sg : ∀ r ∈ p, ∀ c ∈ r, c = 35 ∨ c = 46
def slen : Option Sl → Nat
  | some (.d (.lst (.str r :: _))) => r.length
  | _ => 0
def meas (wd : Nat) (s : S) : Nat := wd - slen (s.ρ[5]?)
theorem meas_eq {wd h m : Nat} {p : List (List Nat)} {x0 x1 x2 x3 x4 : Sl} {ρ : List Sl} {μ : List T} (rp : RowsP p h m) (h1 : 1 ≤ h) : meas wd ⟨x0 :: x1 :: x2 :: x3 :: x4 :: .d (.lst (p.map .str)) :: ρ, μ⟩ = wd - m := by
  have lp := rp.len
  cases p with
  | nil => simp at lp; omega
  | cons r p =>
    have := rp.row r List.mem_cons_self
    show wd - r.length = _
    rw [this]
section
variable {P : Program} {w : World} {K : PySem.W.Frag} {mg : Str → Option Value} {base : Heap} {C : Addr}
theorem sc_lline : FnScope ["draw", "high", "wide", "shapes", "way", "rows", "sign", "one", "gap", "line", "turn", "row", "more"] ["draw", "high", "wide", "shapes"] (defScope (top 39)) := ⟨rfl, rfl, rfl, by decide +kernel, rfl, by decide +kernel, by decide +kernel⟩
theorem ok_lline (E : En mg) (Cn : Cl P w K mg base "_law_next" 2 1 ct_next) (Cp : Cl P w K mg base "_law_pick" 2 2 ct_pick) (Cpic : Cl P w K mg base "_law_picture" 4 2 ct_picture) (Cnr : Cl P w K mg base "_law_near" 2 2 ct_near)
    {f : Addr} {fd : FuncData} (F : Fun K "_law_line" "_law_line" (top 39) f fd) : FnOk P w K mg base CX0 3 f fd ["draw", "high", "wide", "shapes"] (spOf K ct_lline) := by
  refine fn_ok F sc_lline (fun _ => rfl) fun cdv A outer s H Eh hr i hp => ?_
  obtain ⟨n, t, h, wd, sh⟩ := i
  obtain ⟨d, hn, im, w1, w2⟩ : Dr n t ∧ n + 5000 < lim ∧ IsM h sh ∧ 1 ≤ wd ∧ wd ≤ 20 := hp
  have h1 := im.h1
  have h2 := im.h2
  have n1 := im.n1
  have n2 := im.n2
  have lsh : (shs sh).length = sh.length := by simp [shs]
  have hhw : h * wd ≤ 9 * 20 := Nat.mul_le_mul h2 w2
  show WS _ ⟨[.o 0, .d (.int (h : Int)), .d (.int (wd : Int)), .d (.lst (shs sh)), .un, .un, .un, .un, .un, .un, .un, .un, .un], [t]⟩ _ (rets 1 _)
  refine ws_cons (w1x_set 4 (x_next Cn hr (ea_o 0 (k := 0)) (by decide) (ex_of ee_int ⟨6, t, n, rfl, rfl, d, by omega, by decide, by decide, fun way t1 _ _ d1 => ?_⟩)) sc_lline.nd)
  show WS _ ⟨[.o 0, .d (.int (h : Int)), .d (.int (wd : Int)), .d (.lst (shs sh)), .d (.int way), .un, .un, .un, .un, .un, .un, .un, .un], [t1]⟩ _ _
  refine ws_cons (w1_if (t_eqI (ea_d 4) ee_int) (fun _ => ?_) (fun _ => ws_nil ?_))
  · refine ws_cons (w1x_ret ?_)
    refine x_picture Cpic hr (ea_o 0 (k := 0)) (by decide) (xs_cons (ex_of (ea_d 1) (xs_cons (ex_of (ea_d 2) (xs_cons ?_)))))
    refine x_next Cn hr (ea_o 0 (k := 0)) (by decide) (ex_of ee_int ⟨11, t1, _, rfl, rfl, d1, by omega, by decide, by decide, fun v2 t2 _ _ d2 => xs_nil ⟨h, wd, v2, t2, _, rfl, rfl, d2, by omega, h1, h2, w1, by omega, fun q t3 iq d3 => ⟨.fz (pc q), [t3], ⟨q, t3, rfl, iq, rfl, d3.mono (by omega)⟩, rfl, Nat.le_of_ble_eq_true rfl, rfl⟩⟩⟩)
  refine ws_cons (w1_set 5 (ea_opL op_rep (ee_fl (ea_lst (es_cons (ee_str []) es_nil))) (ea_d 1) (ol_rep (ds := [.str []]) (k := h) rfl (by show 1 * h ≤ 16777216; omega) rfl (by omega))) ?_ sc_lline.nd)
  have er : (List.replicate h [D.str []]).flatten = (List.replicate h ([] : List Nat)).map .str := by rw [rep1, List.map_replicate]
  rw [er]
  show WS _ ⟨[.o 0, .d (.int (h : Int)), .d (.int (wd : Int)), .d (.lst (shs sh)), .d (.int way), .o 1, .un, .un, .un, .un, .un, .un, .un], [t1, .fl ((List.replicate h ([] : List Nat)).map .str)]⟩ _ _
  refine ws_frz 1 rfl rfl ?_
  show WS _ ⟨[.o 0, .d (.int (h : Int)), .d (.int (wd : Int)), .d (.lst (shs sh)), .d (.int way), .d (.lst ((List.replicate h ([] : List Nat)).map .str)), .un, .un, .un, .un, .un, .un, .un], t1 :: [.fz (.lst ((List.replicate h ([] : List Nat)).map .str))]⟩ _ _
  refine ws_cons (w1x_while (fun s2 => ∃ t' μr p m a b c, s2 = ⟨[.o 0, .d (.int (h : Int)), .d (.int (wd : Int)), .d (.lst (shs sh)), .d (.int way), .d (.lst (p.map .str)), a, b, c, .un, .un, .un, .un], t' :: μr⟩ ∧ low 0 [a, b, c, .un, .un, .un, .un] = true ∧ RowsP p h m ∧ m ≤ 31 ∧ Dr (n + 1 + 2 * m) t') (meas wd) ⟨t1, _, List.replicate h [], 0, _, _, _, rfl, rfl, ⟨by simp, fun r hr => by rw [(List.mem_replicate.mp hr).2]; rfl, fun r hr c hc => by rw [(List.mem_replicate.mp hr).2] at hc; cases hc⟩, by decide, d1⟩ ?_)
  rintro _ ⟨t2, μr, p, m, a, b, c, rfl, lab, rp, m31, d2⟩
  have lp := rp.len
  obtain ⟨r0, e0⟩ : ∃ r0, p[0]? = some r0 := ⟨_, List.getElem?_eq_getElem (by omega)⟩
  have w0 := rp.row r0 (List.mem_of_getElem? e0)
  have e2 : (p.map D.str)[0]? = some (.str r0) := by rw [List.getElem?_map, e0]; rfl
  refine xt_of (t_lt (e_lenS E.len (e_ixL (ea_d 5) ee_int (atN (k := 0) e2)) (by omega)) (ea_d 2)) ⟨fun hb => ?_, fun hb => ?_⟩
  · have hb : m < wd := by have := of_decide_eq_true hb; omega
    refine ws_cons (w1x_asg (pg_tup rfl (pgs_cons (pg_name (i := 6) sc_lline.nd rfl (Or.inl rfl)) (pgs_cons (pg_name (i := 7) sc_lline.nd rfl (Or.inl rfl)) pgs_nil))) (gs_tup (gss_cons (gs_name 6) (gss_cons (gs_name 7) gss_nil)) (tcons_len (tcons_len tnil_len))) ?_)
    refine x_pickD Cp hr (ea_o 0 (k := 0)) (by decide) (ex_of (ea_d 3) ⟨_, shs sh, t2, _, rfl, rfl, (by intro _ z; cases z), rfl, d2, by omega, by omega, by omega, fun z t3 hz d3 => ?_⟩)
    obtain ⟨sp, hsp, rfl⟩ := List.mem_map.mp hz
    obtain ⟨ws, is⟩ := im.s sp hsp
    have w8 := is.w8
    have ip := is.pic
    have ws1 := ip.w1
    have lsp := ip.len
    refine ⟨_, _, rfl, rfl, ?_⟩
    show WS _ ⟨[.o 0, .d (.int (h : Int)), .d (.int (wd : Int)), .d (.lst (shs sh)), .d (.int way), .d (.lst (p.map .str)), .d (.str sp.1), .d (pc sp.2), c, .un, .un, .un, .un], t3 :: μr⟩ _ _
    have labc : low 0 [c, .un, .un, .un, .un] = true := by
      have : low 0 [b, c, .un, .un, .un, .un] = true := by
        cases a with
        | o k => exact absurd lab (by simp [low])
        | _ => exact lab
      cases b with
      | o k => exact absurd this (by simp [low])
      | _ => exact this
    refine ws_cons (w1x_set 8 (ex_op mul_strR (ex_of (ee_str [46]) ?_)) sc_lline.nd)
    refine x_pickD Cp hr (ea_o 0 (k := 0)) (by decide) (ex_of (ee_fl (ea_lst (es_cons ee_int (es_cons ee_int (es_cons ee_int (es_cons ee_int (es_cons ee_int (es_cons ee_int es_nil))))))) (lw := low1 labc)) ⟨_, _, t3, _, rfl, rfl, (by intro _ z; cases z), rfl, d3, by omega, by decide, by decide, fun z t4 hz d4 => ?_⟩)
    obtain ⟨gk, rfl, hg⟩ : ∃ k : Nat, z = .int (k : Int) ∧ k ≤ 4 := by
      simp only [List.mem_cons, List.not_mem_nil, or_false] at hz
      rcases hz with rfl | rfl | rfl | rfl | rfl | rfl
      · exact ⟨0, rfl, by decide⟩
      · exact ⟨0, rfl, by decide⟩
      · exact ⟨1, rfl, by decide⟩
      · exact ⟨1, rfl, by decide⟩
      · exact ⟨2, rfl, by decide⟩
      · exact ⟨4, rfl, by decide⟩
    refine ⟨_, ov_repS (k := gk) rfl (by show 1 * gk ≤ 16777216; omega) (by omega), ?_⟩
    have lg : (List.replicate gk [46]).flatten = List.replicate gk 46 := rep1 46 gk
    rw [lg]
    show WS _ ⟨[.o 0, .d (.int (h : Int)), .d (.int (wd : Int)), .d (.lst (shs sh)), .d (.int way), .d (.lst (p.map .str)), .d (.str sp.1), .d (pc sp.2), .d (.str (List.replicate gk 46)), .un, .un, .un, .un], t4 :: μr⟩ _ _
    refine ws_cons (w1_setLcP 5 (p.zip sp.2) (fun r => .tup [.str r.1, .str r.2]) (fun r => .str (r.1 ++ List.replicate gk 46 ++ r.2)) [("row", 11), ("more", 12)] (it_zip rfl E.zip (ea_d 5) (ea_d 7 (d := pc sp.2))) (by simp) (fun i r hi => by
      obtain ⟨z1, z2⟩ := zip_get hi
      rw [getD_map z1, getD_map z2]) sc_lline.nd rfl blk_of (fun _ _ _ _ _ => pg_tup rfl (pgs_cons (pg_name (i := 11) sc_lline.nd rfl (Or.inl rfl)) (pgs_cons (pg_name (i := 12) sc_lline.nd rfl (Or.inl rfl)) pgs_nil))) (gs_tup (gss_cons (gs_name 11) (gss_cons (gs_name 12) gss_nil)) (tcons_len (tcons_len tnil_len))) (fun r hr => ⟨_, rfl, _, fun _ _ _ _ _ => e_cat (e_cat (ea_d 11) (ea_d 8) ?_) (ea_d 12) ?_⟩) (by simp; omega) ?_)
    · have := rp.row _ (List.of_mem_zip hr).1
      simp; omega
    · have := rp.row _ (List.of_mem_zip hr).1
      have := ip.row _ (List.of_mem_zip hr).2
      simp; omega
    have ec : ((p.zip sp.2).map fun r => D.str (r.1 ++ List.replicate gk 46 ++ r.2)) = ((p.zip sp.2).map fun r => r.1 ++ List.replicate gk 46 ++ r.2).map .str := by rw [List.map_map]; rfl
    rw [ec]
    show WS _ ⟨[.o 0, .d (.int (h : Int)), .d (.int (wd : Int)), .d (.lst (shs sh)), .d (.int way), .o (t4 :: μr).length, .d (.str sp.1), .d (pc sp.2), .d (.str (List.replicate gk 46)), .un, .un, .un, .un], (t4 :: μr) ++ [.fl (((p.zip sp.2).map fun r => r.1 ++ List.replicate gk 46 ++ r.2).map .str)]⟩ _ _
    refine ws_frz (t := .fl (((p.zip sp.2).map fun r => r.1 ++ List.replicate gk 46 ++ r.2).map .str)) (t4 :: μr).length (by simp) rfl ?_
    have rp' : RowsP ((p.zip sp.2).map fun r => r.1 ++ List.replicate gk 46 ++ r.2) h (m + gk + ws) := by
      refine ⟨by simp; omega, fun r hr => ?_, fun r hr c hc => ?_⟩
      · obtain ⟨r0, h0, rfl⟩ := List.mem_map.mp hr
        have := rp.row _ (List.of_mem_zip h0).1
        have := ip.row _ (List.of_mem_zip h0).2
        simp; omega
      · obtain ⟨r0, h0, rfl⟩ := List.mem_map.mp hr
        rcases List.mem_append.mp hc with z | z
        · rcases List.mem_append.mp z with z | z
          · exact rp.sg _ (List.of_mem_zip h0).1 c z
          · exact .inr (List.mem_replicate.mp z).2
        · exact ip.sg _ (List.of_mem_zip h0).2 c z
    have ef : frzS (t4 :: μr).length (T.fl (((p.zip sp.2).map fun r => r.1 ++ List.replicate gk 46 ++ r.2).map .str)).fr [.o 0, .d (.int (h : Int)), .d (.int (wd : Int)), .d (.lst (shs sh)), .d (.int way), .o (t4 :: μr).length, .d (.str sp.1), .d (pc sp.2), .d (.str (List.replicate gk 46)), .un, .un, .un, .un] = [.o 0, .d (.int (h : Int)), .d (.int (wd : Int)), .d (.lst (shs sh)), .d (.int way), .d (.lst (((p.zip sp.2).map fun r => r.1 ++ List.replicate gk 46 ++ r.2).map .str)), .d (.str sp.1), .d (pc sp.2), .d (.str (List.replicate gk 46)), .un, .un, .un, .un] := by
      simp [frzS, T.fr]
    rw [ef]
    refine ws_nil ⟨⟨t4, _, _, m + gk + ws, .d (.str sp.1), .d (pc sp.2), .d (.str (List.replicate gk 46)), rfl, rfl, rp', by omega, d4.mono (by omega)⟩, ?_⟩
    rw [meas_eq rp' h1, meas_eq rp h1]
    omega
  · have hb : wd ≤ m := by have := of_decide_eq_false hb; omega
    have sz : ∀ r ∈ p, r.length ≤ 16777216 := fun r hr => by have := rp.row r hr; omega
    refine ws_cons (w1_set 9 (e_tuple (ds := p.map fun r => .str (cut r none (some (wd : Int)))) E.tuple (ee_lcP p (fun r => .str r) (fun r => .str (cut r none (some (wd : Int)))) [("row", 11)] (it_list (ea_d 5)) (by simp) (fun i a h => by rw [getD_map h]) sc_lline.nd blk_of (fun _ _ _ _ _ => pg_name (i := 11) sc_lline.nd rfl (Or.inl rfl)) (gs_name 11) (fun r hr => ⟨_, rfl, _, fun _ _ _ _ _ => ee_sl sl_str (ea_d 11) ep_none (ep_some (ea_d 2)) (sv_str (sz r hr))⟩) (by omega) (lw := low1 lab)) rfl) ?_ sc_lline.nd)
    have ec : (p.map fun r => D.str (cut r none (some (wd : Int)))) = (p.map fun r => r.take wd).map .str := by
      rw [List.map_map]
      exact List.map_congr_left fun r _ => by rw [cut_to]; rfl
    rw [ec]
    have il : IsP (p.map fun r => r.take wd) h wd := ⟨by simp; omega, h1, by omega, w1, by omega, fun r hr => by
      obtain ⟨r0, h0, rfl⟩ := List.mem_map.mp hr
      have := rp.row r0 h0
      rw [List.length_take]; omega, fun r hr c hc => by
      obtain ⟨r0, h0, rfl⟩ := List.mem_map.mp hr
      exact rp.sg r0 h0 c (List.mem_of_mem_take hc)⟩
    show WS _ ⟨[.o 0, .d (.int (h : Int)), .d (.int (wd : Int)), .d (.lst (shs sh)), .d (.int way), .d (.lst (p.map .str)), a, b, c, .d (pc (p.map fun r => r.take wd)), .un, .un, .un], t2 :: μr⟩ _ _
    have lab2 : low 0 [a, b, c, .d (pc (p.map fun r => r.take wd)), .un, .un, .un] = true := by
      have : low 0 [a, b, c, .un, .un, .un, .un] = low 0 [a, b, c, .d (pc (p.map fun r => r.take wd)), .un, .un, .un] := by
        cases a <;> cases b <;> cases c <;> simp [low]
      rw [← this]; exact lab
    refine ws_cons (w1x_for (pg_name (i := 10) sc_lline.nd rfl (Or.inl rfl)) (gs_name 10) (ix_range1 rfl E.range ?_))
    refine x_pickD Cp hr (ea_o 0 (k := 0)) (by decide) (ex_of (ee_fl (ea_lst (es_cons ee_int (es_cons ee_int (es_cons ee_int (es_cons ee_int (es_cons ee_int es_nil)))))) (lw := low1 lab2)) ⟨_, _, t2, _, rfl, rfl, (by intro _ z; cases z), rfl, d2, by omega, by decide, by decide, fun z t4 hz d4 => ?_⟩)
    obtain ⟨gk, rfl, hg⟩ : ∃ k : Nat, z = .int (k : Int) ∧ k ≤ 3 := by
      simp only [List.mem_cons, List.not_mem_nil, or_false] at hz
      rcases hz with rfl | rfl | rfl | rfl | rfl
      · exact ⟨0, rfl, by decide⟩
      · exact ⟨0, rfl, by decide⟩
      · exact ⟨1, rfl, by decide⟩
      · exact ⟨2, rfl, by decide⟩
      · exact ⟨3, rfl, by decide⟩
    refine ⟨gk, rfl, by omega, by omega, fun m2 s2 => ∃ t' q e, s2 = ⟨[.o 0, .d (.int (h : Int)), .d (.int (wd : Int)), .d (.lst (shs sh)), .d (.int way), .d (.lst (p.map .str)), a, b, c, .d (pc q), e, .un, .un], t' :: μr⟩ ∧ IsP q h wd ∧ Dr (n + 70 + 5 * m2) t', ⟨t4, _, _, rfl, il, d4.mono (by omega)⟩, ?_, ?_⟩
    · rintro m2 _ hm2 ⟨t5, q, e, rfl, iq, d5⟩
      have hm2 : m2 < 3 := by omega
      refine ⟨_, rfl, ?_⟩
      refine ws_cons (w1x_set 9 (x_near Cnr hr (ea_o 0 (k := 0)) (by decide) (ex_of (ea_d 9 (d := pc q)) ⟨q, h, wd, t5, _, rfl, rfl, d5, by omega, iq, fun q' t6 iq' d6 => ws_nil ⟨t6, q', _, rfl, iq', d6.mono (by omega)⟩⟩)) sc_lline.nd)
    · rintro _ ⟨t5, q, e, rfl, iq, d5⟩
      have : (gk : Int).toNat ≤ 3 := by omega
      exact ws_cons (w1_ret (ea_d 9 (d := pc q)) ⟨.fz (pc q), [t5], ⟨q, t5, rfl, iq, rfl, d5.mono (by omega)⟩, rfl, Nat.le_of_ble_eq_true rfl, rfl⟩)
end
end K12
namespace K12
open PySem L2 Q
section
variable {X : Cx} {s s1 : S} {e e0 e1 e2 e3 : Expr} {es : List Expr} {p pos : Pos} {k k0 n : Nat} {Ψ : S → Ar → Prop}
theorem x_lshapes (Cn : Cl X.prog X.w X.K X.mg X.base "_law_shapes" 4 3 ct_lshapes) (hr : Room k X.A) (hd : EA X s e0 s (.o k0)) (hk : 3 ≤ k)
    (h : EXs X s [e1, e2, e3] fun s1 xs => ∃ (h w : Nat) (t : T) (n : Nat), xs = [.d (.int (h : Int)), .d (.int 6), .d (.int (w : Int))] ∧ s1.μ[k0]? = some t ∧ Dr n t ∧ n + 5000 < lim ∧ 1 ≤ h ∧ h ≤ 9 ∧ 1 ≤ w ∧ w ≤ 8 ∧ ∀ sh t', IsM h sh → Dr (n + 2000) t' → Ψ ⟨s1.ρ, s1.μ.set k0 t' ++ [.fl (shs sh)]⟩ (.o s1.μ.length))
    (hg : Gl X "_law_shapes" := by rfl) (hx : X.xe = fun _ _ => False := by rfl) (he : starEach (e0 :: [e1, e2, e3]) X.env = (false, eval e0 X.env) :: starEach [e1, e2, e3] X.env := by rfl) (hpl : (backTo pos (starEach [e1, e2, e3] X.env)).any (·.1) = false := by rfl) :
    EX X s (.Call (.Name "_law_shapes" p) [e0, e1, e2, e3] [] pos) Ψ :=
  ex_cl (Φ := ct_lshapes) Cn (hr.mono hk) (xs_cons (ex_of hd (xs_mono h fun s1 xs ⟨h, w, t, n, ex, ht, d, hn, h1, h2, w1, w2, c⟩ => by
    subst ex
    refine ⟨(n, t, h, w), by show (s1.μ[k0]?).bind _ = _; rw [ht]; rfl, ⟨d, hn, h1, h2, w1, w2⟩, by simp [oks], fun r outs ⟨q', t', z⟩ => by rw [z.2.2.1]; rfl, fun r outs ⟨sh, t', e1, q1, e2, q3⟩ => .inr ?_⟩
    subst e2 e1
    exact c sh t' q1 q3)) (hs := he)) hg hx (by decide) he hpl
theorem x_lline (Cn : Cl X.prog X.w X.K X.mg X.base "_law_line" 4 3 ct_lline) (hr : Room k X.A) (hd : EA X s e0 s (.o k0)) (hk : 3 ≤ k)
    (h : EXs X s [e1, e2, e3] fun s1 xs => ∃ (h w : Nat) (sh : List (List Nat × List (List Nat))) (t : T) (n : Nat), xs = [.d (.int (h : Int)), .d (.int (w : Int)), .d (.lst (shs sh))] ∧ s1.μ[k0]? = some t ∧ Dr n t ∧ n + 5000 < lim ∧ IsM h sh ∧ 1 ≤ w ∧ w ≤ 20 ∧ ∀ q t', IsP q h w → Dr (n + 2000) t' → Ψ ⟨s1.ρ, s1.μ.set k0 t'⟩ (.d (pc q)))
    (hg : Gl X "_law_line" := by rfl) (hx : X.xe = fun _ _ => False := by rfl) (he : starEach (e0 :: [e1, e2, e3]) X.env = (false, eval e0 X.env) :: starEach [e1, e2, e3] X.env := by rfl) (hpl : (backTo pos (starEach [e1, e2, e3] X.env)).any (·.1) = false := by rfl) :
    EX X s (.Call (.Name "_law_line" p) [e0, e1, e2, e3] [] pos) Ψ :=
  ex_cl (Φ := ct_lline) Cn (hr.mono hk) (xs_cons (ex_of hd (xs_mono h fun s1 xs ⟨h, w, sh, t, n, ex, ht, d, hn, im, w1, w2, c⟩ => by
    subst ex
    refine ⟨(n, t, h, w, sh), by show (s1.μ[k0]?).bind _ = _; rw [ht]; rfl, ⟨d, hn, im, w1, w2⟩, by simp [oks], fun r outs ⟨q', t', z⟩ => by rw [z.2.2.1]; rfl, fun r outs ⟨q, t', e1, q1, e2, q3⟩ => .inl ⟨pc q, e1, ?_⟩⟩
    subst e2
    exact c q t' q1 q3)) (hs := he)) hg hx (by decide) he hpl
end
theorem sum_add {α : Type} (a b : α → Int) : ∀ ys : List α, (ys.map fun y => a y + b y).sum = (ys.map a).sum + (ys.map b).sum
  | [] => rfl
  | y :: ys => by rw [List.map_cons, List.map_cons, List.map_cons, List.sum_cons, List.sum_cons, List.sum_cons, sum_add a b ys]; omega
theorem sum_zero {α : Type} : ∀ ys : List α, (ys.map fun _ => (0 : Int)).sum = 0
  | [] => rfl
  | y :: ys => by rw [List.map_cons, List.sum_cons, sum_zero ys]; rfl
theorem sum_swap {α β : Type} (f : α → β → Int) (ys : List β) : ∀ xs : List α, (xs.map fun x => (ys.map fun y => f x y).sum).sum = (ys.map fun y => (xs.map fun x => f x y).sum).sum
  | [] => by simp only [List.map_nil, List.sum_nil]; exact (sum_zero ys).symm
  | x :: xs => by
    rw [List.map_cons, List.sum_cons, sum_swap f ys xs, ← sum_add]
    exact congrArg List.sum (List.map_congr_left fun y _ => by rw [List.map_cons, List.sum_cons])
theorem len_filter {α : Type} (b : α → Bool) : ∀ xs : List α, ((xs.filter b).length : Int) = (xs.map fun x => if b x = true then (1 : Int) else 0).sum
  | [] => rfl
  | x :: xs => by
    rw [List.filter_cons, List.map_cons, List.sum_cons, ← len_filter b xs]
    cases b x
    · simp
    · simp; omega
theorem colt_eq {p : List (List Nat)} {h w : Nat} (q : IsP p h w) : colt p = (List.range w).map fun k => p.map fun r => r.getD k 0 := by
  have := q.h1
  have hl := q.len
  have e := getD_at (d := []) (show 0 < p.length by omega)
  have := q.row _ (List.mem_of_getElem? e)
  unfold colt
  rw [this]
theorem zip_map2 {α β γ δ : Type} (f : α → γ) (g : β → δ) (xs : List α) (ys : List β) : (xs.map f).zip (ys.map g) = (xs.zip ys).map fun q => (f q.1, g q.2) := by
  rw [List.zip_map]; rfl
theorem zip_self {α : Type} : ∀ xs : List α, xs.zip xs = xs.map fun k => (k, k)
  | [] => rfl
  | x :: xs => by rw [List.zip_cons_cons, zip_self xs, List.map_cons]
def dueR (a b : List Nat) (at_ : Nat) : Int := ((List.range b.length).filter fun j => !decide ([a.getD (at_ + j) 0] = [b.getD j 0])).length
def dueN (line p : List (List Nat)) (at_ : Nat) : Int := ((line.zip p).map fun q => dueR q.1 q.2 at_).sum
theorem due_fit {line p : List (List Nat)} {h wl ws at_ : Nat} (il : IsP line h wl) (ip : IsP p h ws) (ha : at_ + ws ≤ wl) : fitN line p at_ = dueN line p at_ := by
  have e0 := getD_at (d := []) (show 0 < p.length by have := ip.len; have := ip.h1; omega)
  have w0 := ip.row _ (List.mem_of_getElem? e0)
  have A : ((colt line).drop at_).take ws = (List.range ws).map fun k => line.map fun r => r.getD (at_ + k) 0 := by
    rw [colt_eq il]
    refine List.ext_getElem (by simp; omega) fun k h1 h2 => ?_
    simp
  unfold fitN dueN
  rw [w0, A, colt_eq ip, zip_map2, zip_self, List.map_map, List.map_map]
  have E1 : ∀ k ∈ List.range ws, ((fun q : List Nat × List Nat => unl q.1 q.2) ∘ (fun q : Nat × Nat => (line.map fun r => r.getD (at_ + q.1) 0, p.map fun r => r.getD q.2 0)) ∘ fun k => (k, k)) k = ((line.zip p).map fun q => if (!decide ([q.1.getD (at_ + k) 0] = [q.2.getD k 0])) = true then (1 : Int) else 0).sum := fun k _ => by
    show unl (line.map fun r => r.getD (at_ + k) 0) (p.map fun r => r.getD k 0) = _
    unfold unl
    rw [zip_map2, List.map_map]; rfl
  refine (congrArg List.sum (List.map_congr_left E1)).trans ?_
  rw [sum_swap]
  refine congrArg List.sum (List.map_congr_left fun q hq => ?_)
  unfold dueR
  rw [len_filter, ip.row _ (List.of_mem_zip hq).2]
abbrev ct_law : Ct := pu (ι := List Int) (fun ns => [.rl (ns.map .int)]) (fun ns => ns.length ≤ 63) fun _ => .fz (.bl true)
section
variable {P : Program} {w : World} {K : PySem.W.Frag} {mg : Str → Option Value} {base : Heap} {C : Addr}
theorem sc_law : FnScope ["script", "k", "cell", "draw", "high", "most", "shapes", "line", "made", "number", "sign", "picture", "at", "due", "one", "other", "told", "j", "spot"] ["script"] (defScope (top 40)) := ⟨rfl, rfl, rfl, by decide +kernel, rfl, by decide +kernel, by decide +kernel⟩
theorem ok_law (E : En mg) (EC : EnC K C) (Cb : Cl P w K mg base "_law_begun" 2 1 ct_begun) (Cn : Cl P w K mg base "_law_next" 2 1 ct_next) (Csh : Cl P w K mg base "_law_shapes" 4 3 ct_lshapes) (Cli : Cl P w K mg base "_law_line" 4 3 ct_lline) (Cf : Cl P w K mg base "fit" 4 7 (ct_fit C))
    {fi : Addr} {fdi : FuncData} (Mi : Mk K C fi) (Gi : FnOk P w K mg base CX0 6 fi fdi ["self", "high", "shapes"] (spOf K (ct_init C))) (Bi : Binds K fdi ["self", "high", "shapes"] []) (hC : mg "Alphabet" = some (.ref C))
    {f : Addr} {fd : FuncData} (F : Fun K "law" "law" (top 40) f fd) : FnOk P w K mg base CX0 8 f fd ["script"] (spOf K ct_law) := by
  refine fn_pu F sc_law (fun _ => rfl) fun cdv A outer s H Eh hr ns hp => ?_
  have hp : ns.length ≤ 63 := hp
  show WS _ ⟨[.d (.rl (ns.map .int)), .un, .un, .un, .un, .un, .un, .un, .un, .un, .un, .un, .un, .un, .un, .un, .un, .un, .un], []⟩ _ (rtp (.fz (.bl true)))
  have ci : cut (if (ns.map D.int).isEmpty = true then [D.int 5] else ns.map D.int) none (some (8 : Int)) = ((if ns.isEmpty = true then [5] else ns).take 8).map D.int := by
    rw [show (8 : Int) = ((8 : Nat) : Int) from rfl, cut_to, List.map_take]
    cases ns <;> rfl
  generalize hcs : (if ns.isEmpty = true then [5] else ns).take 8 = cs at ci
  have slc : ∀ (X : Cx) (s : S), SlL X s (rSlL X.K) (.d (orR (ns.map .int) [.int 5])) none (some 8) (cs.map .int) := fun X s => by rw [← ci]; exact sl_or
  have lcs : cs.length ≤ 8 := by rw [← hcs, List.length_take]; omega
  refine ws_cons (w1_for (fun i s2 => ∃ μ, s2 = ⟨[.d (.rl (ns.map .int)), .un, .un, .un, .un, .un, .un, .un, .un, .un, .un, .un, .un, .un, .un, .un, .un, .un, .un], μ⟩) (it_en (ds := cs.map D.int) rfl E.enumerate (ee_fl (ea_slL sl_list (e_or5 (ea_d 0) (ee_one (ee_fl (ea_lst (es_cons ee_int es_nil))))) ep_none (ep_some ee_int) (slc _ _)))) (pg_tup rfl (pgs_cons (pg_name (i := 1) sc_law.nd rfl (Or.inl rfl)) (pgs_cons (pg_name (i := 2) sc_law.nd rfl (Or.inl rfl)) pgs_nil))) (gs_tup (gss_cons (gs_name 1) (gss_cons (gs_name 2) gss_nil)) (tcons_len (tcons_len tnil_len))) ⟨_, rfl⟩ ?_ ?_)
  · rintro i _ hi ⟨μ, rfl⟩
    have hi : i < cs.length := by simpa using hi
    have ei : (cs.map D.int).getD i .non = .int cs[i] := getD_map (List.getElem?_eq_getElem hi)
    rw [ei]
    generalize cs[i] = cell
    refine ⟨_, rfl, ?_⟩
    show WS _ ⟨[.d (.rl (ns.map .int)), .d (.int (i : Nat)), .d (.int cell), .un, .un, .un, .un, .un, .un, .un, .un, .un, .un, .un, .un, .un, .un, .un, .un], μ⟩ _ _
    refine ws_cons (w1_set 3 (ea_puT Cb (hr.mono (by decide)) (cell, i) (es_cons (ea_d 2) (es_cons (ea_d 1) es_nil)) (by show i ≤ 1000; omega)) ?_ sc_law.nd)
    show WS _ ⟨[.d (.rl (ns.map .int)), .d (.int (i : Nat)), .d (.int cell), .o μ.length, .un, .un, .un, .un, .un, .un, .un, .un, .un, .un, .un, .un, .un, .un, .un], μ ++ [_]⟩ _ _
    generalize hk0 : μ.length = k0
    have D0 : Dr 0 (dr (max 0 (cell - 10 ^ 18)) (cell + 977 * (i : Nat)) 0) := ⟨_, _, _, rfl, Nat.le_refl _⟩
    show WS _ ⟨[.d (.rl (ns.map .int)), .d (.int (i : Nat)), .d (.int cell), .o k0, .un, .un, .un, .un, .un, .un, .un, .un, .un, .un, .un, .un, .un, .un, .un], μ ++ [dr (max 0 (cell - 10 ^ 18)) (cell + 977 * (i : Nat)) 0]⟩ _ _
    generalize dr (max 0 (cell - 10 ^ 18)) (cell + 977 * (i : Nat)) 0 = t0 at D0
    have g0 : ∀ t, (μ ++ [t])[k0]? = some t := fun t => by rw [← hk0]; simp
    have s0 : ∀ t u, (μ ++ [t]).set k0 u = μ ++ [u] := fun t u => by rw [← hk0]; simp
    refine ws_cons (w1x_par 4 5 ?_ sc_law.nd)
    refine xs_cons (ex_op op_add (ex_of ee_int (x_next Cn hr (ea_o 3 (k := k0)) (by decide) (ex_of ee_int ⟨9, t0, _, rfl, g0 _, D0, by decide, by decide, by decide, fun v1 t1 v10 v11 d1 => ⟨_, ov_add, ?_⟩⟩))))
    refine xs_cons (ex_op op_add (ex_of ee_int (x_next Cn hr (ea_o 3 (k := k0)) (by decide) (ex_of ee_int ⟨8, t1, _, rfl, by rw [s0]; exact g0 _, d1, by decide, by decide, by decide, fun v2 t2 v20 v21 d2 => ⟨_, ov_add, xs_nil ⟨_, _, rfl, ?_⟩⟩⟩))))
    rw [s0, s0]
    obtain ⟨h, hh, h1, h2⟩ : ∃ h : Nat, (1 : Int) + v1 = (h : Int) ∧ 1 ≤ h ∧ h ≤ 9 := ⟨(1 + v1).toNat, by omega, by omega, by omega⟩
    obtain ⟨mw, hm, m1, m2⟩ : ∃ h : Nat, (1 : Int) + v2 = (h : Int) ∧ 1 ≤ h ∧ h ≤ 8 := ⟨(1 + v2).toNat, by omega, by omega, by omega⟩
    rw [hh, hm]
    show WS _ ⟨[.d (.rl (ns.map .int)), .d (.int (i : Nat)), .d (.int cell), .o k0, .d (.int (h : Int)), .d (.int (mw : Int)), .un, .un, .un, .un, .un, .un, .un, .un, .un, .un, .un, .un, .un], μ ++ [t2]⟩ _ _
    refine ws_cons (w1x_set 6 (x_lshapes Csh hr (ea_o 3 (k := k0)) (by decide) (xs_of (es_cons (ea_d 4) (es_cons ee_int (es_cons (ea_d 5) es_nil))) ⟨h, mw, t2, _, rfl, g0 _, d2, by decide, h1, h2, m1, m2, fun sh t3 im d3 => ?_⟩)) sc_law.nd)
    rw [s0]
    have l1 : (μ ++ [t2]).length = k0 + 1 := by simp [hk0]
    show WS _ ⟨[.d (.rl (ns.map .int)), .d (.int (i : Nat)), .d (.int cell), .o k0, .d (.int (h : Int)), .d (.int (mw : Int)), .o (μ ++ [t2]).length, .un, .un, .un, .un, .un, .un, .un, .un, .un, .un, .un, .un], μ ++ [t3] ++ [.fl (shs sh)]⟩ _ _
    rw [l1]
    refine ws_frz (t := .fl (shs sh)) (k0 + 1) (by rw [← hk0]; simp) rfl ?_
    have ef : frzS (k0 + 1) (T.fl (shs sh)).fr [.d (.rl (ns.map .int)), .d (.int (i : Nat)), .d (.int cell), .o k0, .d (.int (h : Int)), .d (.int (mw : Int)), .o (k0 + 1), .un, .un, .un, .un, .un, .un, .un, .un, .un, .un, .un, .un] = [.d (.rl (ns.map .int)), .d (.int (i : Nat)), .d (.int cell), .o k0, .d (.int (h : Int)), .d (.int (mw : Int)), .d (.lst (shs sh)), .un, .un, .un, .un, .un, .un, .un, .un, .un, .un, .un, .un] := by simp [frzS, T.fr]
    rw [ef]
    have e3 : (μ ++ [t3] ++ [T.fl (shs sh)]).set (k0 + 1) (.fz (T.fl (shs sh)).fr) = μ ++ [t3] ++ [.fz (.lst (shs sh))] := by rw [← hk0]; simp [T.fr]
    show WS _ ⟨_, (μ ++ [t3] ++ [T.fl (shs sh)]).set (k0 + 1) (.fz (T.fl (shs sh)).fr)⟩ _ _
    rw [e3]
    have g3 : ∀ t, (μ ++ [t] ++ [T.fz (.lst (shs sh))])[k0]? = some t := fun t => by rw [← hk0]; simp
    have s3 : ∀ t u, (μ ++ [t] ++ [T.fz (.lst (shs sh))]).set k0 u = μ ++ [u] ++ [T.fz (.lst (shs sh))] := fun t u => by rw [← hk0]; simp
    refine ws_cons (w1x_set 7 (x_lline Cli hr (ea_o 3 (k := k0)) (by decide) (xs_cons (ex_of (ea_d 4) (xs_cons (ex_op op_add (ex_of ee_int ?_)))))) sc_law.nd)
    refine x_next Cn hr (ea_o 3 (k := k0)) (by decide) (ex_of ee_int ⟨20, t3, _, rfl, g3 _, d3, by decide, by decide, by decide, fun v4 t4 v40 v41 d4 => ⟨_, ov_add, ?_⟩⟩)
    rw [s3]
    obtain ⟨wl, hwl, wl1, wl2⟩ : ∃ h : Nat, (1 : Int) + v4 = (h : Int) ∧ 1 ≤ h ∧ h ≤ 20 := ⟨(1 + v4).toNat, by omega, by omega, by omega⟩
    rw [hwl]
    refine xs_cons (ex_of (ea_d 6) (xs_nil ⟨h, wl, sh, t4, _, rfl, g3 _, d4, by decide, im, wl1, wl2, fun line t5 il d5 => ?_⟩))
    generalize (μ ++ [t4] ++ [T.fz (.lst (shs sh))]).set k0 t5 = μ5
    show WS _ ⟨[.d (.rl (ns.map .int)), .d (.int (i : Nat)), .d (.int cell), .o k0, .d (.int (h : Int)), .d (.int (mw : Int)), .d (.lst (shs sh)), .d (pc line), .un, .un, .un, .un, .un, .un, .un, .un, .un, .un, .un], μ5⟩ _ _
    refine ws_keep [true, true, true, false, true, true, true, true] ?_
    show WS _ ⟨[.d (.rl (ns.map .int)), .d (.int (i : Nat)), .d (.int cell), .un, .d (.int (h : Int)), .d (.int (mw : Int)), .d (.lst (shs sh)), .d (pc line), .un, .un, .un, .un, .un, .un, .un, .un, .un, .un, .un], μ5⟩ _ _
    refine ws_cons (w1x_set 8 (ex_mk (Φ := ct_init C) Mi Gi Bi hC (hr.mono (by decide)) (xs_of (es_cons (ea_d 4) (es_cons (ea_d 6) es_nil)) ⟨(h, sh), ?_, im, by simp [oks], fun r outs z => by rw [z.2]; exact ⟨rfl, z.1⟩, fun r outs z => ?_⟩)) sc_law.nd)
    · have : (μ5 ++ [T.ob C [] []])[μ5.length]? = some (T.ob C [] []) := by simp
      show ((μ5 ++ [T.ob C [] []])[μ5.length]?).bind _ = _
      rw [this]; rfl
    rw [z.2]
    have e5 : setAll (μ5 ++ [T.ob C [] []]) (μ5.length :: oks [Ar.d (.int (h : Int)), Ar.d (.lst (shs sh))]) [T.ob C ["rows", "drawn_signs"] [.int (h : Int), .lst (shs sh)]] = μ5 ++ [T.ob C ["rows", "drawn_signs"] [.int (h : Int), .lst (shs sh)]] := by
      show (μ5 ++ [T.ob C [] []]).set μ5.length _ = _
      simp
    show WS _ ⟨[.d (.rl (ns.map .int)), .d (.int (i : Nat)), .d (.int cell), .un, .d (.int (h : Int)), .d (.int (mw : Int)), .d (.lst (shs sh)), .d (pc line), .o μ5.length, .un, .un, .un, .un, .un, .un, .un, .un, .un, .un], setAll (μ5 ++ [T.ob C [] []]) (μ5.length :: oks [Ar.d (.int (h : Int)), Ar.d (.lst (shs sh))]) [T.ob C ["rows", "drawn_signs"] [.int (h : Int), .lst (shs sh)]]⟩ _ _
    rw [e5]
    refine ws_frz (t := T.ob C ["rows", "drawn_signs"] [.int (h : Int), .lst (shs sh)]) μ5.length (by simp) rfl ?_
    have ef2 : frzS μ5.length (T.ob C ["rows", "drawn_signs"] [.int (h : Int), .lst (shs sh)]).fr [.d (.rl (ns.map .int)), .d (.int (i : Nat)), .d (.int cell), .un, .d (.int (h : Int)), .d (.int (mw : Int)), .d (.lst (shs sh)), .d (pc line), .o μ5.length, .un, .un, .un, .un, .un, .un, .un, .un, .un, .un] = [.d (.rl (ns.map .int)), .d (.int (i : Nat)), .d (.int cell), .un, .d (.int (h : Int)), .d (.int (mw : Int)), .d (.lst (shs sh)), .d (pc line), .d (al C h sh), .un, .un, .un, .un, .un, .un, .un, .un, .un, .un] := by simp [frzS, T.fr, al]
    rw [ef2]
    show WS _ ⟨_, (μ5 ++ [T.ob C ["rows", "drawn_signs"] [.int (h : Int), .lst (shs sh)]]).set μ5.length _⟩ _ _
    generalize (μ5 ++ [T.ob C ["rows", "drawn_signs"] [.int (h : Int), .lst (shs sh)]]).set μ5.length _ = μ6
    have ia : IsA h sh := im.a
    have lsh : (shs sh).length = sh.length := by simp [shs]
    have n2 := im.n2
    have ll := il.len
    obtain ⟨r0, e0⟩ : ∃ r0, line[0]? = some r0 := ⟨_, List.getElem?_eq_getElem (by omega)⟩
    have w0 := il.row r0 (List.mem_of_getElem? e0)
    have e2 : (line.map D.str)[0]? = some (.str r0) := by rw [List.getElem?_map, e0]; rfl
    refine ws_cons (w1_for (fun _ s2 => s2 = ⟨[.d (.rl (ns.map .int)), .d (.int (i : Nat)), .d (.int cell), .un, .d (.int (h : Int)), .d (.int (mw : Int)), .d (.lst (shs sh)), .d (pc line), .d (al C h sh), .un, .un, .un, .un, .un, .un, .un, .un, .un, .un], μ6⟩) (it_en (ds := shs sh) rfl E.enumerate (ea_d 6)) (pg_tup rfl (pgs_cons (pg_name (i := 9) sc_law.nd rfl (Or.inl rfl)) (pgs_cons (pg_tup rfl (pgs_cons (pg_name (i := 10) sc_law.nd rfl (Or.inl rfl)) (pgs_cons (pg_name (i := 11) sc_law.nd rfl (Or.inl rfl)) pgs_nil))) pgs_nil))) (gs_tup (gss_cons (gs_name 9) (gss_cons (gs_tup (gss_cons (gs_name 10) (gss_cons (gs_name 11) gss_nil)) (tcons_len (tcons_len tnil_len))) gss_nil)) (tcons_len (tcons_len tnil_len))) rfl ?_ ?_)
    · rintro kk _ hkk rfl
      rw [lsh] at hkk
      obtain ⟨sp, hsp⟩ : ∃ p, sh[kk]? = some p := ⟨_, List.getElem?_eq_getElem hkk⟩
      obtain ⟨ws, is⟩ := im.s sp (List.mem_of_getElem? hsp)
      have ip := is.pic
      have lp := ip.len
      have ws1 := ip.w1
      have w8 := is.w8
      have ek : (shs sh).getD kk .non = .tup [.str sp.1, pc sp.2] := by unfold shs; rw [getD_map hsp]
      rw [ek]
      refine ⟨_, rfl, ?_⟩
      obtain ⟨r1, e1⟩ : ∃ r0, sp.2[0]? = some r0 := ⟨_, List.getElem?_eq_getElem (by omega)⟩
      have w1 := ip.row r1 (List.mem_of_getElem? e1)
      have e21 : (sp.2.map D.str)[0]? = some (.str r1) := by rw [List.getElem?_map, e1]; rfl
      show WS _ ⟨[.d (.rl (ns.map .int)), .d (.int (i : Nat)), .d (.int cell), .un, .d (.int (h : Int)), .d (.int (mw : Int)), .d (.lst (shs sh)), .d (pc line), .d (al C h sh), .d (.int (kk : Nat)), .d (.str sp.1), .d (pc sp.2), .un, .un, .un, .un, .un, .un, .un], μ6⟩ _ _
      refine ws_cons (w1_for (fun _ s2 => s2 = ⟨[.d (.rl (ns.map .int)), .d (.int (i : Nat)), .d (.int cell), .un, .d (.int (h : Int)), .d (.int (mw : Int)), .d (.lst (shs sh)), .d (pc line), .d (al C h sh), .d (.int (kk : Nat)), .d (.str sp.1), .d (pc sp.2), .un, .un, .un, .un, .un, .un, .un], μ6⟩) (it_range1 rfl E.range (e_add (e_sub (e_lenS E.len (e_ixT (ea_d 7 (d := pc line)) ee_int (atN (k := 0) e2)) (by omega)) (e_lenS E.len (e_ixT (ea_d 11 (d := pc sp.2)) ee_int (atN (k := 0) e21)) (by omega))) ee_int) (by omega) (by omega)) (pg_name (i := 12) sc_law.nd rfl (Or.inr rfl)) (gs_name 12) rfl ?_ ?_)
      · rintro at_ _ hat rfl
        have hat : at_ + ws ≤ wl := by omega
        refine ⟨_, rfl, ?_⟩
        rw [show (0 + (at_ : Nat) : Int) = (at_ : Int) from by omega]
        show WS _ ⟨[.d (.rl (ns.map .int)), .d (.int (i : Nat)), .d (.int cell), .un, .d (.int (h : Int)), .d (.int (mw : Int)), .d (.lst (shs sh)), .d (pc line), .d (al C h sh), .d (.int (kk : Nat)), .d (.str sp.1), .d (pc sp.2), .d (.int (at_ : Int)), .un, .un, .un, .un, .un, .un], μ6⟩ _ _
        refine ws_cons (w1_set 13 ee_int ?_ sc_law.nd)
        show WS _ ⟨[.d (.rl (ns.map .int)), .d (.int (i : Nat)), .d (.int cell), .un, .d (.int (h : Int)), .d (.int (mw : Int)), .d (.lst (shs sh)), .d (pc line), .d (al C h sh), .d (.int (kk : Nat)), .d (.str sp.1), .d (pc sp.2), .d (.int (at_ : Int)), .d (.int 0), .un, .un, .un, .un, .un], μ6⟩ _ _
        refine ws_cons (w1_for (fun m s2 => s2 = ⟨[.d (.rl (ns.map .int)), .d (.int (i : Nat)), .d (.int cell), .un, .d (.int (h : Int)), .d (.int (mw : Int)), .d (.lst (shs sh)), .d (pc line), .d (al C h sh), .d (.int (kk : Nat)), .d (.str sp.1), .d (pc sp.2), .d (.int (at_ : Int)), .d (.int (((line.zip sp.2).take m).map fun q => dueR q.1 q.2 at_).sum), .un, .un, .un, .un, .un], μ6⟩) (it_zip rfl E.zip (ea_d 7 (d := pc line)) (ea_d 11 (d := pc sp.2))) (pg_tup rfl (pgs_cons (pg_name (i := 14) sc_law.nd rfl (Or.inr rfl)) (pgs_cons (pg_name (i := 15) sc_law.nd rfl (Or.inl rfl)) pgs_nil))) (gs_tup (gss_cons (gs_name 14) (gss_cons (gs_name 15) gss_nil)) (tcons_len (tcons_len tnil_len))) rfl ?_ ?_)
        · rintro m _ hm rfl
          have hm1 : m < line.length := by simp [pc] at hm; omega
          have hm2 : m < sp.2.length := by simp [pc] at hm; omega
          have q1 := getD_at (d := []) hm1
          have q2 := getD_at (d := []) hm2
          have z1 := il.row _ (List.mem_of_getElem? q1)
          have z2 := ip.row _ (List.mem_of_getElem? q2)
          have zz : (line.zip sp.2)[m]? = some (line.getD m [], sp.2.getD m []) := by rw [List.getElem?_zip_eq_some]; exact ⟨q1, q2⟩
          rw [getD_map q1, getD_map q2]
          refine ⟨_, rfl, ?_⟩
          generalize line.getD m [] = ra at zz z1
          generalize sp.2.getD m [] = rb at zz z2
          show WS _ ⟨[.d (.rl (ns.map .int)), .d (.int (i : Nat)), .d (.int cell), .un, .d (.int (h : Int)), .d (.int (mw : Int)), .d (.lst (shs sh)), .d (pc line), .d (al C h sh), .d (.int (kk : Nat)), .d (.str sp.1), .d (pc sp.2), .d (.int (at_ : Int)), .d (.int (((line.zip sp.2).take m).map fun q => dueR q.1 q.2 at_).sum), .d (.str ra), .d (.str rb), .un, .un, .un], μ6⟩ _ _
          refine ws_cons (w1_set 13 (e_add (ea_d 13) (e_len (ds := ((List.range rb.length).filter fun j => !decide ([ra.getD (at_ + j) 0] = [rb.getD j 0])).map fun j => D.int (j : Nat)) E.len (ee_lcF (List.range rb.length) (fun j => .tup [.int (j : Nat), .str [rb.getD j 0]]) (fun j => D.int (j : Nat)) (fun j => !decide ([ra.getD (at_ + j) 0] = [rb.getD j 0])) [("j", 17), ("spot", 18)] (it_en (ds := rb.map fun c => .str [c]) rfl E.enumerate (ea_d 15)) (by simp) (fun j j' hj => ?_) sc_law.nd blk_of (fun _ _ _ _ _ => pg_tup rfl (pgs_cons (pg_name (i := 17) sc_law.nd rfl (Or.inl rfl)) (pgs_cons (pg_name (i := 18) sc_law.nd rfl (Or.inl rfl)) pgs_nil))) (gs_tup (gss_cons (gs_name 17) (gss_cons (gs_name 18) gss_nil)) (tcons_len (tcons_len tnil_len)))
            (fun j hj => ⟨_, rfl, _, fun _ _ _ _ _ => t_neS (e_ixS (k := ra.getD (at_ + j) 0) (ea_d 14) (e_add (ea_d 12) (ea_d 17)) ?_ (by omega)) (ea_d 18), _, fun _ _ _ _ _ _ => ea_d 17⟩) (by simp; omega)))) ?_ sc_law.nd)
          · obtain ⟨hj1, rfl⟩ := range_get hj
            rw [getD_map (getD_at (d := 0) hj1)]
          · have hj := List.mem_range.mp hj
            rw [show ((at_ : Int) + (j : Nat)) = ((at_ + j : Nat) : Int) from by omega]
            exact atN (getD_at (by omega))
          have esum : (((line.zip sp.2).take m).map fun q => dueR q.1 q.2 at_).sum + (((((List.range rb.length).filter fun j => !decide ([ra.getD (at_ + j) 0] = [rb.getD j 0])).map fun j => D.int (j : Nat)).length : Nat) : Int) = (((line.zip sp.2).take (m + 1)).map fun q => dueR q.1 q.2 at_).sum := by
            rw [take_succ_map zz, List.sum_append, List.length_map]
            simp [dueR]
          show WS _ ⟨[.d (.rl (ns.map .int)), .d (.int (i : Nat)), .d (.int cell), .un, .d (.int (h : Int)), .d (.int (mw : Int)), .d (.lst (shs sh)), .d (pc line), .d (al C h sh), .d (.int (kk : Nat)), .d (.str sp.1), .d (pc sp.2), .d (.int (at_ : Int)), .d (.int ((((line.zip sp.2).take m).map fun q => dueR q.1 q.2 at_).sum + (((((List.range rb.length).filter fun j => !decide ([ra.getD (at_ + j) 0] = [rb.getD j 0])).map fun j => D.int (j : Nat)).length : Nat) : Int))), .d (.str ra), .d (.str rb), .un, .un, .un], μ6⟩ _ _
          rw [esum]
          exact ws_keep [true, true, true, true, true, true, true, true, true, true, true, true, true, true] (ws_nil rfl)
        · rintro _ rfl
          have em : min (line.map D.str).length (sp.2.map D.str).length = (line.zip sp.2).length := by simp
          rw [em, List.take_length]
          have ed : ((line.zip sp.2).map fun q => dueR q.1 q.2 at_).sum = fitN line sp.2 at_ := (due_fit il ip hat).symm
          rw [ed]
          have hF : ∃ wl, IsF h sh line at_ kk wl := ⟨wl, ia, il, by omega, hkk, by rw [getD_some hsp, getD_some e1, w1]; exact hat⟩
          have ev : fitN line (sh.getD kk ([], [])).2 at_ = fitN line sp.2 at_ := by rw [getD_some hsp]
          refine ws_cons (w1_set 16 (ea_pu (d := .int (fitN line sp.2 at_)) Cf (hr.mono (by decide)) (h, sh, line, at_, kk) (es_cons (ea_d 8) (es_cons (ea_d 7) (es_cons (ea_d 12) (es_cons (ea_d 9) es_nil)))) hF (congrArg (fun z => T.fz (.int z)) ev)) ?_ sc_law.nd)
          refine ws_cons (w1_if (b := false) (et_of_w (ew_or (t := false) (u := false) (ty0 (t_neI (ea_d 16) (ea_d 13)) (by simp)) fun _ => ew_or (t := false) (u := false) (et_val (ee_isi "bool" false E.isinstance E.bool (ea_d 16) rfl)) fun _ => ew_or1 (ty0 (t_neI (i := fitN line sp.2 at_) (ea_pu Cf (hr.mono (by decide)) (h, sh, line, at_, kk) (es_cons (ea_d 8) (es_cons (ea_d 7) (es_cons (ea_d 12) (es_cons (ea_d 9) es_nil)))) hF (congrArg (fun z => T.fz (.int z)) ev)) (ea_d 13)) (by simp)))) (fun z => nomatch z) fun _ => ?_)
          exact ws_nil (ws_keep [true, true, true, false, true, true, true, true, true, true, true, true] (ws_nil rfl))
      · rintro _ rfl
        exact ws_keep [true, true, true, false, true, true, true, true, true] (ws_nil rfl)
    · rintro _ rfl
      exact ws_keep [true] (ws_nil ⟨_, rfl⟩)
  · rintro _ ⟨μ, rfl⟩
    exact ws_cons (w1_ret ee_bl rt_d)
end
end K12
namespace K12
open PySem L2 Q
theorem all_mk {l : PySem.W.OpenLaw} {w : World} {K : PySem.W.Frag} {h : Heap} {mg : Str → Option Value} {fa : Addr} (X : K.In h) (G : h.Ns mainGlobals mg) (hfa : mg "law" = some (.ref fa))
    {f0 f1 f2 f3 f4 f5 f6 f7 f8 f9 f10 f11 f12 f13 f14 f15 f16 f17 f18 C0 m0_0 m0_3 m0_4 m0_6 m0_7 : Addr} {od0 an0 od1 an1 od2 an2 od3 an3 od4 an4 od5 an5 od6 an6 od7 an7 od8 an8 od9 an9 od10 an10 od11 an11 od12 an12 od13 an13 od14 an14 od15 an15 od16 an16 od17 an17 od18 an18 od0_0 an0_0 od0_3 an0_3 od0_4 an0_4 od0_6 an0_6 od0_7 an0_7 : Option Addr} {sl0 sl1 sl2 sl3 sl4 sl5 sl6 sl7 sl8 sl9 sl10 sl11 sl12 sl13 sl14 sl15 sl16 sl17 sl18 sl0_0 sl0_3 sl0_4 sl0_6 sl0_7 : Array (Option Value)} {oc0 kV0 dc0 pm0 cd0 ct0 oc1 kV1 dc1 pm1 cd1 ct1 oc2 kV2 dc2 pm2 cd2 ct2 oc3 kV3 dc3 pm3 cd3 ct3 oc4 kV4 dc4 pm4 cd4 ct4 oc5 kV5 dc5 pm5 cd5 ct5 oc6 kV6 dc6 pm6 cd6 ct6 oc7 kV7 dc7 pm7 cd7 ct7 oc8 kV8 dc8 pm8 cd8 ct8 oc9 kV9 dc9 pm9 cd9 ct9 oc10 kV10 dc10 pm10 cd10 ct10 oc11 kV11 dc11 pm11 cd11 ct11 oc12 kV12 dc12 pm12 cd12 ct12 oc13 kV13 dc13 pm13 cd13 ct13 oc14 kV14 dc14 pm14 cd14 ct14 oc15 kV15 dc15 pm15 cd15 ct15 oc16 kV16 dc16 pm16 cd16 ct16 oc17 kV17 dc17 pm17 cd17 ct17 oc18 kV18 dc18 pm18 cd18 ct18 oc0_0 kV0_0 dc0_0 pm0_0 cd0_0 ct0_0 oc0_3 kV0_3 dc0_3 pm0_3 cd0_3 ct0_3 oc0_4 kV0_4 dc0_4 pm0_4 cd0_4 ct0_4 oc0_6 kV0_6 dc0_6 pm0_6 cd0_6 ct0_6 oc0_7 kV0_7 dc0_7 pm0_7 cd0_7 ct0_7 : Value} {t_DOT t_WHITE t_MOST_ROWS t_MOST_COLUMNS t_MOST_WIDE_reading t_MOST_HIGH t_MOST_WIDE_alphabets t_MOST_SHAPES : Tok}
    (a0 : PySem.W.nsIn K mainGlobals "is_number_dots" = some (some (.ref f0)))
    (l0 : K.lookup f0 = some ⟨oc0, od0, .func (PySem.W.fnOf "is_number" "is_number" (defArgs (top 11)) (defBody (top 11)) (defScope (top 11)) .none kV0 dc0 pm0 an0 cd0 ct0), sl0⟩)
    (c0 : PySem.W.codeIn K cd0 "is_number" = true)
    (k0 : PySem.W.keepIn K (.ref f0) = true)
    (a1 : PySem.W.nsIn K mainGlobals "is_row" = some (some (.ref f1)))
    (l1 : K.lookup f1 = some ⟨oc1, od1, .func (PySem.W.fnOf "is_row" "is_row" (defArgs (top 13)) (defBody (top 13)) (defScope (top 13)) .none kV1 dc1 pm1 an1 cd1 ct1), sl1⟩)
    (c1 : PySem.W.codeIn K cd1 "is_row" = true)
    (k1 : PySem.W.keepIn K (.ref f1) = true)
    (a2 : PySem.W.nsIn K mainGlobals "is_picture" = some (some (.ref f2)))
    (l2 : K.lookup f2 = some ⟨oc2, od2, .func (PySem.W.fnOf "is_picture" "is_picture" (defArgs (top 14)) (defBody (top 14)) (defScope (top 14)) .none kV2 dc2 pm2 an2 cd2 ct2), sl2⟩)
    (c2 : PySem.W.codeIn K cd2 "is_picture" = true)
    (k2 : PySem.W.keepIn K (.ref f2) = true)
    (a3 : PySem.W.nsIn K mainGlobals "column_texts" = some (some (.ref f3)))
    (l3 : K.lookup f3 = some ⟨oc3, od3, .func (PySem.W.fnOf "column_texts" "column_texts" (defArgs (top 16)) (defBody (top 16)) (defScope (top 16)) .none kV3 dc3 pm3 an3 cd3 ct3), sl3⟩)
    (c3 : PySem.W.codeIn K cd3 "column_texts" = true)
    (k3 : PySem.W.keepIn K (.ref f3) = true)
    (a4 : PySem.W.nsIn K mainGlobals "unlike_signs" = some (some (.ref f4)))
    (l4 : K.lookup f4 = some ⟨oc4, od4, .func (PySem.W.fnOf "unlike_signs" "unlike_signs" (defArgs (top 17)) (defBody (top 17)) (defScope (top 17)) .none kV4 dc4 pm4 an4 cd4 ct4), sl4⟩)
    (c4 : PySem.W.codeIn K cd4 "unlike_signs" = true)
    (k4 : PySem.W.keepIn K (.ref f4) = true)
    (a5 : PySem.W.nsIn K mainGlobals "is_number_reading" = some (some (.ref f5)))
    (l5 : K.lookup f5 = some ⟨oc5, od5, .func (PySem.W.fnOf "is_number" "is_number" (defArgs (top 20)) (defBody (top 20)) (defScope (top 20)) .none kV5 dc5 pm5 an5 cd5 ct5), sl5⟩)
    (c5 : PySem.W.codeIn K cd5 "is_number" = true)
    (k5 : PySem.W.keepIn K (.ref f5) = true)
    (a6 : PySem.W.nsIn K mainGlobals "is_line" = some (some (.ref f6)))
    (l6 : K.lookup f6 = some ⟨oc6, od6, .func (PySem.W.fnOf "is_line" "is_line" (defArgs (top 22)) (defBody (top 22)) (defScope (top 22)) .none kV6 dc6 pm6 an6 cd6 ct6), sl6⟩)
    (c6 : PySem.W.codeIn K cd6 "is_line" = true)
    (k6 : PySem.W.keepIn K (.ref f6) = true)
    (a7 : PySem.W.nsIn K mainGlobals "need_line" = some (some (.ref f7)))
    (l7 : K.lookup f7 = some ⟨oc7, od7, .func (PySem.W.fnOf "need_line" "need_line" (defArgs (top 23)) (defBody (top 23)) (defScope (top 23)) .none kV7 dc7 pm7 an7 cd7 ct7), sl7⟩)
    (c7 : PySem.W.codeIn K cd7 "need_line" = true)
    (k7 : PySem.W.keepIn K (.ref f7) = true)
    (a8 : PySem.W.nsIn K mainGlobals "fit" = some (some (.ref f8)))
    (l8 : K.lookup f8 = some ⟨oc8, od8, .func (PySem.W.fnOf "fit" "fit" (defArgs (top 24)) (defBody (top 24)) (defScope (top 24)) .none kV8 dc8 pm8 an8 cd8 ct8), sl8⟩)
    (c8 : PySem.W.codeIn K cd8 "fit" = true)
    (k8 : PySem.W.keepIn K (.ref f8) = true)
    (a9 : PySem.W.nsIn K mainGlobals "is_sign" = some (some (.ref f9)))
    (l9 : K.lookup f9 = some ⟨oc9, od9, .func (PySem.W.fnOf "is_sign" "is_sign" (defArgs (top 29)) (defBody (top 29)) (defScope (top 29)) .none kV9 dc9 pm9 an9 cd9 ct9), sl9⟩)
    (c9 : PySem.W.codeIn K cd9 "is_sign" = true)
    (k9 : PySem.W.keepIn K (.ref f9) = true)
    (a10 : PySem.W.nsIn K mainGlobals "is_shape" = some (some (.ref f10)))
    (l10 : K.lookup f10 = some ⟨oc10, od10, .func (PySem.W.fnOf "is_shape" "is_shape" (defArgs (top 30)) (defBody (top 30)) (defScope (top 30)) .none kV10 dc10 pm10 an10 cd10 ct10), sl10⟩)
    (c10 : PySem.W.codeIn K cd10 "is_shape" = true)
    (k10 : PySem.W.keepIn K (.ref f10) = true)
    (a11 : PySem.W.nsIn K mainGlobals "_law_begun" = some (some (.ref f11)))
    (l11 : K.lookup f11 = some ⟨oc11, od11, .func (PySem.W.fnOf "_law_begun" "_law_begun" (defArgs (top 33)) (defBody (top 33)) (defScope (top 33)) .none kV11 dc11 pm11 an11 cd11 ct11), sl11⟩)
    (c11 : PySem.W.codeIn K cd11 "_law_begun" = true)
    (k11 : PySem.W.keepIn K (.ref f11) = true)
    (a12 : PySem.W.nsIn K mainGlobals "_law_next" = some (some (.ref f12)))
    (l12 : K.lookup f12 = some ⟨oc12, od12, .func (PySem.W.fnOf "_law_next" "_law_next" (defArgs (top 34)) (defBody (top 34)) (defScope (top 34)) .none kV12 dc12 pm12 an12 cd12 ct12), sl12⟩)
    (c12 : PySem.W.codeIn K cd12 "_law_next" = true)
    (k12 : PySem.W.keepIn K (.ref f12) = true)
    (a13 : PySem.W.nsIn K mainGlobals "_law_pick" = some (some (.ref f13)))
    (l13 : K.lookup f13 = some ⟨oc13, od13, .func (PySem.W.fnOf "_law_pick" "_law_pick" (defArgs (top 35)) (defBody (top 35)) (defScope (top 35)) .none kV13 dc13 pm13 an13 cd13 ct13), sl13⟩)
    (c13 : PySem.W.codeIn K cd13 "_law_pick" = true)
    (k13 : PySem.W.keepIn K (.ref f13) = true)
    (a14 : PySem.W.nsIn K mainGlobals "_law_picture" = some (some (.ref f14)))
    (l14 : K.lookup f14 = some ⟨oc14, od14, .func (PySem.W.fnOf "_law_picture" "_law_picture" (defArgs (top 36)) (defBody (top 36)) (defScope (top 36)) .none kV14 dc14 pm14 an14 cd14 ct14), sl14⟩)
    (c14 : PySem.W.codeIn K cd14 "_law_picture" = true)
    (k14 : PySem.W.keepIn K (.ref f14) = true)
    (a15 : PySem.W.nsIn K mainGlobals "_law_near" = some (some (.ref f15)))
    (l15 : K.lookup f15 = some ⟨oc15, od15, .func (PySem.W.fnOf "_law_near" "_law_near" (defArgs (top 37)) (defBody (top 37)) (defScope (top 37)) .none kV15 dc15 pm15 an15 cd15 ct15), sl15⟩)
    (c15 : PySem.W.codeIn K cd15 "_law_near" = true)
    (k15 : PySem.W.keepIn K (.ref f15) = true)
    (a16 : PySem.W.nsIn K mainGlobals "_law_shapes" = some (some (.ref f16)))
    (l16 : K.lookup f16 = some ⟨oc16, od16, .func (PySem.W.fnOf "_law_shapes" "_law_shapes" (defArgs (top 38)) (defBody (top 38)) (defScope (top 38)) .none kV16 dc16 pm16 an16 cd16 ct16), sl16⟩)
    (c16 : PySem.W.codeIn K cd16 "_law_shapes" = true)
    (k16 : PySem.W.keepIn K (.ref f16) = true)
    (a17 : PySem.W.nsIn K mainGlobals "_law_line" = some (some (.ref f17)))
    (l17 : K.lookup f17 = some ⟨oc17, od17, .func (PySem.W.fnOf "_law_line" "_law_line" (defArgs (top 39)) (defBody (top 39)) (defScope (top 39)) .none kV17 dc17 pm17 an17 cd17 ct17), sl17⟩)
    (c17 : PySem.W.codeIn K cd17 "_law_line" = true)
    (k17 : PySem.W.keepIn K (.ref f17) = true)
    (a18 : PySem.W.nsIn K mainGlobals "law" = some (some (.ref f18)))
    (l18 : K.lookup f18 = some ⟨oc18, od18, .func (PySem.W.fnOf "law" "law" (defArgs (top 40)) (defBody (top 40)) (defScope (top 40)) .none kV18 dc18 pm18 an18 cd18 ct18), sl18⟩)
    (c18 : PySem.W.codeIn K cd18 "law" = true)
    (k18 : PySem.W.keepIn K (.ref f18) = true)
    (aC0 : PySem.W.nsIn K mainGlobals "Alphabet" = some (some (.ref C0)))
    (pg0 : PySem.W.plainGet K C0 Str.empty = true)
    (hd0 : PySem.W.hasDictIn K C0 = true)
    (po0 : PySem.W.plainOver K C0 = true)
    (sa0 : PySem.W.findIn K (.ref C0) "__setattr__" = some (some (.builtin "object.__setattr__")))
    (mk0 : PySem.W.makesIn K C0 = true)
    (kc0 : PySem.W.keepIn K (.ref C0) = true)
    (no0_rows : PySem.W.findIn K (.ref C0) "rows" = some none)
    (no0_drawn_signs : PySem.W.findIn K (.ref C0) "drawn_signs" = some none)
    (ma0_0 : PySem.W.findIn K (.ref C0) "__init__" = some (some (.ref m0_0)))
    (mi0_0 : PySem.W.isFn K (.ref m0_0) = true)
    (ml0_0 : K.lookup m0_0 = some ⟨oc0_0, od0_0, .func (PySem.W.fnOf "__init__" "Alphabet.__init__" (defArgs (inClass (top 31) 0)) (defBody (inClass (top 31) 0)) (defScope (inClass (top 31) 0)) .none kV0_0 dc0_0 pm0_0 an0_0 cd0_0 ct0_0), sl0_0⟩)
    (mc0_0 : PySem.W.codeIn K cd0_0 "Alphabet.__init__" = true)
    (mk0_0 : PySem.W.keepIn K (.ref m0_0) = true)
    (ma0_3 : PySem.W.findIn K (.ref C0) "high" = some (some (.ref m0_3)))
    (mi0_3 : PySem.W.isFn K (.ref m0_3) = true)
    (ml0_3 : K.lookup m0_3 = some ⟨oc0_3, od0_3, .func (PySem.W.fnOf "high" "Alphabet.high" (defArgs (inClass (top 31) 3)) (defBody (inClass (top 31) 3)) (defScope (inClass (top 31) 3)) .none kV0_3 dc0_3 pm0_3 an0_3 cd0_3 ct0_3), sl0_3⟩)
    (mc0_3 : PySem.W.codeIn K cd0_3 "Alphabet.high" = true)
    (mk0_3 : PySem.W.keepIn K (.ref m0_3) = true)
    (ma0_4 : PySem.W.findIn K (.ref C0) "shapes" = some (some (.ref m0_4)))
    (mi0_4 : PySem.W.isFn K (.ref m0_4) = true)
    (ml0_4 : K.lookup m0_4 = some ⟨oc0_4, od0_4, .func (PySem.W.fnOf "shapes" "Alphabet.shapes" (defArgs (inClass (top 31) 4)) (defBody (inClass (top 31) 4)) (defScope (inClass (top 31) 4)) .none kV0_4 dc0_4 pm0_4 an0_4 cd0_4 ct0_4), sl0_4⟩)
    (mc0_4 : PySem.W.codeIn K cd0_4 "Alphabet.shapes" = true)
    (mk0_4 : PySem.W.keepIn K (.ref m0_4) = true)
    (ma0_6 : PySem.W.findIn K (.ref C0) "need" = some (some (.ref m0_6)))
    (mi0_6 : PySem.W.isFn K (.ref m0_6) = true)
    (ml0_6 : K.lookup m0_6 = some ⟨oc0_6, od0_6, .func (PySem.W.fnOf "need" "Alphabet.need" (defArgs (inClass (top 31) 6)) (defBody (inClass (top 31) 6)) (defScope (inClass (top 31) 6)) .none kV0_6 dc0_6 pm0_6 an0_6 cd0_6 ct0_6), sl0_6⟩)
    (mc0_6 : PySem.W.codeIn K cd0_6 "Alphabet.need" = true)
    (mk0_6 : PySem.W.keepIn K (.ref m0_6) = true)
    (ma0_7 : PySem.W.findIn K (.ref C0) "wide" = some (some (.ref m0_7)))
    (mi0_7 : PySem.W.isFn K (.ref m0_7) = true)
    (ml0_7 : K.lookup m0_7 = some ⟨oc0_7, od0_7, .func (PySem.W.fnOf "wide" "Alphabet.wide" (defArgs (inClass (top 31) 7)) (defBody (inClass (top 31) 7)) (defScope (inClass (top 31) 7)) .none kV0_7 dc0_7 pm0_7 an0_7 cd0_7 ct0_7), sl0_7⟩)
    (mc0_7 : PySem.W.codeIn K cd0_7 "Alphabet.wide" = true)
    (mk0_7 : PySem.W.keepIn K (.ref m0_7) = true)
    (z_isinstance : PySem.W.nsIn K mainGlobals "isinstance" = some none)
    (z_int : PySem.W.nsIn K mainGlobals "int" = some none)
    (z_str : PySem.W.nsIn K mainGlobals "str" = some none)
    (z_bool : PySem.W.nsIn K mainGlobals "bool" = some none)
    (z_tuple : PySem.W.nsIn K mainGlobals "tuple" = some none)
    (z_list : PySem.W.nsIn K mainGlobals "list" = some none)
    (z_len : PySem.W.nsIn K mainGlobals "len" = some none)
    (z_all : PySem.W.nsIn K mainGlobals "all" = some none)
    (z_any : PySem.W.nsIn K mainGlobals "any" = some none)
    (z_sum : PySem.W.nsIn K mainGlobals "sum" = some none)
    (z_zip : PySem.W.nsIn K mainGlobals "zip" = some none)
    (z_range : PySem.W.nsIn K mainGlobals "range" = some none)
    (z_enumerate : PySem.W.nsIn K mainGlobals "enumerate" = some none)
    (z_max : PySem.W.nsIn K mainGlobals "max" = some none)
    (g_DOT : PySem.W.nsIn K mainGlobals "DOT" = some (some (.str ("#" : Str) t_DOT)))
    (g_WHITE : PySem.W.nsIn K mainGlobals "WHITE" = some (some (.str ("." : Str) t_WHITE)))
    (g_MOST_ROWS : PySem.W.nsIn K mainGlobals "MOST_ROWS" = some (some (.int 60 t_MOST_ROWS)))
    (g_MOST_COLUMNS : PySem.W.nsIn K mainGlobals "MOST_COLUMNS" = some (some (.int 120 t_MOST_COLUMNS)))
    (g_MOST_WIDE_reading : PySem.W.nsIn K mainGlobals "MOST_WIDE_reading" = some (some (.int 60 t_MOST_WIDE_reading)))
    (g_MOST_HIGH : PySem.W.nsIn K mainGlobals "MOST_HIGH" = some (some (.int 9 t_MOST_HIGH)))
    (g_MOST_WIDE_alphabets : PySem.W.nsIn K mainGlobals "MOST_WIDE_alphabets" = some (some (.int 8 t_MOST_WIDE_alphabets)))
    (g_MOST_SHAPES : PySem.W.nsIn K mainGlobals "MOST_SHAPES" = some (some (.int 16 t_MOST_SHAPES))) :
    ∃ fd : FuncData, (∀ (s : Shared) (v : Value), BindsTo s fd ⟨[v], []⟩ [("script", v)]) ∧ ∀ base : Heap, K.In base → base.Ns mainGlobals mg → FnOk l.prog w K mg base CX0 8 fa fd ["script"] (spOf K ct_law) := by
  have e := hfa.symm.trans (PySem.W.mg_of X G a18)
  cases e
  have E : En mg := ⟨PySem.W.mg_none_of X G z_isinstance, PySem.W.mg_none_of X G z_int, PySem.W.mg_none_of X G z_str, PySem.W.mg_none_of X G z_bool, PySem.W.mg_none_of X G z_tuple, PySem.W.mg_none_of X G z_list, PySem.W.mg_none_of X G z_len, PySem.W.mg_none_of X G z_all, PySem.W.mg_none_of X G z_any, PySem.W.mg_none_of X G z_sum, PySem.W.mg_none_of X G z_zip, PySem.W.mg_none_of X G z_range, PySem.W.mg_none_of X G z_enumerate, PySem.W.mg_none_of X G z_max, ⟨t_DOT, PySem.W.mg_of X G g_DOT⟩, ⟨t_WHITE, PySem.W.mg_of X G g_WHITE⟩, ⟨t_MOST_ROWS, PySem.W.mg_of X G g_MOST_ROWS⟩, ⟨t_MOST_COLUMNS, PySem.W.mg_of X G g_MOST_COLUMNS⟩, ⟨t_MOST_WIDE_reading, PySem.W.mg_of X G g_MOST_WIDE_reading⟩, ⟨t_MOST_HIGH, PySem.W.mg_of X G g_MOST_HIGH⟩, ⟨t_MOST_WIDE_alphabets, PySem.W.mg_of X G g_MOST_WIDE_alphabets⟩, ⟨t_MOST_SHAPES, PySem.W.mg_of X G g_MOST_SHAPES⟩⟩
  have EC : EnC K C0 := ⟨⟨pg0, hd0, po0, sa0⟩, no0_rows, no0_drawn_signs⟩
  have F0 := fun_mk (st := top 11) l0 c0 k0
  have b0 := F0.binds (ps := ["thing", "low", "high"]) fun _ _ _ _ _ _ us hl => match us, hl with | [_, _, _], _ => rfl
  have F1 := fun_mk (st := top 13) l1 c1 k1
  have b1 := F1.binds (ps := ["thing"]) fun _ _ _ _ _ _ us hl => match us, hl with | [_], _ => rfl
  have F2 := fun_mk (st := top 14) l2 c2 k2
  have b2 := F2.binds (ps := ["thing"]) fun _ _ _ _ _ _ us hl => match us, hl with | [_], _ => rfl
  have F3 := fun_mk (st := top 16) l3 c3 k3
  have b3 := F3.binds (ps := ["picture"]) fun _ _ _ _ _ _ us hl => match us, hl with | [_], _ => rfl
  have F4 := fun_mk (st := top 17) l4 c4 k4
  have b4 := F4.binds (ps := ["one", "other"]) fun _ _ _ _ _ _ us hl => match us, hl with | [_, _], _ => rfl
  have F5 := fun_mk (st := top 20) l5 c5 k5
  have b5 := F5.binds (ps := ["thing", "low", "high"]) fun _ _ _ _ _ _ us hl => match us, hl with | [_, _, _], _ => rfl
  have F6 := fun_mk (st := top 22) l6 c6 k6
  have b6 := F6.binds (ps := ["alphabet", "thing"]) fun _ _ _ _ _ _ us hl => match us, hl with | [_, _], _ => rfl
  have F7 := fun_mk (st := top 23) l7 c7 k7
  have b7 := F7.binds (ps := ["alphabet", "thing"]) fun _ _ _ _ _ _ us hl => match us, hl with | [_, _], _ => rfl
  have F8 := fun_mk (st := top 24) l8 c8 k8
  have b8 := F8.binds (ps := ["alphabet", "line", "column", "number"]) fun _ _ _ _ _ _ us hl => match us, hl with | [_, _, _, _], _ => rfl
  have F9 := fun_mk (st := top 29) l9 c9 k9
  have b9 := F9.binds (ps := ["thing"]) fun _ _ _ _ _ _ us hl => match us, hl with | [_], _ => rfl
  have F10 := fun_mk (st := top 30) l10 c10 k10
  have b10 := F10.binds (ps := ["thing", "high"]) fun _ _ _ _ _ _ us hl => match us, hl with | [_, _], _ => rfl
  have F11 := fun_mk (st := top 33) l11 c11 k11
  have b11 := F11.binds (ps := ["cell", "k"]) fun _ _ _ _ _ _ us hl => match us, hl with | [_, _], _ => rfl
  have F12 := fun_mk (st := top 34) l12 c12 k12
  have b12 := F12.binds (ps := ["draw", "below"]) fun _ _ _ _ _ _ us hl => match us, hl with | [_, _], _ => rfl
  have F13 := fun_mk (st := top 35) l13 c13 k13
  have b13 := F13.binds (ps := ["draw", "some"]) fun _ _ _ _ _ _ us hl => match us, hl with | [_, _], _ => rfl
  have F14 := fun_mk (st := top 36) l14 c14 k14
  have b14 := F14.binds (ps := ["draw", "high", "wide", "dense"]) fun _ _ _ _ _ _ us hl => match us, hl with | [_, _, _, _], _ => rfl
  have F15 := fun_mk (st := top 37) l15 c15 k15
  have b15 := F15.binds (ps := ["draw", "picture"]) fun _ _ _ _ _ _ us hl => match us, hl with | [_, _], _ => rfl
  have F16 := fun_mk (st := top 38) l16 c16 k16
  have b16 := F16.binds (ps := ["draw", "high", "most", "wide"]) fun _ _ _ _ _ _ us hl => match us, hl with | [_, _, _, _], _ => rfl
  have F17 := fun_mk (st := top 39) l17 c17 k17
  have b17 := F17.binds (ps := ["draw", "high", "wide", "shapes"]) fun _ _ _ _ _ _ us hl => match us, hl with | [_, _, _, _], _ => rfl
  have F18 := fun_mk (st := top 40) l18 c18 k18
  have b18 := F18.binds (ps := ["script"]) fun _ _ _ _ _ _ us hl => match us, hl with | [_], _ => rfl
  have F0_0 := fun_mk (st := inClass (top 31) 0) ml0_0 mc0_0 mk0_0
  have b0_0 := F0_0.binds (ps := ["self", "high", "shapes"]) fun _ _ _ _ _ _ us hl => match us, hl with | [_, _, _], _ => rfl
  have F0_3 := fun_mk (st := inClass (top 31) 3) ml0_3 mc0_3 mk0_3
  have b0_3 := F0_3.binds (ps := ["self"]) fun _ _ _ _ _ _ us hl => match us, hl with | [_], _ => rfl
  have F0_4 := fun_mk (st := inClass (top 31) 4) ml0_4 mc0_4 mk0_4
  have b0_4 := F0_4.binds (ps := ["self"]) fun _ _ _ _ _ _ us hl => match us, hl with | [_], _ => rfl
  have F0_6 := fun_mk (st := inClass (top 31) 6) ml0_6 mc0_6 mk0_6
  have b0_6 := F0_6.binds (ps := ["self", "number"]) fun _ _ _ _ _ _ us hl => match us, hl with | [_, _], _ => rfl
  have F0_7 := fun_mk (st := inClass (top 31) 7) ml0_7 mc0_7 mk0_7
  have b0_7 := F0_7.binds (ps := ["self", "number"]) fun _ _ _ _ _ _ us hl => match us, hl with | [_, _], _ => rfl
  refine ⟨PySem.W.fnOf "law" "law" (defArgs (top 40)) (defBody (top 40)) (defScope (top 40)) .none kV18 dc18 pm18 an18 cd18 ct18, fun s v => .of_eq rfl, fun base _ _ => ?_⟩
  · 
    have Cnd : Cl l.prog w K mg base "is_number_dots" 3 1 ct_num := cl_of F0 (PySem.W.mg_of X G a0) (ok_num E (.inl rfl) F0) b0
    have Cnr : Cl l.prog w K mg base "is_number_reading" 3 1 ct_num := cl_of F5 (PySem.W.mg_of X G a5) (ok_num E (.inr rfl) F5) b5
    have Crow : Cl l.prog w K mg base "is_row" 1 1 ct_row := cl_of F1 (PySem.W.mg_of X G a1) (ok_row E F1) b1
    have Cpi : Cl l.prog w K mg base "is_picture" 1 4 ct_pic := cl_of F2 (PySem.W.mg_of X G a2) (ok_pic E Crow F2) b2
    have Cco : Cl l.prog w K mg base "column_texts" 1 1 ct_colt := cl_of F3 (PySem.W.mg_of X G a3) (ok_colt E F3) b3
    have Cun : Cl l.prog w K mg base "unlike_signs" 2 1 ct_unl := cl_of F4 (PySem.W.mg_of X G a4) (ok_unl E F4) b4
    have Mh : Mc l.prog w K mg base C0 "high" 1 1 (ct_high C0) := ⟨_, _, _, ok_high EC F0_3, ⟨ma0_3, mi0_3, mk0_3⟩, b0_3, rfl⟩
    have Ms : Mc l.prog w K mg base C0 "shapes" 1 1 (ct_shapes C0) := ⟨_, _, _, ok_shapes E EC F0_4, ⟨ma0_4, mi0_4, mk0_4⟩, b0_4, rfl⟩
    have Mn : Mc l.prog w K mg base C0 "need" 2 2 (ct_need C0) := ⟨_, _, _, ok_need E EC Cnd F0_6, ⟨ma0_6, mi0_6, mk0_6⟩, b0_6, rfl⟩
    have Mw : Mc l.prog w K mg base C0 "wide" 2 3 (ct_wide C0) := ⟨_, _, _, ok_wide E EC Mn F0_7, ⟨ma0_7, mi0_7, mk0_7⟩, b0_7, rfl⟩
    have Cli : Cl l.prog w K mg base "is_line" 2 5 (ct_line C0) := cl_of F6 (PySem.W.mg_of X G a6) (ok_line E EC Cpi Mh F6) b6
    have Cnl : Cl l.prog w K mg base "need_line" 2 6 (ct_needl C0) := cl_of F7 (PySem.W.mg_of X G a7) (ok_needl Cli F7) b7
    have Cfi : Cl l.prog w K mg base "fit" 4 7 (ct_fit C0) := cl_of F8 (PySem.W.mg_of X G a8) (ok_fit E EC Cnl Mw Cnr Cco Ms Cun F8) b8
    have Csi : Cl l.prog w K mg base "is_sign" 1 1 ct_sign := cl_of F9 (PySem.W.mg_of X G a9) (ok_sign E F9) b9
    have Csh : Cl l.prog w K mg base "is_shape" 2 5 ct_shape := cl_of F10 (PySem.W.mg_of X G a10) (ok_shape E Csi Cpi F10) b10
    have Cbe : Cl l.prog w K mg base "_law_begun" 2 1 ct_begun := cl_of F11 (PySem.W.mg_of X G a11) (ok_begun E F11) b11
    have Cne : Cl l.prog w K mg base "_law_next" 2 1 ct_next := cl_of F12 (PySem.W.mg_of X G a12) (ok_next F12) b12
    have Cpk : Cl l.prog w K mg base "_law_pick" 2 2 ct_pick := cl_of F13 (PySem.W.mg_of X G a13) (ok_pick E Cne F13) b13
    have Cpt : Cl l.prog w K mg base "_law_picture" 4 2 ct_picture := cl_of F14 (PySem.W.mg_of X G a14) (ok_picture E Cne F14) b14
    have Cnear : Cl l.prog w K mg base "_law_near" 2 2 ct_near := cl_of F15 (PySem.W.mg_of X G a15) (ok_near E Cne F15) b15
    have Cls : Cl l.prog w K mg base "_law_shapes" 4 3 ct_lshapes := cl_of F16 (PySem.W.mg_of X G a16) (ok_lshapes E Cne Cpk Cpt Cnear F16) b16
    have Cll : Cl l.prog w K mg base "_law_line" 4 3 ct_lline := cl_of F17 (PySem.W.mg_of X G a17) (ok_lline E Cne Cpk Cpt Cnear F17) b17
    exact ok_law E EC Cbe Cne Cls Cll Cfi ⟨mk0, ma0_0, mi0_0, kc0⟩ (ok_init E EC Cnd Csh F0_0) b0_0 (PySem.W.mg_of X G aC0) F18
theorem walk {l : PySem.W.OpenLaw} {q : Program} {loose : List Str} {XP : (Str → Option Value) → Heap → Prop} {YP : World → Heap → Prop} {d : DefRec} {K : Params → PySem.W.Frag} (hn : l.most = some 63) (hdf : d.params.defaults = [])
    (hY : ∀ (w : World) (h : Heap), YP w h → (K w.params).In h)
    (F : ∀ (w : World) (mg : Str → Option Value) (fa : Addr) (h : Heap), (K w.params).In h → h.Ns mainGlobals mg → mg d.name = some (.ref fa) →
      ∃ fd : FuncData, (∀ (s : Shared) (u : Value), BindsTo s fd ⟨[u], []⟩ [("script", u)]) ∧ ∀ base : Heap, (K w.params).In base → base.Ns mainGlobals mg → FnOk l.prog w (K w.params) mg base CX0 8 fa fd ["script"] (spOf (K w.params) ct_law)) :
    PySem.W.WalkO q loose XP YP l.row.toRowW d [] (fun f vs => PySem.call f vs) :=
  L2.walk_of (n := 63) (k := 8) (x := "script") (CX := fun _ => CX0) (sp := fun w => spOf (K w.params) ct_law) hn (by decide) hdf ⟨by decide, by decide, by decide⟩ hY F (fun _ _ a ns hl _ hS => law_sp hl hS) fun _ _ _ _ _ z => z
end K12
open PySem PySem.W PyProof.Rows in
set_option maxRecDepth 100000 in
set_option maxHeartbeats 0 in
theorem PySem.Challenge.cw_dotread_k12_fits_of_windows_holds : PySem.Challenge.rw_dotread_k12_fits_of_windows.Holds := by
  w_on; o_law; k_head; (case hw => w_witness2)
  k_fill
  refine K12.walk (l := PySem.Challenge.rw_dotread_k12_fits_of_windows) rfl rfl (fun w h Y => PySem.W.kIn_of Y) ?F
  case F =>
    intro w mg fa h KX G hmg
    refine' K12.all_mk KX G hmg ?a0 ?l0 ?c0 ?k0 ?a1 ?l1 ?c1 ?k1 ?a2 ?l2 ?c2 ?k2 ?a3 ?l3 ?c3 ?k3 ?a4 ?l4 ?c4 ?k4 ?a5 ?l5 ?c5 ?k5 ?a6 ?l6 ?c6 ?k6 ?a7 ?l7 ?c7 ?k7 ?a8 ?l8 ?c8 ?k8 ?a9 ?l9 ?c9 ?k9 ?a10 ?l10 ?c10 ?k10 ?a11 ?l11 ?c11 ?k11 ?a12 ?l12 ?c12 ?k12 ?a13 ?l13 ?c13 ?k13 ?a14 ?l14 ?c14 ?k14 ?a15 ?l15 ?c15 ?k15 ?a16 ?l16 ?c16 ?k16 ?a17 ?l17 ?c17 ?k17 ?a18 ?l18 ?c18 ?k18 ?aC0 ?pg0 ?hd0 ?po0 ?sa0 ?mk0 ?kc0 ?no0_rows ?no0_drawn_signs ?ma0_0 ?mi0_0 ?ml0_0 ?mc0_0 ?mk0_0 ?ma0_3 ?mi0_3 ?ml0_3 ?mc0_3 ?mk0_3 ?ma0_4 ?mi0_4 ?ml0_4 ?mc0_4 ?mk0_4 ?ma0_6 ?mi0_6 ?ml0_6 ?mc0_6 ?mk0_6 ?ma0_7 ?mi0_7 ?ml0_7 ?mc0_7 ?mk0_7 ?z_isinstance ?z_int ?z_str ?z_bool ?z_tuple ?z_list ?z_len ?z_all ?z_any ?z_sum ?z_zip ?z_range ?z_enumerate ?z_max ?g_DOT ?g_WHITE ?g_MOST_ROWS ?g_MOST_COLUMNS ?g_MOST_WIDE_reading ?g_MOST_HIGH ?g_MOST_WIDE_alphabets ?g_MOST_SHAPES
    (case a0 => k_is)
    (case l0 => k_is)
    (case c0 => k_is)
    (case k0 => k_is)
    (case a1 => k_is)
    (case l1 => k_is)
    (case c1 => k_is)
    (case k1 => k_is)
    (case a2 => k_is)
    (case l2 => k_is)
    (case c2 => k_is)
    (case k2 => k_is)
    (case a3 => k_is)
    (case l3 => k_is)
    (case c3 => k_is)
    (case k3 => k_is)
    (case a4 => k_is)
    (case l4 => k_is)
    (case c4 => k_is)
    (case k4 => k_is)
    (case a5 => k_is)
    (case l5 => k_is)
    (case c5 => k_is)
    (case k5 => k_is)
    (case a6 => k_is)
    (case l6 => k_is)
    (case c6 => k_is)
    (case k6 => k_is)
    (case a7 => k_is)
    (case l7 => k_is)
    (case c7 => k_is)
    (case k7 => k_is)
    (case a8 => k_is)
    (case l8 => k_is)
    (case c8 => k_is)
    (case k8 => k_is)
    (case a9 => k_is)
    (case l9 => k_is)
    (case c9 => k_is)
    (case k9 => k_is)
    (case a10 => k_is)
    (case l10 => k_is)
    (case c10 => k_is)
    (case k10 => k_is)
    (case a11 => k_is)
    (case l11 => k_is)
    (case c11 => k_is)
    (case k11 => k_is)
    (case a12 => k_is)
    (case l12 => k_is)
    (case c12 => k_is)
    (case k12 => k_is)
    (case a13 => k_is)
    (case l13 => k_is)
    (case c13 => k_is)
    (case k13 => k_is)
    (case a14 => k_is)
    (case l14 => k_is)
    (case c14 => k_is)
    (case k14 => k_is)
    (case a15 => k_is)
    (case l15 => k_is)
    (case c15 => k_is)
    (case k15 => k_is)
    (case a16 => k_is)
    (case l16 => k_is)
    (case c16 => k_is)
    (case k16 => k_is)
    (case a17 => k_is)
    (case l17 => k_is)
    (case c17 => k_is)
    (case k17 => k_is)
    (case a18 => k_is)
    (case l18 => k_is)
    (case c18 => k_is)
    (case k18 => k_is)
    (case aC0 => k_is)
    (case pg0 => k_is)
    (case hd0 => k_is)
    (case po0 => k_is)
    (case sa0 => k_is)
    (case mk0 => k_is)
    (case kc0 => k_is)
    (case no0_rows => k_is)
    (case no0_drawn_signs => k_is)
    (case ma0_0 => k_is)
    (case mi0_0 => k_is)
    (case ml0_0 => k_is)
    (case mc0_0 => k_is)
    (case mk0_0 => k_is)
    (case ma0_3 => k_is)
    (case mi0_3 => k_is)
    (case ml0_3 => k_is)
    (case mc0_3 => k_is)
    (case mk0_3 => k_is)
    (case ma0_4 => k_is)
    (case mi0_4 => k_is)
    (case ml0_4 => k_is)
    (case mc0_4 => k_is)
    (case mk0_4 => k_is)
    (case ma0_6 => k_is)
    (case mi0_6 => k_is)
    (case ml0_6 => k_is)
    (case mc0_6 => k_is)
    (case mk0_6 => k_is)
    (case ma0_7 => k_is)
    (case mi0_7 => k_is)
    (case ml0_7 => k_is)
    (case mc0_7 => k_is)
    (case mk0_7 => k_is)
    (case z_isinstance => k_is)
    (case z_int => k_is)
    (case z_str => k_is)
    (case z_bool => k_is)
    (case z_tuple => k_is)
    (case z_list => k_is)
    (case z_len => k_is)
    (case z_all => k_is)
    (case z_any => k_is)
    (case z_sum => k_is)
    (case z_zip => k_is)
    (case z_range => k_is)
    (case z_enumerate => k_is)
    (case z_max => k_is)
    (case g_DOT => k_is)
    (case g_WHITE => k_is)
    (case g_MOST_ROWS => k_is)
    (case g_MOST_COLUMNS => k_is)
    (case g_MOST_WIDE_reading => k_is)
    (case g_MOST_HIGH => k_is)
    (case g_MOST_WIDE_alphabets => k_is)
    (case g_MOST_SHAPES => k_is)

