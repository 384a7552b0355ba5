import PyProof.Rows.All
import Wide.All
import OpenK.AllK
import Wide.FinOn
import KE.KStateDown
import HandS.ForMost
import HandS.ForExc
import HandS.CallSlots
import HandS.Wide
import HandS.Deep
import HandS.TupMul
import HandS.IsInst
import HandS.Text
import HandS.Flow
import HandS.ExcOwn
import HandS.ExcCtx
import HandS.SetKeys
import HandS.ListItems
import HandS.FStr
import HandS.OwnEq
import HandS.NamedTupGet
import PyProof.InstEq
import HandS.IterVal
import HandS.Iter
import KE.GoesEnumKw
import PyProof.Rows.CallKw2
import HandS.ExcInit
import HandS.Nested
import KE.KExcSuper
import HandS.ExcIs
import HandS.ExcField
import HandS.HotCalls
import HandS.HeadHook4
import HandS.HeadEnd
import HandS.Head2
import PySem.Challenge.RW_ledinto_k17_identity_texts
section
set_option Elab.async false
set_option linter.all false
set_option maxRecDepth 100000
set_option maxHeartbeats 4000000
/-! LyA: data by value, the relation between data and the abstract heap. -/
namespace Ly
open PySem PySem.Spec PyProof.Rows L2

/-- data by value -/
inductive D where
  | non | bl (b : Bool) | int (i : Int) | str (x : Str)
  | tup (xs : List D) | lst (xs : List D) | frl (xs : List D)
  | dic (ks : List Key) (xs : List D)
  | obj (c : Nat) (ns : List Str) (xs : List D)
/-- what a slot holds: frozen data, or something that is this frame's alone -/
inductive W where
  | d (x : D) | l (xs : List D) | m (ks : List Key) (xs : List D) | o (a : Addr) (c : Nat) (ns : List Str) (xs : List D) | ex (ns : List Str) (xs : List D)
  | xv (c : Nat) (ns : List Str) (xs : List D)
def W.toD : W → D
  | .d x => x
  | .l xs => .lst xs
  | .m ks xs => .dic ks xs
  | .o _ c ns xs => .obj c ns xs
  | .ex ns xs => .obj 0 ns xs
  | .xv _ ns xs => .obj 0 ns xs
/-- an exception's dict is no data -/
def W.dat : W → Option D
  | .ex _ _ => none
  | .xv _ _ _ => none
  | w => some w.toD

section
variable (K : PySem.W.Frag) (cl : Nat → Addr) (G : Hp)
mutual
def Rep : D → V → Prop
  | .non, v => v = .non
  | .bl b, v => v = .bl b
  | .int i, v => v = .int i
  | .str x, v => v = .str x
  | .tup xs, v => ∃ a vs, v = .ref a ∧ SqT K G a vs ∧ Reps xs vs
  | .lst xs, v => ∃ a vs, v = .ref a ∧ G a = some (.lst vs) ∧ Reps xs vs
  | .frl xs, v => ∃ a vs, v = .ref a ∧ SqL K G a vs ∧ Reps xs vs
  | .dic ks xs, v => ∃ a kvs, v = .ref a ∧ G a = some (.dK kvs) ∧ kvs.map (·.1) = ks ∧ Reps xs (kvs.map (·.2))
  | .obj c ns xs, v => ∃ a dx fs, v = .ref a ∧ G a = some (.ins (cl c) dx fs) ∧ fs.map (·.1) = ns ∧ Reps xs (fs.map (·.2))
def Reps : List D → List V → Prop
  | [], vs => vs = []
  | x :: xs, vs => ∃ v r, vs = v :: r ∧ Rep x v ∧ Reps xs r
end
end
/-- one heap within another -/
def Le (G G' : Hp) : Prop := ∀ a o, G a = some o → G' a = some o
theorem Le.refl (G : Hp) : Le G G := fun _ _ h => h
theorem Le.trans {A B C : Hp} (h : Le A B) (k : Le B C) : Le A C := fun a o e => k a o (h a o e)
theorem Le.upd {H : Hp} {p : Addr} {o : HO} (h : H p = none) : Le H (upd H p o) := fun a u e => by rw [upd_ne (ne_of_none e h)]; exact e
section
variable {K : PySem.W.Frag} {cl : Nat → Addr} {G G' : Hp}
theorem SqL.le (h : Le G G') {a : Addr} {vs : List V} (r : SqL K G a vs) : SqL K G' a vs := by
  rcases r with (r | ⟨o, r⟩) | r
  · exact .inl (.inl (h _ _ r))
  · exact .inl (.inr ⟨o, h _ _ r⟩)
  · exact .inr r
theorem SqT.le (h : Le G G') {a : Addr} {vs : List V} (r : SqT K G a vs) : SqT K G' a vs := by
  rcases r with (r | ⟨o, r⟩) | r
  · exact .inl (.inl (h _ _ r))
  · exact .inl (.inr ⟨o, h _ _ r⟩)
  · exact .inr r
mutual
theorem Rep.le (h : Le G G') : ∀ (x : D) (v : V), Rep K cl G x v → Rep K cl G' x v
  | .non, _, r => r
  | .bl _, _, r => r
  | .int _, _, r => r
  | .str _, _, r => r
  | .tup xs, v, ⟨a, vs, e, q, r⟩ => ⟨a, vs, e, SqT.le h q, Reps.le h xs vs r⟩
  | .lst xs, v, ⟨a, vs, e, q, r⟩ => ⟨a, vs, e, h _ _ q, Reps.le h xs vs r⟩
  | .frl xs, v, ⟨a, vs, e, q, r⟩ => ⟨a, vs, e, SqL.le h q, Reps.le h xs vs r⟩
  | .dic ks xs, v, ⟨a, kvs, e, q, ek, r⟩ => ⟨a, kvs, e, h _ _ q, ek, Reps.le h xs _ r⟩
  | .obj c ns xs, v, ⟨a, dx, fs, e, q, en, r⟩ => ⟨a, dx, fs, e, h _ _ q, en, Reps.le h xs _ r⟩
theorem Reps.le (h : Le G G') : ∀ (xs : List D) (vs : List V), Reps K cl G xs vs → Reps K cl G' xs vs
  | [], _, r => r
  | x :: xs, _, ⟨v, r, e, q, t⟩ => ⟨v, r, e, Rep.le h x v q, Reps.le h xs r t⟩
end
theorem Reps.nil : Reps K cl G [] [] := rfl
theorem Reps.cons {x : D} {v : V} {xs : List D} {vs : List V} (h : Rep K cl G x v) (t : Reps K cl G xs vs) : Reps K cl G (x :: xs) (v :: vs) := ⟨v, vs, rfl, h, t⟩
theorem Reps.length : ∀ {xs : List D} {vs : List V}, Reps K cl G xs vs → xs.length = vs.length
  | [], _, h => by cases (show _ = [] from h); rfl
  | x :: xs, _, ⟨v, r, e, q, t⟩ => by subst e; simp [Reps.length t]
theorem Reps.append : ∀ {xs : List D} {vs : List V} {ys : List D} {us : List V}, Reps K cl G xs vs → Reps K cl G ys us → Reps K cl G (xs ++ ys) (vs ++ us)
  | [], _, _, _, h, k => by cases (show _ = [] from h); exact k
  | x :: xs, _, _, _, ⟨v, r, e, q, t⟩, k => by subst e; exact ⟨v, _, rfl, q, Reps.append t k⟩
theorem Reps.get : ∀ {xs : List D} {vs : List V} {i : Nat} {x : D}, Reps K cl G xs vs → xs[i]? = some x → ∃ v, vs[i]? = some v ∧ Rep K cl G x v
  | [], _, i, x, _, e => by simp at e
  | y :: xs, _, 0, x, ⟨v, r, e, q, t⟩, h => by subst e; simp at h; subst h; exact ⟨v, rfl, q⟩
  | y :: xs, _, i + 1, x, ⟨v, r, e, q, t⟩, h => by
    subst e
    obtain ⟨u, h1, h2⟩ := Reps.get (i := i) t (by simpa using h)
    exact ⟨u, by simpa using h1, h2⟩
theorem Reps.take : ∀ {xs : List D} {vs : List V} (n : Nat), Reps K cl G xs vs → Reps K cl G (xs.take n) (vs.take n)
  | _, _, 0, _ => rfl
  | [], _, n + 1, h => by cases (show _ = [] from h); rfl
  | x :: xs, _, n + 1, ⟨v, r, e, q, t⟩ => by subst e; exact ⟨v, _, rfl, q, Reps.take n t⟩
theorem Reps.drop : ∀ {xs : List D} {vs : List V} (n : Nat), Reps K cl G xs vs → Reps K cl G (xs.drop n) (vs.drop n)
  | _, _, 0, h => h
  | [], _, n + 1, h => by cases (show _ = [] from h); rfl
  | x :: xs, _, n + 1, ⟨v, r, e, q, t⟩ => by subst e; exact Reps.drop n t
theorem Reps.set {x : D} {v : V} (h : Rep K cl G x v) : ∀ {xs : List D} {vs : List V} (i : Nat), Reps K cl G xs vs → Reps K cl G (xs.set i x) (vs.set i v)
  | [], _, _, h => by cases (show _ = [] from h); rfl
  | y :: xs, _, 0, ⟨u, r, e, q, t⟩ => by subst e; exact ⟨v, r, rfl, h, t⟩
  | y :: xs, _, i + 1, ⟨u, r, e, q, t⟩ => by subst e; exact ⟨u, _, rfl, q, Reps.set h i t⟩
theorem Reps.map {α : Type} (f : α → D) (g : α → V) (h : ∀ a, Rep K cl G (f a) (g a)) : ∀ l : List α, Reps K cl G (l.map f) (l.map g)
  | [] => rfl
  | a :: l => ⟨_, _, rfl, h a, Reps.map f g h l⟩
end

/-! ### cells -/
/-- the classes' places; within an except suite, where the exception and its dict stand -/
structure CL where
  f : Nat → Addr
  xa : Option Addr := none
  xd : Option Addr := none
  xc : Nat := 0
instance : CoeFun CL fun _ => Nat → Addr := ⟨CL.f⟩
instance : Coe CL (Nat → Addr) := ⟨CL.f⟩
abbrev Cell := Option V × Option W
section
variable (K : PySem.W.Frag) (cl : CL) (G H : Hp)
def WRep : W → V → List Addr → Prop
  | .d x, v, F => F = [] ∧ Rep K cl G x v
  | .l xs, v, F => ∃ a vs, v = .ref a ∧ F = [a] ∧ H a = some (.lst vs) ∧ Reps K cl G xs vs
  | .m ks xs, v, F => ∃ a kvs, v = .ref a ∧ F = [a] ∧ H a = some (.dK kvs) ∧ kvs.map (·.1) = ks ∧ Reps K cl G xs (kvs.map (·.2))
  | .o a c ns xs, v, F => ∃ dx fs, v = .ref a ∧ F = [a] ∧ H a = some (.ins (cl c) dx fs) ∧ fs.map (·.1) = ns ∧ Reps K cl G xs (fs.map (·.2))
  | .ex ns xs, v, F => ∃ a fs, v = .ref a ∧ F = [a] ∧ H a = some (.xd fs) ∧ fs.map (·.1) = ns ∧ Reps K cl G xs (fs.map (·.2))
  | .xv c ns xs, v, F => c = cl.xc ∧ (∃ a, cl.xa = some a ∧ v = .ref a) ∧ ((cl.xd = none ∧ F = [] ∧ ns = []) ∨ ∃ b fs, cl.xd = some b ∧ F = [b] ∧ H b = some (.xd fs) ∧ fs.map (·.1) = ns ∧ Reps K cl G xs (fs.map (·.2)))
inductive CRep : Cell → List Addr → Prop
  | none {o : Option V} : CRep (o, .none) []
  | some {v : V} {w : W} {F : List Addr} : WRep K cl G H w v F → CRep (.some v, .some w) F
inductive CReps : List Cell → List Addr → Prop
  | nil : CReps [] []
  | cons {c : Cell} {F : List Addr} {cs : List Cell} {O : List Addr} : CRep K cl G H c F → CReps cs O → CReps (c :: cs) (F ++ O)
/-- G: the frozen part; O: the addresses that the cells own -/
structure RelG (O : List Addr) (cs : List Cell) : Prop where
  sub : ∀ a o, G a = some o → H a = some o ∧ a ∉ O
  nd : O.Nodup
  rep : CReps K cl G H cs O
end
def Rel (K : PySem.W.Frag) (cl : CL) (H : Hp) (cs : List Cell) : Prop := ∃ G O, RelG K cl G H O cs

section
variable {K : PySem.W.Frag} {cl : CL} {G G' H H' : Hp} {O : List Addr} {cs cs' : List Cell} {c : Cell}
theorem RelG.le (r : RelG K cl G H O cs) : Le G H := fun a o e => (r.sub a o e).1
theorem WRep.step {w : W} {v : V} {F : List Addr} (hG : Le G G') (hH : ∀ a ∈ F, ∀ o, H a = some o → H' a = some o) (r : WRep K cl G H w v F) : WRep K cl G' H' w v F := by
  cases w with
  | d x => exact ⟨r.1, Rep.le hG _ _ r.2⟩
  | l xs => obtain ⟨a, vs, e, f, h, q⟩ := r; exact ⟨a, vs, e, f, hH a (by rw [f]; simp) _ h, Reps.le hG _ _ q⟩
  | m ks xs => obtain ⟨a, vs, e, f, h, k, q⟩ := r; exact ⟨a, vs, e, f, hH a (by rw [f]; simp) _ h, k, Reps.le hG _ _ q⟩
  | o a c ns xs => obtain ⟨dx, vs, e, f, h, k, q⟩ := r; exact ⟨dx, vs, e, f, hH a (by rw [f]; simp) _ h, k, Reps.le hG _ _ q⟩
  | ex ns xs => obtain ⟨a, vs, e, f, h, k, q⟩ := r; exact ⟨a, vs, e, f, hH a (by rw [f]; simp) _ h, k, Reps.le hG _ _ q⟩
  | xv c0 ns xs =>
    obtain ⟨e1, e0, ⟨e, f⟩ | ⟨a, vs, e, f, h, k, q⟩⟩ := r
    · exact ⟨e1, e0, .inl ⟨e, f⟩⟩
    · exact ⟨e1, e0, .inr ⟨a, vs, e, f, hH a (by rw [f]; simp) _ h, k, Reps.le hG _ _ q⟩⟩
theorem CReps.step (hG : Le G G') : ∀ {cs : List Cell} {O : List Addr}, (∀ a ∈ O, ∀ o, H a = some o → H' a = some o) → CReps K cl G H cs O → CReps K cl G' H' cs O
  | _, _, _, .nil => .nil
  | _, _, hH, .cons h t => .cons (match h with
      | .none => .none
      | .some w => .some (w.step hG fun a ha => hH a (List.mem_append_left _ ha))) (CReps.step hG (fun a ha => hH a (List.mem_append_right _ ha)) t)
theorem WRep.owns {w : W} {v : V} {F : List Addr} (r : WRep K cl G H w v F) : ∀ a ∈ F, ∃ o, H a = some o := by
  cases w with
  | d x => intro a ha; rw [r.1] at ha; simp at ha
  | l xs => obtain ⟨a, vs, e, f, h, q⟩ := r; intro b hb; rw [f] at hb; simp at hb; subst hb; exact ⟨_, h⟩
  | m ks xs => obtain ⟨a, vs, e, f, h, k, q⟩ := r; intro b hb; rw [f] at hb; simp at hb; subst hb; exact ⟨_, h⟩
  | o a c ns xs => obtain ⟨dx, vs, e, f, h, k, q⟩ := r; intro b hb; rw [f] at hb; simp at hb; subst hb; exact ⟨_, h⟩
  | ex ns xs => obtain ⟨a, vs, e, f, h, k, q⟩ := r; intro b hb; rw [f] at hb; simp at hb; subst hb; exact ⟨_, h⟩
  | xv c0 ns xs =>
    obtain ⟨e1, e0, ⟨e, f⟩ | ⟨a, vs, e, f, h, k, q⟩⟩ := r
    · intro b hb; rw [f.1] at hb; simp at hb
    · intro b hb; rw [f] at hb; simp at hb; subst hb; exact ⟨_, h⟩
theorem CReps.owns : ∀ {cs : List Cell} {O : List Addr}, CReps K cl G H cs O → ∀ a ∈ O, ∃ o, H a = some o
  | _, _, .nil, a, ha => by simp at ha
  | _, _, .cons h t, a, ha => by
    rcases List.mem_append.mp ha with ha | ha
    · cases h with
      | none => simp at ha
      | some w => exact w.owns a ha
    · exact t.owns a ha
theorem RelG.fresh (r : RelG K cl G H O cs) {p : Addr} (hp : H p = none) : p ∉ O ∧ G p = none := by
  refine ⟨fun h => ?_, ?_⟩
  · obtain ⟨o, e⟩ := r.rep.owns p h
    rw [hp] at e; cases e
  · cases q : G p with
    | none => rfl
    | some o => rw [(r.sub p o q).1] at hp; cases hp
theorem CReps.perm {cs cs' : List Cell} (p : cs.Perm cs') : ∀ {O : List Addr}, CReps K cl G H cs O → ∃ O', CReps K cl G H cs' O' ∧ O.Perm O' := by
  induction p with
  | nil => intro O h; exact ⟨O, h, List.Perm.refl _⟩
  | cons x _ ih =>
    intro O h
    cases h with
    | cons h t =>
      obtain ⟨O', t', q⟩ := ih t
      exact ⟨_, .cons h t', List.Perm.append_left _ q⟩
  | swap x y l =>
    intro O h
    cases h with
    | cons h t =>
      cases t with
      | cons h2 t =>
        refine ⟨_, .cons h2 (.cons h t), ?_⟩
        rw [← List.append_assoc, ← List.append_assoc]
        exact List.Perm.append_right _ List.perm_append_comm
  | trans _ _ ih1 ih2 =>
    intro O h
    obtain ⟨O1, t1, q1⟩ := ih1 h
    obtain ⟨O2, t2, q2⟩ := ih2 t1
    exact ⟨O2, t2, q1.trans q2⟩
theorem RelG.perm (r : RelG K cl G H O cs) (p : cs.Perm cs') : ∃ O', RelG K cl G H O' cs' := by
  obtain ⟨O', t, q⟩ := r.rep.perm p
  exact ⟨O', fun a o e => ⟨(r.sub a o e).1, fun z => (r.sub a o e).2 (q.mem_iff.mpr z)⟩, q.nodup_iff.mp r.nd, t⟩
theorem Rel.perm (r : Rel K cl H cs) (p : cs.Perm cs') : Rel K cl H cs' := by
  obtain ⟨G, O, r⟩ := r
  obtain ⟨O', r'⟩ := r.perm p
  exact ⟨G, O', r'⟩
theorem Rel.tail (r : Rel K cl H (c :: cs)) : Rel K cl H cs := by
  obtain ⟨G, O, r⟩ := r
  obtain ⟨s, n, t⟩ := r
  cases t with
  | cons h t => exact ⟨G, _, fun a o e => ⟨(s a o e).1, fun z => (s a o e).2 (List.mem_append_right _ z)⟩, (List.nodup_append.mp n).2.1, t⟩
theorem Rel.nil : Rel K cl H [] := ⟨fun _ => none, [], ⟨fun _ _ e => by simp at e, List.nodup_nil, .nil⟩⟩
/-- dropping any cells in front -/
theorem Rel.drop : ∀ (l : List Cell), Rel K cl H (l ++ cs) → Rel K cl H cs
  | [], r => r
  | _ :: l, r => Rel.drop l r.tail
/-- a cell without knowledge -/
theorem Rel.blank {o : Option V} (r : Rel K cl H cs) : Rel K cl H ((o, none) :: cs) := by
  obtain ⟨G, O, s, n, t⟩ := r
  exact ⟨G, O, s, n, .cons (F := []) .none t⟩

/-! ### what is new -/
/-- w stands at v in H', made from H -/
inductive NewAt (K : PySem.W.Frag) (cl : Nat → Addr) (G H : Hp) : W → V → Hp → Prop
  | d {x : D} {v : V} : Rep K cl G x v → NewAt K cl G H (.d x) v H
  | l {xs : List D} {vs : List V} {p : Addr} : H p = none → Reps K cl G xs vs → NewAt K cl G H (.l xs) (.ref p) (upd H p (.lst vs))
  | t {xs : List D} {vs : List V} {p : Addr} : H p = none → Reps K cl G xs vs → NewAt K cl G H (.d (.tup xs)) (.ref p) (upd H p (.tup vs))
  | m {ks : List Key} {xs : List D} {kvs : List (Key × V)} {p : Addr} : H p = none → kvs.map (·.1) = ks → Reps K cl G xs (kvs.map (·.2)) → NewAt K cl G H (.m ks xs) (.ref p) (upd H p (.dK kvs))
theorem RelG.new {w : W} {v : V} (r : RelG K cl G H O cs) (n : NewAt K cl G H w v H') : Rel K cl H' ((some v, some w) :: cs) := by
  have own : ∀ {p : Addr} {o : HO}, H p = none → CReps K cl G (upd H p o) cs O := fun {p o} hp => CReps.step (Le.refl G) (fun a ha u e => by rw [upd_ne (ne_of_none e hp)]; exact e) r.rep
  have sub : ∀ {p : Addr} {o : HO}, H p = none → ∀ a u, G a = some u → upd H p o a = some u ∧ a ∉ p :: O := fun {p o} hp a u e => by
    obtain ⟨h1, h2⟩ := r.sub a u e
    have ne : a ≠ p := ne_of_none h1 hp
    exact ⟨by rw [upd_ne ne]; exact h1, fun z => by rcases List.mem_cons.mp z with z | z; exact ne z; exact h2 z⟩
  have nd : ∀ {p : Addr}, H p = none → (p :: O).Nodup := fun {p} hp => List.nodup_cons.mpr ⟨(r.fresh hp).1, r.nd⟩
  cases n with
  | d q => exact ⟨G, O, r.sub, r.nd, .cons (F := []) (.some ⟨rfl, q⟩) r.rep⟩
  | @l xs vs p hp q => exact ⟨G, p :: O, sub hp, nd hp, .cons (F := [p]) (.some ⟨p, vs, rfl, rfl, upd_same, q⟩) (own hp)⟩
  | @m ks xs kvs p hp e q => exact ⟨G, p :: O, sub hp, nd hp, .cons (F := [p]) (.some ⟨p, kvs, rfl, rfl, upd_same, e, q⟩) (own hp)⟩
  | @t xs vs p hp q =>
    have gp := (r.fresh hp).2
    have pO := (r.fresh hp).1
    have le : Le G (upd G p (.tup vs)) := Le.upd gp
    refine ⟨upd G p (.tup vs), O, fun a u e => ?_, r.nd, .cons (F := []) (.some ⟨rfl, p, vs, rfl, .inl (.inl upd_same), Reps.le le _ _ q⟩) (CReps.step le (fun a ha u e => by rw [upd_ne (ne_of_none e hp)]; exact e) r.rep)⟩
    by_cases h : a = p
    · subst h; rw [upd_same] at e ⊢; exact ⟨e, pO⟩
    · rw [upd_ne h] at e ⊢; exact r.sub a u e
/-- a cell's content is frozen -/
theorem Rel.freeze {v : V} {w : W} (r : Rel K cl H ((some v, some w) :: cs)) (hx : w.dat ≠ none) : Rel K cl H ((some v, some (.d w.toD)) :: cs) := by
  obtain ⟨G, O, s, n, t⟩ := r
  cases t with
  | @cons _ F _ O' h t =>
    cases h with
    | some h =>
      have key : ∀ (a : Addr) (o : HO), F = [a] → H a = some o → (∀ G' : Hp, Le G G' → G' a = some o → Rep K cl G' w.toD v) → Rel K cl H ((some v, some (.d w.toD)) :: cs) := fun a o f ha hr => by
        subst f
        have aO : a ∉ O' := fun z => (List.nodup_append.mp n).2.2 a (by simp) a z rfl
        have ga : G a = none := by
          cases q : G a with
          | none => rfl
          | some u => exact absurd (List.mem_append_left _ (by simp)) (s a u q).2
        have le : Le G (upd G a o) := Le.upd ga
        refine ⟨upd G a o, O', fun b u e => ?_, (List.nodup_append.mp n).2.1, .cons (F := []) (.some ⟨rfl, hr _ le upd_same⟩) (CReps.step le (fun _ _ _ e => e) t)⟩
        by_cases hb : b = a
        · subst hb; rw [upd_same] at e; cases e; exact ⟨ha, aO⟩
        · rw [upd_ne hb] at e; exact ⟨(s b u e).1, fun z => (s b u e).2 (List.mem_append_right _ z)⟩
      cases w with
      | d x => exact ⟨G, _, s, n, .cons (.some h) t⟩
      | l xs => obtain ⟨a, vs, e, f, ha, q⟩ := h; exact key a _ f ha fun G' le g => ⟨a, vs, e, g, Reps.le le _ _ q⟩
      | m ks xs => obtain ⟨a, vs, e, f, ha, k, q⟩ := h; exact key a _ f ha fun G' le g => ⟨a, vs, e, g, k, Reps.le le _ _ q⟩
      | o a c ns xs => obtain ⟨dx, vs, e, f, ha, k, q⟩ := h; exact key a _ f ha fun G' le g => ⟨a, dx, vs, e, g, k, Reps.le le _ _ q⟩
      | ex ns xs => exact absurd rfl hx
      | xv c ns xs => exact absurd rfl hx
/-- frozen data may be told twice -/
theorem Rel.dup {v : V} {x : D} (r : Rel K cl H ((some v, some (.d x)) :: cs)) : Rel K cl H ((some v, some (.d x)) :: (some v, some (.d x)) :: cs) := by
  obtain ⟨G, O, s, n, t⟩ := r
  cases t with
  | @cons _ F _ O' h t =>
    cases h with
    | some h => exact ⟨G, F ++ O', s, n, .cons (F := []) (.some ⟨rfl, h.2⟩) (.cons (.some h) t)⟩
end

/-! ### slots -/
theorem perm_at {α : Type} : ∀ {l : List α} {i : Nat} {x : α}, l[i]? = some x → l.Perm (x :: l.eraseIdx i)
  | [], _, _, h => by simp at h
  | a :: l, 0, x, h => by simp at h; subst h; exact List.Perm.refl _
  | a :: l, i + 1, x, h => by
    have ih := perm_at (l := l) (i := i) (x := x) (by simpa using h)
    exact (List.Perm.cons a ih).trans (List.Perm.swap x a _)
theorem perm_set {α : Type} : ∀ {l : List α} {i : Nat} {y : α}, i < l.length → (l.set i y).Perm (y :: l.eraseIdx i)
  | [], _, _, h => by simp at h
  | a :: l, 0, y, h => List.Perm.refl _
  | a :: l, i + 1, y, h => by
    have ih := perm_set (l := l) (i := i) (y := y) (by simpa using h)
    exact (List.Perm.cons a ih).trans (List.Perm.swap y a _)
theorem zip_set {α β : Type} : ∀ {l : List α} {k : List β} (i : Nat) (a : α) (b : β), (l.set i a).zip (k.set i b) = (l.zip k).set i (a, b)
  | [], _, _, _, _ => by simp
  | x :: l, [], i, _, _ => by cases i <;> simp
  | x :: l, y :: k, 0, _, _ => rfl
  | x :: l, y :: k, i + 1, a, b => by simp [zip_set i a b]
theorem zip_get {α β : Type} {l : List α} {k : List β} {i : Nat} {a : α} {b : β} (h1 : l[i]? = some a) (h2 : k[i]? = some b) : (l.zip k)[i]? = some (a, b) := by
  rw [List.getElem?_zip_eq_some]; exact ⟨h1, h2⟩
end Ly
end
section
set_option Elab.async false
set_option linter.all false
set_option maxRecDepth 100000
set_option maxHeartbeats 4000000
/-! LyB: readings by evaluators over data. -/
namespace Ly
open PySem PySem.Spec PyProof.Rows L2

abbrev SS := List (Option W)
/-- an exception: its class, its own dict's content -/
structure Exn where
  c : Nat
  has : Bool
  ns : List Str
  xs : List D
inductive Opd where
  | s (i : Nat) | t (w : W)
inductive RE where
  | ok (o : Opd) (S : SS) | exc (x : Exn) (S : SS) | bad
inductive RL where
  | ok (os : List Opd) (S : SS) | exc (x : Exn) (S : SS) | bad
inductive RT where
  | ok (b : Bool) (S : SS) | exc (x : Exn) (S : SS) | bad
inductive RS where
  | nx (S : SS) | rt (w : W) | bk (S : SS) | ct (S : SS) | exc (x : Exn) (S : SS) | bad
inductive Out where
  | ret (w : W) | exc (x : Exn) | bad
@[reducible] def RE.bind (r : RE) (f : Opd → SS → RE) : RE := match r with | .ok o S => f o S | .exc x S => .exc x S | .bad => .bad
def Opd.get (S : SS) : Opd → Option D
  | .s i => match S[i]? with | some (some w) => w.dat | _ => none
  | .t w => w.dat
def Opd.keep (S : SS) : Opd → Option (W × SS)
  | .s i => match S[i]? with
    | some (some (.d x)) => some (.d x, S)
    | some (some (.ex _ _)) => none
    | some (some (.xv _ _ _)) => none
    | some (some w) => some (.d w.toD, S.set i (some (.d w.toD)))
    | _ => none
  | .t (.ex _ _) => none
  | .t (.xv _ _ _) => none
  | .t w => some (w, S)
def gets (S : SS) : List Opd → Option (List D)
  | [] => some []
  | o :: os => match o.get S, gets S os with | some d, some ds => some (d :: ds) | _, _ => none

section
variable (K : PySem.W.Frag) (cl : CL)
/-- what is read: the top in H, all below in G -/
def RepT (G H : Hp) : D → V → Prop
  | .lst xs, v => ∃ a vs, v = .ref a ∧ H a = some (.lst vs) ∧ Reps K cl G xs vs
  | .dic ks xs, v => ∃ a kvs, v = .ref a ∧ H a = some (.dK kvs) ∧ kvs.map (·.1) = ks ∧ Reps K cl G xs (kvs.map (·.2))
  | .obj c ns xs, v => (∃ a dx fs, v = .ref a ∧ H a = some (.ins (cl c) dx fs) ∧ fs.map (·.1) = ns ∧ Reps K cl G xs (fs.map (·.2)))
  | d, v => Rep K cl G d v
def RelX (H : Hp) (d : Option Addr) (x : Exn) (cs : List Cell) : Prop := match d with
  | some a => x.has = true ∧ Rel K cl H ((some (.ref a), some (.ex x.ns x.xs)) :: cs)
  | none => x.has = false ∧ Rel K cl H cs
inductive OpdAt (σ : L2.St) : Opd → V → List Cell → Prop
  | s {i : Nat} {v : V} : σ[i]? = some (some v) → OpdAt σ (.s i) v []
  | t {w : W} {v : V} : OpdAt σ (.t w) v [(some v, some w)]
inductive OpdsAt (σ : L2.St) : List Opd → List V → List Cell → Prop
  | nil : OpdsAt σ [] [] []
  | cons {o : Opd} {v : V} {E : List Cell} {os : List Opd} {vs : List V} {Es : List Cell} : OpdAt σ o v E → OpdsAt σ os vs Es → OpdsAt σ (o :: os) (v :: vs) (E ++ Es)
variable (Wx : WX)
def XPost (σ : L2.St) (T : List Cell) (x : Exn) (S : SS) : Prop := ∀ H d, RelX K cl H d x (σ.zip S ++ T) → Wx (.ref (cl x.c)) d σ H
def EvPost (σ : L2.St) (T : List Cell) (Q : VK) : RE → Prop
  | .ok o S => ∀ v H E, OpdAt σ o v E → Rel K cl H (E ++ (σ.zip S ++ T)) → Q v H
  | .exc x S => XPost K cl Wx σ T x S
  | .bad => False
def ElPost (σ : L2.St) (T : List Cell) (Q : List V → Hp → Prop) : RL → Prop
  | .ok os S => ∀ vs H E, OpdsAt σ os vs E → Rel K cl H (E ++ (σ.zip S ++ T)) → Q vs H
  | .exc x S => XPost K cl Wx σ T x S
  | .bad => False
def EtPost (σ : L2.St) (T : List Cell) (Q : Bool → Hp → Prop) : RT → Prop
  | .ok b S => ∀ H, Rel K cl H (σ.zip S ++ T) → Q b H
  | .exc x S => XPost K cl Wx σ T x S
  | .bad => False
def tEv (m : SS → RE) : TE := fun σ H Q => ∃ S T, S.length = σ.length ∧ Rel K cl H (σ.zip S ++ T) ∧ EvPost K cl Wx σ T Q (m S)
def tEl (m : SS → RL) : TA := fun σ H Q => ∃ S T, S.length = σ.length ∧ Rel K cl H (σ.zip S ++ T) ∧ ElPost K cl Wx σ T Q (m S)
def tEt (m : SS → RT) : TT := fun σ H Q => ∃ S T, S.length = σ.length ∧ Rel K cl H (σ.zip S ++ T) ∧ EtPost K cl Wx σ T Q (m S)
/-- lengths are kept -/
def LenE (n : Nat) : RE → Prop
  | .ok _ S => S.length = n
  | .exc _ S => S.length = n
  | .bad => True
def LenL (n : Nat) : RL → Prop
  | .ok _ S => S.length = n
  | .exc _ S => S.length = n
  | .bad => True
def LenT (n : Nat) : RT → Prop
  | .ok _ S => S.length = n
  | .exc _ S => S.length = n
  | .bad => True
end
theorem PE.imp {X : Cx} {e : Expr} {t t' : TE} (h : PE X e t) (k : ∀ σ H Q, t' σ H Q → t σ H Q) : PE X e t' := ⟨fun pins s σ H Q I q => h.run pins s σ H Q I (k σ H Q q)⟩
theorem PT.imp {X : Cx} {e : Expr} {t t' : TT} (h : PT X e t) (k : ∀ σ H Q, t' σ H Q → t σ H Q) : PT X e t' := ⟨fun pins s σ H Q I q => h.run pins s σ H Q I (k σ H Q q)⟩
theorem PA.imp {X : Cx} {e : List Expr} {t t' : TA} (h : PA X e t) (k : ∀ σ H Q, t' σ H Q → t σ H Q) : PA X e t' := ⟨fun p pins s σ H Q I q => h.run p pins s σ H Q I (k σ H Q q)⟩
theorem PS.imp {X : Cx} {e : Stmt} {t t' : TS} (h : PS X e t) (k : ∀ D σ H, t' D σ H → t D σ H) : PS X e t' := ⟨fun pins s σ H D I q => h.run pins s σ H D I (k D σ H q)⟩
theorem PSs.imp {X : Cx} {e : List Stmt} {t t' : TS} (h : PSs X e t) (k : ∀ D σ H, t' D σ H → t D σ H) : PSs X e t' := ⟨fun pins s σ H D I q => h.run pins s σ H D I (k D σ H q)⟩

section
variable {K : PySem.W.Frag} {cl : CL} {Wx : WX} {σ : L2.St} {H G : Hp} {T E : List Cell} {S : SS}
theorem Rep.top {d : D} {v : V} (le : Le G H) (r : Rep K cl G d v) : RepT K cl G H d v := by
  cases d with
  | lst xs => obtain ⟨a, vs, e, g, q⟩ := r; exact ⟨a, vs, e, le _ _ g, q⟩
  | dic ks xs => obtain ⟨a, vs, e, g, k, q⟩ := r; exact ⟨a, vs, e, le _ _ g, k, q⟩
  | obj c ns xs => obtain ⟨a, dx, vs, e, g, k, q⟩ := r; exact ⟨a, dx, vs, e, le _ _ g, k, q⟩
  | _ => exact r
theorem WRep.top {w : W} {v : V} {F : List Addr} (le : Le G H) (r : WRep K cl G H w v F) {d : D} (hx : w.dat = some d) : RepT K cl G H d v := by
  cases w with
  | d x => cases hx; exact Rep.top le r.2
  | l xs => cases hx; obtain ⟨a, vs, e, f, h, q⟩ := r; exact ⟨a, vs, e, h, q⟩
  | m ks xs => cases hx; obtain ⟨a, vs, e, f, h, k, q⟩ := r; exact ⟨a, vs, e, h, k, q⟩
  | o a c ns xs => cases hx; obtain ⟨dx, vs, e, f, h, k, q⟩ := r; exact ⟨a, dx, vs, e, h, k, q⟩
  | ex ns xs => cases hx
  | xv c ns xs => cases hx
theorem CReps.mem {v : V} {w : W} : ∀ {cs : List Cell} {O : List Addr}, CReps K cl G H cs O → (some v, some w) ∈ cs → ∃ F, WRep K cl G H w v F
  | _, _, .nil, h => by simp at h
  | _, _, .cons h t, m => by
    rcases List.mem_cons.mp m with e | m
    · subst e
      cases h with
      | some w => exact ⟨_, w⟩
    · exact t.mem m
theorem CReps.nomem {w : W} : ∀ {cs : List Cell} {O : List Addr}, CReps K cl G H cs O → (none, some w) ∉ cs
  | _, _, .nil, h => by simp at h
  | _, _, .cons h t, m => by
    rcases List.mem_cons.mp m with e | m
    · subst e
      cases h
    · exact t.nomem m
/-- a set slot has a value -/
theorem Rel.slot {i : Nat} {w : W} (r : Rel K cl H (σ.zip S ++ T)) (hl : S.length = σ.length) (h : S[i]? = some (some w)) : ∃ v, σ[i]? = some (some v) := by
  obtain ⟨G, O, r⟩ := r
  have hi : i < σ.length := by rw [← hl]; exact (List.getElem?_eq_some_iff.mp h).1
  cases e : σ[i] with
  | some v => exact ⟨v, by rw [List.getElem?_eq_getElem hi, e]⟩
  | none =>
    have z := zip_get (l := σ) (k := S) (i := i) (a := none) (b := some w) (by rw [List.getElem?_eq_getElem hi, e]) h
    exact absurd (List.mem_append_left _ (List.mem_of_getElem? z)) r.rep.nomem
theorem get_no {i : Nat} {d : D} (h : (Opd.s i).get S = some d) : ∃ w, S[i]? = some (some w) ∧ w.dat = some d := by
  unfold Opd.get at h
  dsimp only at h
  split at h
  · rename_i w e; exact ⟨w, e, h⟩
  · cases h
theorem opd_mem {o : Opd} {v : V} {d : D} (a : OpdAt σ o v E) (h : o.get S = some d) : ∃ w, (some v, some w) ∈ E ++ (σ.zip S ++ T) ∧ w.dat = some d ∧ (o = .t w ∨ ∃ i, o = .s i ∧ S[i]? = some (some w)) := by
  cases a with
  | @s i v e =>
    obtain ⟨w, h1, h2⟩ := get_no h
    refine ⟨w, ?_, h2, .inr ⟨i, rfl, h1⟩⟩
    rw [List.nil_append]
    exact List.mem_append_left _ (List.mem_of_getElem? (zip_get e h1))
  | @t w v => exact ⟨w, by simp, h, .inl rfl⟩
end
end Ly
end
section
set_option Elab.async false
set_option linter.all false
set_option maxRecDepth 100000
set_option maxHeartbeats 4000000
/-! LyC: operands, lists of operands, operations, calls. -/
namespace Ly
open PySem PySem.Spec PyProof.Rows L2

theorem pcomm {α : Type} {A B C : List α} : (A ++ (B ++ C)).Perm (B ++ (A ++ C)) := List.perm_append_comm_assoc A B C
section
variable {K : PySem.W.Frag} {cl : CL} {Wx : WX} {σ : L2.St} {H G : Hp} {T E : List Cell} {S : SS}

/-! ### keeping -/
theorem dat_toD {w : W} {d : D} (h : w.dat = some d) : d = w.toD ∧ w.dat ≠ none := by
  cases w with
  | ex ns xs => cases h
  | xv c ns xs => cases h
  | _ => cases h; exact ⟨rfl, fun e => by cases e⟩
theorem keep_ok {o : Opd} {v : V} {w : W} {S' : SS} (a : OpdAt σ o v E) (h : o.keep S = some (w, S')) (r : Rel K cl H (E ++ (σ.zip S ++ T))) (hl : S.length = σ.length) : Rel K cl H ((some v, some w) :: (σ.zip S' ++ T)) ∧ S'.length = S.length ∧ w.dat ≠ none := by
  cases a with
  | @t w' v =>
    cases w' with
    | ex ns xs => cases h
    | xv c ns xs => cases h
    | _ => cases h; exact ⟨by simpa using r, rfl, fun e => by cases e⟩
  | @s i v e =>
    rw [List.nil_append] at r
    have frz : ∀ (w' : W) (d : D), S[i]? = some (some w') → w'.dat = some d → Rel K cl H ((some v, some (.d d)) :: ((σ.zip (S.set i (some (.d d)))) ++ T)) := fun w' d hs hd => by
      have hi : i < S.length := (List.getElem?_eq_some_iff.mp hs).1
      have hz := zip_get e hs
      obtain ⟨e1, hx⟩ := dat_toD hd
      subst e1
      have p1 : (σ.zip S ++ T).Perm ((some v, some w') :: ((σ.zip S).eraseIdx i ++ T)) := List.Perm.append_right T (perm_at hz)
      have r1 := ((r.perm p1).freeze hx).dup
      have hi2 : i < (σ.zip S).length := by rw [List.length_zip]; omega
      have p2 : ((σ.zip (S.set i (some (W.d w'.toD)))) ++ T).Perm ((some v, some (.d w'.toD)) :: ((σ.zip S).eraseIdx i ++ T)) := by
        have es : σ = σ.set i (some v) := by
          apply List.ext_getElem?
          intro j
          by_cases hj : j = i
          · subst hj; rw [e, List.getElem?_set_self (by omega)]
          · rw [List.getElem?_set_ne (Ne.symm hj)]
        have := zip_set (l := σ) (k := S) i (some v) (some (W.d w'.toD))
        rw [← es] at this
        rw [this]
        exact List.Perm.append_right T (perm_set hi2)
      exact r1.perm (List.Perm.cons _ p2.symm)
    cases hs : S[i]? with
    | none => simp only [Opd.keep, hs] at h; cases h
    | some ow =>
      cases ow with
      | none => simp only [Opd.keep, hs] at h; cases h
      | some w' =>
        cases w' with
        | d x =>
          simp only [Opd.keep, hs] at h
          cases h
          have z := frz _ _ hs rfl
          have es : S.set i (some (.d x)) = S := by
            apply List.ext_getElem?
            intro j
            by_cases hj : j = i
            · subst hj; rw [List.getElem?_set_self (List.getElem?_eq_some_iff.mp hs).1, hs]
            · rw [List.getElem?_set_ne (Ne.symm hj)]
          have z : Rel K cl H ((some v, some (.d x)) :: ((σ.zip (S.set i (some (.d x)))) ++ T)) := z
          rw [es] at z
          exact ⟨z, rfl, fun e => by cases e⟩
        | ex ns xs => simp only [Opd.keep, hs] at h; cases h
        | xv c ns xs => simp only [Opd.keep, hs] at h; cases h
        | l xs => simp only [Opd.keep, hs] at h; cases h; exact ⟨frz _ _ hs rfl, by simp, fun e => by cases e⟩
        | m ks xs => simp only [Opd.keep, hs] at h; cases h; exact ⟨frz _ _ hs rfl, by simp, fun e => by cases e⟩
        | o a c ns xs => simp only [Opd.keep, hs] at h; cases h; exact ⟨frz _ _ hs rfl, by simp, fun e => by cases e⟩
/-- kept, the frame's own if it was new -/
def mK (me : SS → RE) : SS → RE := fun S => (me S).bind fun o S1 => match o.keep S1 with | some (w, S2) => .ok (.t w) S2 | none => .bad
/-- kept and frozen -/
def mD (me : SS → RE) : SS → RE := fun S => (me S).bind fun o S1 => match o.keep S1 with | some (w, S2) => .ok (.t (.d w.toD)) S2 | none => .bad
theorem OpdAt.tnew {w : W} {v : V} : OpdAt σ (.t w) v [(some v, some w)] := .t
theorem ev_K {me : SS → RE} {Q : VK} (hlen : ∀ S, LenE S.length (me S)) (h : tEv K cl Wx (mK me) σ H Q) : tEv K cl Wx me σ H Q := by
  obtain ⟨S, T, hl, hR, post⟩ := h
  refine ⟨S, T, hl, hR, ?_⟩
  unfold mK at post
  have hs := hlen S
  cases e : me S with
  | bad => rw [e] at post; exact post
  | exc x S1 => rw [e] at post; exact post
  | ok o S1 =>
    rw [e] at post hs
    intro v H1 E a R
    cases k : o.keep S1 with
    | none => simp only [RE.bind, k] at post; exact post.elim
    | some p =>
      obtain ⟨w, S2⟩ := p
      simp only [RE.bind, k] at post
      exact post v H1 _ .t (keep_ok a k R (hs.trans hl)).1
theorem ev_D {me : SS → RE} {Q : VK} (hlen : ∀ S, LenE S.length (me S)) (h : tEv K cl Wx (mD me) σ H Q) : tEv K cl Wx me σ H Q := by
  obtain ⟨S, T, hl, hR, post⟩ := h
  refine ⟨S, T, hl, hR, ?_⟩
  unfold mD at post
  have hs := hlen S
  cases e : me S with
  | bad => rw [e] at post; exact post
  | exc x S1 => rw [e] at post; exact post
  | ok o S1 =>
    rw [e] at post hs
    intro v H1 E a R
    cases k : o.keep S1 with
    | none => simp only [RE.bind, k] at post; exact post.elim
    | some p =>
      obtain ⟨w, S2⟩ := p
      simp only [RE.bind, k] at post
      obtain ⟨r, _, hx⟩ := keep_ok a k R (hs.trans hl)
      exact post v H1 _ .t (r.freeze hx)
theorem keep_len {o : Opd} {w : W} {S' : SS} (h : o.keep S = some (w, S')) : S'.length = S.length := by
  cases o with
  | t w' => cases w' <;> cases h <;> rfl
  | s i =>
    cases hs : S[i]? with
    | none => simp only [Opd.keep, hs] at h; cases h
    | some ow =>
      cases ow with
      | none => simp only [Opd.keep, hs] at h; cases h
      | some w' => cases w' <;> simp only [Opd.keep, hs] at h <;> cases h <;> simp
theorem mK_len {me : SS → RE} (hlen : ∀ S, LenE S.length (me S)) (S : SS) : LenE S.length (mK me S) := by
  unfold mK
  have hs := hlen S
  cases e : me S with
  | bad => exact trivial
  | exc x S1 => rw [e] at hs; exact hs
  | ok o S1 =>
    rw [e] at hs
    cases k : o.keep S1 with
    | none => simp only [RE.bind, k]; exact trivial
    | some p => simp only [RE.bind, k]; exact (keep_len k).trans hs
theorem mD_len {me : SS → RE} (hlen : ∀ S, LenE S.length (me S)) (S : SS) : LenE S.length (mD me S) := by
  unfold mD
  have hs := hlen S
  cases e : me S with
  | bad => exact trivial
  | exc x S1 => rw [e] at hs; exact hs
  | ok o S1 =>
    rw [e] at hs
    cases k : o.keep S1 with
    | none => simp only [RE.bind, k]; exact trivial
    | some p => simp only [RE.bind, k]; exact (keep_len k).trans hs

/-! ### exceptions pass -/
theorem RelX.weak {d : Option Addr} {x : Exn} {cs cs' : List Cell} (l : List Cell) (p : cs.Perm (l ++ cs')) (r : RelX K cl H d x cs) : RelX K cl H d x cs' := by
  cases d with
  | none => exact ⟨r.1, (r.2.perm p).drop l⟩
  | some a => exact ⟨r.1, Rel.drop l (r.2.perm ((List.Perm.cons _ p).trans List.perm_middle.symm))⟩
theorem XPost.more {x : Exn} (l : List Cell) (h : XPost K cl Wx σ T x S) : XPost K cl Wx σ (l ++ T) x S := fun H d r => h H d (r.weak l pcomm)

/-! ### one, two operands -/
def mOp1 (f : D → Option W) (ma : SS → RE) : SS → RE := fun S => (ma S).bind fun o1 S1 => match o1.get S1 with
  | some d1 => (match f d1 with | some w => .ok (.t w) S1 | none => .bad)
  | none => .bad
def mOp2 (f : D → D → Option W) (ma mb : SS → RE) : SS → RE := fun S => (ma S).bind fun o1 S1 => (mb S1).bind fun o2 S2 => match o1.get S2 with
  | some d1 => (match o2.get S2 with
    | some d2 => (match f d1 d2 with | some w => .ok (.t w) S2 | none => .bad)
    | none => .bad)
  | none => .bad
def Op1Ok (K : PySem.W.Frag) (cl : CL) (r : V → Hp → VK → Prop) (f : D → Option W) : Prop := ∀ (G H : Hp) (d1 : D) (v1 : V) (w : W) (Q : VK), Le G H → RepT K cl G H d1 v1 → f d1 = some w →
  (∀ v H', NewAt K cl G H w v H' → Q v H') → r v1 H Q
def Op2Ok (K : PySem.W.Frag) (cl : CL) (r : R2) (f : D → D → Option W) : Prop := ∀ (G H : Hp) (d1 d2 : D) (v1 v2 : V) (w : W) (Q : VK), Le G H → RepT K cl G H d1 v1 → RepT K cl G H d2 v2 → f d1 d2 = some w →
  (∀ v H', NewAt K cl G H w v H' → Q v H') → r v1 v2 H Q
theorem opd_read {o : Opd} {v : V} {d : D} {O : List Addr} {cs : List Cell} (a : OpdAt σ o v E) (h : o.get S = some d) (r : RelG K cl G H O cs) (hm : ∀ c, c ∈ E ∨ c ∈ σ.zip S → c ∈ cs) : RepT K cl G H d v := by
  obtain ⟨w, m, hw, _⟩ := opd_mem (T := []) a h
  rw [List.append_nil] at m
  obtain ⟨F, hr⟩ := r.rep.mem (hm _ (List.mem_append.mp m))
  exact hr.top r.le hw
theorem ev_op1 {r : V → Hp → VK → Prop} {f : D → Option W} {ma : SS → RE} {Q : VK} (ok : Op1Ok K cl r f) (h : tEv K cl Wx (mOp1 f ma) σ H Q) : tUn r (tEv K cl Wx ma) σ H Q := by
  obtain ⟨S, T, hl, hR, post⟩ := h
  refine ⟨S, T, hl, hR, ?_⟩
  unfold mOp1 at post
  cases e : ma S with
  | bad => rw [e] at post; exact post
  | exc x S1 => rw [e] at post; exact post
  | ok o1 S1 =>
    rw [e] at post
    intro v1 H1 E1 a1 R1
    cases g1 : o1.get S1 with
    | none => simp only [RE.bind, g1] at post; exact post.elim
    | some d1 =>
      cases ef : f d1 with
      | none => simp only [RE.bind, g1, ef] at post; exact post.elim
      | some w =>
        simp only [RE.bind, g1, ef] at post
        obtain ⟨G, O, R⟩ := R1
        have t1 := opd_read a1 g1 R fun c hc => hc.elim (fun z => List.mem_append_left _ z) fun z => List.mem_append_right _ (List.mem_append_left _ z)
        refine ok G H1 d1 v1 w _ R.le t1 ef fun v H' n => post v H' _ .t ?_
        exact Rel.drop E1 ((R.new n).perm List.perm_middle.symm)
theorem ev_op2 {r : R2} {f : D → D → Option W} {ma mb : SS → RE} {Q : VK} (ok : Op2Ok K cl r f) (la : ∀ S, LenE S.length (ma S)) (h : tEv K cl Wx (mOp2 f ma mb) σ H Q) : tOp r (tEv K cl Wx ma) (tEv K cl Wx mb) σ H Q := by
  obtain ⟨S, T, hl, hR, post⟩ := h
  refine ⟨S, T, hl, hR, ?_⟩
  unfold mOp2 at post
  have hs := la S
  cases e : ma S with
  | bad => rw [e] at post; exact post
  | exc x S1 => rw [e] at post; exact post
  | ok o1 S1 =>
    rw [e] at post hs
    intro v1 H1 E1 a1 R1
    refine ⟨S1, E1 ++ T, hs.trans hl, R1.perm pcomm, ?_⟩
    cases e2 : mb S1 with
    | bad => simp only [RE.bind, e2] at post; exact post
    | exc x S2 => simp only [RE.bind, e2] at post; exact XPost.more E1 post
    | ok o2 S2 =>
      intro v2 H2 E2 a2 R2
      cases g1 : o1.get S2 with
      | none => simp only [RE.bind, e2, g1] at post; exact post.elim
      | some d1 =>
        cases g2 : o2.get S2 with
        | none => simp only [RE.bind, e2, g1, g2] at post; exact post.elim
        | some d2 =>
          cases ef : f d1 d2 with
          | none => simp only [RE.bind, e2, g1, g2, ef] at post; exact post.elim
          | some w =>
            simp only [RE.bind, e2, g1, g2, ef] at post
            obtain ⟨G, O, R⟩ := R2
            have t1 := opd_read a1 g1 R fun c hc => hc.elim (fun z => by simp [z]) fun z => by simp [z]
            have t2 := opd_read a2 g2 R fun c hc => hc.elim (fun z => by simp [z]) fun z => by simp [z]
            refine ok G H2 d1 d2 v1 v2 w _ R.le t1 t2 ef fun v H' n => post v H' _ .t ?_
            have R3 := Rel.drop E2 ((R.new n).perm List.perm_middle.symm)
            exact Rel.drop E1 (R3.perm ((List.Perm.cons _ pcomm).trans List.perm_middle.symm))
theorem mOp1_len {f : D → Option W} {ma : SS → RE} (la : ∀ S, LenE S.length (ma S)) (S : SS) : LenE S.length (mOp1 f ma S) := by
  unfold mOp1
  have hs := la S
  cases e : ma S with
  | bad => exact trivial
  | exc x S1 => rw [e] at hs; exact hs
  | ok o S1 =>
    rw [e] at hs
    simp only [RE.bind]
    split
    · split <;> first | exact hs | exact trivial
    · exact trivial
theorem mOp2_len {f : D → D → Option W} {ma mb : SS → RE} (la : ∀ S, LenE S.length (ma S)) (lb : ∀ S, LenE S.length (mb S)) (S : SS) : LenE S.length (mOp2 f ma mb S) := by
  unfold mOp2
  have hs := la S
  cases e : ma S with
  | bad => exact trivial
  | exc x S1 => rw [e] at hs; exact hs
  | ok o S1 =>
    rw [e] at hs
    have hs2 := lb S1
    cases e2 : mb S1 with
    | bad => simp only [RE.bind, e2]; exact trivial
    | exc x S2 => rw [e2] at hs2; simp only [RE.bind, e2]; exact hs2.trans hs
    | ok o2 S2 =>
      rw [e2] at hs2
      simp only [RE.bind, e2]
      split
      · split
        · split <;> first | exact hs2.trans hs | exact trivial
        · exact trivial
      · exact trivial

/-! ### lists of operands (looked at) -/
def mNil : SS → RL := fun S => .ok [] S
def mCons (me : SS → RE) (ml : SS → RL) : SS → RL := fun S => match me S with
  | .ok o S1 => (match ml S1 with | .ok os S2 => .ok (o :: os) S2 | .exc x S2 => .exc x S2 | .bad => .bad)
  | .exc x S1 => .exc x S1
  | .bad => .bad
theorem el_nil {Q : List V → Hp → Prop} (h : tEl K cl Wx mNil σ H Q) : tNil σ H Q := by
  obtain ⟨S, T, hl, hR, post⟩ := h
  exact post [] H [] .nil (by simpa using hR)
theorem el_cons {me : SS → RE} {ml : SS → RL} {Q : List V → Hp → Prop} (la : ∀ S, LenE S.length (me S)) (h : tEl K cl Wx (mCons me ml) σ H Q) : tCons (tEv K cl Wx me) (tEl K cl Wx ml) σ H Q := by
  obtain ⟨S, T, hl, hR, post⟩ := h
  refine ⟨S, T, hl, hR, ?_⟩
  unfold mCons at post
  have hs := la S
  cases e : me S with
  | bad => rw [e] at post; exact post
  | exc x S1 => rw [e] at post; exact post
  | ok o1 S1 =>
    rw [e] at post hs
    intro v1 H1 E1 a1 R1
    refine ⟨S1, E1 ++ T, hs.trans hl, R1.perm pcomm, ?_⟩
    cases e2 : ml S1 with
    | bad => simp only [e2] at post; exact post
    | exc x S2 => simp only [e2] at post; exact XPost.more E1 post
    | ok os S2 =>
      simp only [e2] at post
      intro vs H2 E2 a2 R2
      refine post (v1 :: vs) H2 (E1 ++ E2) (.cons a1 a2) (R2.perm ?_)
      rw [List.append_assoc]
      exact (List.Perm.append_left E2 pcomm).trans pcomm
theorem mNil_len (S : SS) : LenL S.length (mNil S) := rfl
theorem mCons_len {me : SS → RE} {ml : SS → RL} (la : ∀ S, LenE S.length (me S)) (lb : ∀ S, LenL S.length (ml S)) (S : SS) : LenL S.length (mCons me ml S) := by
  unfold mCons
  have hs := la S
  cases e : me S with
  | bad => exact trivial
  | exc x S1 => rw [e] at hs; exact hs
  | ok o S1 =>
    rw [e] at hs
    have hs2 := lb S1
    cases e2 : ml S1 with
    | bad => simp only [e2]; exact trivial
    | exc x S2 => rw [e2] at hs2; simp only [e2]; exact hs2.trans hs
    | ok o2 S2 => rw [e2] at hs2; simp only [e2]; exact hs2.trans hs
/-- RepT along a list -/
def RepsT (K : PySem.W.Frag) (cl : CL) (G H : Hp) : List D → List V → Prop
  | [], vs => vs = []
  | x :: xs, vs => ∃ v r, vs = v :: r ∧ RepT K cl G H x v ∧ RepsT K cl G H xs r
def mOpL (f : List D → Option W) (ml : SS → RL) : SS → RE := fun S => match ml S with
  | .ok os S1 => (match gets S1 os with
    | some ds => (match f ds with | some w => .ok (.t w) S1 | none => .bad)
    | none => .bad)
  | .exc x S1 => .exc x S1
  | .bad => .bad
def OpLOk (K : PySem.W.Frag) (cl : CL) (r : List V → Hp → VK → Prop) (f : List D → Option W) : Prop := ∀ (G H : Hp) (ds : List D) (vs : List V) (w : W) (Q : VK), Le G H → RepsT K cl G H ds vs → f ds = some w →
  (∀ v H', NewAt K cl G H w v H' → Q v H') → r vs H Q
theorem opds_read {O : List Addr} {cs : List Cell} (r : RelG K cl G H O cs) (hz : ∀ c, c ∈ σ.zip S → c ∈ cs) : ∀ {os : List Opd} {vs : List V} {ds : List D} {E : List Cell}, OpdsAt σ os vs E → gets S os = some ds → (∀ c, c ∈ E → c ∈ cs) → RepsT K cl G H ds vs
  | _, _, ds, _, .nil, h, _ => by cases h; rfl
  | o :: os, v :: vs, ds, _, .cons (E := E) (Es := Es) a t, h, hE => by
    simp only [gets] at h
    cases g1 : o.get S with
    | none => simp only [g1] at h; cases h
    | some d =>
      cases g2 : gets S os with
      | none => simp only [g1, g2] at h; cases h
      | some ds' =>
        simp only [g1, g2] at h
        cases h
        exact ⟨v, vs, rfl, opd_read a g1 r fun c hc => hc.elim (fun z => hE c (List.mem_append_left _ z)) (hz c), opds_read r hz t g2 fun c hc => hE c (List.mem_append_right _ hc)⟩
theorem ev_opL {r : List V → Hp → VK → Prop} {f : List D → Option W} {ml : SS → RL} {Q : VK} (ok : OpLOk K cl r f) (h : tEv K cl Wx (mOpL f ml) σ H Q) : tEl K cl Wx ml σ H fun vs H1 => r vs H1 Q := by
  obtain ⟨S, T, hl, hR, post⟩ := h
  refine ⟨S, T, hl, hR, ?_⟩
  unfold mOpL at post
  cases e : ml S with
  | bad => rw [e] at post; exact post
  | exc x S1 => rw [e] at post; exact post
  | ok os S1 =>
    rw [e] at post
    intro vs H1 E1 a1 R1
    cases g : gets S1 os with
    | none => simp only [g] at post; exact post.elim
    | some ds =>
      cases ef : f ds with
      | none => simp only [g, ef] at post; exact post.elim
      | some w =>
        simp only [g, ef] at post
        obtain ⟨G, O, R⟩ := R1
        have t1 := opds_read R (fun c hc => by simp [hc]) a1 g fun c hc => by simp [hc]
        refine ok G H1 ds vs w _ R.le t1 ef fun v H' n => post v H' _ .t ?_
        exact Rel.drop E1 ((R.new n).perm List.perm_middle.symm)
theorem mOpL_len {f : List D → Option W} {ml : SS → RL} (la : ∀ S, LenL S.length (ml S)) (S : SS) : LenE S.length (mOpL f ml S) := by
  unfold mOpL
  have hs := la S
  cases e : ml S with
  | bad => exact trivial
  | exc x S1 => rw [e] at hs; exact hs
  | ok o S1 =>
    rw [e] at hs
    dsimp only
    split
    · split <;> first | exact hs | exact trivial
    · exact trivial

/-! ### lists of operands (handed on) -/
inductive RD where
  | ok (ds : List D) (S : SS) | exc (x : Exn) (S : SS) | bad
def cellsD : List D → List V → List Cell
  | d :: ds, v :: vs => (some v, some (.d d)) :: cellsD ds vs
  | _, _ => []
def EdPost (K : PySem.W.Frag) (cl : CL) (Wx : WX) (σ : L2.St) (T : List Cell) (Q : List V → Hp → Prop) : RD → Prop
  | .ok ds S => ∀ vs H, vs.length = ds.length → Rel K cl H (cellsD ds vs ++ (σ.zip S ++ T)) → Q vs H
  | .exc x S => XPost K cl Wx σ T x S
  | .bad => False
def tEd (K : PySem.W.Frag) (cl : CL) (Wx : WX) (m : SS → RD) : TA := fun σ H Q => ∃ S T, S.length = σ.length ∧ Rel K cl H (σ.zip S ++ T) ∧ EdPost K cl Wx σ T Q (m S)
def LenD (n : Nat) : RD → Prop
  | .ok _ S => S.length = n
  | .exc _ S => S.length = n
  | .bad => True
def dNil : SS → RD := fun S => .ok [] S
def dCons (me : SS → RE) (ml : SS → RD) : SS → RD := fun S => match me S with
  | .ok o S1 => (match o.keep S1 with
    | some (w, S2) => (match ml S2 with | .ok ds S3 => .ok (w.toD :: ds) S3 | .exc x S3 => .exc x S3 | .bad => .bad)
    | none => .bad)
  | .exc x S1 => .exc x S1
  | .bad => .bad
theorem ed_nil {Q : List V → Hp → Prop} (h : tEd K cl Wx dNil σ H Q) : tNil σ H Q := by
  obtain ⟨S, T, hl, hR, post⟩ := h
  exact post [] H rfl (by simpa [cellsD] using hR)
theorem ed_cons {me : SS → RE} {ml : SS → RD} {Q : List V → Hp → Prop} (la : ∀ S, LenE S.length (me S)) (h : tEd K cl Wx (dCons me ml) σ H Q) : tCons (tEv K cl Wx me) (tEd K cl Wx ml) σ H Q := by
  obtain ⟨S, T, hl, hR, post⟩ := h
  refine ⟨S, T, hl, hR, ?_⟩
  unfold dCons at post
  have hs := la S
  cases e : me S with
  | bad => rw [e] at post; exact post
  | exc x S1 => rw [e] at post; exact post
  | ok o1 S1 =>
    rw [e] at post hs
    intro v1 H1 E1 a1 R1
    cases k : o1.keep S1 with
    | none => simp only [k] at post; exact post.elim
    | some p =>
      obtain ⟨w, S2⟩ := p
      simp only [k] at post
      obtain ⟨r, hl2, hx⟩ := keep_ok a1 k R1 (hs.trans hl)
      have r := r.freeze hx
      refine ⟨S2, [(some v1, some (.d w.toD))] ++ T, hl2.trans (hs.trans hl), r.perm (pcomm (A := [(some v1, some (W.d w.toD))])), ?_⟩
      cases e2 : ml S2 with
      | bad => simp only [e2] at post; exact post
      | exc x S3 => simp only [e2] at post; exact XPost.more _ post
      | ok ds S3 =>
        simp only [e2] at post
        intro vs H2 hlen R2
        refine post (v1 :: vs) H2 (by simp [hlen]) (R2.perm ?_)
        show (cellsD ds vs ++ (σ.zip S3 ++ ([(some v1, some (W.d w.toD))] ++ T))).Perm ([(some v1, some (W.d w.toD))] ++ (cellsD ds vs ++ (σ.zip S3 ++ T)))
        exact (List.Perm.append_left _ pcomm).trans pcomm
theorem dNil_len (S : SS) : LenD S.length (dNil S) := rfl
theorem dCons_len {me : SS → RE} {ml : SS → RD} (la : ∀ S, LenE S.length (me S)) (lb : ∀ S, LenD S.length (ml S)) (S : SS) : LenD S.length (dCons me ml S) := by
  unfold dCons
  have hs := la S
  cases e : me S with
  | bad => exact trivial
  | exc x S1 => rw [e] at hs; exact hs
  | ok o S1 =>
    rw [e] at hs
    cases k : o.keep S1 with
    | none => simp only [k]; exact trivial
    | some p =>
      obtain ⟨w, S2⟩ := p
      have hk := (keep_len k).trans hs
      have hs2 := lb S2
      cases e2 : ml S2 with
      | bad => simp only [k, e2]; exact trivial
      | exc x S3 => rw [e2] at hs2; simp only [k, e2]; exact hs2.trans hk
      | ok ds S3 => rw [e2] at hs2; simp only [k, e2]; exact hs2.trans hk
theorem cellsD_reps {cs : List Cell} {O : List Addr} (r : RelG K cl G H O cs) : ∀ {ds : List D} {vs : List V}, vs.length = ds.length → (∀ c, c ∈ cellsD ds vs → c ∈ cs) → Reps K cl G ds vs
  | [], [], _, _ => rfl
  | d :: ds, v :: vs, h, m => by
    obtain ⟨F, hr⟩ := r.rep.mem (m (some v, some (.d d)) (by simp [cellsD]))
    exact ⟨v, vs, rfl, hr.2, cellsD_reps r (by simpa using h) fun c hc => m c (by simp [cellsD, hc])⟩
  | [], v :: vs, h, _ => by simp at h
  | d :: ds, [], h, _ => by simp at h
def mOpD (f : List D → Option W) (ml : SS → RD) : SS → RE := fun S => match ml S with
  | .ok ds S1 => (match f ds with | some w => .ok (.t w) S1 | none => .bad)
  | .exc x S1 => .exc x S1
  | .bad => .bad
def OpDOk (K : PySem.W.Frag) (cl : CL) (r : List V → Hp → VK → Prop) (f : List D → Option W) : Prop := ∀ (G H : Hp) (ds : List D) (vs : List V) (w : W) (Q : VK), Le G H → Reps K cl G ds vs → f ds = some w →
  (∀ v H', NewAt K cl G H w v H' → Q v H') → r vs H Q
theorem ev_opD {r : List V → Hp → VK → Prop} {f : List D → Option W} {ml : SS → RD} {Q : VK} (ok : OpDOk K cl r f) (h : tEv K cl Wx (mOpD f ml) σ H Q) : tEd K cl Wx ml σ H fun vs H1 => r vs H1 Q := by
  obtain ⟨S, T, hl, hR, post⟩ := h
  refine ⟨S, T, hl, hR, ?_⟩
  unfold mOpD at post
  cases e : ml S with
  | bad => rw [e] at post; exact post
  | exc x S1 => rw [e] at post; exact post
  | ok ds S1 =>
    rw [e] at post
    intro vs H1 hlen R1
    cases ef : f ds with
    | none => simp only [ef] at post; exact post.elim
    | some w =>
      simp only [ef] at post
      obtain ⟨G, O, R⟩ := R1
      refine ok G H1 ds vs w _ R.le (cellsD_reps R hlen fun c hc => by simp [hc]) ef fun v H' n => post v H' _ .t ?_
      exact Rel.drop (cellsD ds vs) ((R.new n).perm List.perm_middle.symm)
theorem mOpD_len {f : List D → Option W} {ml : SS → RD} (la : ∀ S, LenD S.length (ml S)) (S : SS) : LenE S.length (mOpD f ml S) := by
  unfold mOpD
  have hs := la S
  cases e : ml S with
  | bad => exact trivial
  | exc x S1 => rw [e] at hs; exact hs
  | ok o S1 =>
    rw [e] at hs
    dsimp only
    split <;> first | exact hs | exact trivial

/-! ### a def's promise, its call -/
/-- n arguments, the value m gives -/
def spD (K : PySem.W.Frag) (cl : CL) (n : Nat) (m : List D → Out) : Sp := fun vs H Q E => ∃ (ds : List D) (T : List Cell), vs.length = n ∧ ds.length = n ∧ Rel K cl H (cellsD ds vs ++ T) ∧
  (match m ds with
  | .ret w => ∀ v H', Rel K cl H' ((some v, some w) :: T) → Q v H'
  | .exc x => ∀ H' d, RelX K cl H' d x T → E (.ref (cl x.c)) d H'
  | .bad => False)
def mCall (n : Nat) (m : List D → Out) (ml : SS → RD) : SS → RE := fun S => match ml S with
  | .ok ds S1 => if ds.length = n then (match m ds with | .ret w => .ok (.t w) S1 | .exc x => .exc x S1 | .bad => .bad) else .bad
  | .exc x S1 => .exc x S1
  | .bad => .bad
theorem ev_call {n : Nat} {m : List D → Out} {ml : SS → RD} {Q : VK} (h : tEv K cl Wx (mCall n m ml) σ H Q) : tEd K cl Wx ml σ H fun vs H1 => spD K cl n m vs H1 Q (fun cls d H => Wx cls d σ H) := by
  obtain ⟨S, T, hl, hR, post⟩ := h
  refine ⟨S, T, hl, hR, ?_⟩
  unfold mCall at post
  cases e : ml S with
  | bad => rw [e] at post; exact post
  | exc x S1 => rw [e] at post; exact post
  | ok ds S1 =>
    rw [e] at post
    intro vs H1 hlen R1
    by_cases hn : ds.length = n
    · simp only [if_pos hn] at post
      refine ⟨ds, σ.zip S1 ++ T, hlen.trans hn, hn, R1, ?_⟩
      cases em : m ds with
      | bad => simp only [em] at post; exact post.elim
      | ret w => simp only [em] at post; exact fun v H' R' => post v H' _ .t R'
      | exc x => simp only [em] at post; exact post
    · simp only [if_neg hn] at post; exact post.elim
theorem mCall_len {n : Nat} {m : List D → Out} {ml : SS → RD} (la : ∀ S, LenD S.length (ml S)) (S : SS) : LenE S.length (mCall n m ml S) := by
  unfold mCall
  have hs := la S
  cases e : ml S with
  | bad => exact trivial
  | exc x S1 => rw [e] at hs; exact hs
  | ok o S1 =>
    rw [e] at hs
    dsimp only
    split
    · split <;> first | exact hs | exact trivial
    · exact trivial
end
end Ly
end
section
set_option Elab.async false
set_option linter.all false
set_option maxRecDepth 100000
set_option maxHeartbeats 4000000
/-! LyD: what the operators and built-ins give upon data. -/
namespace Ly
open PySem PySem.Spec PyProof.Rows L2

section
variable {K : PySem.W.Frag} {cl : CL} {G H : Hp}
theorem RepT.rep {d : D} {v : V} (le : Le G H) (r : RepT K cl G H d v) : Rep K cl H d v := by
  cases d with
  | lst xs => obtain ⟨a, vs, e, g, q⟩ := r; exact ⟨a, vs, e, g, Reps.le le _ _ q⟩
  | dic ks xs => obtain ⟨a, vs, e, g, k, q⟩ := r; exact ⟨a, vs, e, g, k, Reps.le le _ _ q⟩
  | obj c ns xs => obtain ⟨a, dx, vs, e, g, k, q⟩ := r; exact ⟨a, dx, vs, e, g, k, Reps.le le _ _ q⟩
  | _ => exact Rep.le le _ _ r
theorem RepsT.reps (le : Le G H) : ∀ {ds : List D} {vs : List V}, RepsT K cl G H ds vs → Reps K cl H ds vs
  | [], _, h => h
  | _ :: _, _, ⟨v, r, e, q, t⟩ => ⟨v, r, e, q.rep le, RepsT.reps le t⟩
end
/-! ### data that == looks at -/
mutual
def toPy : D → Option PyData
  | .non => some .none
  | .bl b => some (.bool b)
  | .int i => some (.int i)
  | .str x => some (.str x)
  | .tup xs => (toPys xs).map .tuple
  | .lst xs => (toPys xs).map .list
  | .frl _ => none
  | .dic _ _ => none
  | .obj _ _ _ => none
def toPys : List D → Option (List PyData)
  | [] => some []
  | x :: xs => match toPy x, toPys xs with
    | some p, some ps => some (p :: ps)
    | _, _ => none
end
section
variable {K : PySem.W.Frag} {cl : CL} {G H : Hp}
mutual
theorem Rep.dp : ∀ (d : D) (v : V) (p : PyData), Rep K cl H d v → toPy d = some p → Dp K H v p
  | .non, v, p, r, e => by cases e; cases (show v = _ from r); exact .non
  | .bl b, v, p, r, e => by cases e; cases (show v = _ from r); exact .bl b
  | .int i, v, p, r, e => by cases e; cases (show v = _ from r); exact .int i
  | .str x, v, p, r, e => by cases e; cases (show v = _ from r); exact .str x
  | .tup xs, v, p, ⟨a, vs, e1, q, r⟩, e => by
    obtain ⟨ps, h1, rfl⟩ := Option.map_eq_some_iff.mp (show (toPys xs).map .tuple = some p from e)
    subst e1
    exact .tup q (Reps.dp xs vs ps r h1)
  | .lst xs, v, p, ⟨a, vs, e1, q, r⟩, e => by
    obtain ⟨ps, h1, rfl⟩ := Option.map_eq_some_iff.mp (show (toPys xs).map .list = some p from e)
    subst e1
    exact .lst (SqL.of q) (Reps.dp xs vs ps r h1)
  | .frl _, _, _, _, e => by cases e
  | .dic _ _, _, _, _, e => by cases e
  | .obj _ _ _, _, _, _, e => by cases e
theorem Reps.dp : ∀ (ds : List D) (vs : List V) (ps : List PyData), Reps K cl H ds vs → toPys ds = some ps → DpAll K H vs ps
  | [], vs, ps, r, e => by cases e; cases (show vs = _ from r); exact .nil
  | x :: xs, vs, ps, ⟨v, u, e1, q, r⟩, e => by
    simp only [toPys] at e
    cases h1 : toPy x with
    | none => simp only [h1] at e; cases e
    | some p =>
      cases h2 : toPys xs with
      | none => simp only [h1, h2] at e; cases e
      | some ps' =>
        simp only [h1, h2] at e
        cases e
        subst e1
        exact .cons (Rep.dp x v p q h1) (Reps.dp xs u ps' r h2)
end
end
/-- a == b -/
def deq (a b : D) : Option Bool := match toPy a, toPy b with
  | some p, some q => if SeqAt.shaped p = true ∧ SeqAt.shaped q = true then some (PyData.eqv p q) else none
  | _, _ => none
/-- a in b, b a list -/
def din (a : D) (b : D) : Option Bool := match toPy a, toPy b with
  | some p, some (.list qs) => if SeqAt.shaped p = true ∧ SeqAt.shaped (.list qs) = true then some (qs.any fun z => PyData.eqv z p) else none
  | _, _ => none
/-- flat data as values of the layer -/
def flatD : D → Option V
  | .non => some .non
  | .bl b => some (.bl b)
  | .int i => some (.int i)
  | .str x => some (.str x)
  | _ => none
def flatsD : List D → Option (List V)
  | [] => some []
  | x :: xs => match flatD x, flatsD xs with
    | some v, some vs => some (v :: vs)
    | _, _ => none
theorem flatD_rep {K : PySem.W.Frag} {cl : CL} {G : Hp} {d : D} {v u : V} (h : flatD d = some u) (r : Rep K cl G d v) : v = u ∧ flatV u = true := by
  cases d <;> simp only [flatD] at h <;> cases h <;> exact ⟨r, rfl⟩
theorem flatsD_rep {K : PySem.W.Frag} {cl : CL} {G : Hp} : ∀ {ds : List D} {vs us : List V}, flatsD ds = some us → Reps K cl G ds vs → vs = us ∧ us.all flatV = true
  | [], vs, us, h, r => by cases h; exact ⟨r, rfl⟩
  | d :: ds, vs, us, h, ⟨v, r, e, q, t⟩ => by
    simp only [flatsD] at h
    cases h1 : flatD d with
    | none => simp only [h1] at h; cases h
    | some u =>
      cases h2 : flatsD ds with
      | none => simp only [h1, h2] at h; cases h
      | some us' =>
        simp only [h1, h2] at h
        cases h
        obtain ⟨e1, f1⟩ := flatD_rep h1 q
        obtain ⟨e2, f2⟩ := flatsD_rep h2 t
        subst e e1 e2
        exact ⟨rfl, by simp [f1, f2]⟩

/-! ### operators -/
inductive BO where
  | add | sub | mul | fdiv | mod | pow
  deriving DecidableEq
def BO.py : BO → Operator
  | .add => .Add | .sub => .Sub | .mul => .Mult | .fdiv => .FloorDiv | .mod => .Mod | .pow => .Pow
def sAdd : D → D → Option W
  | .int i, .int j => some (.d (.int (i + j)))
  | .str x, .str y => if x.length + y.length ≤ sizeLine then some (.d (.str (x ++ y))) else none
  | .lst xs, .lst ys => if xs.length + ys.length ≤ sizeLine then some (.l (xs ++ ys)) else none
  | .tup xs, .tup ys => if xs ≠ [] ∧ ys ≠ [] ∧ xs.length + ys.length ≤ sizeLine then some (.d (.tup (xs ++ ys))) else none
  | _, _ => none
def sSub : D → D → Option W
  | .int i, .int j => some (.d (.int (i - j)))
  | _, _ => none
def strRep (x : Str) (n : Nat) : Str := ⟨(List.replicate n x.cps.toList).flatten.toArray⟩
def sMul : D → D → Option W
  | .int i, .int j => if i.natAbs.log2 + j.natAbs.log2 < 1000000 then some (.d (.int (i * j))) else none
  | .str x, .int j => if x.length ≤ 4096 ∧ 0 ≤ j ∧ j ≤ 4096 then some (.d (.str (Txt.mul x j))) else none
  | _, _ => none
def sFdiv : D → D → Option W
  | .int i, .int j => if 0 < j ∧ j.natAbs.log2 < 9000 then some (.d (.int (i / j))) else none
  | _, _ => none
def sMod : D → D → Option W
  | .int i, .int j => if 0 < j then some (.d (.int (i % j))) else none
  | _, _ => none
def sPow : D → D → Option W
  | .int i, .int j => if 0 ≤ j ∧ j ≤ 1000000 ∧ i.natAbs < 2 ^ 64 then some (.d (.int (i ^ j.toNat))) else none
  | _, _ => none
def sB : BO → D → D → Option W
  | .add => sAdd | .sub => sSub | .mul => sMul | .fdiv => sFdiv | .mod => sMod | .pow => sPow
section
variable {K : PySem.W.Frag} {cl : CL} {X : Cx}
def rAddA (K : PySem.W.Frag) : R2 := fun x y H Q => rI0 (fun i j => .int (i + j)) x y H Q ∨ (∃ i j, x = .str i ∧ y = .str j ∧ i.length + j.length ≤ sizeLine ∧ Q (.str (i ++ j)) H) ∨ rCat x y H Q ∨ rCatT K x y H Q
theorem op_addA : OpR X (binaryOp .Add) (rAddA X.K) := OpR.or op_add (OpR.or op_add_str (OpR.or op_cat op_catT))
theorem add_ok : Op2Ok K cl (rAddA K) sAdd := by
  intro G H d1 d2 v1 v2 w Q le t1 t2 e k
  unfold sAdd at e
  split at e
  · cases e; cases (show v1 = _ from t1); cases (show v2 = _ from t2)
    exact .inl ⟨_, _, rfl, rfl, k _ _ (.d rfl)⟩
  · split at e
    · rename_i hz
      cases e; cases (show v1 = _ from t1); cases (show v2 = _ from t2)
      exact .inr (.inl ⟨_, _, rfl, rfl, hz, k _ _ (.d rfl)⟩)
    · cases e
  · split at e
    · rename_i hz
      cases e
      obtain ⟨a, vs, e1, g1, q1⟩ := t1
      obtain ⟨b, us, e2, g2, q2⟩ := t2
      subst e1 e2
      exact .inr (.inr (.inl ⟨a, b, vs, us, rfl, rfl, g1, g2, by rw [← q1.length, ← q2.length]; exact hz, fun p hp => k _ _ (.l hp (q1.append q2))⟩))
    · cases e
  · split at e
    · rename_i hz
      cases e
      obtain ⟨a, vs, e1, g1, q1⟩ := t1
      obtain ⟨b, us, e2, g2, q2⟩ := t2
      subst e1 e2
      have n1 : vs ≠ [] := fun z => hz.1 (by have := q1.length; rw [z] at this; exact List.eq_nil_of_length_eq_zero this)
      have n2 : us ≠ [] := fun z => hz.2.1 (by have := q2.length; rw [z] at this; exact List.eq_nil_of_length_eq_zero this)
      exact .inr (.inr (.inr ⟨a, b, vs, us, rfl, rfl, SqT.le le g1, SqT.le le g2, n1, by rw [← q1.length, ← q2.length]; exact hz.2.2, fun z => absurd z n2, fun _ p hp => k _ _ (.t hp (q1.append q2))⟩))
    · cases e
  · cases e
theorem sub_ok : Op2Ok K cl (rI0 fun i j => .int (i - j)) sSub := by
  intro G H d1 d2 v1 v2 w Q le t1 t2 e k
  unfold sSub at e
  split at e
  · cases e; cases (show v1 = _ from t1); cases (show v2 = _ from t2)
    exact ⟨_, _, rfl, rfl, k _ _ (.d rfl)⟩
  · cases e
def rMulA : R2 := fun x y H Q => rI CMulW (fun i j => .int (i * j)) x y H Q ∨ ∃ z n, x = .str z ∧ y = .int n ∧ MulOk z n ∧ Q (.str (Txt.mul z n)) H
theorem op_mulA : OpR X (binaryOp .Mult) rMulA := OpR.or op_mulW (by
  intro pins s σ H x y v u Q I rx ry h
  obtain ⟨z, n, rfl, rfl, hk, q⟩ := h
  obtain ⟨t, rfl⟩ := rx
  obtain ⟨t', rfl⟩ := ry
  exact SB.mul hk fun t2 k2 => ⟨.str (Txt.mul z n), H, I.tok _, ⟨_, rfl⟩, q⟩)
theorem mul_ok : Op2Ok K cl rMulA sMul := by
  intro G H d1 d2 v1 v2 w Q le t1 t2 e k
  unfold sMul at e
  split at e
  · split at e
    · rename_i hz
      cases e; cases (show v1 = _ from t1); cases (show v2 = _ from t2)
      exact .inl ⟨_, _, rfl, rfl, hz, k _ _ (.d rfl)⟩
    · cases e
  · split at e
    · rename_i hz
      cases e; cases (show v1 = _ from t1); cases (show v2 = _ from t2)
      exact .inr ⟨_, _, rfl, rfl, mulOk_of 4096 4096 hz.1 hz.2.2 (by omega) (by decide) (by decide), k _ _ (.d rfl)⟩
    · cases e
  · cases e
theorem fdiv_ok : Op2Ok K cl (rI CDivW fun i j => .int (i / j)) sFdiv := by
  intro G H d1 d2 v1 v2 w Q le t1 t2 e k
  unfold sFdiv at e
  split at e
  · split at e
    · rename_i hz
      cases e; cases (show v1 = _ from t1); cases (show v2 = _ from t2)
      exact ⟨_, _, rfl, rfl, hz, k _ _ (.d rfl)⟩
    · cases e
  · cases e
theorem mod_ok : Op2Ok K cl (rI (fun _ j => 0 < j) fun i j => .int (i % j)) sMod := by
  intro G H d1 d2 v1 v2 w Q le t1 t2 e k
  unfold sMod at e
  split at e
  · split at e
    · rename_i hz
      cases e; cases (show v1 = _ from t1); cases (show v2 = _ from t2)
      exact ⟨_, _, rfl, rfl, hz, k _ _ (.d rfl)⟩
    · cases e
  · cases e
theorem pow_ok : Op2Ok K cl (rI CPow fun i j => .int (i ^ j.toNat)) sPow := by
  intro G H d1 d2 v1 v2 w Q le t1 t2 e k
  unfold sPow at e
  split at e
  · split at e
    · rename_i hz
      cases e; cases (show v1 = _ from t1); cases (show v2 = _ from t2)
      exact ⟨_, _, rfl, rfl, hz, k _ _ (.d rfl)⟩
    · cases e
  · cases e
theorem pe_bin {a b : Expr} {pos : Pos} {Wx : WX} {ma mb : SS → RE} (o : BO) (ha : PE X a (tEv X.K cl Wx ma)) (hb : PE X b (tEv X.K cl Wx mb)) (la : ∀ S, LenE S.length (ma S)) : PE X (.BinOp a o.py b pos) (tEv X.K cl Wx (mOp2 (sB o) ma mb)) := by
  cases o with
  | add => exact PE.imp (pe_op op_addA ha hb) fun σ H Q => ev_op2 add_ok la
  | sub => exact PE.imp (pe_op op_sub ha hb) fun σ H Q => ev_op2 sub_ok la
  | mul => exact PE.imp (pe_op op_mulA ha hb) fun σ H Q => ev_op2 mul_ok la
  | fdiv => exact PE.imp (pe_op op_fdivW ha hb) fun σ H Q => ev_op2 fdiv_ok la
  | mod => exact PE.imp (pe_op op_mod ha hb) fun σ H Q => ev_op2 mod_ok la
  | pow => exact PE.imp (pe_op op_pow ha hb) fun σ H Q => ev_op2 pow_ok la
end

/-! ### comparisons -/
inductive CO where
  | lt | le | gt | ge | eq | ne | is | isnot | «in» | notin
  deriving DecidableEq
def CO.py : CO → CmpOp
  | .lt => .Lt | .le => .LtE | .gt => .Gt | .ge => .GtE | .eq => .Eq | .ne => .NotEq | .is => .Is | .isnot => .IsNot | .in => .In | .notin => .NotIn
def strIn (i j : Str) : Bool := !(Builtin.Str.occurrences j i 0 j.length 1).isEmpty
def cLt : D → D → Option Bool
  | .int i, .int j => some (decide (i < j))
  | .str i, .str j => some (decide (i.cps.toList < j.cps.toList))
  | _, _ => none
def cLe : D → D → Option Bool
  | .int i, .int j => some (decide (i ≤ j))
  | _, _ => none
def cIs : D → D → Option Bool
  | .non, .non => some true
  | .bl _, .non | .int _, .non | .str _, .non | .tup _, .non | .lst _, .non | .dic _ _, .non | .obj _ _ _, .non | .frl _, .non => some false
  | _, _ => none
def cIn : D → D → Option Bool
  | .str i, .str j => some (strIn i j)
  | a, .tup xs => match flatD a, flatsD xs with
    | some v, some vs => some (inV v vs)
    | _, _ => none
  | a, b => din a b
def sC : CO → D → D → Option Bool
  | .lt => cLt | .le => cLe | .gt => fun a b => cLt b a | .ge => fun a b => cLe b a | .eq => deq | .ne => fun a b => (deq a b).map not | .is => cIs | .isnot => fun a b => (cIs a b).map not
  | .in => cIn | .notin => fun a b => (cIn a b).map not
def sCW (o : CO) (a b : D) : Option W := (sC o a b).map fun k => .d (.bl k)
section
variable {K : PySem.W.Frag} {cl : CL} {X : Cx}
def rLtA : R2 := fun x y H Q => rI0 (fun i j => .bl (decide (i < j))) x y H Q ∨ ∃ i j, x = .str i ∧ y = .str j ∧ Q (.bl (decide (i.cps.toList < j.cps.toList))) H
def rGtA : R2 := fun x y H Q => rI0 (fun i j => .bl (decide (j < i))) x y H Q ∨ ∃ i j, x = .str i ∧ y = .str j ∧ Q (.bl (decide (j.cps.toList < i.cps.toList))) H
def rInA (K : PySem.W.Frag) : R2 := fun x y H Q => (∃ i j, x = .str i ∧ y = .str j ∧ Q (.bl (strIn i j)) H) ∨ rIn K false x y H Q ∨ rInD K x y H Q
def rNinA (K : PySem.W.Frag) : R2 := fun x y H Q => (∃ i j, x = .str i ∧ y = .str j ∧ Q (.bl (!(strIn i j))) H) ∨ rIn K true x y H Q ∨ rNotInD K x y H Q
theorem lt_ok : Op2Ok K cl rLtA (sCW .lt) := by
  intro G H d1 d2 v1 v2 w Q le t1 t2 e k
  obtain ⟨b, e', rfl⟩ := Option.map_eq_some_iff.mp e
  clear e
  have e := e'
  unfold sC cLt at e
  dsimp only at e
  split at e
  · cases e; cases (show v1 = _ from t1); cases (show v2 = _ from t2)
    exact .inl ⟨_, _, rfl, rfl, k _ _ (.d rfl)⟩
  · cases e; cases (show v1 = _ from t1); cases (show v2 = _ from t2)
    exact .inr ⟨_, _, rfl, rfl, k _ _ (.d rfl)⟩
  · cases e
theorem gt_ok : Op2Ok K cl rGtA (sCW .gt) := by
  intro G H d1 d2 v1 v2 w Q le t1 t2 e k
  obtain ⟨b, e', rfl⟩ := Option.map_eq_some_iff.mp e
  clear e
  have e := e'
  unfold sC cLt at e
  dsimp only at e
  split at e
  · cases e; cases (show v1 = _ from t1); cases (show v2 = _ from t2)
    exact .inl ⟨_, _, rfl, rfl, k _ _ (.d rfl)⟩
  · cases e; cases (show v1 = _ from t1); cases (show v2 = _ from t2)
    exact .inr ⟨_, _, rfl, rfl, k _ _ (.d rfl)⟩
  · cases e
theorem le_ok : Op2Ok K cl (rI0 fun i j => .bl (decide (i ≤ j))) (sCW .le) := by
  intro G H d1 d2 v1 v2 w Q le t1 t2 e k
  obtain ⟨b, e', rfl⟩ := Option.map_eq_some_iff.mp e
  clear e
  have e := e'
  unfold sC cLe at e
  dsimp only at e
  split at e
  · cases e; cases (show v1 = _ from t1); cases (show v2 = _ from t2)
    exact ⟨_, _, rfl, rfl, k _ _ (.d rfl)⟩
  · cases e
theorem ge_ok : Op2Ok K cl (rI0 fun i j => .bl (decide (j ≤ i))) (sCW .ge) := by
  intro G H d1 d2 v1 v2 w Q le t1 t2 e k
  obtain ⟨b, e', rfl⟩ := Option.map_eq_some_iff.mp e
  clear e
  have e := e'
  unfold sC cLe at e
  dsimp only at e
  split at e
  · cases e; cases (show v1 = _ from t1); cases (show v2 = _ from t2)
    exact ⟨_, _, rfl, rfl, k _ _ (.d rfl)⟩
  · cases e
theorem deq_of {a b : D} {k : Bool} (h : deq a b = some k) : ∃ p q, toPy a = some p ∧ toPy b = some q ∧ SeqAt.shaped p = true ∧ SeqAt.shaped q = true ∧ PyData.eqv p q = k := by
  unfold deq at h
  split at h
  · rename_i p q e1 e2
    split at h
    · rename_i hz; exact ⟨p, q, e1, e2, hz.1, hz.2, Option.some.inj h⟩
    · cases h
  · cases h
theorem eq_ok : Op2Ok K cl (rEqD K) (sCW .eq) := by
  intro G H d1 d2 v1 v2 w Q le t1 t2 e k
  obtain ⟨b, e', rfl⟩ := Option.map_eq_some_iff.mp e
  clear e
  have e := e'
  obtain ⟨p, q, e1, e2, s1, s2, rfl⟩ := deq_of e
  exact ⟨p, q, Rep.dp _ _ _ (t1.rep le) e1, Rep.dp _ _ _ (t2.rep le) e2, s1, s2, k _ _ (.d rfl)⟩
theorem ne_ok : Op2Ok K cl (rNeD K) (sCW .ne) := by
  intro G H d1 d2 v1 v2 w Q le t1 t2 e k
  obtain ⟨b, e', rfl⟩ := Option.map_eq_some_iff.mp e
  clear e
  obtain ⟨c, e, rfl⟩ := Option.map_eq_some_iff.mp e'
  obtain ⟨p, q, e1, e2, s1, s2, rfl⟩ := deq_of e
  exact ⟨p, q, Rep.dp _ _ _ (t1.rep le) e1, Rep.dp _ _ _ (t2.rep le) e2, s1, s2, k _ _ (.d rfl)⟩
theorem is_of {a b : D} {k : Bool} {v u : V} {G H : Hp} (t1 : RepT K cl G H a v) (t2 : RepT K cl G H b u) (h : cIs a b = some k) : u = .non ∧ decide (v = .non) = k := by
  unfold cIs at h
  split at h <;> cases h <;> refine ⟨t2, ?_⟩
  · cases (show v = _ from t1); rfl
  · cases (show v = _ from t1); rfl
  · cases (show v = _ from t1); rfl
  · cases (show v = _ from t1); rfl
  · obtain ⟨a, vs, rfl, _⟩ := t1; rfl
  · obtain ⟨a, vs, rfl, _⟩ := t1; rfl
  · obtain ⟨a, vs, rfl, _⟩ := t1; rfl
  · obtain ⟨a, dx, vs, rfl, _⟩ := t1; rfl
  · obtain ⟨a, vs, rfl, _⟩ := t1; rfl
theorem is_ok : Op2Ok K cl (fun x y H Q => y = .non ∧ Q (.bl (decide (x = .non))) H) (sCW .is) := by
  intro G H d1 d2 v1 v2 w Q le t1 t2 e k
  obtain ⟨b, e', rfl⟩ := Option.map_eq_some_iff.mp e
  clear e
  have e := e'
  obtain ⟨h1, h2⟩ := is_of t1 t2 e
  exact ⟨h1, k _ _ (.d (by rw [h2]; rfl))⟩
theorem isnot_ok : Op2Ok K cl (fun x y H Q => y = .non ∧ Q (.bl (!decide (x = .non))) H) (sCW .isnot) := by
  intro G H d1 d2 v1 v2 w Q le t1 t2 e k
  obtain ⟨b, e', rfl⟩ := Option.map_eq_some_iff.mp e
  clear e
  obtain ⟨c, e, rfl⟩ := Option.map_eq_some_iff.mp e'
  obtain ⟨h1, h2⟩ := is_of t1 t2 e
  exact ⟨h1, k _ _ (.d (by rw [h2]; rfl))⟩
theorem din_of {a b : D} {k : Bool} (h : din a b = some k) : ∃ p qs, toPy a = some p ∧ toPy b = some (.list qs) ∧ SeqAt.shaped p = true ∧ SeqAt.shaped (.list qs) = true ∧ (qs.any fun z => PyData.eqv z p) = k := by
  unfold din at h
  split at h
  · rename_i p qs e1 e2
    split at h
    · rename_i hz; exact ⟨p, qs, e1, e2, hz.1, hz.2, Option.some.inj h⟩
    · cases h
  · cases h
theorem in_of {a b : D} {k : Bool} {v u : V} {G H : Hp} (le : Le G H) (t1 : RepT K cl G H a v) (t2 : RepT K cl G H b u) (h : cIn a b = some k) :
    (∃ i j, v = .str i ∧ u = .str j ∧ strIn i j = k) ∨ (∃ p xs, u = .ref p ∧ (SqL K H p xs ∨ SqT K H p xs) ∧ flatV v = true ∧ xs.all flatV = true ∧ inV v xs = k) ∨
      ∃ d ds, Dp K H v d ∧ Dp K H u (.list ds) ∧ SeqAt.shaped d = true ∧ SeqAt.shaped (.list ds) = true ∧ (ds.any fun z => PyData.eqv z d) = k := by
  unfold cIn at h
  split at h
  · cases h; cases (show v = _ from t1); cases (show u = _ from t2)
    exact .inl ⟨_, _, rfl, rfl, rfl⟩
  · split at h
    · rename_i x vs e1 e2
      cases h
      obtain ⟨rfl, f1⟩ := flatD_rep e1 (t1.rep le)
      obtain ⟨p, us, rfl, g, r⟩ := t2
      obtain ⟨rfl, f2⟩ := flatsD_rep e2 r
      exact .inr (.inl ⟨p, _, rfl, .inr (SqT.le le g), f1, f2, rfl⟩)
    · cases h
  · obtain ⟨p, qs, e1, e2, s1, s2, rfl⟩ := din_of h
    exact .inr (.inr ⟨p, qs, Rep.dp _ _ _ (t1.rep le) e1, Rep.dp _ _ _ (t2.rep le) e2, s1, s2, rfl⟩)
theorem in_ok : Op2Ok K cl (rInA K) (sCW .in) := by
  intro G H d1 d2 v1 v2 w Q le t1 t2 e k
  obtain ⟨b, e', rfl⟩ := Option.map_eq_some_iff.mp e
  clear e
  have e := e'
  rcases in_of le t1 t2 e with ⟨i, j, rfl, rfl, rfl⟩ | ⟨p, xs, rfl, h1, h2, h3, rfl⟩ | ⟨d, ds, h1, h2, h3, h4, rfl⟩
  · exact .inl ⟨_, _, rfl, rfl, k _ _ (.d rfl)⟩
  · exact .inr (.inl ⟨p, xs, rfl, h1, h2, h3, k _ _ (.d rfl)⟩)
  · exact .inr (.inr ⟨d, ds, h1, h2, h3, h4, k _ _ (.d rfl)⟩)
theorem notin_ok : Op2Ok K cl (rNinA K) (sCW .notin) := by
  intro G H d1 d2 v1 v2 w Q le t1 t2 e k
  obtain ⟨b, e', rfl⟩ := Option.map_eq_some_iff.mp e
  clear e
  obtain ⟨c, e, rfl⟩ := Option.map_eq_some_iff.mp e'
  rcases in_of le t1 t2 e with ⟨i, j, rfl, rfl, rfl⟩ | ⟨p, xs, rfl, h1, h2, h3, rfl⟩ | ⟨d, ds, h1, h2, h3, h4, rfl⟩
  · exact .inl ⟨_, _, rfl, rfl, k _ _ (.d rfl)⟩
  · exact .inr (.inl ⟨p, xs, rfl, h1, h2, h3, k _ _ (.d rfl)⟩)
  · exact .inr (.inr ⟨d, ds, h1, h2, h3, h4, k _ _ (.d rfl)⟩)
/-- the reading of an operator, its rule -/
def rC (K : PySem.W.Frag) : CO → R2
  | .lt => rLtA | .le => rI0 fun i j => .bl (decide (i ≤ j)) | .gt => rGtA | .ge => rI0 fun i j => .bl (decide (j ≤ i)) | .eq => rEqD K | .ne => rNeD K
  | .is => fun x y H Q => y = .non ∧ Q (.bl (decide (x = .non))) H | .isnot => fun x y H Q => y = .non ∧ Q (.bl (!decide (x = .non))) H | .in => rInA K | .notin => rNinA K
theorem op_C (hu : X.A.units + 65 < cLine) (o : CO) : OpR X (compareOp o.py) (rC X.K o) := by
  cases o with
  | lt => exact OpR.or op_lt op_lt_str
  | le => exact op_le
  | gt => exact OpR.or op_gt op_gt_str
  | ge => exact op_ge
  | eq => exact op_eqD (by omega)
  | ne => exact op_neD (by omega)
  | is => exact op_isN
  | isnot => exact op_notN
  | «in» => exact OpR.or op_in_str (OpR.or op_in_seq (op_inD hu))
  | notin => exact OpR.or op_notin_str (OpR.or op_notIn_seq (op_notInD hu))
theorem cmp_ok (o : CO) : Op2Ok K cl (rC K o) (sCW o) := by
  cases o with
  | lt => exact lt_ok
  | le => exact le_ok
  | gt => exact gt_ok
  | ge => exact ge_ok
  | eq => exact eq_ok
  | ne => exact ne_ok
  | is => exact is_ok
  | isnot => exact isnot_ok
  | «in» => exact in_ok
  | notin => exact notin_ok
end
end Ly
end
section
set_option Elab.async false
set_option linter.all false
set_option maxRecDepth 100000
set_option maxHeartbeats 4000000
/-! LyE: places, slices, displays, built-ins, methods of texts, tests, chains. -/
namespace Ly
open PySem PySem.Spec PyProof.Rows L2

/-! ### places and slices -/
def sIx : D → D → Option W
  | .lst xs, .int i => (atI xs i).map .d
  | .tup xs, .int i => (atI xs i).map .d
  | .frl xs, .int i => (atI xs i).map .d
  | .str z, .int i => if z.length ≤ sizeLine then (atI z.cps.toList i).map fun c => .d (.str ⟨#[c]⟩) else none
  | _, _ => none
def cutD (xs : List D) (lo hi : Option Int) : List D := (xs.drop (HT.sIx xs.length 0 lo)).take (HT.sIx xs.length xs.length hi - HT.sIx xs.length 0 lo)
def sSl : D → Option Int → Option Int → Option W
  | .lst xs, lo, hi => some (.l (cutD xs lo hi))
  | .frl xs, lo, hi => some (.l (cutD xs lo hi))
  | .tup xs, lo, hi => if HT.sIx xs.length 0 lo = 0 ∧ HT.sIx xs.length xs.length hi = xs.length then none else some (.d (.tup (cutD xs lo hi)))
  | .str z, lo, hi => if z.length ≤ sizeLine then some (.d (.str (cutS z lo hi))) else none
  | _, _, _ => none
section
variable {K : PySem.W.Frag} {cl : CL} {X : Cx} {G H : Hp}
theorem Reps.atI {xs : List D} {vs : List V} {i : Int} {x : D} (r : Reps K cl G xs vs) (h : atI xs i = some x) : ∃ v, L2.atI vs i = some v ∧ Rep K cl G x v := by
  unfold L2.atI at h ⊢
  rw [← r.length]
  cases e : ixN xs.length i with
  | none => rw [e] at h; cases h
  | some j =>
    rw [e] at h
    exact r.get h
theorem ix_ok : Op2Ok K cl (rIx K) sIx := by
  intro G H d1 d2 v1 v2 w Q le t1 t2 e k
  unfold sIx at e
  split at e
  · obtain ⟨x, h, rfl⟩ := Option.map_eq_some_iff.mp e
    obtain ⟨a, vs, rfl, g, r⟩ := t1
    cases (show v2 = _ from t2)
    obtain ⟨v, hv, rv⟩ := r.atI h
    exact .inl ⟨a, vs, _, v, rfl, rfl, SqL.of g, hv, k _ _ (.d rv)⟩
  · obtain ⟨x, h, rfl⟩ := Option.map_eq_some_iff.mp e
    obtain ⟨a, vs, rfl, g, r⟩ := t1
    cases (show v2 = _ from t2)
    obtain ⟨v, hv, rv⟩ := r.atI h
    exact .inr (.inl ⟨a, vs, _, v, rfl, rfl, SqT.le le g, hv, k _ _ (.d rv)⟩)
  · obtain ⟨x, h, rfl⟩ := Option.map_eq_some_iff.mp e
    obtain ⟨a, vs, rfl, g, r⟩ := t1
    cases (show v2 = _ from t2)
    obtain ⟨v, hv, rv⟩ := r.atI h
    exact .inl ⟨a, vs, _, v, rfl, rfl, SqL.le le g, hv, k _ _ (.d rv)⟩
  · split at e
    · rename_i hz
      obtain ⟨x, h, rfl⟩ := Option.map_eq_some_iff.mp e
      cases (show v1 = _ from t1)
      cases (show v2 = _ from t2)
      exact .inr (.inr ⟨_, _, x, rfl, rfl, hz, h, k _ _ (.d rfl)⟩)
    · cases e
  · cases e
def rSlA (K : PySem.W.Frag) : V → Option Int → Option Int → Hp → VK → Prop := fun x lo hi H Q => rSlL K x lo hi H Q ∨ rSlT K x lo hi H Q ∨ rSlS x lo hi H Q
theorem sl_any : SlR X (rSlA X.K) := SlR.or sl_list (SlR.or sl_tup sl_str)
theorem Reps.cut {xs : List D} {vs : List V} (r : Reps K cl G xs vs) (lo hi : Option Int) : Reps K cl G (cutD xs lo hi) (cutV vs lo hi) := by
  unfold cutD cutV
  rw [← r.length]
  exact (r.drop _).take _
theorem sl_ok {d : D} {v : V} {lo hi : Option Int} {w : W} {Q : VK} (le : Le G H) (t : RepT K cl G H d v) (e : sSl d lo hi = some w) (k : ∀ v H', NewAt K cl G H w v H' → Q v H') : rSlA K v lo hi H Q := by
  unfold sSl at e
  split at e
  · cases e
    obtain ⟨a, vs, rfl, g, r⟩ := t
    exact .inl ⟨a, vs, rfl, SqL.of g, fun p hp => k _ _ (.l hp (r.cut _ _))⟩
  · cases e
    obtain ⟨a, vs, rfl, g, r⟩ := t
    exact .inl ⟨a, vs, rfl, SqL.le le g, fun p hp => k _ _ (.l hp (r.cut _ _))⟩
  · split at e
    · cases e
    · rename_i hz
      cases e
      obtain ⟨a, vs, rfl, g, r⟩ := t
      exact .inr (.inl ⟨a, vs, rfl, SqT.le le g, by rw [← r.length]; exact hz, fun p hp => k _ _ (.t hp (r.cut _ _))⟩)
  · split at e
    · rename_i hz
      cases e
      cases (show v = _ from t)
      exact .inr (.inr ⟨_, rfl, hz, k _ _ (.d rfl)⟩)
    · cases e
  · cases e
end
/-! ### slices: the parts -/
inductive RI where
  | ok (o : Option Int) (S : SS) | exc (x : Exn) (S : SS) | bad
def LenI (n : Nat) : RI → Prop
  | .ok _ S => S.length = n
  | .exc _ S => S.length = n
  | .bad => True
section
variable (K : PySem.W.Frag) (cl : CL) (Wx : WX)
def EiPost (σ : L2.St) (T : List Cell) (Q : Option Int → Hp → Prop) : RI → Prop
  | .ok o S => ∀ H, Rel K cl H (σ.zip S ++ T) → Q o H
  | .exc x S => XPost K cl Wx σ T x S
  | .bad => False
def tEi (m : SS → RI) : TO := fun σ H Q => ∃ S T, S.length = σ.length ∧ Rel K cl H (σ.zip S ++ T) ∧ EiPost K cl Wx σ T Q (m S)
end
def mNoPart : SS → RI := fun S => .ok none S
def mPart (me : SS → RE) : SS → RI := fun S => match me S with
  | .ok o S1 => (match o.get S1 with | some (.int i) => .ok (some i) S1 | _ => .bad)
  | .exc x S1 => .exc x S1
  | .bad => .bad
def mSl (ma : SS → RE) (ml mh : SS → RI) : SS → RE := fun S => (ma S).bind fun o S1 => match ml S1 with
  | .ok lo S2 => (match mh S2 with
    | .ok hi S3 => (match o.get S3 with
      | some d => (match sSl d lo hi with | some w => .ok (.t w) S3 | none => .bad)
      | none => .bad)
    | .exc x S3 => .exc x S3
    | .bad => .bad)
  | .exc x S2 => .exc x S2
  | .bad => .bad
section
variable {K : PySem.W.Frag} {cl : CL} {Wx : WX} {σ : L2.St} {H : Hp} {X : Cx}
theorem PO.imp {e : Option Expr} {t t' : TO} (h : PO X e t) (k : ∀ σ H Q, t' σ H Q → t σ H Q) : PO X e t' := ⟨fun pins s σ H Q I q => h.run pins s σ H Q I (k σ H Q q)⟩
theorem po_no : PO X none (tEi X.K cl Wx mNoPart) := PO.imp po_none fun σ H Q ⟨S, T, hl, hR, post⟩ => post H hR
theorem ei_part {me : SS → RE} {Q : Option Int → Hp → Prop} (h : tEi K cl Wx (mPart me) σ H Q) : tPart (tEv K cl Wx me) σ H Q := by
  obtain ⟨S, T, hl, hR, post⟩ := h
  refine ⟨S, T, hl, hR, ?_⟩
  unfold mPart at post
  cases e : me S with
  | bad => rw [e] at post; exact post
  | exc x S1 => rw [e] at post; exact post
  | ok o S1 =>
    rw [e] at post
    intro v H1 E a R
    cases g : o.get S1 with
    | none => simp only [g] at post; exact post.elim
    | some d =>
      cases d with
      | int i =>
        simp only [g] at post
        obtain ⟨G, O, R'⟩ := R
        have t := opd_read a g R' fun c hc => by rcases hc with hc | hc <;> simp [hc]
        cases (show v = _ from t)
        exact ⟨i, rfl, post H1 (Rel.drop E ⟨G, O, R'⟩)⟩
      | _ => simp only [g] at post; exact post.elim
theorem po_part {e : Expr} {me : SS → RE} (h : PE X e (tEv X.K cl Wx me)) : PO X (some e) (tEi X.K cl Wx (mPart me)) := PO.imp (po_some h) fun _ _ _ => ei_part
theorem mPart_len {me : SS → RE} (la : ∀ S, LenE S.length (me S)) (S : SS) : LenI S.length (mPart me S) := by
  unfold mPart
  have hs := la S
  cases e : me S with
  | bad => exact trivial
  | exc x S1 => rw [e] at hs; exact hs
  | ok o S1 =>
    rw [e] at hs
    dsimp only
    split <;> first | exact hs | exact trivial
theorem ev_sl {ma : SS → RE} {ml mh : SS → RI} {Q : VK} (la : ∀ S, LenE S.length (ma S)) (ll : ∀ S, LenI S.length (ml S)) (h : tEv K cl Wx (mSl ma ml mh) σ H Q) : tSl (rSlA K) (tEv K cl Wx ma) (tEi K cl Wx ml) (tEi K cl Wx mh) σ H Q := by
  obtain ⟨S, T, hl, hR, post⟩ := h
  refine ⟨S, T, hl, hR, ?_⟩
  unfold mSl at post
  have hs := la S
  cases e : ma S with
  | bad => rw [e] at post; exact post
  | exc x S1 => rw [e] at post; exact post
  | ok o1 S1 =>
    rw [e] at post hs
    intro v1 H1 E1 a1 R1
    refine ⟨S1, E1 ++ T, hs.trans hl, R1.perm pcomm, ?_⟩
    have hs2 := ll S1
    cases e2 : ml S1 with
    | bad => simp only [RE.bind, e2] at post; exact post
    | exc x S2 => simp only [RE.bind, e2] at post; exact XPost.more E1 post
    | ok lo S2 =>
      rw [e2] at hs2
      simp only [RE.bind, e2] at post
      intro H2 R2
      refine ⟨S2, E1 ++ T, (show S2.length = S1.length from hs2).trans (hs.trans hl), R2, ?_⟩
      cases e3 : mh S2 with
      | bad => simp only [e3] at post; exact post
      | exc x S3 => simp only [e3] at post; exact XPost.more E1 post
      | ok hi S3 =>
        simp only [e3] at post
        intro H3 R3
        cases g1 : o1.get S3 with
        | none => simp only [g1] at post; exact post.elim
        | some d1 =>
          cases ef : sSl d1 lo hi with
          | none => simp only [g1, ef] at post; exact post.elim
          | some w =>
            simp only [g1, ef] at post
            obtain ⟨G, O, R⟩ := R3
            have t1 := opd_read a1 g1 R fun c hc => by rcases hc with hc | hc <;> simp [hc]
            refine sl_ok R.le t1 ef fun v H' n => post v H' _ .t ?_
            exact Rel.drop E1 ((R.new n).perm ((List.Perm.cons _ pcomm).trans List.perm_middle.symm))
theorem mSl_len {ma : SS → RE} {ml mh : SS → RI} (la : ∀ S, LenE S.length (ma S)) (ll : ∀ S, LenI S.length (ml S)) (lh : ∀ S, LenI S.length (mh S)) (S : SS) : LenE S.length (mSl ma ml mh S) := by
  unfold mSl
  have hs := la S
  cases e : ma S with
  | bad => exact trivial
  | exc x S1 => rw [e] at hs; exact hs
  | ok o S1 =>
    rw [e] at hs
    have hs2 := ll S1
    cases e2 : ml S1 with
    | bad => simp only [RE.bind, e2]; exact trivial
    | exc x S2 => rw [e2] at hs2; simp only [RE.bind, e2]; exact (show S2.length = _ from hs2).trans hs
    | ok lo S2 =>
      rw [e2] at hs2
      have hs3 := lh S2
      cases e3 : mh S2 with
      | bad => simp only [RE.bind, e2, e3]; exact trivial
      | exc x S3 => rw [e3] at hs3; simp only [RE.bind, e2, e3]; exact (show S3.length = _ from hs3).trans ((show S2.length = _ from hs2).trans hs)
      | ok hi S3 =>
        rw [e3] at hs3
        simp only [RE.bind, e2, e3]
        split
        · split <;> first | exact (show S3.length = _ from hs3).trans ((show S2.length = _ from hs2).trans hs) | exact trivial
        · exact trivial
theorem pe_sl {e : Expr} {lo hi : Option Expr} {p2 pos : Pos} {ma : SS → RE} {ml mh : SS → RI} (ha : PE X e (tEv X.K cl Wx ma)) (hl : PO X lo (tEi X.K cl Wx ml)) (hh : PO X hi (tEi X.K cl Wx mh)) (la : ∀ S, LenE S.length (ma S)) (ll : ∀ S, LenI S.length (ml S)) :
    PE X (.Subscript e (.Slice lo hi none p2) pos) (tEv X.K cl Wx (mSl ma ml mh)) := PE.imp (pe_slice sl_any ha hl hh) fun _ _ _ => ev_sl la ll
theorem plainIx {b : Expr} (h : ∀ l u p, b ≠ .Slice l u none p) : PlainIx b := by
  intro o i
  cases b with
  | Slice l u st p =>
    cases st with
    | none => exact absurd rfl (h l u p)
    | some x => rfl
  | _ => rfl
theorem pe_ixD {a b : Expr} {pos : Pos} {ma mb : SS → RE} (ha : PE X a (tEv X.K cl Wx ma)) (hb : PE X b (tEv X.K cl Wx mb)) (la : ∀ S, LenE S.length (ma S)) (hs : ∀ l u p, b ≠ .Slice l u none p) : PE X (.Subscript a b pos) (tEv X.K cl Wx (mOp2 sIx ma mb)) :=
  PE.imp (pe_ix ix_seq ha hb (plainIx hs)) fun _ _ _ => ev_op2 ix_ok la

/-! ### displays -/
def sTup (ds : List D) : Option W := if ds.length ≤ sizeLine then some (.d (.tup ds)) else none
def sLst (ds : List D) : Option W := if ds.length ≤ sizeLine then some (.l ds) else none
theorem pe_tupD {es : List Expr} {k : Nat} {pos : Pos} {ml : SS → RD} (h : PA X es (tEd X.K cl Wx ml)) : PE X (.Tuple es k pos) (tEv X.K cl Wx (mOpD sTup ml)) := by
  refine PE.imp (pe_tup h) fun σ H Q q => ev_opD (f := sTup) (r := fun xs H Q => xs.length ≤ sizeLine ∧ ∀ p, H p = none → Q (.ref p) (upd H p (.tup xs))) ?_ q
  intro G H ds vs w Q le t e k
  unfold sTup at e
  split at e
  · rename_i hz
    cases e
    exact ⟨by rw [← t.length]; exact hz, fun p hp => k _ _ (.t hp t)⟩
  · cases e
theorem pe_lstD {es : List Expr} {pos : Pos} {ml : SS → RD} (h : PA X es (tEd X.K cl Wx ml)) : PE X (.List es pos) (tEv X.K cl Wx (mOpD sLst ml)) := by
  refine PE.imp (pe_lst h) fun σ H Q q => ev_opD (f := sLst) (r := fun xs H Q => xs.length ≤ sizeLine ∧ ∀ p, H p = none → Q (.ref p) (upd H p (.lst xs))) ?_ q
  intro G H ds vs w Q le t e k
  unfold sLst at e
  split at e
  · rename_i hz
    cases e
    exact ⟨by rw [← t.length]; exact hz, fun p hp => k _ _ (.l hp t)⟩
  · cases e
end

/-! ### built-ins -/
inductive BI where
  | abs | int | len | list | tuple | all
  deriving DecidableEq
def BI.nm : BI → Str
  | .abs => "abs" | .int => "int" | .len => "len" | .list => "list" | .tuple => "tuple" | .all => "all"
def blsD : List D → Option (List Bool)
  | [] => some []
  | .bl b :: xs => (blsD xs).map (b :: ·)
  | _ => none
def strsD : List D → Option (List Str)
  | [] => some []
  | .str b :: xs => (strsD xs).map (b :: ·)
  | _ => none
theorem blsD_rep {K : PySem.W.Frag} {cl : CL} {G : Hp} : ∀ {ds : List D} {vs : List V} {bs : List Bool}, blsD ds = some bs → Reps K cl G ds vs → vs = bs.map V.bl
  | [], vs, bs, h, r => by cases h; exact r
  | d :: ds, vs, bs, h, ⟨v, r, e, q, t⟩ => by
    cases d with
    | bl b =>
      obtain ⟨bs', h1, rfl⟩ := Option.map_eq_some_iff.mp (show (blsD ds).map (b :: ·) = some bs from h)
      have z := blsD_rep h1 t
      cases (show v = _ from q)
      rw [e, z]
      rfl
    | _ => cases h
theorem strsD_rep {K : PySem.W.Frag} {cl : CL} {G : Hp} : ∀ {ds : List D} {vs : List V} {bs : List Str}, strsD ds = some bs → Reps K cl G ds vs → vs = bs.map V.str
  | [], vs, bs, h, r => by cases h; exact r
  | d :: ds, vs, bs, h, ⟨v, r, e, q, t⟩ => by
    cases d with
    | str b =>
      obtain ⟨bs', h1, rfl⟩ := Option.map_eq_some_iff.mp (show (strsD ds).map (b :: ·) = some bs from h)
      have z := strsD_rep h1 t
      cases (show v = _ from q)
      rw [e, z]
      rfl
    | _ => cases h
def sBI : BI → List D → Option W
  | .abs, [.int i] => some (.d (.int (if i < 0 then -i else i)))
  | .int, [.int i] => some (.d (.int i))
  | .int, [.bl b] => some (.d (.int (if b then 1 else 0)))
  | .len, [.str z] => if z.length ≤ sizeLine then some (.d (.int z.length)) else none
  | .len, [.lst xs] => some (.d (.int xs.length))
  | .len, [.tup xs] => some (.d (.int xs.length))
  | .len, [.frl xs] => some (.d (.int xs.length))
  | .list, [.lst xs] => some (.l xs)
  | .list, [.tup xs] => some (.l xs)
  | .list, [.frl xs] => some (.l xs)
  | .tuple, [.lst xs] => some (.d (.tup xs))
  | .tuple, [.tup xs] => some (.d (.tup xs))
  | .all, [.lst xs] => (blsD xs).map fun bs => .d (.bl (bs.all id))
  | _, _ => none
section
variable {K : PySem.W.Frag} {cl : CL} {X : Cx} {Wx : WX} {G H : Hp}
theorem RepsT.one {d : D} {vs : List V} (h : RepsT K cl G H [d] vs) : ∃ v, vs = [v] ∧ RepT K cl G H d v := by
  obtain ⟨v, r, e, q, t⟩ := h
  cases (show r = [] from t)
  exact ⟨v, e, q⟩
theorem RepsT.two {d e : D} {vs : List V} (h : RepsT K cl G H [d, e] vs) : ∃ v u, vs = [v, u] ∧ RepT K cl G H d v ∧ RepT K cl G H e u := by
  obtain ⟨v, r, rfl, q, t⟩ := h
  obtain ⟨u, rfl, q2⟩ := RepsT.one t
  exact ⟨v, u, rfl, q, q2⟩
theorem ev_opLB {r : List V → Hp → VK → Prop} {f : List D → Option W} {ml : SS → RL} {Q : VK} {σ : L2.St} {H : Hp} (ok : OpLOk K cl r f) (h : tEv K cl Wx (mOpL f ml) σ H Q) : tCB r (tEl K cl Wx ml) σ H Q := ev_opL ok h
theorem pe_bi {x : Str} {p pos : Pos} {e : Expr} {es : List Expr} {ml : SS → RL} (b : BI) (hc : X.calm = true) (hg : Gl X b.nm) (hm : X.mg b.nm = none) (ha : PA X (e :: es) (tEl X.K cl Wx ml))
    (he : starEach (e :: es) X.env = (false, eval e X.env) :: starEach es X.env) (hpl : (backTo pos (starEach es X.env)).any (·.1) = false) :
    PE X (.Call (.Name b.nm p) (e :: es) [] pos) (tEv X.K cl Wx (mOpL (sBI b) ml)) := by
  cases b with
  | abs =>
    refine PE.imp (pe_callB call_abs hg hm (by decide +kernel) ha (by decide) (by decide) he hpl) fun σ H Q => ev_opLB ?_
    intro G H ds vs w Q le t e k
    unfold sBI at e
    split at e <;> first | (rename_i z; cases z; done) | skip
    all_goals try cases e
    obtain ⟨v, rfl, q⟩ := t.one
    cases (show v = _ from q)
    exact ⟨_, rfl, k _ _ (.d rfl)⟩
  | int =>
    refine PE.imp (pe_callTy call_int1 hg hm (by decide +kernel) ha (by decide) (by decide) he hpl) fun σ H Q => ev_opLB ?_
    intro G H ds vs w Q le t e k
    unfold sBI at e
    split at e <;> first | (rename_i z; cases z; done) | skip
    all_goals try cases e
    · obtain ⟨v, rfl, q⟩ := t.one
      cases (show v = _ from q)
      exact .inl ⟨_, rfl, k _ _ (.d rfl)⟩
    · obtain ⟨v, rfl, q⟩ := t.one
      cases (show v = _ from q)
      exact .inr ⟨_, rfl, k _ _ (.d rfl)⟩
  | len =>
    refine PE.imp (pe_callB call_len hg hm (by decide +kernel) ha (by decide) (by decide) he hpl) fun σ H Q => ev_opLB ?_
    intro G H ds vs w Q le t e k
    unfold sBI at e
    split at e <;> first | (rename_i z; cases z; done) | skip
    · split at e
      · rename_i hz
        cases e
        obtain ⟨v, rfl, q⟩ := t.one
        cases (show v = _ from q)
        exact ⟨_, _, rfl, ⟨hz, rfl⟩, k _ _ (.d rfl)⟩
      · cases e
    · cases e
      obtain ⟨v, rfl, a, vs, rfl, g, r⟩ := t.one
      exact ⟨_, _, rfl, .inl ⟨vs, SqL.of g, rfl⟩, k _ _ (.d (by rw [r.length]; rfl))⟩
    · cases e
      obtain ⟨v, rfl, a, vs, rfl, g, r⟩ := t.one
      exact ⟨_, _, rfl, .inr ⟨vs, SqT.le le g, rfl⟩, k _ _ (.d (by rw [r.length]; rfl))⟩
    · cases e
      obtain ⟨v, rfl, a, vs, rfl, g, r⟩ := t.one
      exact ⟨_, _, rfl, .inl ⟨vs, SqL.le le g, rfl⟩, k _ _ (.d (by rw [r.length]; rfl))⟩
    · cases e
  | list =>
    refine PE.imp (pe_callTy call_list_of hg hm (by decide +kernel) ha (by decide) (by decide) he hpl) fun σ H Q => ev_opLB ?_
    intro G H ds vs w Q le t e k
    unfold sBI at e
    split at e <;> first | (rename_i z; cases z; done) | skip
    all_goals try cases e
    · obtain ⟨v, rfl, a, vs, rfl, g, r⟩ := t.one
      exact ⟨_, _, rfl, .inl (SqL.of g), fun p hp => k _ _ (.l hp r)⟩
    · obtain ⟨v, rfl, a, vs, rfl, g, r⟩ := t.one
      exact ⟨_, _, rfl, .inr (SqT.le le g), fun p hp => k _ _ (.l hp r)⟩
    · obtain ⟨v, rfl, a, vs, rfl, g, r⟩ := t.one
      exact ⟨_, _, rfl, .inl (SqL.le le g), fun p hp => k _ _ (.l hp r)⟩
  | tuple =>
    refine PE.imp (pe_callTy call_tuple_of hg hm (by decide +kernel) ha (by decide) (by decide) he hpl) fun σ H Q => ev_opLB ?_
    intro G H ds vs w Q le t e k
    unfold sBI at e
    split at e <;> first | (rename_i z; cases z; done) | skip
    all_goals try cases e
    · obtain ⟨v, rfl, a, vs, rfl, g, r⟩ := t.one
      exact ⟨_, _, rfl, .inl ⟨SqL.of g, fun p hp => k _ _ (.t hp r)⟩⟩
    · obtain ⟨v, rfl, a, vs, rfl, g, r⟩ := t.one
      exact ⟨_, _, rfl, .inr ⟨SqT.le le g, k _ _ (.d ⟨a, vs, rfl, g, r⟩)⟩⟩
  | all =>
    refine PE.imp (pe_callB (cr_all hc) hg hm (by decide +kernel) ha (by decide) (by decide) he hpl) fun σ H Q => ev_opLB ?_
    intro G H ds vs w Q le t e k
    unfold sBI at e
    split at e <;> first | (rename_i z; cases z; done) | skip
    · obtain ⟨bs, h, rfl⟩ := Option.map_eq_some_iff.mp e
      obtain ⟨v, rfl, a, vs, rfl, g, r⟩ := t.one
      rw [blsD_rep h r] at g
      exact ⟨a, bs, rfl, SqL.of g, k _ _ (.d rfl)⟩
    · cases e
end

/-! ### methods of texts -/
inductive BM where
  | split | partition | join | upper
  deriving DecidableEq
def BM.nm : BM → Str
  | .split => "split" | .partition => "partition" | .join => "join" | .upper => "upper"
def sBM : BM → Str → List D → Option W
  | .split, a, [.str b] => if (b.length == 0) = false ∧ a.length + 2 ≤ sizeLine then some (.l ((Txt.split a b).map .str)) else none
  | .partition, a, [.str b] => if (b.length == 0) = false ∧ a.length ≤ sizeLine then some (.d (.tup [.str (Txt.partition a b).1, .str (Txt.partition a b).2.1, .str (Txt.partition a b).2.2])) else none
  | .join, a, [.lst xs] => (match strsD xs with
    | some ys => if (ys.map (·.length)).sum + ys.length * a.length ≤ 16777216 then some (.d (.str (Txt.join a ys))) else none
    | none => none)
  | .upper, a, [] => if a.length ≤ 5592405 then some (.d (.str (Txt.upper a))) else none
  | _, _, _ => none
def mBm (f : Str → List D → Option W) (mo : SS → RE) (ml : SS → RL) : SS → RE := fun S => (mo S).bind fun o S1 => match o.get S1 with
  | some (.str z) => (match ml S1 with
    | .ok os S2 => (match gets S2 os with
      | some ds => (match f z ds with | some w => .ok (.t w) S2 | none => .bad)
      | none => .bad)
    | .exc x S2 => .exc x S2
    | .bad => .bad)
  | _ => .bad
section
variable {K : PySem.W.Frag} {cl : CL} {Wx : WX} {σ : L2.St} {H G : Hp} {X : Cx}
def BmOk (K : PySem.W.Frag) (cl : CL) (r : V → List V → Hp → VK → Prop) (f : Str → List D → Option W) : Prop := ∀ (G H : Hp) (z : Str) (ds : List D) (vs : List V) (w : W) (Q : VK), Le G H → RepsT K cl G H ds vs → f z ds = some w →
  (∀ v H', NewAt K cl G H w v H' → Q v H') → r (.str z) vs H Q
theorem ev_bm {r : V → List V → Hp → VK → Prop} {f : Str → List D → Option W} {mo : SS → RE} {ml : SS → RL} {Q : VK} (ok : BmOk K cl r f) (la : ∀ S, LenE S.length (mo S)) (h : tEv K cl Wx (mBm f mo ml) σ H Q) :
    tBM K "str" r (tEv K cl Wx mo) (tEl K cl Wx ml) σ H Q := by
  obtain ⟨S, T, hl, hR, post⟩ := h
  refine ⟨S, T, hl, hR, ?_⟩
  unfold mBm at post
  have hs := la S
  cases e : mo S with
  | bad => rw [e] at post; exact post
  | exc x S1 => rw [e] at post; exact post
  | ok o1 S1 =>
    rw [e] at post hs
    intro v1 H1 E1 a1 R1
    cases g1 : o1.get S1 with
    | none => simp only [RE.bind, g1] at post; exact post.elim
    | some d =>
      cases d with
      | str z =>
        simp only [RE.bind, g1] at post
        obtain ⟨G1, O1, R1'⟩ := id R1
        have t := opd_read a1 g1 R1' fun c hc => by rcases hc with hc | hc <;> simp [hc]
        cases (show v1 = _ from t)
        refine ⟨rfl, S1, E1 ++ T, hs.trans hl, R1.perm pcomm, ?_⟩
        cases e2 : ml S1 with
        | bad => simp only [e2] at post; exact post
        | exc x S2 => simp only [e2] at post; exact XPost.more E1 post
        | ok os S2 =>
          simp only [e2] at post
          intro vs H2 E2 a2 R2
          cases g2 : gets S2 os with
          | none => simp only [g2] at post; exact post.elim
          | some ds =>
            cases ef : f z ds with
            | none => simp only [g2, ef] at post; exact post.elim
            | some w =>
              simp only [g2, ef] at post
              obtain ⟨G, O, R⟩ := R2
              have t2 := opds_read R (fun c hc => by simp [hc]) a2 g2 fun c hc => by simp [hc]
              refine ok G H2 z ds vs w _ R.le t2 ef fun v H' n => post v H' _ .t ?_
              have R3 := Rel.drop E2 ((R.new n).perm List.perm_middle.symm)
              exact Rel.drop E1 (R3.perm ((List.Perm.cons _ pcomm).trans List.perm_middle.symm))
      | _ => simp only [RE.bind, g1] at post; exact post.elim
theorem mBm_len {f : Str → List D → Option W} {mo : SS → RE} {ml : SS → RL} (la : ∀ S, LenE S.length (mo S)) (lb : ∀ S, LenL S.length (ml S)) (S : SS) : LenE S.length (mBm f mo ml S) := by
  unfold mBm
  have hs := la S
  cases e : mo S with
  | bad => exact trivial
  | exc x S1 => rw [e] at hs; exact hs
  | ok o S1 =>
    rw [e] at hs
    simp only [RE.bind]
    split
    · have hs2 := lb S1
      cases e2 : ml S1 with
      | bad => exact trivial
      | exc x S2 => rw [e2] at hs2; exact (show S2.length = _ from hs2).trans hs
      | ok os S2 =>
        rw [e2] at hs2
        dsimp only
        split
        · split <;> first | exact (show S2.length = _ from hs2).trans hs | exact trivial
        · exact trivial
    · exact trivial
theorem ev_bm0 {r : V → List V → Hp → VK → Prop} {f : Str → List D → Option W} {mo : SS → RE} {Q : VK} (ok : BmOk K cl r f) (la : ∀ S, LenE S.length (mo S)) (h : tEv K cl Wx (mBm f mo mNil) σ H Q) :
    tBM0 K "str" r (tEv K cl Wx mo) σ H Q := by
  have q := ev_bm ok la h
  obtain ⟨S, T, hl, hR, post⟩ := q
  refine ⟨S, T, hl, hR, ?_⟩
  cases e : mo S with
  | bad => rw [e] at post; exact post
  | exc x S1 => rw [e] at post; exact post
  | ok o1 S1 =>
    rw [e] at post
    intro v H1 E a R
    obtain ⟨h1, S2, T2, hl2, hR2, p2⟩ := post v H1 E a R
    exact ⟨h1, p2 [] H1 [] .nil (by simpa using hR2)⟩
theorem pe_bmD {o e : Expr} {es : List Expr} {apos cpos : Pos} {mo : SS → RE} {ml : SS → RL} (b : BM) (hb : b ≠ .upper) (ho : PE X o (tEv X.K cl Wx mo)) (la : ∀ S, LenE S.length (mo S)) (ha : PA X (e :: es) (tEl X.K cl Wx ml))
    (hbase : ∀ n, attributeBase o n X.env (eval o X.env) = eval o X.env)
    (hfew : ((backTo cpos (starEach (e :: es) X.env)).all (fun x => !x.1) && (backToKw cpos (keywordEach [] X.env)).all (fun x => x.1.isSome)
      && decide ((e :: es).length + ([] : List Keyword).length + (if ([] : List Keyword).isEmpty then 0 else 1) < 30)) = true)
    (hline : (apos.endLine == cpos.line) = true) (hs : starEach (e :: es) X.env = (false, eval e X.env) :: starEach es X.env) (hplain : (backTo cpos (starEach es X.env)).any (·.1) = false) :
    PE X (.Call (.Attribute o b.nm apos) (e :: es) [] cpos) (tEv X.K cl Wx (mBm (sBM b) mo ml)) := by
  cases b with
  | upper => exact absurd rfl hb
  | split =>
    refine PE.imp (pe_bm (T := "str") PySem.F.plainAttrs_str PySem.F.slot_str_split PySem.F.type_str_split mt_split ho ha (hbase _) hfew hline hs hplain) fun σ H Q => ev_bm ?_ la
    intro G H z ds vs w Q le t e k
    unfold sBM at e
    split at e <;> first | (rename_i z; cases z; done) | skip
    all_goals try cases e
    split at e
    · rename_i hz
      cases e
      obtain ⟨v, rfl, q⟩ := t.one
      cases (show v = _ from q)
      exact ⟨_, _, rfl, rfl, hz.1, hz.2, fun p hp => k _ _ (.l hp (Reps.map D.str V.str (fun _ => rfl) _))⟩
    · cases e
  | partition =>
    refine PE.imp (pe_bm (T := "str") PySem.F.plainAttrs_str PySem.F.slot_str_partition PySem.F.type_str_partition mt_partition ho ha (hbase _) hfew hline hs hplain) fun σ H Q => ev_bm ?_ la
    intro G H z ds vs w Q le t e k
    unfold sBM at e
    split at e <;> first | (rename_i z; cases z; done) | skip
    all_goals try cases e
    split at e
    · rename_i hz
      cases e
      obtain ⟨v, rfl, q⟩ := t.one
      cases (show v = _ from q)
      exact ⟨_, _, rfl, rfl, hz.1, hz.2, fun p hp => k _ _ (.t hp (.cons rfl (.cons rfl (.cons rfl rfl))))⟩
    · cases e
  | join =>
    refine PE.imp (pe_bm (T := "str") PySem.F.plainAttrs_str PySem.F.slot_str_join PySem.F.type_str_join mt_join ho ha (hbase _) hfew hline hs hplain) fun σ H Q => ev_bm ?_ la
    intro G H z ds vs w Q le t e k
    unfold sBM at e
    split at e <;> first | (rename_i z; cases z; done) | skip
    all_goals try cases e
    split at e
    · rename_i ys hy
      split at e
      · rename_i hz
        cases e
        obtain ⟨v, rfl, a, us, rfl, g, r⟩ := t.one
        rw [strsD_rep hy r] at g
        exact ⟨_, a, ys, rfl, rfl, .inl (SqL.of g), hz, k _ _ (.d rfl)⟩
      · cases e
    · cases e
theorem pe_bmD0 {o : Expr} {apos cpos : Pos} {mo : SS → RE} (ho : PE X o (tEv X.K cl Wx mo)) (la : ∀ S, LenE S.length (mo S)) (hbase : ∀ n, attributeBase o n X.env (eval o X.env) = eval o X.env) (hline : (apos.endLine == cpos.line) = true) :
    PE X (.Call (.Attribute o (BM.nm .upper) apos) [] [] cpos) (tEv X.K cl Wx (mBm (sBM .upper) mo mNil)) := by
  refine PE.imp (pe_bm0 (T := "str") PySem.F.plainAttrs_str PySem.F.slot_str_upper PySem.F.type_str_upper mt_upper ho (hbase _) hline) fun σ H Q => ev_bm0 ?_ la
  intro G H z ds vs w Q le t e k
  unfold sBM at e
  split at e <;> first | (rename_i z; cases z; done) | skip
  all_goals try cases e
  split at e
  · rename_i hz
    cases e
    cases (show vs = [] from t)
    exact ⟨_, rfl, rfl, hz, k _ _ (.d rfl)⟩
  · cases e
end
end Ly
end
section
set_option Elab.async false
set_option linter.all false
set_option maxRecDepth 100000
set_option maxHeartbeats 4000000
/-! LyF: names, constants, tests, and/or/not, chains, calls. -/
namespace Ly
open PySem PySem.Spec PyProof.Rows L2

def mVar (i : Nat) : SS → RE := fun S => match S[i]? with
  | some (some (.ex _ _)) => .bad
  | some (some (.xv _ _ _)) => .bad
  | some (some _) => .ok (.s i) S
  | _ => .bad
def mCst (d : D) : SS → RE := fun S => .ok (.t (.d d)) S
def mTruth (me : SS → RE) (f : D → Option Bool) : SS → RT := fun S => match me S with
  | .ok o S1 => (match o.get S1 with
    | some d => (match f d with | some b => .ok b S1 | none => .bad)
    | none => .bad)
  | .exc x S1 => .exc x S1
  | .bad => .bad
/-- a value that is a bool, as a test -/
def isBl : D → Option Bool
  | .bl b => some b
  | _ => none
/-- truth -/
def trD : D → Option Bool
  | .non => some false
  | .bl b => some b
  | .int i => some (i != 0)
  | .str y => if y.length ≤ sizeLine then some ((y.length : Int) != 0) else none
  | .lst xs => some (!xs.isEmpty)
  | .tup xs => some (!xs.isEmpty)
  | .frl xs => some (!xs.isEmpty)
  | .dic ks xs => some (!ks.isEmpty)
  | .obj _ _ _ => none
def tNotM (m : SS → RT) : SS → RT := fun S => match m S with
  | .ok b S1 => .ok (!b) S1
  | .exc x S1 => .exc x S1
  | .bad => .bad
def tAndM (m n : SS → RT) : SS → RT := fun S => match m S with
  | .ok true S1 => n S1
  | .ok false S1 => .ok false S1
  | .exc x S1 => .exc x S1
  | .bad => .bad
def tOrM (m n : SS → RT) : SS → RT := fun S => match m S with
  | .ok false S1 => n S1
  | .ok true S1 => .ok true S1
  | .exc x S1 => .exc x S1
  | .bad => .bad
def mIte (t : SS → RT) (a b : SS → RE) : SS → RE := fun S => match t S with
  | .ok true S1 => a S1
  | .ok false S1 => b S1
  | .exc x S1 => .exc x S1
  | .bad => .bad
/-- and, or as values: the left one a bool -/
def mAnd (a b : SS → RE) : SS → RE := fun S => match mTruth a isBl S with
  | .ok true S1 => b S1
  | .ok false S1 => .ok (.t (.d (.bl false))) S1
  | .exc x S1 => .exc x S1
  | .bad => .bad
def mOr (a b : SS → RE) : SS → RE := fun S => match mTruth a isBl S with
  | .ok false S1 => b S1
  | .ok true S1 => .ok (.t (.d (.bl true))) S1
  | .exc x S1 => .exc x S1
  | .bad => .bad
def mNot (a : SS → RE) : SS → RE := fun S => match mTruth a isBl S with
  | .ok b S1 => .ok (.t (.d (.bl (!b)))) S1
  | .exc x S1 => .exc x S1
  | .bad => .bad
/-- a op b op' c -/
def mChain (o o' : CO) (ma mb mc : SS → RE) : SS → RE := fun S => (ma S).bind fun o1 S1 => (mb S1).bind fun o2 S2 => match o1.get S2 with
  | some d1 => (match o2.get S2 with
    | some d2 => (match sC o d1 d2 with
      | some true => (mc S2).bind fun o3 S3 => (match o2.get S3 with
        | some d2 => (match o3.get S3 with
          | some d3 => (match sC o' d2 d3 with | some b => .ok (.t (.d (.bl b))) S3 | none => .bad)
          | none => .bad)
        | none => .bad)
      | some false => .ok (.t (.d (.bl false))) S2
      | none => .bad)
    | none => .bad)
  | none => .bad

section
variable {K : PySem.W.Frag} {cl : CL} {Wx : WX} {σ : L2.St} {H G : Hp} {X : Cx}
theorem pe_varD {i : Nat} {x : Str} {pos : Pos} (hN : X.N[i]? = some x) (hv : Vis X.env.scope x) (hd : (x == ("__debug__" : Str)) = false) (hcd : (x == ("__classdict__" : Str)) = false) : PE X (.Name x pos) (tEv X.K cl Wx (mVar i)) := by
  refine PE.imp (pe_var hN hv hd hcd) fun σ H Q ⟨S, T, hl, hR, post⟩ => ?_
  unfold mVar at post
  have go : ∀ w, S[i]? = some (some w) → EvPost X.K cl Wx σ T Q (.ok (.s i) S) → tVar i σ H Q := fun w e p => by
    obtain ⟨v, hv⟩ := hR.slot hl e
    exact ⟨v, hv, p v H [] (.s hv) hR⟩
  split at post
  · exact post.elim
  · exact post.elim
  · rename_i w _ _ e; exact go w e post
  · exact post.elim
theorem mVar_len (i : Nat) (S : SS) : LenE S.length (mVar i S) := by
  unfold mVar
  split
  · exact trivial
  · exact trivial
  · rfl
  · exact trivial
theorem ev_cst {d : D} {v : V} (h : ∀ G, Rep K cl G d v) {Q : VK} (q : tEv K cl Wx (mCst d) σ H Q) : tC v σ H Q := by
  obtain ⟨S, T, hl, hR, post⟩ := q
  refine post v H _ .t ?_
  obtain ⟨G, O, r⟩ := hR
  exact r.new (.d (h G))
theorem mCst_len (d : D) (S : SS) : LenE S.length (mCst d S) := rfl

/-! ### tests -/
theorem et_truth {r : V → Hp → Bool → Prop} {f : D → Option Bool} {me : SS → RE} {Q : Bool → Hp → Prop} (ok : ∀ (G H : Hp) d v b, Le G H → RepT K cl G H d v → f d = some b → r v H b)
    (h : tEt K cl Wx (mTruth me f) σ H Q) : tEv K cl Wx me σ H fun x H' => ∃ k, r x H' k ∧ Q k H' := by
  obtain ⟨S, T, hl, hR, post⟩ := h
  refine ⟨S, T, hl, hR, ?_⟩
  unfold mTruth at post
  cases e : me S with
  | bad => rw [e] at post; exact post
  | exc x S1 => rw [e] at post; exact post
  | ok o S1 =>
    rw [e] at post
    intro v H1 E a R
    cases g : o.get S1 with
    | none => simp only [g] at post; exact post.elim
    | some d =>
      cases ef : f d with
      | none => simp only [g, ef] at post; exact post.elim
      | some b =>
        simp only [g, ef] at post
        obtain ⟨G, O, R'⟩ := id R
        have t := opd_read a g R' fun c hc => by rcases hc with hc | hc <;> simp [hc]
        exact ⟨b, ok G H1 d v b R'.le t ef, post H1 (Rel.drop E R)⟩
theorem isBl_ok {G H : Hp} {d : D} {v : V} {b : Bool} (le : Le G H) (t : RepT K cl G H d v) (h : isBl d = some b) : v = .bl b := by
  cases d <;> cases h
  exact t
theorem trD_ok {G H : Hp} {d : D} {v : V} {b : Bool} (le : Le G H) (t : RepT K cl G H d v) (h : trD d = some b) : TruV K v H b := by
  cases d with
  | non => cases h; cases (show v = _ from t); rfl
  | bl c => cases h; cases (show v = _ from t); rfl
  | int i => cases h; cases (show v = _ from t); rfl
  | str y =>
    simp only [trD] at h
    split at h
    · rename_i hz
      cases h; cases (show v = _ from t)
      exact ⟨hz, rfl⟩
    · cases h
  | lst xs => cases h; obtain ⟨a, vs, rfl, g, r⟩ := t; exact .inl ⟨vs, SqL.of g, by have := r.length; cases xs <;> cases vs <;> simp_all⟩
  | tup xs => cases h; obtain ⟨a, vs, rfl, g, r⟩ := t; exact .inr (.inl ⟨vs, SqT.le le g, by have := r.length; cases xs <;> cases vs <;> simp_all⟩)
  | frl xs => cases h; obtain ⟨a, vs, rfl, g, r⟩ := t; exact .inl ⟨vs, SqL.le le g, by have := r.length; cases xs <;> cases vs <;> simp_all⟩
  | dic ks xs => cases h; obtain ⟨a, vs, rfl, g, k, r⟩ := t; exact .inr (.inr ⟨vs, g, by rw [← k]; cases vs <;> rfl⟩)
  | obj c ns xs => cases h
theorem pt_truthD {e : Expr} {me : SS → RE} (h : PE X e (tEv X.K cl Wx me)) (he : ∀ whole, isTrue e X.env whole = (do let v ← whole; standAt e.pos; holding [v] (truthy v))) : PT X e (tEt X.K cl Wx (mTruth me trD)) :=
  PT.imp (pt_truth h he) fun σ H Q q => et_truth (fun G H d v b le t e => trD_ok le t e) q
theorem et_bl {me : SS → RE} {Q : Bool → Hp → Prop} (h : tEt K cl Wx (mTruth me isBl) σ H Q) : tTest (tEv K cl Wx me) σ H Q :=
  et_truth (r := fun v _ b => v = .bl b) (fun G H d v b le t e => isBl_ok le t e) h
theorem mTruth_len {me : SS → RE} {f : D → Option Bool} (la : ∀ S, LenE S.length (me S)) (S : SS) : LenT S.length (mTruth me f S) := by
  unfold mTruth
  have hs := la S
  cases e : me S with
  | bad => exact trivial
  | exc x S1 => rw [e] at hs; exact hs
  | ok o S1 =>
    rw [e] at hs
    dsimp only
    split
    · split <;> first | exact hs | exact trivial
    · exact trivial
theorem pt_cmpD {a b : Expr} {pos : Pos} {ma mb : SS → RE} (hu : X.A.units + 65 < cLine) (o : CO) (ha : PE X a (tEv X.K cl Wx ma)) (hb : PE X b (tEv X.K cl Wx mb)) (la : ∀ S, LenE S.length (ma S)) (hm : behindInMarks o.py b = false) :
    PT X (.Compare a [o.py] [b] pos) (tEt X.K cl Wx (mTruth (mOp2 (sCW o) ma mb) isBl)) := by
  refine PT.imp (pt_cmpR (op_C hu o) ha hb hm) fun σ H Q q => ?_
  obtain ⟨S, T, hl, hR, p⟩ := et_bl q
  exact ev_op2 (cmp_ok o) la ⟨S, T, hl, hR, p⟩
theorem pe_cmpD {a b : Expr} {pos : Pos} {ma mb : SS → RE} (hu : X.A.units + 65 < cLine) (o : CO) (ha : PE X a (tEv X.K cl Wx ma)) (hb : PE X b (tEv X.K cl Wx mb)) (la : ∀ S, LenE S.length (ma S)) (hm : behindInMarks o.py b = false) :
    PE X (.Compare a [o.py] [b] pos) (tEv X.K cl Wx (mOp2 (sCW o) ma mb)) := PE.imp (pe_cmpR (op_C hu o) ha hb hm) fun σ H Q => ev_op2 (cmp_ok o) la
theorem et_not {m : SS → RT} {Q : Bool → Hp → Prop} (h : tEt K cl Wx (tNotM m) σ H Q) : tNot (tEt K cl Wx m) σ H Q := by
  obtain ⟨S, T, hl, hR, post⟩ := h
  refine ⟨S, T, hl, hR, ?_⟩
  unfold tNotM at post
  cases e : m S with
  | bad => rw [e] at post; exact post
  | exc x S1 => rw [e] at post; exact post
  | ok b S1 => rw [e] at post; exact post
theorem et_and {m n : SS → RT} {Q : Bool → Hp → Prop} (la : ∀ S, LenT S.length (m S)) (h : tEt K cl Wx (tAndM m n) σ H Q) : tAnd (tEt K cl Wx m) (tEt K cl Wx n) σ H Q := by
  obtain ⟨S, T, hl, hR, post⟩ := h
  refine ⟨S, T, hl, hR, ?_⟩
  unfold tAndM at post
  have hs := la S
  cases e : m S with
  | bad => rw [e] at post; exact post
  | exc x S1 => rw [e] at post; exact post
  | ok b S1 =>
    rw [e] at post hs
    intro H1 R1
    cases b with
    | true => exact iteT ⟨S1, T, hs.trans hl, R1, post⟩
    | false => exact iteF (post H1 R1)
theorem et_or {m n : SS → RT} {Q : Bool → Hp → Prop} (la : ∀ S, LenT S.length (m S)) (h : tEt K cl Wx (tOrM m n) σ H Q) : tOr (tEt K cl Wx m) (tEt K cl Wx n) σ H Q := by
  obtain ⟨S, T, hl, hR, post⟩ := h
  refine ⟨S, T, hl, hR, ?_⟩
  unfold tOrM at post
  have hs := la S
  cases e : m S with
  | bad => rw [e] at post; exact post
  | exc x S1 => rw [e] at post; exact post
  | ok b S1 =>
    rw [e] at post hs
    intro H1 R1
    cases b with
    | false => exact iteF ⟨S1, T, hs.trans hl, R1, post⟩
    | true => exact iteT (post H1 R1)
theorem ev_ite {m : SS → RT} {a b : SS → RE} {Q : VK} (la : ∀ S, LenT S.length (m S)) (h : tEv K cl Wx (mIte m a b) σ H Q) : tIf (tEt K cl Wx m) (tEv K cl Wx a) (tEv K cl Wx b) σ H Q := by
  obtain ⟨S, T, hl, hR, post⟩ := h
  refine ⟨S, T, hl, hR, ?_⟩
  unfold mIte at post
  have hs := la S
  cases e : m S with
  | bad => rw [e] at post; exact post
  | exc x S1 => rw [e] at post; exact post
  | ok b S1 =>
    rw [e] at post hs
    intro H1 R1
    cases b with
    | false => exact iteF ⟨S1, T, hs.trans hl, R1, post⟩
    | true => exact iteT ⟨S1, T, hs.trans hl, R1, post⟩
theorem tNotM_len {m : SS → RT} (la : ∀ S, LenT S.length (m S)) (S : SS) : LenT S.length (tNotM m S) := by
  unfold tNotM
  have hs := la S
  cases e : m S <;> rw [e] at hs <;> exact hs
theorem tAndM_len {m n : SS → RT} (la : ∀ S, LenT S.length (m S)) (lb : ∀ S, LenT S.length (n S)) (S : SS) : LenT S.length (tAndM m n S) := by
  unfold tAndM
  have hs := la S
  cases e : m S with
  | bad => exact trivial
  | exc x S1 => rw [e] at hs; exact hs
  | ok b S1 =>
    rw [e] at hs
    cases b with
    | true => have h2 := lb S1; rw [show S1.length = S.length from hs] at h2; exact h2
    | false => exact hs
theorem tOrM_len {m n : SS → RT} (la : ∀ S, LenT S.length (m S)) (lb : ∀ S, LenT S.length (n S)) (S : SS) : LenT S.length (tOrM m n S) := by
  unfold tOrM
  have hs := la S
  cases e : m S with
  | bad => exact trivial
  | exc x S1 => rw [e] at hs; exact hs
  | ok b S1 =>
    rw [e] at hs
    cases b with
    | false => have h2 := lb S1; rw [show S1.length = S.length from hs] at h2; exact h2
    | true => exact hs
theorem mIte_len {m : SS → RT} {a b : SS → RE} (la : ∀ S, LenT S.length (m S)) (l1 : ∀ S, LenE S.length (a S)) (l2 : ∀ S, LenE S.length (b S)) (S : SS) : LenE S.length (mIte m a b S) := by
  unfold mIte
  have hs := la S
  cases e : m S with
  | bad => exact trivial
  | exc x S1 => rw [e] at hs; exact hs
  | ok b S1 =>
    rw [e] at hs
    cases b with
    | true => have h2 := l1 S1; rw [show S1.length = S.length from hs] at h2; exact h2
    | false => have h2 := l2 S1; rw [show S1.length = S.length from hs] at h2; exact h2
/-! ### and, or, not as values -/
theorem ev_bool {a : SS → RE} {T : List Cell} {S : SS} {f : Bool → SS → RE} {g : Bool → VK} {Q : VK} (hl : S.length = σ.length) (la : ∀ S, LenE S.length (a S))
    (post : EvPost K cl Wx σ T Q (match mTruth a isBl S with | .ok b S1 => f b S1 | .exc x S1 => .exc x S1 | .bad => .bad))
    (k : ∀ (b : Bool) (S1 : SS) (H1 : Hp), S1.length = σ.length → Rel K cl H1 (σ.zip S1 ++ T) → EvPost K cl Wx σ T Q (f b S1) → g b (.bl b) H1) :
    EvPost K cl Wx σ T (fun x H1 => ∃ c, x = .bl c ∧ g c x H1) (a S) := by
  unfold mTruth at post
  have hs := la S
  cases e : a S with
  | bad => rw [e] at post; exact post
  | exc x S1 => rw [e] at post; exact post
  | ok o S1 =>
    rw [e] at post hs
    intro v H1 E a R
    cases gg : o.get S1 with
    | none => simp only [gg] at post; exact post.elim
    | some d =>
      cases ef : isBl d with
      | none => simp only [gg, ef] at post; exact post.elim
      | some b =>
        simp only [gg, ef] at post
        obtain ⟨G, O, R'⟩ := id R
        have t := opd_read a gg R' fun c hc => by rcases hc with hc | hc <;> simp [hc]
        have ev := isBl_ok R'.le t ef
        subst ev
        exact ⟨b, rfl, k b S1 H1 ((show S1.length = _ from hs).trans hl) (Rel.drop E R) post⟩
theorem ev_and {a b : SS → RE} {Q : VK} (la : ∀ S, LenE S.length (a S)) (h : tEv K cl Wx (mAnd a b) σ H Q) : tAndV (tEv K cl Wx a) (tEv K cl Wx b) σ H Q := by
  obtain ⟨S, T, hl, hR, post⟩ := h
  refine ⟨S, T, hl, hR, ?_⟩
  refine ev_bool (Q := Q) (f := fun c S1 => if c = true then b S1 else .ok (.t (.d (.bl false))) S1) (g := fun c _ H1 => if c = true then tEv K cl Wx b σ H1 Q else Q (.bl false) H1) hl la ?_ fun c S1 H1 h1 R1 p => ?_
  · unfold mAnd at post
    cases e : mTruth a isBl S with
    | bad => rw [e] at post; exact post
    | exc x S1 => rw [e] at post; exact post
    | ok c S1 => cases c <;> rw [e] at post <;> exact post
  · cases c with
    | true => exact iteT ⟨S1, T, h1, R1, p⟩
    | false =>
      obtain ⟨G, O, r⟩ := R1
      exact iteF (p (.bl false) H1 _ .t (r.new (.d rfl)))
theorem ev_or {a b : SS → RE} {Q : VK} (la : ∀ S, LenE S.length (a S)) (h : tEv K cl Wx (mOr a b) σ H Q) : tOrV (tEv K cl Wx a) (tEv K cl Wx b) σ H Q := by
  obtain ⟨S, T, hl, hR, post⟩ := h
  refine ⟨S, T, hl, hR, ?_⟩
  refine ev_bool (Q := Q) (f := fun c S1 => if c = true then .ok (.t (.d (.bl true))) S1 else b S1) (g := fun c _ H1 => if c = true then Q (.bl true) H1 else tEv K cl Wx b σ H1 Q) hl la ?_ fun c S1 H1 h1 R1 p => ?_
  · unfold mOr at post
    cases e : mTruth a isBl S with
    | bad => rw [e] at post; exact post
    | exc x S1 => rw [e] at post; exact post
    | ok c S1 => cases c <;> rw [e] at post <;> exact post
  · cases c with
    | false => exact iteF ⟨S1, T, h1, R1, p⟩
    | true =>
      obtain ⟨G, O, r⟩ := R1
      exact iteT (p (.bl true) H1 _ .t (r.new (.d rfl)))
theorem ev_not {a : SS → RE} {Q : VK} (la : ∀ S, LenE S.length (a S)) (h : tEv K cl Wx (mNot a) σ H Q) : tNotV (tEv K cl Wx a) σ H Q := by
  obtain ⟨S, T, hl, hR, post⟩ := h
  refine ⟨S, T, hl, hR, ?_⟩
  refine ev_bool (Q := Q) (f := fun c S1 => .ok (.t (.d (.bl (!c)))) S1) (g := fun c _ H1 => Q (.bl (!c)) H1) hl la post fun c S1 H1 h1 R1 p => ?_
  obtain ⟨G, O, r⟩ := R1
  exact p (.bl (!c)) H1 _ .t (r.new (.d rfl))
theorem mAnd_len {a b : SS → RE} (la : ∀ S, LenE S.length (a S)) (lb : ∀ S, LenE S.length (b S)) (S : SS) : LenE S.length (mAnd a b S) := by
  unfold mAnd
  have hs := mTruth_len (f := isBl) la S
  cases e : mTruth a isBl S with
  | bad => exact trivial
  | exc x S1 => rw [e] at hs; exact hs
  | ok c S1 =>
    rw [e] at hs
    cases c with
    | true => have h2 := lb S1; rw [show S1.length = S.length from hs] at h2; exact h2
    | false => exact hs
theorem mOr_len {a b : SS → RE} (la : ∀ S, LenE S.length (a S)) (lb : ∀ S, LenE S.length (b S)) (S : SS) : LenE S.length (mOr a b S) := by
  unfold mOr
  have hs := mTruth_len (f := isBl) la S
  cases e : mTruth a isBl S with
  | bad => exact trivial
  | exc x S1 => rw [e] at hs; exact hs
  | ok c S1 =>
    rw [e] at hs
    cases c with
    | false => have h2 := lb S1; rw [show S1.length = S.length from hs] at h2; exact h2
    | true => exact hs
theorem mNot_len {a : SS → RE} (la : ∀ S, LenE S.length (a S)) (S : SS) : LenE S.length (mNot a S) := by
  unfold mNot
  have hs := mTruth_len (f := isBl) la S
  cases e : mTruth a isBl S with
  | bad => exact trivial
  | exc x S1 => rw [e] at hs; exact hs
  | ok c S1 => rw [e] at hs; exact hs

/-! ### chains -/
theorem ev_chain {o o' : CO} {ma mb mc : SS → RE} {Q : VK} (la : ∀ S, LenE S.length (ma S)) (lb : ∀ S, LenE S.length (mb S)) (h : tEv K cl Wx (mChain o o' ma mb mc) σ H Q) :
    tChain (rC K o) (rC K o') (tEv K cl Wx ma) (tEv K cl Wx mb) (tEv K cl Wx mc) σ H Q := by
  obtain ⟨S, T, hl, hR, post⟩ := h
  refine ⟨S, T, hl, hR, ?_⟩
  unfold mChain at post
  have hs := la S
  cases e : ma S with
  | bad => rw [e] at post; exact post
  | exc x S1 => rw [e] at post; exact post
  | ok o1 S1 =>
    rw [e] at post hs
    have hs : S1.length = S.length := hs
    intro v1 H1 E1 a1 R1
    refine ⟨S1, E1 ++ T, hs.trans hl, R1.perm pcomm, ?_⟩
    have hs2 := lb S1
    cases e2 : mb S1 with
    | bad => simp only [RE.bind, e2] at post; exact post
    | exc x S2 => simp only [RE.bind, e2] at post; exact XPost.more E1 post
    | ok o2 S2 =>
      rw [e2] at hs2
      have hs2 : S2.length = S1.length := hs2
      intro v2 H2 E2 a2 R2
      cases g1 : o1.get S2 with
      | none => simp only [RE.bind, e2, g1] at post; exact post.elim
      | some d1 =>
        cases g2 : o2.get S2 with
        | none => simp only [RE.bind, e2, g1, g2] at post; exact post.elim
        | some d2 =>
          cases ef : sC o d1 d2 with
          | none => simp only [RE.bind, e2, g1, g2, ef] at post; exact post.elim
          | some k =>
            obtain ⟨G, O, R⟩ := id R2
            have t1 := opd_read a1 g1 R fun c hc => by rcases hc with hc | hc <;> simp [hc]
            have t2 := opd_read a2 g2 R fun c hc => by rcases hc with hc | hc <;> simp [hc]
            refine cmp_ok o G H2 d1 d2 v1 v2 (.d (.bl k)) _ R.le t1 t2 (by unfold sCW; rw [ef]; rfl) fun v H' n => ?_
            cases n with
            | d rv =>
            cases (show v = _ from rv)
            refine ⟨k, rfl, ?_⟩
            cases k with
            | false =>
              simp only [RE.bind, e2, g1, g2, ef] at post
              refine iteF (post (.bl false) H2 _ .t ?_)
              have R3 := Rel.drop E2 ((R.new (.d (x := .bl false) (v := .bl false) rfl)).perm List.perm_middle.symm)
              exact Rel.drop E1 (R3.perm ((List.Perm.cons _ pcomm).trans List.perm_middle.symm))
            | true =>
              simp only [RE.bind, e2, g1, g2, ef] at post
              refine iteT ⟨S2, E2 ++ (E1 ++ T), hs2.trans (hs.trans hl), R2.perm pcomm, ?_⟩
              cases e3 : mc S2 with
              | bad => simp only [e3] at post; exact post
              | exc x S3 => simp only [e3] at post; exact XPost.more E2 (XPost.more E1 post)
              | ok o3 S3 =>
                simp only [e3] at post
                intro v3 H3 E3 a3 R3
                cases g2' : o2.get S3 with
                | none => simp only [g2'] at post; exact post.elim
                | some d2' =>
                  cases g3 : o3.get S3 with
                  | none => simp only [g2', g3] at post; exact post.elim
                  | some d3 =>
                    cases ef' : sC o' d2' d3 with
                    | none => simp only [g2', g3, ef'] at post; exact post.elim
                    | some k' =>
                      simp only [g2', g3, ef'] at post
                      obtain ⟨G', O', R'⟩ := id R3
                      have t2' := opd_read a2 g2' R' fun c hc => by rcases hc with hc | hc <;> simp [hc]
                      have t3 := opd_read a3 g3 R' fun c hc => by rcases hc with hc | hc <;> simp [hc]
                      refine cmp_ok o' G' H3 d2' d3 v2 v3 (.d (.bl k')) _ R'.le t2' t3 (by unfold sCW; rw [ef']; rfl) fun v H' n => post v H' _ .t ?_
                      have r4 := Rel.drop E3 ((R'.new n).perm List.perm_middle.symm)
                      have r5 := Rel.drop E2 (r4.perm ((List.Perm.cons _ pcomm).trans List.perm_middle.symm))
                      exact Rel.drop E1 (r5.perm ((List.Perm.cons _ pcomm).trans List.perm_middle.symm))
theorem pe_chainD {a b c : Expr} {pos : Pos} {ma mb mc : SS → RE} (hu : X.A.units + 65 < cLine) (o o' : CO) (ha : PE X a (tEv X.K cl Wx ma)) (hb : PE X b (tEv X.K cl Wx mb)) (hc : PE X c (tEv X.K cl Wx mc))
    (la : ∀ S, LenE S.length (ma S)) (lb : ∀ S, LenE S.length (mb S)) (hm : lastMarks [o.py, o'.py] [b, c] = false) : PE X (.Compare a [o.py, o'.py] [b, c] pos) (tEv X.K cl Wx (mChain o o' ma mb mc)) :=
  PE.imp (pe_chain (op_C hu o) (op_C hu o') ha hb hc hm) fun σ H Q => ev_chain la lb
theorem pt_chainD {a b c : Expr} {pos : Pos} {ma mb mc : SS → RE} (hu : X.A.units + 65 < cLine) (o o' : CO) (ha : PE X a (tEv X.K cl Wx ma)) (hb : PE X b (tEv X.K cl Wx mb)) (hc : PE X c (tEv X.K cl Wx mc))
    (la : ∀ S, LenE S.length (ma S)) (lb : ∀ S, LenE S.length (mb S)) (hm : lastMarks [o.py, o'.py] [b, c] = false) : PT X (.Compare a [o.py, o'.py] [b, c] pos) (tEt X.K cl Wx (mTruth (mChain o o' ma mb mc) isBl)) := by
  refine PT.imp (pt_chain (op_C hu o) (op_C hu o') ha hb hc hm) fun σ H Q q => ?_
  obtain ⟨S, T, hl, hR, p⟩ := et_bl q
  exact ev_chain la lb ⟨S, T, hl, hR, p⟩
theorem mChain_len {o o' : CO} {ma mb mc : SS → RE} (la : ∀ S, LenE S.length (ma S)) (lb : ∀ S, LenE S.length (mb S)) (lc : ∀ S, LenE S.length (mc S)) (S : SS) : LenE S.length (mChain o o' ma mb mc S) := by
  unfold mChain
  have hs := la S
  cases e : ma S with
  | bad => exact trivial
  | exc x S1 => rw [e] at hs; exact hs
  | ok o1 S1 =>
    rw [e] at hs
    have hs : S1.length = S.length := hs
    have hs2 := lb S1
    cases e2 : mb S1 with
    | bad => simp only [RE.bind, e2]; exact trivial
    | exc x S2 => rw [e2] at hs2; simp only [RE.bind, e2]; exact (show S2.length = _ from hs2).trans hs
    | ok o2 S2 =>
      rw [e2] at hs2
      have hs2 : S2.length = S1.length := hs2
      simp only [RE.bind, e2]
      split
      · split
        · split
          · have hs3 := lc S2
            cases e3 : mc S2 with
            | bad => exact trivial
            | exc x S3 => rw [e3] at hs3; exact (show S3.length = _ from hs3).trans (hs2.trans hs)
            | ok o3 S3 =>
              rw [e3] at hs3
              dsimp only
              split
              · split
                · split <;> first | exact (show S3.length = _ from hs3).trans (hs2.trans hs) | exact trivial
                · exact trivial
              · exact trivial
          · exact hs2.trans hs
          · exact trivial
        · exact trivial
      · exact trivial
end
end Ly
end
section
set_option Elab.async false
set_option linter.all false
set_option maxRecDepth 100000
set_option maxHeartbeats 4000000
/-! LyG: statements, targets, loops. -/
namespace Ly
open PySem PySem.Spec PyProof.Rows L2

section
variable (K : PySem.W.Frag) (cl : CL) (Wx : WX)
def StPost (n : Nat) (T : List Cell) (D : Ends) : RS → Prop
  | .nx S => ∀ σ H, σ.length = n → Rel K cl H (σ.zip S ++ T) → D.nx σ H
  | .bk S => ∀ σ H, σ.length = n → Rel K cl H (σ.zip S ++ T) → D.bk σ H
  | .ct S => ∀ σ H, σ.length = n → Rel K cl H (σ.zip S ++ T) → D.ct σ H
  | .rt w => ∀ v H, Rel K cl H ((some v, some w) :: T) → D.rt v H
  | .exc x S => ∀ σ, σ.length = n → XPost K cl Wx σ T x S
  | .bad => False
def tSt (m : SS → RS) : TS := fun D σ H => ∃ S T, S.length = σ.length ∧ Rel K cl H (σ.zip S ++ T) ∧ StPost K cl Wx σ.length T D (m S)
end
def LenS (n : Nat) : RS → Prop
  | .nx S => S.length = n
  | .bk S => S.length = n
  | .ct S => S.length = n
  | .exc _ S => S.length = n
  | _ => True
def sNop : SS → RS := fun S => .nx S
def sSeq (a b : SS → RS) : SS → RS := fun S => match a S with
  | .nx S1 => b S1
  | .bk S1 => .bk S1
  | .ct S1 => .ct S1
  | .rt w => .rt w
  | .exc x S1 => .exc x S1
  | .bad => .bad
def sSet (i : Nat) (me : SS → RE) : SS → RS := fun S => match me S with
  | .ok o S1 => (match o.keep S1 with | some (w, S2) => .nx (S2.set i (some w)) | none => .bad)
  | .exc x S1 => .exc x S1
  | .bad => .bad
def sRet (me : SS → RE) : SS → RS := fun S => match me S with
  | .ok o S1 => (match o.keep S1 with | some (w, _) => .rt w | none => .bad)
  | .exc x S1 => .exc x S1
  | .bad => .bad
def sRetN : SS → RS := fun _ => .rt (.d .non)
def sExpr (me : SS → RE) : SS → RS := fun S => match me S with
  | .ok _ S1 => .nx S1
  | .exc x S1 => .exc x S1
  | .bad => .bad
def sIf (t : SS → RT) (a b : SS → RS) : SS → RS := fun S => match t S with
  | .ok true S1 => a S1
  | .ok false S1 => b S1
  | .exc x S1 => .exc x S1
  | .bad => .bad
/-- a target, given frozen data -/
abbrev Tgt := D → SS → Option SS
def gN (i : Nat) : Tgt := fun d S => some (S.set i (some (.d d)))
def setAll : List Nat → List D → SS → SS
  | i :: is, d :: ds, S => setAll is ds (S.set i (some (.d d)))
  | _, _, S => S
def gT (is : List Nat) : Tgt := fun d S => match d with
  | .tup ds => if ds.length = is.length then some (setAll is ds S) else none
  | _ => none
def sAsg (g : Tgt) (me : SS → RE) : SS → RS := fun S => match me S with
  | .ok o S1 => (match o.keep S1 with
    | some (w, S2) => (match g w.toD S2 with | some S3 => .nx S3 | none => .bad)
    | none => .bad)
  | .exc x S1 => .exc x S1
  | .bad => .bad
/-- x.append(e), x this frame's own -/
def sApp (i : Nat) (me : SS → RE) : SS → RS := fun S => match S[i]? with
  | some (some (.l _)) => (match me S with
    | .ok o S1 => (match o.keep S1 with
      | some (w, S2) => (match S2[i]? with
        | some (some (.l xs)) => if xs.length < sizeLine then .nx (S2.set i (some (.l (xs ++ [w.toD])))) else .bad
        | _ => .bad)
      | none => .bad)
    | .exc x S1 => .exc x S1
    | .bad => .bad)
  | _ => .bad

section
variable {K : PySem.W.Frag} {cl : CL} {Wx : WX} {σ : L2.St} {H G : Hp} {X : Cx} {T : List Cell} {De : Ends} {S : SS}
theorem pss_nilD : PSs X [] (tSt X.K cl Wx sNop) := PSs.imp pss_nil fun D σ H ⟨S, T, hl, hR, post⟩ => post σ H rfl hR
theorem st_seq {a b : SS → RS} (la : ∀ S, LenS S.length (a S)) (h : tSt K cl Wx (sSeq a b) De σ H) : tSeq (tSt K cl Wx a) (tSt K cl Wx b) De σ H := by
  obtain ⟨S, T, hl, hR, post⟩ := h
  refine ⟨S, T, hl, hR, ?_⟩
  unfold sSeq at post
  have hs := la S
  cases e : a S with
  | nx S1 =>
    rw [e] at post hs
    intro σ' H' l' R'
    exact ⟨S1, T, ((show S1.length = _ from hs).trans hl).trans l'.symm, R', by rw [l']; exact post⟩
  | bk S1 => rw [e] at post; exact post
  | ct S1 => rw [e] at post; exact post
  | rt w => rw [e] at post; exact post
  | exc x S1 => rw [e] at post; exact post
  | bad => rw [e] at post; exact post
theorem pss_consD {st : Stmt} {rest : List Stmt} {a b : SS → RS} (h1 : PS X st (tSt X.K cl Wx a)) (h2 : PSs X rest (tSt X.K cl Wx b)) (la : ∀ S, LenS S.length (a S)) : PSs X (st :: rest) (tSt X.K cl Wx (sSeq a b)) :=
  PSs.imp (pss_cons h1 h2) fun D σ H => st_seq la
/-- a slot is stored over -/
theorem Rel.store {v : V} {w : W} {i : Nat} (r : Rel K cl H ((some v, some w) :: (σ.zip S ++ T))) : Rel K cl H ((σ.set i (some v)).zip (S.set i (some w)) ++ T) := by
  rw [zip_set]
  by_cases hi : i < (σ.zip S).length
  · have p1 : (σ.zip S ++ T).Perm ((σ.zip S)[i] :: ((σ.zip S).eraseIdx i ++ T)) := List.Perm.append_right T (perm_at (List.getElem?_eq_getElem hi))
    have r1 := (r.perm ((List.Perm.cons _ p1).trans (List.Perm.swap _ _ _))).tail
    exact r1.perm (List.Perm.append_right T (perm_set hi)).symm
  · rw [List.set_eq_of_length_le (by omega)]
    exact r.tail
theorem st_set {i : Nat} {me : SS → RE} (la : ∀ S, LenE S.length (me S)) (h : tSt K cl Wx (sSet i me) De σ H) : tAsg (tEv K cl Wx me) (gName i) De σ H := by
  obtain ⟨S, T, hl, hR, post⟩ := h
  refine ⟨S, T, hl, hR, ?_⟩
  unfold sSet at post
  have hs := la S
  cases e : me S with
  | bad => rw [e] at post; exact post
  | exc x S1 => rw [e] at post; exact post σ rfl
  | ok o S1 =>
    rw [e] at post hs
    intro v H1 E a R
    cases k : o.keep S1 with
    | none => simp only [k] at post; exact post.elim
    | some p =>
      obtain ⟨w, S2⟩ := p
      simp only [k] at post
      exact post (σ.set i (some v)) H1 (by simp) (keep_ok a k R (hs.trans hl)).1.store
theorem sSet_len {i : Nat} {me : SS → RE} (la : ∀ S, LenE S.length (me S)) (S : SS) : LenS S.length (sSet i me S) := by
  unfold sSet
  have hs := la S
  cases e : me S with
  | bad => exact trivial
  | exc x S1 => rw [e] at hs; exact hs
  | ok o S1 =>
    rw [e] at hs
    cases k : o.keep S1 with
    | none => simp only [k]; exact trivial
    | some p => simp only [k]; exact (List.length_set ..).trans ((keep_len k).trans hs)
theorem st_ret {me : SS → RE} (la : ∀ S, LenE S.length (me S)) (h : tSt K cl Wx (sRet me) De σ H) : tRet (tEv K cl Wx me) De σ H := by
  obtain ⟨S, T, hl, hR, post⟩ := h
  refine ⟨S, T, hl, hR, ?_⟩
  unfold sRet at post
  have hs := la S
  cases e : me S with
  | bad => rw [e] at post; exact post
  | exc x S1 => rw [e] at post; exact post σ rfl
  | ok o S1 =>
    rw [e] at post hs
    intro v H1 E a R
    cases k : o.keep S1 with
    | none => simp only [k] at post; exact post.elim
    | some p =>
      obtain ⟨w, S2⟩ := p
      simp only [k] at post
      exact post v H1 (Rel.drop (σ.zip S2) ((keep_ok a k R (hs.trans hl)).1.perm List.perm_middle.symm))
theorem sRet_len {me : SS → RE} (la : ∀ S, LenE S.length (me S)) (S : SS) : LenS S.length (sRet me S) := by
  unfold sRet
  have hs := la S
  cases e : me S with
  | bad => exact trivial
  | exc x S1 => rw [e] at hs; exact hs
  | ok o S1 =>
    cases k : o.keep S1 with
    | none => simp only [k]; exact trivial
    | some p => simp only [k]; exact trivial
theorem st_retN (h : tSt K cl Wx sRetN De σ H) : tRetN De σ H := by
  obtain ⟨S, T, hl, hR, post⟩ := h
  obtain ⟨G, O, r⟩ := Rel.drop (σ.zip S) hR
  exact post .non H (r.new (.d rfl))
theorem st_expr {me : SS → RE} (h : tSt K cl Wx (sExpr me) De σ H) : tDrop (tEv K cl Wx me) De σ H := by
  obtain ⟨S, T, hl, hR, post⟩ := h
  refine ⟨S, T, hl, hR, ?_⟩
  unfold sExpr at post
  cases e : me S with
  | bad => rw [e] at post; exact post
  | exc x S1 => rw [e] at post; exact post σ rfl
  | ok o S1 => rw [e] at post; exact fun v H1 E a R => post σ H1 rfl (Rel.drop E R)
theorem sExpr_len {me : SS → RE} (la : ∀ S, LenE S.length (me S)) (S : SS) : LenS S.length (sExpr me S) := by
  unfold sExpr
  have hs := la S
  cases e : me S <;> rw [e] at hs <;> exact hs
theorem st_if {t : SS → RT} {a b : SS → RS} (la : ∀ S, LenT S.length (t S)) (h : tSt K cl Wx (sIf t a b) De σ H) : tIfS (tEt K cl Wx t) (tSt K cl Wx a) (tSt K cl Wx b) De σ H := by
  obtain ⟨S, T, hl, hR, post⟩ := h
  refine ⟨S, T, hl, hR, ?_⟩
  unfold sIf at post
  have hs := la S
  cases e : t S with
  | bad => rw [e] at post; exact post
  | exc x S1 => rw [e] at post; exact post σ rfl
  | ok b S1 =>
    rw [e] at post hs
    intro H1 R1
    cases b with
    | true => exact iteT ⟨S1, T, (show S1.length = _ from hs).trans hl, R1, post⟩
    | false => exact iteF ⟨S1, T, (show S1.length = _ from hs).trans hl, R1, post⟩
theorem sIf_len {t : SS → RT} {a b : SS → RS} (la : ∀ S, LenT S.length (t S)) (l1 : ∀ S, LenS S.length (a S)) (l2 : ∀ S, LenS S.length (b S)) (S : SS) : LenS S.length (sIf t a b S) := by
  unfold sIf
  have hs := la S
  cases e : t S with
  | bad => exact trivial
  | exc x S1 => rw [e] at hs; exact hs
  | ok b S1 =>
    rw [e] at hs
    cases b with
    | true => have h2 := l1 S1; rw [show S1.length = S.length from hs] at h2; exact h2
    | false => have h2 := l2 S1; rw [show S1.length = S.length from hs] at h2; exact h2
theorem sSeq_len {a b : SS → RS} (la : ∀ S, LenS S.length (a S)) (lb : ∀ S, LenS S.length (b S)) (S : SS) : LenS S.length (sSeq a b S) := by
  unfold sSeq
  have hs := la S
  cases e : a S with
  | nx S1 => rw [e] at hs; have h2 := lb S1; rw [show S1.length = S.length from hs] at h2; exact h2
  | bk S1 => rw [e] at hs; exact hs
  | ct S1 => rw [e] at hs; exact hs
  | rt w => exact trivial
  | exc x S1 => rw [e] at hs; exact hs
  | bad => exact trivial

/-! ### targets -/
/-- σ' is σ but at the places is -/
def Agr (is : List Nat) (σ σ' : L2.St) : Prop := ∀ vs : List Nat, (∀ i ∈ is, i ∈ vs) → wipe σ' vs = wipe σ vs
def tG (K : PySem.W.Frag) (cl : CL) (is : List Nat) (g : Tgt) : TG := fun v σ H Q => ∃ S T d S1, S.length = σ.length ∧ Rel K cl H ((some v, some (.d d)) :: (σ.zip S ++ T)) ∧ g d S = some S1 ∧
  ∀ σ', σ'.length = σ.length → Agr is σ σ' → Rel K cl H (σ'.zip S1 ++ T) → Q σ' H
theorem wipe_get (σ : L2.St) (j : Nat) : ∀ vs : List Nat, (wipe σ vs)[j]? = if j ∈ vs then σ[j]?.map fun _ => none else σ[j]?
  | [] => by simp [wipe]
  | v :: vs => by
    unfold wipe
    by_cases h : j = v
    · subst h
      rw [if_pos (by simp)]
      by_cases hj : j < σ.length
      · rw [List.getElem?_set_self (by rw [wipe_length]; exact hj), List.getElem?_eq_getElem hj]; rfl
      · rw [List.getElem?_eq_none (by rw [List.length_set, wipe_length]; omega), List.getElem?_eq_none (by omega)]; rfl
    · rw [List.getElem?_set_ne (Ne.symm h), wipe_get σ j vs]
      by_cases h2 : j ∈ vs
      · rw [if_pos h2, if_pos (by simp [h2])]
      · rw [if_neg h2, if_neg (by simp [h, h2])]
theorem Agr.set (σ : L2.St) (i : Nat) (o : Option V) : Agr [i] σ (σ.set i o) := fun vs h => by
  apply List.ext_getElem?
  intro j
  rw [wipe_get, wipe_get]
  by_cases hj : j = i
  · subst hj
    rw [if_pos (h j (by simp)), if_pos (h j (by simp))]
    by_cases hl : j < σ.length
    · rw [List.getElem?_set_self hl, List.getElem?_eq_getElem hl]; rfl
    · rw [List.getElem?_eq_none (by simpa using hl), List.getElem?_eq_none (by omega)]
  · rw [List.getElem?_set_ne (Ne.symm hj)]
theorem PG.imp {tg : Expr} {t t' : TG} (h : PG X tg t) (k : ∀ v σ H Q, t' v σ H Q → t v σ H Q) : PG X tg t' := ⟨fun pins s σ H v u Q I r q => h.run pins s σ H v u Q I r (k v σ H Q q)⟩
theorem pg_nameD {i : Nat} {x : Str} {pos : Pos} (hN : X.N.Nodup) (hi : X.N[i]? = some x) (hx : Loc X.env.scope x) (hf : X.fn x = true ∨ X.env.scope.names.lookup x = some .local) : PG X (.Name x pos) (tG X.K cl [i] (gN i)) := by
  refine PG.imp (pg_name hN hi hx hf) fun v σ H Q ⟨S, T, d, S1, hl, R, hg, post⟩ => ?_
  cases hg
  exact post _ (by simp) (Agr.set _ _ _) R.store
/-- names in a row -/
inductive PNames (X : Cx) : List Expr → List Nat → Prop
  | nil : PNames X [] []
  | cons {x : Str} {pos : Pos} {i : Nat} {es : List Expr} {is : List Nat} : X.N[i]? = some x → Loc X.env.scope x → (X.fn x = true ∨ X.env.scope.names.lookup x = some .local) → PNames X es is → PNames X (.Name x pos :: es) (i :: is)
def setV : List Nat → List V → L2.St → L2.St
  | i :: is, v :: vs, σ => setV is vs (σ.set i (some v))
  | _, _, σ => σ
theorem setV_len : ∀ (is : List Nat) (vs : List V) (σ : L2.St), (setV is vs σ).length = σ.length
  | i :: is, v :: vs, σ => by unfold setV; rw [setV_len is vs]; simp
  | [], _, σ => by unfold setV; rfl
  | _ :: _, [], σ => by unfold setV; rfl
theorem Agr.setV : ∀ (is : List Nat) (vs : List V) (σ : L2.St), Agr is σ (setV is vs σ)
  | i :: is, v :: vs, σ => fun us h => by
    unfold Ly.setV
    rw [Agr.setV is vs (σ.set i (some v)) us fun j hj => h j (by simp [hj])]
    exact Agr.set σ i (some v) us fun j hj => h j (by simp at hj; simp [hj])
  | [], _, σ => fun _ _ => by unfold Ly.setV; rfl
  | _ :: _, [], σ => fun _ _ => by unfold Ly.setV; rfl
theorem setAll_len : ∀ (is : List Nat) (ds : List D) (S : SS), (setAll is ds S).length = S.length
  | i :: is, v :: vs, S => by unfold setAll; rw [setAll_len is vs]; simp
  | [], _, S => by unfold setAll; rfl
  | _ :: _, [], S => by unfold setAll; rfl
theorem pgs_namesD (hN : X.N.Nodup) : ∀ {es : List Expr} {is : List Nat}, PNames X es is → PGs X es (fun vs σ H Q => vs.length = is.length ∧ Q (setV is vs σ) H)
  | _, _, .nil => ⟨fun pins s σ H vs us Q I r h => pgs_nil.run pins s σ H vs us Q I r ⟨List.eq_nil_of_length_eq_zero h.1, by cases vs with | nil => exact h.2 | cons _ _ => simp at h⟩⟩
  | _, _, .cons (es := es) (is := is) hi hx hf t => by
    have ih := pgs_namesD hN t
    refine ⟨fun pins s σ H vs us Q I r h => (pgs_cons (pg_name hN hi hx hf) ih (by rfl)).run pins s σ H vs us Q I r ?_⟩
    obtain ⟨hl, q⟩ := h
    cases vs with
    | nil => simp at hl
    | cons v vs => exact ⟨v, vs, rfl, by simpa using hl, q⟩
theorem pnames_each : ∀ {es : List Expr} {is : List Nat}, PNames X es is → (assignEach es X.env).length = is.length ∧ (assignEach es X.env).findIdx? (·.1) = none
  | _, _, .nil => ⟨rfl, rfl⟩
  | _, _, .cons (x := x) (pos := pos) (es := es) (is := is) hi hx hf t => by
    obtain ⟨h1, h2⟩ := pnames_each t
    have e : assignEach (.Name x pos :: es) X.env = (false, assign (.Name x pos) X.env) :: assignEach es X.env := rfl
    rw [e]
    exact ⟨by simp [h1], by simp only [List.findIdx?_cons, h2]; rfl⟩
theorem Rel.stores : ∀ {is : List Nat} {ds : List D} {vs : List V} {σ : L2.St} {S : SS}, vs.length = ds.length → Rel K cl H (cellsD ds vs ++ (σ.zip S ++ T)) → Rel K cl H ((setV is vs σ).zip (setAll is ds S) ++ T)
  | i :: is, d :: ds, v :: vs, σ, S, h, r => by
    unfold setV setAll
    refine Rel.stores (by simpa using h) ?_
    have r1 : Rel K cl H ((some v, some (.d d)) :: (σ.zip S ++ (cellsD ds vs ++ T))) := r.perm (List.Perm.cons _ pcomm)
    exact (r1.store (i := i)).perm pcomm
  | [], ds, vs, σ, S, h, r => by unfold setV setAll; exact Rel.drop _ r
  | i :: is, [], [], σ, S, h, r => by unfold setV setAll; exact r
  | i :: is, [], v :: vs, σ, S, h, r => by simp at h
  | i :: is, d :: ds, [], σ, S, h, r => by simp at h
/-- a frozen tuple's items -/
theorem Rel.items {v : V} {ds : List D} {cs : List Cell} (r : Rel K cl H ((some v, some (.d (.tup ds))) :: cs)) : ∃ a vs, v = .ref a ∧ SqT K H a vs ∧ vs.length = ds.length ∧ Rel K cl H (cellsD ds vs ++ cs) := by
  obtain ⟨G, O, s, n, t⟩ := r
  cases t with
  | @cons _ F _ O' h t =>
    cases h with
    | some h =>
      obtain ⟨hF, a, vs, rfl, g, q⟩ := h
      subst hF
      refine ⟨a, vs, rfl, SqT.le (fun b o e => (s b o e).1) g, q.length.symm, G, O', s, n, ?_⟩
      have go : ∀ (ds : List D) (vs : List V), Reps K cl G ds vs → CReps K cl G H (cellsD ds vs ++ cs) O' := fun ds => by
        induction ds with
        | nil => intro vs q; cases (show vs = [] from q); exact t
        | cons d ds ih =>
          intro vs q
          obtain ⟨v, r, rfl, q1, q2⟩ := q
          exact .cons (F := []) (.some ⟨rfl, q1⟩) (ih r q2)
      exact go ds vs q
theorem pg_tupD {es : List Expr} {k : Nat} {pos : Pos} {is : List Nat} (hc : X.calm = true) (hN : X.N.Nodup) (h : PNames X es is) : PG X (.Tuple es k pos) (tG X.K cl is (gT is)) := by
  obtain ⟨h1, h2⟩ := pnames_each h
  refine PG.imp (pg_tup hc (pgs_namesD hN h) h1 h2) fun v σ H Q ⟨S, T, d, S1, hl, R, hg, post⟩ => ?_
  unfold gT at hg
  cases d with
  | tup ds =>
    dsimp only at hg
    split at hg
    · rename_i hz
      cases hg
      obtain ⟨a, vs, rfl, g, hlen, r⟩ := R.items
      exact ⟨a, vs, rfl, g, hlen.trans hz, hlen.trans hz, post _ (setV_len ..) (Agr.setV _ _ _) (Rel.stores hlen r)⟩
    · cases hg
  | _ => cases hg
def LenG (g : Tgt) : Prop := ∀ d S S1, g d S = some S1 → S1.length = S.length
theorem gN_len (i : Nat) : LenG (gN i) := fun d S S1 h => by cases h; simp
theorem gT_len (is : List Nat) : LenG (gT is) := fun d S S1 h => by
  unfold gT at h
  split at h
  · split at h
    · cases h; exact setAll_len ..
    · cases h
  · cases h
theorem st_asg {g : Tgt} {is : List Nat} {me : SS → RE} (la : ∀ S, LenE S.length (me S)) (h : tSt K cl Wx (sAsg g me) De σ H) : tAsg (tEv K cl Wx me) (tG K cl is g) De σ H := by
  obtain ⟨S, T, hl, hR, post⟩ := h
  refine ⟨S, T, hl, hR, ?_⟩
  unfold sAsg at post
  have hs := la S
  cases e : me S with
  | bad => rw [e] at post; exact post
  | exc x S1 => rw [e] at post; exact post σ rfl
  | ok o S1 =>
    rw [e] at post hs
    intro v H1 E a R
    cases k : o.keep S1 with
    | none => simp only [k] at post; exact post.elim
    | some p =>
      obtain ⟨w, S2⟩ := p
      cases eg : g w.toD S2 with
      | none => simp only [k, eg] at post; exact post.elim
      | some S3 =>
        simp only [k, eg] at post
        obtain ⟨r, hl2, hx⟩ := keep_ok a k R ((show S1.length = _ from hs).trans hl)
        exact ⟨S2, T, w.toD, S3, hl2.trans ((show S1.length = _ from hs).trans hl), r.freeze hx, eg, fun σ' l' _ R' => post σ' H1 l' R'⟩
theorem sAsg_len {g : Tgt} {me : SS → RE} (lg : LenG g) (la : ∀ S, LenE S.length (me S)) (S : SS) : LenS S.length (sAsg g me S) := by
  unfold sAsg
  have hs := la S
  cases e : me S with
  | bad => exact trivial
  | exc x S1 => rw [e] at hs; exact hs
  | ok o S1 =>
    rw [e] at hs
    cases k : o.keep S1 with
    | none => simp only [k]; exact trivial
    | some p =>
      obtain ⟨w, S2⟩ := p
      cases eg : g w.toD S2 with
      | none => simp only [k, eg]; exact trivial
      | some S3 => simp only [k, eg]; exact (lg _ _ _ eg).trans ((keep_len k).trans hs)

/-! ### append -/
theorem Rel.grow {v y : V} {d : D} {xs : List D} {cs : List Cell} (r : Rel K cl H ((some v, some (.l xs)) :: (some y, some (.d d)) :: cs)) :
    ∃ a vs, v = .ref a ∧ H a = some (.lst vs) ∧ vs.length = xs.length ∧ Rel K cl (upd H a (.lst (vs ++ [y]))) ((some v, some (.l (xs ++ [d]))) :: cs) := by
  obtain ⟨G, O, s, n, t⟩ := r
  cases t with
  | @cons _ F _ O' h t =>
    cases h with
    | some h =>
      obtain ⟨a, vs, rfl, hF, g, q⟩ := h
      subst hF
      cases t with
      | @cons _ F2 _ O2 h2 t2 =>
        cases h2 with
        | some h2 =>
          obtain ⟨hF2, q2⟩ := h2
          subst hF2
          have nO : a ∉ O2 := fun z => (List.nodup_cons.mp n).1 z
          refine ⟨a, vs, rfl, g, q.length.symm, G, [a] ++ O2, ?_, n, .cons (F := [a]) (.some ⟨a, _, rfl, rfl, upd_same, q.append (.cons q2 rfl)⟩) (CReps.step (Le.refl G) (fun b hb o e => ?_) t2)⟩
          · intro b o e
            obtain ⟨h1, h2⟩ := s b o e
            have ne : b ≠ a := fun z => h2 (by rw [z]; simp)
            exact ⟨by rw [upd_ne ne]; exact h1, h2⟩
          · rw [upd_ne (fun z => nO (by rw [← z]; exact hb))]; exact e
theorem slot_cons {i : Nat} {w : W} (hR : Rel K cl H (σ.zip S ++ T)) (hl : S.length = σ.length) (h : S[i]? = some (some w)) : ∃ v, σ[i]? = some (some v) ∧ (σ.zip S ++ T).Perm ((some v, some w) :: ((σ.zip S).eraseIdx i ++ T)) := by
  obtain ⟨v, hv⟩ := hR.slot hl h
  exact ⟨v, hv, List.Perm.append_right T (perm_at (zip_get hv h))⟩
theorem set_self {i : Nat} {v : V} (h : σ[i]? = some (some v)) : σ.set i (some v) = σ := by
  apply List.ext_getElem?
  intro j
  by_cases hj : j = i
  · subst hj; rw [h, List.getElem?_set_self (List.getElem?_eq_some_iff.mp h).1]
  · rw [List.getElem?_set_ne (Ne.symm hj)]
theorem slot_put {i : Nat} {v : V} {w : W} (hv : σ[i]? = some (some v)) (hl : S.length = σ.length) : (σ.zip (S.set i (some w)) ++ T).Perm ((some v, some w) :: ((σ.zip S).eraseIdx i ++ T)) := by
  have hi : i < (σ.zip S).length := by rw [List.length_zip]; have := (List.getElem?_eq_some_iff.mp hv).1; omega
  have e := zip_set (l := σ) (k := S) i (some v) (some w)
  rw [set_self hv] at e
  rw [e]
  exact List.Perm.append_right T (perm_set hi)
theorem ps_appD {i : Nat} {x : Str} {p apos cpos pos : Pos} {e : Expr} {me : SS → RE} (hN : X.N[i]? = some x) (hv : Vis X.env.scope x) (hd : (x == ("__debug__" : Str)) = false) (hcd : (x == ("__classdict__" : Str)) = false)
    (he : PE X e (tEv X.K cl Wx me)) (la : ∀ S, LenE S.length (me S)) (hst : starEach [e] X.env = [(false, eval e X.env)]) (hline : (apos.endLine == cpos.line) = true) :
    PS X (.Expr (.Call (.Attribute (.Name x p) "append" apos) [e] [] cpos) pos) (tSt X.K cl Wx (sApp i me)) := by
  refine PS.imp (ps_expr (pe_bm PySem.F.plainAttrs_list PySem.F.slot_list_append PySem.F.type_list_append mt_append (pe_var hN hv hd hcd) (pa_cons he pa_nil (by rw [hst]; rfl)) (by rfl) ?_ hline (by rw [hst]; rfl) (by rfl))) fun D σ H h => ?_
  · rw [hst]; rfl
  obtain ⟨S, T, hl, hR, post⟩ := h
  unfold sApp at post
  split at post
  · rename_i xs0 e0
    obtain ⟨v, hv, p0⟩ := slot_cons hR hl e0
    refine ⟨v, hv, ?_, S, T, hl, hR, ?_⟩
    · obtain ⟨G, O, s, n, t⟩ := hR.perm p0
      cases t with
      | @cons _ F _ O' h t =>
        cases h with
        | some h =>
          obtain ⟨a, vs, rfl, hF, g, q⟩ := h
          exact .inl ⟨rfl, vs, SqL.of g⟩
    have hs := la S
    cases em : me S with
    | bad => rw [em] at post; exact post
    | exc x S1 => rw [em] at post; exact post σ rfl
    | ok o S1 =>
      rw [em] at post hs
      intro y H1 E a R
      cases k : o.keep S1 with
      | none => simp only [k] at post; exact post.elim
      | some pr =>
        obtain ⟨w, S2⟩ := pr
        obtain ⟨r, hl2, hx⟩ := keep_ok a k R ((show S1.length = _ from hs).trans hl)
        have hl3 : S2.length = σ.length := hl2.trans ((show S1.length = _ from hs).trans hl)
        simp only [k] at post
        split at post
        · rename_i xs es
          split at post
          · rename_i hz
            have r := r.freeze hx
            have pp : ((some y, some (W.d w.toD)) :: (σ.zip S2 ++ T)).Perm ((some v, some (W.l xs)) :: (some y, some (W.d w.toD)) :: ((σ.zip S2).eraseIdx i ++ T)) :=
              (List.Perm.cons _ (List.Perm.append_right T (perm_at (zip_get hv es)))).trans (List.Perm.swap _ _ _)
            obtain ⟨b, vs, rfl, g, hlen, r2⟩ := (r.perm pp).grow
            refine ⟨b, vs, y, rfl, rfl, g, by rw [hlen]; exact hz, post σ _ rfl (r2.perm (slot_put hv hl3).symm)⟩
          · exact post.elim
        · exact post.elim
  · exact post.elim
theorem sApp_len {i : Nat} {me : SS → RE} (la : ∀ S, LenE S.length (me S)) (S : SS) : LenS S.length (sApp i me S) := by
  unfold sApp
  split
  · have hs := la S
    cases e : me S with
    | bad => exact trivial
    | exc x S1 => rw [e] at hs; exact hs
    | ok o S1 =>
      rw [e] at hs
      cases k : o.keep S1 with
      | none => simp only [k]; exact trivial
      | some pr =>
        obtain ⟨w, S2⟩ := pr
        simp only [k]
        split
        · split
          · exact (List.length_set ..).trans ((keep_len k).trans hs)
          · exact trivial
        · exact trivial
  · exact trivial
end
end Ly
end
section
set_option Elab.async false
set_option linter.all false
set_option maxRecDepth 100000
set_option maxHeartbeats 4000000
/-! LyH: what is walked; for, while, list comprehensions. -/
namespace Ly
open PySem PySem.Spec PyProof.Rows L2

inductive RIt where
  | ok (items : List D) (S : SS) | exc (x : Exn) (S : SS) | bad
def LenIt (n : Nat) : RIt → Prop
  | .ok _ S => S.length = n
  | .exc _ S => S.length = n
  | .bad => True
/-- J walks these items while the cells C stand -/
structure Walk (K : PySem.W.Frag) (cl : CL) (J : It) (items : List D) (C : List Cell) : Prop where
  go : ∀ (i : Nat) H cs, Rel K cl H (C ++ cs) → i < items.length → J.go i H ∧ ∀ x H', J.yld i H x H' → ∃ d, items[i]? = some d ∧ Rel K cl H' ((some x, some (.d d)) :: (C ++ cs))
  stop : ∀ (i : Nat) H cs, Rel K cl H (C ++ cs) → items.length ≤ i → J.stop i H
section
variable (K : PySem.W.Frag) (cl : CL) (Wx : WX)
def ItPost (σ : L2.St) (T : List Cell) (R : It → Hp → Prop) : RIt → Prop
  | .ok items S => ∀ J H C, Walk K cl J items C → Rel K cl H (C ++ (σ.zip S ++ T)) → R J H
  | .exc x S => XPost K cl Wx σ T x S
  | .bad => False
def tIt (m : SS → RIt) : TI := fun σ H R => ∃ S T, S.length = σ.length ∧ Rel K cl H (σ.zip S ++ T) ∧ ItPost K cl Wx σ T R (m S)
end
def signs (z : Str) : List D := z.cps.toList.map fun c => .str ⟨#[c]⟩
def itemsOf : D → Option (List D)
  | .lst xs => some xs
  | .tup xs => some xs
  | .frl xs => some xs
  | .str z => some (signs z)
  | _ => none
def mIter (me : SS → RE) : SS → RIt := fun S => match me S with
  | .ok o S1 => (match o.keep S1 with
    | some (w, S2) => (match itemsOf w.toD with | some xs => .ok xs S2 | none => .bad)
    | none => .bad)
  | .exc x S1 => .exc x S1
  | .bad => .bad
def intsD (lo : Int) (n : Nat) : List D := (List.range n).map fun i => .int (lo + (i : Nat))
def mRng1 (ml : SS → RL) : SS → RIt := fun S => match ml S with
  | .ok os S1 => (match gets S1 os with
    | some [.int j] => if -(2 ^ 62) ≤ j ∧ j < 2 ^ 62 then .ok (intsD 0 j.toNat) S1 else .bad
    | _ => .bad)
  | .exc x S1 => .exc x S1
  | .bad => .bad
def mRng2 (ml : SS → RL) : SS → RIt := fun S => match ml S with
  | .ok os S1 => (match gets S1 os with
    | some [.int i, .int j] => if (-(2 ^ 62) ≤ i ∧ i < 2 ^ 62) ∧ -(2 ^ 62) ≤ j ∧ j < 2 ^ 62 then .ok (intsD i (j - i).toNat) S1 else .bad
    | _ => .bad)
  | .exc x S1 => .exc x S1
  | .bad => .bad
/-- the turns of a for -/
def loopS (g : Tgt) (body : SS → RS) : List D → SS → RS
  | [], S => .nx S
  | x :: xs, S => match g x S with
    | none => .bad
    | some S1 => match body S1 with
      | .nx S2 => loopS g body xs S2
      | .ct S2 => loopS g body xs S2
      | .bk S2 => .nx S2
      | .rt w => .rt w
      | .exc x S2 => .exc x S2
      | .bad => .bad
def sFor (mi : SS → RIt) (g : Tgt) (body : SS → RS) : SS → RS := fun S => match mi S with
  | .ok items S1 => loopS g body items S1
  | .exc x S1 => .exc x S1
  | .bad => .bad
def loopW (t : SS → RT) (body : SS → RS) : Nat → SS → RS
  | 0, _ => .bad
  | n + 1, S => match t S with
    | .ok true S1 => (match body S1 with
      | .nx S2 => loopW t body n S2
      | .ct S2 => loopW t body n S2
      | .bk S2 => .nx S2
      | .rt w => .rt w
      | .exc x S2 => .exc x S2
      | .bad => .bad)
    | .ok false S1 => .nx S1
    | .exc x S1 => .exc x S1
    | .bad => .bad

section
variable {K : PySem.W.Frag} {cl : CL} {Wx : WX} {σ : L2.St} {H G : Hp} {X : Cx} {T : List Cell} {De : Ends} {S : SS} {tg : Expr}
theorem PI.imp {l : Expr} {t t' : TI} (h : PI X tg l t) (k : ∀ σ H Q, t' σ H Q → t σ H Q) : PI X tg l t' := ⟨fun pins s σ H Q I q => h.run pins s σ H Q I (k σ H Q q)⟩
/-- a list, a tuple or a text, whatever it is -/
def iAny (K : PySem.W.Frag) (te : TE) : TI := fun σ H R => te σ H fun x H1 => (∃ a xs, x = .ref a ∧ SqL K H1 a xs ∧ R (Itl K a) H1) ∨ (∃ a xs, x = .ref a ∧ SqT K H1 a xs ∧ R (Itt K a) H1) ∨ ∃ z, x = .str z ∧ R (Its z) H1
theorem pi_any {l : Expr} {te : TE} (hl : PE X l te) : PI X tg l (iAny X.K te) := by
  constructor
  intro pins s σ H R I h
  apply thn (hl.run pins s σ H _ I h)
  rintro v s1 ⟨x, H1, I1, r1, q1⟩
  rcases q1 with ⟨a, xs, rfl, hq, q⟩ | ⟨a, xs, rfl, hq, q⟩ | ⟨z, rfl, q⟩
  · cases r1
    obtain ⟨its, rv, p, hz⟩ := I1.list hq
    exact wpAny_pyIter_list p.isList (pi_one (tk := s1.toks) I1 _ (turn_list a _) ⟨_, Heap.get?_push_size _ rfl, rfl, rfl⟩ q)
  · cases r1
    obtain ⟨its, rv, p, hz⟩ := I1.tuple hq
    exact wpAny_pyIter_tuple (show s1.heap.IsTuple a its.toArray from p) (pi_one (tk := s1.toks) I1 _ (turn_tuple a _) ⟨_, Heap.get?_push_size _ rfl, rfl, rfl⟩ q)
  · obtain ⟨t, rfl⟩ := r1
    have go : ∀ (T : String), (T = "str_ascii_iterator" ∨ T = "str_iterator") → wpAny (model X.prog X.w) X.A (pyIter (.str z t)) (PIE X pins σ tg R) X.xe s1 := fun T _ => by
      by_cases ha : z.cps.all (· < 128) = true
      · exact wpAny_pyIter_ascii ha (pi_one (tk := s1.toks) I1 _ (turn_str _ z t "str_ascii_iterator" (.inl rfl)) ⟨_, Heap.get?_push_size _ rfl, rfl, rfl⟩ q)
      · exact wpAny_pyIter_wide (by simpa using ha) (pi_one (tk := s1.toks) I1 _ (turn_str _ z t "str_iterator" (.inr rfl)) ⟨_, Heap.get?_push_size _ rfl, rfl, rfl⟩ q)
    exact go _ (.inl rfl)
theorem signs_at {z : Str} {i : Nat} : (signs z)[i]? = z.cps[i]?.map fun c => D.str ⟨#[c]⟩ := by
  unfold signs
  rw [List.getElem?_map, Array.getElem?_toList]
theorem walk_str (z : Str) : Walk K cl (Its z) (signs z) [] where
  go := fun i H cs R hi => ⟨by
    have : (signs z).length = z.cps.size := by simp [signs]
    show i < z.cps.size
    omega, fun x H' ⟨e, c, hc, ex⟩ => by
    subst e ex
    refine ⟨_, by rw [signs_at, hc]; rfl, ?_⟩
    obtain ⟨G, O, r⟩ := R
    exact r.new (.d rfl)⟩
  stop := fun i H cs R hi => by
    have : (signs z).length = z.cps.size := by simp [signs]
    show z.cps.size ≤ i
    omega
theorem Rel.head {v : V} {d : D} {cs : List Cell} (r : Rel K cl H ((some v, some (.d d)) :: cs)) : ∃ G, Le G H ∧ Rep K cl G d v ∧ (∀ u x, Rep K cl G x u → Rel K cl H ((some u, some (.d x)) :: (some v, some (.d d)) :: cs)) := by
  obtain ⟨G, O, r⟩ := r
  have t := r.rep
  cases t with
  | @cons _ F _ O' h t =>
    cases h with
    | some h => exact ⟨G, r.le, h.2, fun u x q => r.new (.d q)⟩
theorem seq_walk {J : It} {v : V} {d : D} {xs : List D} (hgo : ∀ (i : Nat) G (H : Hp), Le G H → Rep K cl G d v → i < xs.length → J.go i H ∧ ∀ x H', J.yld i H x H' → H' = H ∧ ∃ y, xs[i]? = some y ∧ Rep K cl G y x)
    (hst : ∀ (i : Nat) G (H : Hp), Le G H → Rep K cl G d v → xs.length ≤ i → J.stop i H) : Walk K cl J xs [(some v, some (.d d))] where
  go := fun i H cs R hi => by
    obtain ⟨G, le, rp, k⟩ := Rel.head R
    obtain ⟨h1, h2⟩ := hgo i G H le rp hi
    refine ⟨h1, fun x H' y => ?_⟩
    obtain ⟨rfl, d, e, q⟩ := h2 x H' y
    exact ⟨d, e, k x d q⟩
  stop := fun i H cs R hi => by
    obtain ⟨G, le, rp, _⟩ := Rel.head R
    exact hst i G H le rp hi
theorem walk_lst {a : Addr} {xs : List D} : Walk K cl (Itl K a) xs [(some (V.ref a), some (.d (.lst xs)))] := by
  refine seq_walk (fun i G H le ⟨b, vs, eb, g, r⟩ hi => ?_) fun i G H le ⟨b, vs, eb, g, r⟩ hi => ?_
  · cases eb
    obtain ⟨v, hv, rv⟩ := r.get (List.getElem?_eq_getElem hi)
    exact ⟨⟨vs, v, SqL.of (le _ _ g), hv⟩, fun x H' ⟨e, y⟩ => ⟨e, xs[i], List.getElem?_eq_getElem hi, by
      have z := y vs (SqL.of (le _ _ g))
      rw [hv] at z; cases z; exact rv⟩⟩
  · cases eb
    exact ⟨vs, SqL.of (le _ _ g), by rw [← r.length]; exact hi⟩
theorem walk_frl {a : Addr} {xs : List D} : Walk K cl (Itl K a) xs [(some (V.ref a), some (.d (.frl xs)))] := by
  refine seq_walk (fun i G H le ⟨b, vs, eb, g, r⟩ hi => ?_) fun i G H le ⟨b, vs, eb, g, r⟩ hi => ?_
  · cases eb
    obtain ⟨v, hv, rv⟩ := r.get (List.getElem?_eq_getElem hi)
    exact ⟨⟨vs, v, SqL.le le g, hv⟩, fun x H' ⟨e, y⟩ => ⟨e, xs[i], List.getElem?_eq_getElem hi, by
      have z := y vs (SqL.le le g)
      rw [hv] at z; cases z; exact rv⟩⟩
  · cases eb
    exact ⟨vs, SqL.le le g, by rw [← r.length]; exact hi⟩
theorem walk_tup {a : Addr} {xs : List D} : Walk K cl (Itt K a) xs [(some (V.ref a), some (.d (.tup xs)))] := by
  refine seq_walk (fun i G H le ⟨b, vs, eb, g, r⟩ hi => ?_) fun i G H le ⟨b, vs, eb, g, r⟩ hi => ?_
  · cases eb
    obtain ⟨v, hv, rv⟩ := r.get (List.getElem?_eq_getElem hi)
    exact ⟨⟨vs, v, SqT.le le g, hv⟩, fun x H' ⟨e, y⟩ => ⟨e, xs[i], List.getElem?_eq_getElem hi, by
      have z := y vs (SqT.le le g)
      rw [hv] at z; cases z; exact rv⟩⟩
  · cases eb
    exact ⟨vs, SqT.le le g, by rw [← r.length]; exact hi⟩
theorem it_any {me : SS → RE} {R : It → Hp → Prop} (la : ∀ S, LenE S.length (me S)) (h : tIt K cl Wx (mIter me) σ H R) : iAny K (tEv K cl Wx me) σ H R := by
  obtain ⟨S, T, hl, hR, post⟩ := h
  refine ⟨S, T, hl, hR, ?_⟩
  unfold mIter at post
  have hs := la S
  cases e : me S with
  | bad => rw [e] at post; exact post
  | exc x S1 => rw [e] at post; exact post
  | ok o S1 =>
    rw [e] at post hs
    intro v H1 E a R1
    cases k : o.keep S1 with
    | none => simp only [k] at post; exact post.elim
    | some p =>
      obtain ⟨w, S2⟩ := p
      simp only [k] at post
      obtain ⟨r, hl2, hx⟩ := keep_ok a k R1 ((show S1.length = _ from hs).trans hl)
      have r := r.freeze hx
      obtain ⟨G, le, rp, _⟩ := r.head
      cases ed : w.toD with
      | lst xs =>
        rw [ed] at post r rp
        obtain ⟨b, vs, rfl, g, q⟩ := rp
        exact .inl ⟨b, vs, rfl, SqL.of (le _ _ g), post _ H1 _ walk_lst r⟩
      | frl xs =>
        rw [ed] at post r rp
        obtain ⟨b, vs, rfl, g, q⟩ := rp
        exact .inl ⟨b, vs, rfl, SqL.le le g, post _ H1 _ walk_frl r⟩
      | tup xs =>
        rw [ed] at post r rp
        obtain ⟨b, vs, rfl, g, q⟩ := rp
        exact .inr (.inl ⟨b, vs, rfl, SqT.le le g, post _ H1 _ walk_tup r⟩)
      | str z =>
        rw [ed] at post r rp
        cases (show v = _ from rp)
        exact .inr (.inr ⟨z, rfl, post _ H1 [] (walk_str z) r.tail⟩)
      | _ => rw [ed] at post; exact post.elim
theorem pi_anyD {l : Expr} {me : SS → RE} (h : PE X l (tEv X.K cl Wx me)) (la : ∀ S, LenE S.length (me S)) : PI X tg l (tIt X.K cl Wx (mIter me)) := PI.imp (pi_any h) fun _ _ _ => it_any la
theorem mIter_len {me : SS → RE} (la : ∀ S, LenE S.length (me S)) (S : SS) : LenIt S.length (mIter me S) := by
  unfold mIter
  have hs := la S
  cases e : me S with
  | bad => exact trivial
  | exc x S1 => rw [e] at hs; exact hs
  | ok o S1 =>
    rw [e] at hs
    cases k : o.keep S1 with
    | none => simp only [k]; exact trivial
    | some p =>
      simp only [k]
      split
      · exact (keep_len k).trans hs
      · exact trivial
theorem walk_rng (lo : Int) (n : Nat) : Walk K cl (Itr lo n) (intsD lo n) [] where
  go := fun i H cs R hi => by
    have hi' : i < n := by simpa [intsD] using hi
    refine ⟨hi', fun x H' ⟨e, ex⟩ => ⟨.int (lo + (i : Nat)), by simp [intsD, hi'], ?_⟩⟩
    subst e ex
    obtain ⟨G, O, r⟩ := R
    exact r.new (.d rfl)
  stop := fun i H cs R hi => by
    have hi' : n ≤ i := by simpa [intsD] using hi
    exact hi'
theorem it_rng1 {ml : SS → RL} {R : It → Hp → Prop} (h : tIt K cl Wx (mRng1 ml) σ H R) : iRng1 (tEl K cl Wx ml) σ H R := by
  obtain ⟨S, T, hl, hR, post⟩ := h
  refine ⟨S, T, hl, hR, ?_⟩
  unfold mRng1 at post
  cases e : ml S with
  | bad => rw [e] at post; exact post
  | exc x S1 => rw [e] at post; exact post
  | ok os S1 =>
    rw [e] at post
    intro vs H1 E a R1
    dsimp only at post
    split at post
    · rename_i j g
      split at post
      · rename_i hz
        obtain ⟨G, O, R'⟩ := id R1
        have t := opds_read R' (fun c hc => by simp [hc]) a g fun c hc => by simp [hc]
        obtain ⟨v, rfl, q⟩ := t.one
        cases (show v = _ from q)
        exact ⟨j, rfl, hz.1, hz.2, post _ H1 [] (walk_rng 0 _) (Rel.drop E R1)⟩
      · exact post.elim
    · exact post.elim
theorem it_rng2 {ml : SS → RL} {R : It → Hp → Prop} (h : tIt K cl Wx (mRng2 ml) σ H R) : iRng2 (tEl K cl Wx ml) σ H R := by
  obtain ⟨S, T, hl, hR, post⟩ := h
  refine ⟨S, T, hl, hR, ?_⟩
  unfold mRng2 at post
  cases e : ml S with
  | bad => rw [e] at post; exact post
  | exc x S1 => rw [e] at post; exact post
  | ok os S1 =>
    rw [e] at post
    intro vs H1 E a R1
    dsimp only at post
    split at post
    · rename_i i j g
      split at post
      · rename_i hz
        obtain ⟨G, O, R'⟩ := id R1
        have t := opds_read R' (fun c hc => by simp [hc]) a g fun c hc => by simp [hc]
        obtain ⟨v, u, rfl, q1, q2⟩ := t.two
        cases (show v = _ from q1)
        cases (show u = _ from q2)
        exact ⟨i, j, rfl, ⟨hz.1.1, hz.1.2, hz.2.1, hz.2.2⟩, post _ H1 [] (walk_rng i _) (Rel.drop E R1)⟩
      · exact post.elim
    · exact post.elim
theorem mRng1_len {ml : SS → RL} (la : ∀ S, LenL S.length (ml S)) (S : SS) : LenIt S.length (mRng1 ml S) := by
  unfold mRng1
  have hs := la S
  cases e : ml S with
  | bad => exact trivial
  | exc x S1 => rw [e] at hs; exact hs
  | ok o S1 =>
    rw [e] at hs
    dsimp only
    split
    · split <;> first | exact hs | exact trivial
    · exact trivial
theorem mRng2_len {ml : SS → RL} (la : ∀ S, LenL S.length (ml S)) (S : SS) : LenIt S.length (mRng2 ml S) := by
  unfold mRng2
  have hs := la S
  cases e : ml S with
  | bad => exact trivial
  | exc x S1 => rw [e] at hs; exact hs
  | ok o S1 =>
    rw [e] at hs
    dsimp only
    split
    · split <;> first | exact hs | exact trivial
    · exact trivial

/-! ### for -/
theorem loopS_len {g : Tgt} {body : SS → RS} (lg : LenG g) (lb : ∀ S, LenS S.length (body S)) : ∀ (items : List D) (S : SS), LenS S.length (loopS g body items S)
  | [], S => rfl
  | x :: xs, S => by
    unfold loopS
    cases eg : g x S with
    | none => exact trivial
    | some S1 =>
      have h1 := lg _ _ _ eg
      have h2 := lb S1
      dsimp only
      cases e : body S1 with
      | nx S2 => rw [e] at h2; have h3 := loopS_len lg lb xs S2; rw [show S2.length = S.length from (show S2.length = _ from h2).trans h1] at h3; exact h3
      | ct S2 => rw [e] at h2; have h3 := loopS_len lg lb xs S2; rw [show S2.length = S.length from (show S2.length = _ from h2).trans h1] at h3; exact h3
      | bk S2 => rw [e] at h2; exact (show S2.length = _ from h2).trans h1
      | rt w => exact trivial
      | exc x S2 => rw [e] at h2; exact (show S2.length = _ from h2).trans h1
      | bad => exact trivial
theorem st_for {mi : SS → RIt} {g : Tgt} {is : List Nat} {body : SS → RS} (li : ∀ S, LenIt S.length (mi S)) (lg : LenG g) (lb : ∀ S, LenS S.length (body S)) (h : tSt K cl Wx (sFor mi g body) De σ H) :
    tFor (tIt K cl Wx mi) (tG K cl is g) (tSt K cl Wx body) De σ H := by
  obtain ⟨S, T, hl, hR, post⟩ := h
  refine ⟨S, T, hl, hR, ?_⟩
  unfold sFor at post
  have hs := li S
  cases e : mi S with
  | bad => rw [e] at post; exact post
  | exc x S1 => rw [e] at post; exact post σ rfl
  | ok items S1 =>
    rw [e] at post hs
    have hl1 : S1.length = σ.length := (show S1.length = _ from hs).trans hl
    intro J H1 C wk R1
    refine ⟨fun i m σ' H' => i ≤ items.length ∧ m = items.length - i ∧ σ'.length = σ.length ∧ ∃ S', S'.length = σ'.length ∧ Rel K cl H' (C ++ (σ'.zip S' ++ T)) ∧ StPost K cl Wx σ.length T De (loopS g body (items.drop i) S'),
      ⟨items.length, Nat.zero_le _, by simp, rfl, S1, hl1, R1, post⟩, ?_⟩
    rintro i m σ' H' ⟨hi, rfl, lσ, S', lS, R', p'⟩
    by_cases hlt : i < items.length
    · obtain ⟨go, yl⟩ := wk.go i H' _ R' hlt
      refine .inr ⟨go, fun σ2 H2 => i + 1 ≤ items.length ∧ σ2.length = σ.length ∧ ∃ S2, S2.length = σ2.length ∧ Rel K cl H2 (C ++ (σ2.zip S2 ++ T)) ∧ StPost K cl Wx σ.length T De (loopS g body (items.drop (i + 1)) S2),
        fun σ2 H2 ⟨a1, a2, a3⟩ => ⟨items.length - (i + 1), by omega, a1, rfl, a2, a3⟩, fun x H2 hy => ?_⟩
      obtain ⟨d, hd, R2⟩ := yl x H2 hy
      have hdrop : items.drop i = d :: items.drop (i + 1) := by
        rw [List.drop_eq_getElem_cons hlt]
        rw [List.getElem?_eq_getElem hlt] at hd
        rw [Option.some.inj hd]
      rw [hdrop] at p'
      unfold loopS at p'
      cases eg : g d S' with
      | none => simp only [eg] at p'; exact p'.elim
      | some S2 =>
        have l2 : S2.length = S'.length := lg _ _ _ eg
        simp only [eg] at p'
        refine ⟨S', C ++ T, d, S2, lS, R2.perm (List.Perm.cons _ pcomm), eg, fun σ3 l3 _ R3 => ⟨S2, C ++ T, by rw [l2, lS, l3], R3, ?_⟩⟩
        have lb2 := lb S2
        have key : ∀ S3, S3.length = S2.length → StPost K cl Wx σ.length T De (loopS g body (items.drop (i + 1)) S3) → ∀ (σ4 : L2.St) (H4 : Hp), σ4.length = σ3.length → Rel K cl H4 (σ4.zip S3 ++ (C ++ T)) →
            i + 1 ≤ items.length ∧ σ4.length = σ.length ∧ ∃ S2, S2.length = σ4.length ∧ Rel K cl H4 (C ++ (σ4.zip S2 ++ T)) ∧ StPost K cl Wx σ.length T De (loopS g body (items.drop (i + 1)) S2) := fun S3 e3 p3 σ4 H4 l4 R4 =>
          ⟨hlt, by rw [l4, l3, lσ], S3, by rw [e3, l2, lS, l4, l3], R4.perm pcomm, p3⟩
        cases eb : body S2 with
        | nx S3 => rw [eb] at lb2; simp only [eb] at p'; exact key S3 lb2 p'
        | ct S3 => rw [eb] at lb2; simp only [eb] at p'; exact key S3 lb2 p'
        | bk S3 => simp only [eb] at p'; exact fun σ4 H4 l4 R4 => p' σ4 H4 (by rw [l4, l3, lσ]) (Rel.drop C (R4.perm pcomm))
        | rt w => simp only [eb] at p'; exact fun v H4 R4 => p' v H4 (Rel.drop C (R4.perm List.perm_middle.symm))
        | exc x S3 => simp only [eb] at p'; exact fun σ4 l4 => XPost.more C (p' σ4 (by rw [l4, l3, lσ]))
        | bad => simp only [eb] at p'; exact p'
    · have ei : i = items.length := by omega
      subst ei
      rw [List.drop_length] at p'
      exact .inl ⟨wk.stop _ H' _ R' (Nat.le_refl _), p' σ' H' lσ (Rel.drop C R')⟩
theorem sFor_len {mi : SS → RIt} {g : Tgt} {body : SS → RS} (li : ∀ S, LenIt S.length (mi S)) (lg : LenG g) (lb : ∀ S, LenS S.length (body S)) (S : SS) : LenS S.length (sFor mi g body S) := by
  unfold sFor
  have hs := li S
  cases e : mi S with
  | bad => exact trivial
  | exc x S1 => rw [e] at hs; exact hs
  | ok items S1 => rw [e] at hs; have h := loopS_len lg lb items S1; rw [show S1.length = S.length from hs] at h; exact h
theorem ps_forD {iter : Expr} {body : List Stmt} {pos : Pos} {mi : SS → RIt} {g : Tgt} {is : List Nat} {mb : SS → RS} (hp : PassesOwn (model X.prog X.w) X.A X.env X.xe) (hc : X.calm = true) (hi : PI X tg iter (tIt X.K cl Wx mi)) (hg : PG X tg (tG X.K cl is g)) (hb : PSs X body (tSt X.K cl Wx mb))
    (li : ∀ S, LenIt S.length (mi S)) (lg : LenG g) (lb : ∀ S, LenS S.length (mb S)) (hs : ∀ x, foldedSetIterable iter X.env x = pure x) : PS X (.For tg iter body [] pos) (tSt X.K cl Wx (sFor mi g mb)) :=
  PS.imp (ps_for hp hc hi hg hb hs) fun _ _ _ => st_for li lg lb

/-! ### while -/
theorem loopW_len {t : SS → RT} {body : SS → RS} (lt : ∀ S, LenT S.length (t S)) (lb : ∀ S, LenS S.length (body S)) : ∀ (n : Nat) (S : SS), LenS S.length (loopW t body n S)
  | 0, S => trivial
  | n + 1, S => by
    unfold loopW
    have h1 := lt S
    cases e : t S with
    | bad => exact trivial
    | exc x S1 => rw [e] at h1; exact h1
    | ok b S1 =>
      rw [e] at h1
      have h1 : S1.length = S.length := h1
      cases b with
      | false => exact h1
      | true =>
        have h2 := lb S1
        dsimp only
        cases e2 : body S1 with
        | nx S2 => rw [e2] at h2; have h3 := loopW_len lt lb n S2; rw [show S2.length = S.length from (show S2.length = _ from h2).trans h1] at h3; exact h3
        | ct S2 => rw [e2] at h2; have h3 := loopW_len lt lb n S2; rw [show S2.length = S.length from (show S2.length = _ from h2).trans h1] at h3; exact h3
        | bk S2 => rw [e2] at h2; exact (show S2.length = _ from h2).trans h1
        | rt w => exact trivial
        | exc x S2 => rw [e2] at h2; exact (show S2.length = _ from h2).trans h1
        | bad => exact trivial
theorem st_while {t : SS → RT} {body : SS → RS} {n : Nat} (lt : ∀ S, LenT S.length (t S)) (lb : ∀ S, LenS S.length (body S)) (h : tSt K cl Wx (loopW t body n) De σ H) :
    tWhile (tEt K cl Wx t) (tSt K cl Wx body) De σ H := by
  obtain ⟨S, T, hl, hR, post⟩ := h
  refine ⟨fun m σ' H' => σ'.length = σ.length ∧ ∃ S', S'.length = σ'.length ∧ Rel K cl H' (σ'.zip S' ++ T) ∧ StPost K cl Wx σ.length T De (loopW t body m S'), ⟨n, rfl, S, hl, hR, post⟩, ?_⟩
  rintro m σ' H' ⟨lσ, S', lS, R', p'⟩
  cases m with
  | zero => exact p'.elim
  | succ m =>
    unfold loopW at p'
    refine ⟨S', T, lS, R', ?_⟩
    have h1 := lt S'
    cases e : t S' with
    | bad => rw [e] at p'; exact p'
    | exc x S1 => rw [e] at p'; exact p' σ' lσ
    | ok b S1 =>
      rw [e] at p' h1
      have h1 : S1.length = S'.length := h1
      intro H1 R1
      cases b with
      | false => exact iteF (p' σ' H1 lσ R1)
      | true =>
        refine iteT ⟨fun σ2 H2 => σ2.length = σ.length ∧ ∃ S2, S2.length = σ2.length ∧ Rel K cl H2 (σ2.zip S2 ++ T) ∧ StPost K cl Wx σ.length T De (loopW t body m S2), fun σ2 H2 q => ⟨m, Nat.lt_succ_self m, q⟩, S1, T, h1.trans lS, R1, ?_⟩
        have h2 := lb S1
        dsimp only at p'
        rw [lσ]
        cases e2 : body S1 with
        | nx S2 => rw [e2] at h2; simp only [e2] at p'; exact fun σ2 H2 l2 R2 => ⟨l2, S2, by rw [show S2.length = S1.length from h2, h1, lS, lσ, l2], R2, p'⟩
        | ct S2 => rw [e2] at h2; simp only [e2] at p'; exact fun σ2 H2 l2 R2 => ⟨l2, S2, by rw [show S2.length = S1.length from h2, h1, lS, lσ, l2], R2, p'⟩
        | bk S2 => simp only [e2] at p'; exact p'
        | rt w => simp only [e2] at p'; exact p'
        | exc x S2 => simp only [e2] at p'; exact p'
        | bad => simp only [e2] at p'; exact p'
end
end Ly
end
section
set_option Elab.async false
set_option linter.all false
set_option maxRecDepth 100000
set_option maxHeartbeats 4000000
/-! LyI: list comprehensions. -/
namespace Ly
open PySem PySem.Spec PyProof.Rows L2

def wipeS (S : SS) : List Nat → SS
  | [] => S
  | v :: vs => (wipeS S vs).set v none
/-- the places vs of S laid into Sc again -/
def restS (S : SS) : List Nat → SS → SS
  | [], Sc => Sc
  | v :: vs, Sc => restS S vs (Sc.set v ((wipeS S vs)[v]?.join))
inductive RC where
  | ok (acc : List D) (S : SS) | bad
def loopC (own : List Nat) (g : Tgt) (cond : SS → RT) (elt : SS → RE) : List D → SS → List D → RC
  | [], S, acc => .ok acc S
  | x :: xs, S, acc => match g x S with
    | none => .bad
    | some S1 => match cond S1 with
      | .ok true S2 => (match elt S2 with
        | .ok o S3 => (match o.keep S3 with
          | some (w, S4) => if acc.length < sizeLine then loopC own g cond elt xs (wipeS S4 own) (acc ++ [w.toD]) else .bad
          | none => .bad)
        | _ => .bad)
      | .ok false S2 => loopC own g cond elt xs (wipeS S2 own) acc
      | _ => .bad
def mLc (own : List Nat) (mi : SS → RIt) (g : Tgt) (cond : SS → RT) (elt : SS → RE) : SS → RE := fun S => match mi S with
  | .ok items S1 => (match loopC own g cond elt items (wipeS S1 own) [] with
    | .ok acc S2 => .ok (.t (.l acc)) (restS S1 own S2)
    | .bad => .bad)
  | .exc x S1 => .exc x S1
  | .bad => .bad
def tTrue : SS → RT := fun S => .ok true S
theorem wipeS_len (S : SS) : ∀ vs, (wipeS S vs).length = S.length
  | [] => rfl
  | v :: vs => by unfold wipeS; rw [List.length_set, wipeS_len S vs]
theorem restS_len (S : SS) : ∀ (vs : List Nat) (Sc : SS), (restS S vs Sc).length = Sc.length
  | [], Sc => rfl
  | v :: vs, Sc => by unfold restS; rw [restS_len S vs, List.length_set]
section
variable {K : PySem.W.Frag} {cl : CL} {Wx : WX} {H G : Hp} {X : Cx} {De : Ends} {tg : Expr}
theorem Rel.unset {σ : L2.St} {S : SS} {T : List Cell} {i : Nat} (r : Rel K cl H (σ.zip S ++ T)) : Rel K cl H ((σ.set i none).zip (S.set i none) ++ T) := by
  rw [zip_set]
  by_cases hi : i < (σ.zip S).length
  · have r1 := (r.perm (List.Perm.append_right T (perm_at (List.getElem?_eq_getElem hi)))).tail
    exact (r1.blank (o := none)).perm (List.Perm.append_right T (perm_set hi)).symm
  · rw [List.set_eq_of_length_le (by omega)]
    exact r
/-- forgetting places -/
theorem Rel.wiped {σ : L2.St} {S : SS} {T : List Cell} (r : Rel K cl H (σ.zip S ++ T)) : ∀ vs, Rel K cl H ((wipe σ vs).zip (wipeS S vs) ++ T)
  | [] => r
  | v :: vs => (Rel.wiped r vs).unset
/-- setting places aside, and laying them in again -/
theorem Rel.aside {σ : L2.St} {S : SS} : ∀ (vs : List Nat) {T : List Cell} {H : Hp}, S.length = σ.length → Rel K cl H (σ.zip S ++ T) → ∃ R : List Cell, Rel K cl H ((wipe σ vs).zip (wipeS S vs) ++ (R ++ T)) ∧
    ∀ (Sc : SS) (T' : List Cell) (H' : Hp), Sc.length = σ.length → Rel K cl H' ((wipe σ vs).zip Sc ++ (R ++ T')) → Rel K cl H' (σ.zip (restS S vs Sc) ++ T')
  | [], T, H, hl, r => ⟨[], r, fun Sc T' H' l r => r⟩
  | v :: vs, T, H, hl, r => by
    obtain ⟨R, r1, back⟩ := Rel.aside vs hl r
    by_cases hv : v < σ.length
    · have hv1 : v < (wipe σ vs).length := by rw [wipe_length]; exact hv
      have hv2 : v < (wipeS S vs).length := by rw [wipeS_len]; omega
      have hz : ((wipe σ vs).zip (wipeS S vs))[v]? = some ((wipe σ vs)[v], (wipeS S vs)[v]) := zip_get (List.getElem?_eq_getElem hv1) (List.getElem?_eq_getElem hv2)
      have hzl : v < ((wipe σ vs).zip (wipeS S vs)).length := by rw [List.length_zip]; omega
      refine ⟨((wipe σ vs)[v], (wipeS S vs)[v]) :: R, ?_, fun Sc T' H' lS r' => ?_⟩
      · have q := r1.perm (List.Perm.append_right _ (perm_at hz))
        have q2 : Rel K cl H (((none, none) :: ((wipe σ vs).zip (wipeS S vs)).eraseIdx v) ++ (((wipe σ vs)[v], (wipeS S vs)[v]) :: (R ++ T))) := by
          refine (q.blank (o := none)).perm ?_
          exact List.Perm.cons _ (List.perm_middle.symm)
        show Rel K cl H (((wipe σ vs).set v none).zip ((wipeS S vs).set v none) ++ _)
        rw [zip_set]
        exact q2.perm (List.Perm.append_right _ (perm_set hzl)).symm
      · unfold restS
        refine back _ T' H' (by rw [List.length_set]; exact lS) ?_
        have hj : (wipeS S vs)[v]?.join = (wipeS S vs)[v] := by rw [List.getElem?_eq_getElem hv2]; rfl
        rw [hj]
        have r2 : Rel K cl H' (((wipe σ vs).set v none).zip Sc ++ (((wipe σ vs)[v], (wipeS S vs)[v]) :: R ++ T')) := r'
        have hs : Sc = Sc.set v Sc[v] := by
          apply List.ext_getElem?
          intro j
          by_cases e : j = v
          · subst e; rw [List.getElem?_set_self (by omega), List.getElem?_eq_getElem]
          · rw [List.getElem?_set_ne (Ne.symm e)]
        rw [hs, zip_set] at r2
        have hzl2 : v < ((wipe σ vs).zip Sc).length := by rw [List.length_zip]; omega
        have r3 := (r2.perm (List.Perm.append_right _ (perm_set hzl2))).tail
        have r4 := r3.perm (List.perm_middle (a := ((wipe σ vs)[v], (wipeS S vs)[v])) (l₁ := ((wipe σ vs).zip Sc).eraseIdx v) (l₂ := R ++ T'))
        have e5 : (wipe σ vs).zip (Sc.set v (wipeS S vs)[v]) = ((wipe σ vs).zip Sc).set v ((wipe σ vs)[v], (wipeS S vs)[v]) := by
          rw [← zip_set]
          congr 1
          apply List.ext_getElem?
          intro j
          by_cases e : j = v
          · subst e; rw [List.getElem?_set_self hv1, List.getElem?_eq_getElem hv1]
          · rw [List.getElem?_set_ne (Ne.symm e)]
        rw [e5]
        exact r4.perm (List.Perm.append_right _ (perm_set hzl2)).symm
    · refine ⟨R, ?_, fun Sc T' H' lS r' => ?_⟩
      · show Rel K cl H (((wipe σ vs).set v none).zip ((wipeS S vs).set v none) ++ _)
        rw [List.set_eq_of_length_le (by rw [wipe_length]; omega), List.set_eq_of_length_le (by rw [wipeS_len]; omega)]
        exact r1
      · unfold restS
        rw [List.set_eq_of_length_le (l := Sc) (by omega)]
        refine back Sc T' H' lS ?_
        have r2 : Rel K cl H' (((wipe σ vs).set v none).zip Sc ++ (R ++ T')) := r'
        rw [List.set_eq_of_length_le (by rw [wipe_length]; omega)] at r2
        exact r2
theorem ev_lc {σ : L2.St} {own is : List Nat} {mi : SS → RIt} {g : Tgt} {cond : SS → RT} {elt : SS → RE} {Q : VK} (hsub : ∀ i ∈ is, i ∈ own) (li : ∀ S, LenIt S.length (mi S)) (lg : LenG g) (lc : ∀ S, LenT S.length (cond S)) (le : ∀ S, LenE S.length (elt S))
    (h : tEv K cl Wx (mLc own mi g cond elt) σ H Q) :
    tLc (tIt K cl Wx mi) (tG K cl is g) (tEt K cl (fun _ _ _ _ => False) cond) (tEv K cl (fun _ _ _ _ => False) elt) own σ H Q := by
  obtain ⟨S, T, hl, hR, post⟩ := h
  refine ⟨S, T, hl, hR, ?_⟩
  unfold mLc at post
  have hs := li S
  cases e : mi S with
  | bad => rw [e] at post; exact post
  | exc x S1 => rw [e] at post; exact post
  | ok items S1 =>
    rw [e] at post hs
    have hl1 : S1.length = σ.length := (show S1.length = _ from hs).trans hl
    intro J H1 C wk R1 Da hD
    cases ec : loopC own g cond elt items (wipeS S1 own) [] with
    | bad => simp only [ec] at post; exact post.elim
    | ok accF SF =>
      simp only [ec] at post
      obtain ⟨R, r0, back⟩ := Rel.aside own hl1 (R1.perm pcomm)
      refine ⟨fun i m H' => i ≤ items.length ∧ m = items.length - i ∧ ∃ S' acc, S'.length = σ.length ∧ Rel K cl H' ((some (.ref Da), some (.l acc)) :: (C ++ ((wipe σ own).zip S' ++ (R ++ T)))) ∧ loopC own g cond elt (items.drop i) S' acc = .ok accF SF, ?_, ?_⟩
      · refine ⟨items.length, Nat.zero_le _, by simp, wipeS S1 own, [], by rw [wipeS_len]; exact hl1, ?_, ec⟩
        obtain ⟨G, O, r⟩ := r0
        have q := r.new (NewAt.l (xs := []) (vs := []) hD rfl)
        refine q.perm (List.Perm.cons _ ?_)
        exact (List.Perm.append_left _ pcomm).trans pcomm
      · rintro i m H' ⟨hi, rfl, S', acc, lS, R', el⟩
        by_cases hlt : i < items.length
        · have Rc : Rel K cl H' (C ++ ((some (V.ref Da), some (.l acc)) :: ((wipe σ own).zip S' ++ (R ++ T)))) := R'.perm List.perm_middle.symm
          obtain ⟨go, yl⟩ := wk.go i H' _ Rc hlt
          refine .inr ⟨go, fun H2 => i + 1 ≤ items.length ∧ ∃ S' acc, S'.length = σ.length ∧ Rel K cl H2 ((some (.ref Da), some (.l acc)) :: (C ++ ((wipe σ own).zip S' ++ (R ++ T)))) ∧ loopC own g cond elt (items.drop (i + 1)) S' acc = .ok accF SF,
            fun H2 ⟨a1, a2⟩ => ⟨items.length - (i + 1), by omega, a1, rfl, a2⟩, fun x H2 hy => ?_⟩
          obtain ⟨d, hd, R2⟩ := yl x H2 hy
          have hdrop : items.drop i = d :: items.drop (i + 1) := by
            rw [List.drop_eq_getElem_cons hlt]
            rw [List.getElem?_eq_getElem hlt] at hd
            rw [Option.some.inj hd]
          rw [hdrop] at el
          unfold loopC at el
          cases eg : g d S' with
          | none => simp only [eg] at el; cases el
          | some S2 =>
            simp only [eg] at el
            have l2 : S2.length = S'.length := lg _ _ _ eg
            refine ⟨S', C ++ ((some (V.ref Da), some (.l acc)) :: (R ++ T)), d, S2, by rw [lS, wipe_length], ?_, eg, fun σ2 l3 ag R3 => ⟨?_, S2, C ++ ((some (V.ref Da), some (.l acc)) :: (R ++ T)), by rw [l2, lS, l3, wipe_length], R3, ?_⟩⟩
            · refine R2.perm (List.Perm.cons _ ?_)
              exact (List.Perm.append_left C List.perm_middle.symm).trans pcomm
            · rw [ag own hsub]
              apply List.ext_getElem?
              intro j
              rw [wipe_get, wipe_get]
              by_cases hj : j ∈ own
              · rw [if_pos hj, if_pos hj]; cases σ[j]? <;> rfl
              · rw [if_neg hj, if_neg hj]
            · have hlc := lc S2
              have nxt : ∀ (S5 : SS) (acc5 : List D) (H5 : Hp), S5.length = σ.length → Rel K cl H5 (σ2.zip S5 ++ (C ++ ((some (V.ref Da), some (.l acc5)) :: (R ++ T)))) → loopC own g cond elt (items.drop (i + 1)) (wipeS S5 own) acc5 = .ok accF SF →
                  i + 1 ≤ items.length ∧ ∃ S' acc, S'.length = σ.length ∧ Rel K cl H5 ((some (.ref Da), some (.l acc)) :: (C ++ ((wipe σ own).zip S' ++ (R ++ T)))) ∧ loopC own g cond elt (items.drop (i + 1)) S' acc = .ok accF SF := fun S5 acc5 H5 l5 R5 e5 => by
                refine ⟨hlt, wipeS S5 own, acc5, by rw [wipeS_len]; exact l5, ?_, e5⟩
                have q := R5.wiped own
                rw [ag own hsub] at q
                have ew : wipe (wipe σ own) own = wipe σ own := by
                  apply List.ext_getElem?
                  intro j
                  rw [wipe_get, wipe_get]
                  by_cases hj : j ∈ own
                  · rw [if_pos hj, if_pos hj]; cases σ[j]? <;> rfl
                  · rw [if_neg hj, if_neg hj]
                rw [ew] at q
                refine q.perm (pcomm.trans ?_)
                exact (List.Perm.append_left C List.perm_middle).trans List.perm_middle
              cases ecn : cond S2 with
              | bad => simp only [ecn] at el; cases el
              | exc x S3 => simp only [ecn] at el; cases el
              | ok b S3 =>
                rw [ecn] at hlc
                have hlc : S3.length = S2.length := hlc
                simp only [ecn] at el
                intro H3 R4
                cases b with
                | false => exact iteF (nxt S3 acc H3 (by rw [hlc, l2, lS]) R4 el)
                | true =>
                  refine iteT ⟨S3, _, by rw [hlc, l2, lS, l3, wipe_length], R4, ?_⟩
                  dsimp only at el
                  have hle := le S3
                  cases ee : elt S3 with
                  | bad => rw [ee] at el; cases el
                  | exc x S4 => rw [ee] at el; cases el
                  | ok o S4 =>
                    rw [ee] at el hle
                    have hle : S4.length = S3.length := hle
                    dsimp only at el
                    intro y H4 E a R5
                    cases ek : o.keep S4 with
                    | none => rw [ek] at el; cases el
                    | some pr =>
                      obtain ⟨w, S5⟩ := pr
                      rw [ek] at el
                      dsimp only at el
                      obtain ⟨r, hl5, hx⟩ := keep_ok a ek R5 (by rw [hle, hlc, l2, lS, l3, wipe_length])
                      have r := r.freeze hx
                      split at el
                      · rename_i hz
                        have pp : ((some y, some (W.d w.toD)) :: (σ2.zip S5 ++ (C ++ ((some (V.ref Da), some (W.l acc)) :: (R ++ T))))).Perm ((some (V.ref Da), some (W.l acc)) :: (some y, some (W.d w.toD)) :: (σ2.zip S5 ++ (C ++ (R ++ T)))) := by
                          refine List.Perm.trans (List.Perm.cons _ ?_) (List.Perm.swap _ _ _)
                          refine (List.Perm.append_left _ List.perm_middle).trans ?_
                          exact List.perm_middle
                        obtain ⟨b, vs, eb, gb, hlen, r2⟩ := Rel.grow (r.perm pp)
                        cases eb
                        refine ⟨vs, gb, by rw [hlen]; exact hz, nxt S5 _ _ (by rw [hl5, hle, hlc, l2, lS]) ?_ el⟩
                        refine r2.perm ?_
                        refine List.Perm.trans ?_ (List.Perm.append_left _ List.perm_middle.symm)
                        exact List.perm_middle.symm
                      · cases el
        · have ei : i = items.length := by omega
          subst ei
          rw [List.drop_length] at el
          unfold loopC at el
          cases el
          refine .inl ⟨wk.stop _ H' _ (R'.perm List.perm_middle.symm) (Nat.le_refl _), post (.ref Da) H' _ .t ?_⟩
          have q : Rel K cl H' ((wipe σ own).zip SF ++ (R ++ ((some (V.ref Da), some (.l accF)) :: (C ++ T)))) := by
            refine R'.perm ?_
            refine (List.Perm.cons _ pcomm).trans ?_
            refine List.perm_middle.symm.trans (List.Perm.append_left _ ?_)
            refine (List.Perm.cons _ pcomm).trans List.perm_middle.symm
          have q2 := back SF _ H' lS q
          refine (Rel.drop C ?_)
          refine q2.perm ?_
          refine List.perm_middle.trans ((List.Perm.cons _ pcomm).trans List.perm_middle.symm)
theorem mLc_len {own : List Nat} {mi : SS → RIt} {g : Tgt} {cond : SS → RT} {elt : SS → RE} (li : ∀ S, LenIt S.length (mi S)) (lg : LenG g) (lc : ∀ S, LenT S.length (cond S)) (le : ∀ S, LenE S.length (elt S)) (S : SS) : LenE S.length (mLc own mi g cond elt S) := by
  have key : ∀ (n : Nat) (items : List D) (S : SS) (acc acc' : List D) (S' : SS), S.length = n → loopC own g cond elt items S acc = .ok acc' S' → S'.length = n := fun n items => by
    induction items with
    | nil => intro S acc acc' S' h e; unfold loopC at e; cases e; exact h
    | cons x xs ih =>
      intro S acc acc' S' h e
      unfold loopC at e
      cases eg : g x S with
      | none => simp only [eg] at e; cases e
      | some S1 =>
        have l1 := lg _ _ _ eg
        have l2 := lc S1
        simp only [eg] at e
        cases ec : cond S1 with
        | bad => rw [ec] at e; cases e
        | exc _ _ => rw [ec] at e; cases e
        | ok b S2 =>
          rw [ec] at e l2
          have l2 : S2.length = S1.length := l2
          cases b with
          | false => exact ih _ _ _ _ (by rw [wipeS_len, l2, l1, h]) e
          | true =>
            dsimp only at e
            have l3 := le S2
            cases ee : elt S2 with
            | bad => rw [ee] at e; cases e
            | exc _ _ => rw [ee] at e; cases e
            | ok o S3 =>
              rw [ee] at e l3
              have l3 : S3.length = S2.length := l3
              dsimp only at e
              cases ek : o.keep S3 with
              | none => rw [ek] at e; cases e
              | some pr =>
                obtain ⟨w, S4⟩ := pr
                rw [ek] at e
                dsimp only at e
                split at e
                · exact ih _ _ _ _ (by rw [wipeS_len, keep_len ek, l3, l2, l1, h]) e
                · cases e
  unfold mLc
  have hs := li S
  cases e : mi S with
  | bad => exact trivial
  | exc x S1 => rw [e] at hs; exact hs
  | ok items S1 =>
    rw [e] at hs
    have hs : S1.length = S.length := hs
    cases ec : loopC own g cond elt items (wipeS S1 own) [] with
    | bad => simp only [ec]; exact trivial
    | ok acc S2 =>
      simp only [ec]
      show (restS S1 own S2).length = S.length
      rw [restS_len]
      exact key _ _ _ _ _ _ (by rw [wipeS_len]; exact hs) ec
end
end Ly
end
section
set_option Elab.async false
set_option linter.all false
set_option maxRecDepth 100000
set_option maxHeartbeats 4000000
/-! LyJ: calls of the text's defs and methods, fields, instances made, a def by its body. -/
namespace Ly
open PySem PySem.Spec PyProof.Rows L2

/-- a def of the text, as its callers know it -/
structure FnD (cl : CL) (X : Cx) (k : Nat) (x : Str) (n : Nat) (m : List D → Out) : Prop where
  ex : ∃ f fd ps, X.mg x = some (.ref f) ∧ PySem.W.keepIn X.K (.ref f) = true ∧ Binds X.K fd ps [] ∧ FnOk X.prog X.w X.K X.mg X.base (L2N.CX X.prog X.w) k f fd ps (spD X.K cl n m)
/-- a method of the class c -/
structure MtD (cl : CL) (X : Cx) (k : Nat) (c : Nat) (x : Str) (n : Nat) (m : List D → Out) : Prop where
  cls : Cls X.K (cl c)
  ex : ∃ f fd ps, Meth X.K (cl c) x f ∧ Binds X.K fd ps [] ∧ FnOk X.prog X.w X.K X.mg X.base (L2N.CX X.prog X.w) k f fd ps (spD X.K cl n m)
def lookD (f : Str) : List Str → List D → Option D
  | n :: ns, x :: xs => if f = n then some x else lookD f ns xs
  | _, _ => none
def putN (f : Str) : List Str → List Str
  | [] => [f]
  | n :: ns => if n = f then f :: ns else n :: putN f ns
def putX (f : Str) (d : D) : List Str → List D → List D
  | [], _ => [d]
  | n :: ns, x :: xs => if n = f then d :: xs else x :: putX f d ns xs
  | _ :: _, [] => []
/-- o.m(..) of the class c; n counts self -/
def mMeth (c : Nat) (x : Str) (n : Nat) (m : List D → Out) (mo : SS → RE) (ml : SS → RD) : SS → RE := fun S => match mo S with
  | .ok o S1 => (match o.keep S1 with
    | some (w, S2) => (match w.toD with
      | .obj c' ns xs => if c' = c ∧ ns.contains x = false then (match ml S2 with
          | .ok ds S3 => if ds.length + 1 = n then (match m (.obj c' ns xs :: ds) with | .ret w => .ok (.t w) S3 | .exc x => .exc x S3 | .bad => .bad) else .bad
          | .exc x S3 => .exc x S3
          | .bad => .bad) else .bad
      | _ => .bad)
    | none => .bad)
  | .exc x S1 => .exc x S1
  | .bad => .bad
/-- o.f; ok tells the fields that the classes are known to leave alone -/
def sFldD (c : Nat) (f : Str) : D → Option W
  | .obj c' ns xs => if c' = c then (lookD f ns xs).map .d else none
  | _ => none
section
variable {K : PySem.W.Frag} {cl : CL} {Wx : WX} {σ : L2.St} {H G : Hp} {X : Cx} {T : List Cell} {De : Ends} {S : SS}
theorem pe_userD {k n : Nat} {m : List D → Out} {x : Str} {p pos : Pos} {e : Expr} {es : List Expr} {ml : SS → RD} (F : FnD cl X k x n m) (hr : Room k X.A) (hg : Gl X x) (tk : L2N.Takes X Wx) (ha : PA X (e :: es) (tEd X.K cl Wx ml))
    (hdb : (x == ("__debug__" : Str)) = false) (he : starEach (e :: es) X.env = (false, eval e X.env) :: starEach es X.env) (hpl : (backTo pos (starEach es X.env)).any (·.1) = false) :
    PE X (.Call (.Name x p) (e :: es) [] pos) (tEv X.K cl Wx (mCall n m ml)) := by
  obtain ⟨f, fd, ps, hm, hk, hb, F⟩ := F.ex
  refine PE.imp (pe_callSD (dvs := []) (E := fun σ cls d H => Wx cls d σ H) F hr hg hm hk hb .nil (fun σ => L2N.passAt tk σ) ha hdb he hpl) fun σ H Q q => ?_
  obtain ⟨S, T, hl, hR, post⟩ := ev_call q
  refine ⟨S, T, hl, hR, ?_⟩
  cases e : ml S with
  | bad => rw [e] at post; exact post
  | exc x S1 => rw [e] at post; exact post
  | ok ds S1 =>
    rw [e] at post
    intro vs H1 h1 h2
    show spD X.K cl n m (vs ++ []) H1 Q _
    rw [List.append_nil]
    exact post vs H1 h1 h2
theorem pe_userD0 {k : Nat} {m : List D → Out} {x : Str} {p pos : Pos} (F : FnD cl X k x 0 m) (hr : Room k X.A) (hg : Gl X x) (tk : L2N.Takes X Wx) (hdb : (x == ("__debug__" : Str)) = false) :
    PE X (.Call (.Name x p) [] [] pos) (tEv X.K cl Wx (mCall 0 m dNil)) := by
  obtain ⟨f, fd, ps, hm, hk, hb, F⟩ := F.ex
  constructor
  intro pins s σ H Q I q
  obtain ⟨S, T, hl, hR, post⟩ := ev_call q
  have h0 := post [] H rfl (by simpa [cellsD] using hR)
  exact wpAny_Call_Name_kw (ld_glob I hg hm (PySem.W.callWith_K0 I.kIn hk (run_fnSD (dvs := []) (us := []) (E := fun σ cls d H => Wx cls d σ H) F hr hb .nil (L2N.passAt tk σ) I .nil (by simpa using h0))) hdb)
theorem ev_meth {c n : Nat} {x : Str} {m : List D → Out} {mo : SS → RE} {ml : SS → RD} {Q : VK} (lo : ∀ S, LenE S.length (mo S)) (h : tEv K cl Wx (mMeth c x n m mo ml) σ H Q) :
    tEv K cl Wx mo σ H fun v H1 => ∃ a dx fs, v = .ref a ∧ H1 a = some (.ins (cl c) dx fs) ∧ fs.lookup x = none ∧ tEd K cl Wx ml σ H1 fun vs H2 => spD K cl n m (v :: vs) H2 Q (fun cls d H => Wx cls d σ H) := by
  obtain ⟨S, T, hl, hR, post⟩ := h
  refine ⟨S, T, hl, hR, ?_⟩
  unfold mMeth at post
  have hs := lo S
  cases e : mo S with
  | bad => rw [e] at post; exact post
  | exc x S1 => rw [e] at post; exact post
  | ok o S1 =>
    rw [e] at post hs
    intro v H1 E oa R
    cases k : o.keep S1 with
    | none => simp only [k] at post; exact post.elim
    | some p =>
      obtain ⟨w, S2⟩ := p
      simp only [k] at post
      obtain ⟨r, hl2, hx⟩ := keep_ok oa k R ((show S1.length = _ from hs).trans hl)
      have r := r.freeze hx
      cases ed : w.toD with
      | obj c' ns xs =>
        rw [ed] at post r
        dsimp only at post
        split at post
        · rename_i hc
          obtain ⟨rfl, hnx⟩ := hc
          obtain ⟨G, le, rp, _⟩ := r.head
          obtain ⟨a, dx, fs, rfl, g, hn, q⟩ := rp
          refine ⟨a, dx, fs, rfl, le _ _ g, ?_, S2, [(some (V.ref a), some (.d (.obj c' ns xs)))] ++ T, hl2.trans ((show S1.length = _ from hs).trans hl), r.perm (pcomm (A := [(some (V.ref a), some (W.d (.obj c' ns xs)))])), ?_⟩
          · cases el : fs.lookup x with
            | none => rfl
            | some v =>
              have : x ∈ fs.map (·.1) := List.mem_map.mpr ⟨_, PySem.mem_of_lookup el, rfl⟩
              rw [hn] at this
              rw [List.contains_iff_mem.mpr this] at hnx
              cases hnx
          · cases e2 : ml S2 with
            | bad => rw [e2] at post; exact post
            | exc x S3 => rw [e2] at post; exact XPost.more _ post
            | ok ds S3 =>
              rw [e2] at post
              intro vs H2 hlen R2
              dsimp only at post
              split at post
              · rename_i hn2
                refine ⟨.obj c' ns xs :: ds, σ.zip S3 ++ T, by simpa [hlen] using hn2, by simpa using hn2, ?_, ?_⟩
                · show Rel K cl H2 ([(some (V.ref a), some (W.d (.obj c' ns xs)))] ++ (cellsD ds vs ++ (σ.zip S3 ++ T)))
                  exact R2.perm ((List.Perm.append_left _ pcomm).trans pcomm)
                · cases em : m (.obj c' ns xs :: ds) with
                  | bad => rw [em] at post; exact post.elim
                  | ret w => rw [em] at post; exact fun v H' R' => post v H' _ .t R'
                  | exc x => rw [em] at post; exact post
              · exact post.elim
        · exact post.elim
      | _ => rw [ed] at post; exact post.elim
theorem pe_methD {k c n : Nat} {m : List D → Out} {o e : Expr} {x : Str} {apos pos : Pos} {es : List Expr} {pl : Sem Bool} {mo : SS → RE} {ml : SS → RD} (F : MtD cl X k c x n m) (ho : PE X o (tEv X.K cl Wx mo)) (lo : ∀ S, LenE S.length (mo S)) (hr : Room k X.A) (tk : L2N.Takes X Wx)
    (ha : PA X (e :: es) (tEd X.K cl Wx ml)) (hst : starEach (e :: es) X.env = (false, eval e X.env) :: starEach es X.env) (hpl : (backTo pos (starEach es X.env)).any (·.1) = false)
    (ht : eval (.Call (.Attribute o x apos) (e :: es) [] pos) X.env = (eval o X.env >>= fun ov => standAt apos.atName >>= fun _ => holding [ov] (getMethod ov x pl) >>= fun q => callWith pos q.1 q.2 (backTo pos (starEach (e :: es) X.env)) (backToKw pos (keywordEach [] X.env)))) :
    PE X (.Call (.Attribute o x apos) (e :: es) [] pos) (tEv X.K cl Wx (mMeth c x n m mo ml)) := by
  obtain ⟨cC, f, fd, ps, hm, hb, F⟩ := F
  constructor
  intro pins s σ H Q I q
  apply PySem.W.methodCall_KW (pl := pl) (thn (ho.run pins s σ H _ I (ev_meth lo q)) _) ht
  rintro u s1 ⟨v, H1, I1, rv, a, dx, fs, rfl, ea, l, q1⟩
  obtain rfl : u = Value.ref a := rv
  apply getmeth_ok I1 ea cC hm l
  apply PySem.W.callWith_K (first := [.ref a]) (h₀ := X.base) I.ok.mod.kin hm.kp (thn (ha.run pos pins s1 σ H1 _ I1 q1) _) hst hpl
  rintro us s2 ⟨vs, H2, I2, r, q2⟩
  exact ⟨I2.kIn, run_fnSD (dvs := []) (us := .ref a :: us) (vs := .ref a :: vs) (E := fun σ cls d H => Wx cls d σ H) F hr hb .nil (L2N.passAt tk σ) I2 (.cons rfl r) (by rw [List.append_nil]; exact q2)⟩
theorem pe_methD0 {k c n : Nat} {m : List D → Out} {o : Expr} {x : Str} {apos pos : Pos} {pl : Sem Bool} {mo : SS → RE} (F : MtD cl X k c x n m) (ho : PE X o (tEv X.K cl Wx mo)) (lo : ∀ S, LenE S.length (mo S)) (hr : Room k X.A) (tk : L2N.Takes X Wx)
    (ht : eval (.Call (.Attribute o x apos) [] [] pos) X.env = (eval o X.env >>= fun ov => standAt apos.atName >>= fun _ => holding [ov] (getMethod ov x pl) >>= fun q => callWith pos q.1 q.2 (backTo pos (starEach [] X.env)) (backToKw pos (keywordEach [] X.env)))) :
    PE X (.Call (.Attribute o x apos) [] [] pos) (tEv X.K cl Wx (mMeth c x n m mo dNil)) := by
  obtain ⟨cC, f, fd, ps, hm, hb, F⟩ := F
  constructor
  intro pins s σ H Q I q
  apply PySem.W.methodCall_KW (pl := pl) (thn (ho.run pins s σ H _ I (ev_meth lo q)) _) ht
  rintro u s1 ⟨v, H1, I1, rv, a, dx, fs, rfl, ea, l, q1⟩
  obtain rfl : u = Value.ref a := rv
  apply getmeth_ok I1 ea cC hm l
  obtain ⟨S, T, hl, hR, post⟩ := q1
  have q2 := post [] H1 rfl (by simpa [cellsD] using hR)
  exact PySem.W.callWith_K0 (first := [.ref a]) I1.kIn hm.kp (run_fnSD (dvs := []) (us := [.ref a]) (vs := [.ref a]) (E := fun σ cls d H => Wx cls d σ H) F hr hb .nil (L2N.passAt tk σ) I1 (.cons rfl .nil) (by simpa using q2))
theorem mMeth_len {c n : Nat} {x : Str} {m : List D → Out} {mo : SS → RE} {ml : SS → RD} (lo : ∀ S, LenE S.length (mo S)) (ll : ∀ S, LenD S.length (ml S)) (S : SS) : LenE S.length (mMeth c x n m mo ml S) := by
  unfold mMeth
  have hs := lo S
  cases e : mo S with
  | bad => exact trivial
  | exc x S1 => rw [e] at hs; exact hs
  | ok o S1 =>
    rw [e] at hs
    cases k : o.keep S1 with
    | none => simp only [k]; exact trivial
    | some p =>
      obtain ⟨w, S2⟩ := p
      have h2 := keep_len k
      have h3 := ll S2
      simp only [k]
      cases w.toD with
      | obj c' ns xs =>
        dsimp only
        split
        · cases e2 : ml S2 with
          | bad => exact trivial
          | exc x S3 => rw [e2] at h3; exact (show S3.length = _ from h3).trans (h2.trans hs)
          | ok ds S3 =>
            rw [e2] at h3
            dsimp only
            split
            · split <;> first | exact (show S3.length = _ from h3).trans (h2.trans hs) | exact trivial
            · exact trivial
        · exact trivial
      | _ => exact trivial

/-! ### fields -/
theorem lookD_ok : ∀ {ns : List Str} {xs : List D} {fs : List (Str × V)} {f : Str} {d : D}, fs.map (·.1) = ns → Reps K cl G xs (fs.map (·.2)) → lookD f ns xs = some d → ∃ v, fs.lookup f = some v ∧ Rep K cl G d v
  | [], xs, fs, f, d, _, _, h => by cases xs <;> cases h
  | n :: ns, [], fs, f, d, _, _, h => by cases h
  | n :: ns, x :: xs, [], f, d, e, _, _ => by cases e
  | n :: ns, x :: xs, (g, v) :: fs, f, d, e, r, h => by
    obtain ⟨u, t, e1, q, r2⟩ := r
    simp only [List.map_cons, List.cons.injEq] at e e1
    obtain ⟨rfl, e⟩ := e
    obtain ⟨rfl, rfl⟩ := e1
    unfold lookD at h
    by_cases hf : f = g
    · subst hf
      rw [if_pos rfl] at h
      cases h
      exact ⟨v, by simp [List.lookup], q⟩
    · rw [if_neg hf] at h
      obtain ⟨u, h1, h2⟩ := lookD_ok e r2 h
      exact ⟨u, by rw [List.lookup_cons, show (f == g) = false from by simpa using hf]; exact h1, h2⟩
theorem pe_fldD {c : Nat} {e : Expr} {f : Str} {pos : Pos} {me : SS → RE} (cC : Cls X.K (cl c)) (nA : NoAttr X.K (cl c) f) (he : PE X e (tEv X.K cl Wx me)) (hb : attributeBase e f X.env (eval e X.env) = eval e X.env) :
    PE X (.Attribute e f pos) (tEv X.K cl Wx (mOp1 (sFldD c f) me)) := by
  refine PE.imp (pe_fld he hb) fun σ H Q q => ev_op1 (r := fun x H1 Q => ∃ a C dx fs v, x = .ref a ∧ H1 a = some (.ins C dx fs) ∧ Cls X.K C ∧ NoAttr X.K C f ∧ fs.lookup f = some v ∧ Q v H1) ?_ q
  intro G H d v w Q le t h k
  unfold sFldD at h
  split at h
  · split at h
    · rename_i c' ns xs hc
      subst hc
      obtain ⟨x, hx, rfl⟩ := Option.map_eq_some_iff.mp h
      obtain ⟨a, dx, fs, rfl, g, hn, r⟩ := t
      obtain ⟨v, h1, h2⟩ := lookD_ok hn r hx
      exact ⟨a, _, dx, fs, v, rfl, g, cC, nA, h1, k _ _ (.d h2)⟩
    · cases h
  · cases h
theorem putF_ok {f : Str} {d : D} {v : V} (hv : Rep K cl G d v) : ∀ {ns : List Str} {xs : List D} {fs : List (Str × V)}, fs.map (·.1) = ns → Reps K cl G xs (fs.map (·.2)) → (putF f v fs).map (·.1) = putN f ns ∧ Reps K cl G (putX f d ns xs) ((putF f v fs).map (·.2))
  | [], xs, fs, e, r => by
    cases fs with
    | cons q fs => simp at e
    | nil => cases xs with
      | nil => exact ⟨rfl, .cons hv rfl⟩
      | cons x xs => obtain ⟨_, _, e, _⟩ := r; cases e
  | n :: ns, xs, [], e, r => by cases e
  | n :: ns, [], q :: fs, e, r => by cases (show _ = [] from r)
  | n :: ns, x :: xs, (g, u) :: fs, e, r => by
    obtain ⟨u', t, e1, q, r2⟩ := r
    simp only [List.map_cons, List.cons.injEq] at e e1
    obtain ⟨rfl, e⟩ := e
    obtain ⟨rfl, rfl⟩ := e1
    unfold putF putN putX
    by_cases h : g = f
    · subst h
      rw [if_pos rfl, if_pos rfl, if_pos rfl]
      exact ⟨by simp [e], .cons hv r2⟩
    · rw [if_neg h, if_neg h, if_neg h]
      obtain ⟨h1, h2⟩ := putF_ok hv e r2
      exact ⟨by simp [h1], .cons q h2⟩
/-- self.f = e, self this frame's own -/
def sFldS (c : Nat) (i : Nat) (f : Str) (me : SS → RE) : SS → RS := fun S => match me S with
  | .ok o S1 => (match o.keep S1 with
    | some (w, S2) => (match S2[i]? with
      | some (some (.o a c' ns xs)) => if c' = c ∧ ns.length < 1000 then .nx (S2.set i (some (.o a c' (putN f ns) (putX f w.toD ns xs)))) else .bad
      | _ => .bad)
    | none => .bad)
  | .exc x S1 => .exc x S1
  | .bad => .bad
theorem Rel.put {f : Str} {v y : V} {d : D} {a : Addr} {c : Nat} {ns : List Str} {xs : List D} {cs : List Cell} (r : Rel K cl H ((some v, some (.o a c ns xs)) :: (some y, some (.d d)) :: cs)) :
    ∃ dx fs, v = .ref a ∧ H a = some (.ins (cl c) dx fs) ∧ fs.length = ns.length ∧ Rel K cl (upd H a (.ins (cl c) dx (putF f y fs))) ((some v, some (.o a c (putN f ns) (putX f d ns xs))) :: cs) := by
  obtain ⟨G, O, s, n, t⟩ := r
  cases t with
  | @cons _ F _ O' h t =>
    cases h with
    | some h =>
      obtain ⟨dx, fs, rfl, hF, g, hn, q⟩ := h
      subst hF
      cases t with
      | @cons _ F2 _ O2 h2 t2 =>
        cases h2 with
        | some h2 =>
          obtain ⟨hF2, q2⟩ := h2
          subst hF2
          have nO : a ∉ O2 := fun z => (List.nodup_cons.mp n).1 z
          obtain ⟨p1, p2⟩ := putF_ok (f := f) q2 hn q
          refine ⟨dx, fs, rfl, g, by rw [← hn]; simp, G, [a] ++ O2, ?_, n, .cons (F := [a]) (.some ⟨dx, _, rfl, rfl, upd_same, p1, p2⟩) (CReps.step (Le.refl G) (fun b hb o e => ?_) t2)⟩
          · intro b o e
            obtain ⟨h1, h2⟩ := s b o e
            have ne : b ≠ a := fun z => h2 (by rw [z]; simp)
            exact ⟨by rw [upd_ne ne]; exact h1, h2⟩
          · rw [upd_ne (fun z => nO (by rw [← z]; exact hb))]; exact e
theorem ps_fldD {c i : Nat} {x f : Str} {p p' pos : Pos} {e : Expr} {me : SS → RE} (cC : Cls X.K (cl c)) (nA : NoAttr X.K (cl c) f) (hN : X.N[i]? = some x) (hv : Vis X.env.scope x) (hd : (x == ("__debug__" : Str)) = false) (hcd : (x == ("__classdict__" : Str)) = false)
    (he : PE X e (tEv X.K cl Wx me)) (la : ∀ S, LenE S.length (me S)) (hs : swapsWith e (some (.Attribute (.Name x p) f p')) pos.line X.env = pure false) :
    PS X (.Assign [.Attribute (.Name x p) f p'] e pos) (tSt X.K cl Wx (sFldS c i f me)) := by
  refine PS.imp (ps_fld (pe_var hN hv hd hcd) he hs) fun D σ H ⟨S, T, hl, hR, post⟩ => ⟨S, T, hl, hR, ?_⟩
  unfold sFldS at post
  have h1 := la S
  cases em : me S with
  | bad => rw [em] at post; exact post
  | exc x S1 => rw [em] at post; exact post σ rfl
  | ok o S1 =>
    rw [em] at post h1
    intro y H1 E a R
    cases k : o.keep S1 with
    | none => simp only [k] at post; exact post.elim
    | some pr =>
      obtain ⟨w, S2⟩ := pr
      obtain ⟨r, hl2, hx⟩ := keep_ok a k R ((show S1.length = _ from h1).trans hl)
      have hl3 : S2.length = σ.length := hl2.trans ((show S1.length = _ from h1).trans hl)
      have r := r.freeze hx
      simp only [k] at post
      split at post
      · rename_i a0 c' ns xs es
        split at post
        · rename_i hc
          obtain ⟨rfl, hz⟩ := hc
          obtain ⟨v, hv, p0⟩ := slot_cons r.tail hl3 es
          have pp : ((some y, some (W.d w.toD)) :: (σ.zip S2 ++ T)).Perm ((some v, some (W.o a0 c' ns xs)) :: (some y, some (W.d w.toD)) :: ((σ.zip S2).eraseIdx i ++ T)) := (List.Perm.cons _ p0).trans (List.Perm.swap _ _ _)
          obtain ⟨dx, fs, rfl, g, hlen, r2⟩ := Rel.put (f := f) (r.perm pp)
          exact ⟨.ref a0, hv, a0, _, dx, fs, rfl, g, cC, nA, by rw [hlen]; exact hz, post σ _ rfl (r2.perm (slot_put hv hl3).symm)⟩
        · exact post.elim
      · exact post.elim
theorem sFldS_len {c i : Nat} {f : Str} {me : SS → RE} (la : ∀ S, LenE S.length (me S)) (S : SS) : LenS S.length (sFldS c i f me S) := by
  unfold sFldS
  have hs := la S
  cases e : me S with
  | bad => exact trivial
  | exc x S1 => rw [e] at hs; exact hs
  | ok o S1 =>
    rw [e] at hs
    cases k : o.keep S1 with
    | none => simp only [k]; exact trivial
    | some pr =>
      simp only [k]
      split
      · split
        · exact (List.length_set ..).trans ((keep_len k).trans hs)
        · exact trivial
      · exact trivial

/-! ### a def by its body -/
def initS (N : Nat) (ds : List D) : SS := ds.map (fun d => some (.d d)) ++ List.replicate (N - ds.length) none
def outOf (r : RS) : Out := match r with
  | .nx _ => .ret (.d .non)
  | .rt w => .ret w
  | .exc x _ => .exc x
  | _ => .bad
theorem Rel.blanks {cs : List Cell} (r : Rel K cl H cs) : ∀ n, Rel K cl H (List.replicate n (none, none) ++ cs)
  | 0 => r
  | n + 1 => by rw [List.replicate_succ]; exact (Rel.blanks r n).blank
theorem cells_start {N : List Str} {ds : List D} {vs : List V} (h : vs.length = ds.length) : (L2.start N vs).zip (initS N.length ds) = cellsD ds vs ++ List.replicate (N.length - ds.length) (none, none) := by
  have z : ∀ (ds : List D) (vs : List V) (a : List (Option V)) (b : SS), vs.length = ds.length → (vs.map some ++ a).zip (ds.map (fun d => some (W.d d)) ++ b) = cellsD ds vs ++ a.zip b := fun ds => by
    induction ds with
    | nil => intro vs a b h; cases vs with | nil => rfl | cons _ _ => simp at h
    | cons d ds ih =>
      intro vs a b h
      cases vs with
      | nil => simp at h
      | cons v vs => simp [cellsD, ih vs a b (by simpa using h)]
  unfold L2.start initS
  rw [z ds vs _ _ h, h]
  congr 1
  induction (N.length - ds.length) with
  | zero => rfl
  | succ n ih => simp [List.replicate_succ, ih]
theorem body_ok {n : Nat} {N : List Str} {mb : SS → RS} {m : List D → Out} {vs : List V} {Q : VK} {E : XK} (hn : n ≤ N.length) (hm : ∀ ds, ds.length = n → m ds ≠ .bad → outOf (mb (initS N.length ds)) = m ds) (h : spD K cl n m vs H Q E) :
    tSt K cl (fun cls d _ H => E cls d H) mb { nx := fun _ H' => Q .non H', rt := Q } (L2.start N vs) H := by
  obtain ⟨ds, T, hv, hd, R, q⟩ := h
  have hl : vs.length = ds.length := hv.trans hd.symm
  have lenS : (initS N.length ds).length = (L2.start N vs).length := by unfold initS L2.start; simp; omega
  refine ⟨initS N.length ds, T, lenS, ?_, ?_⟩
  · rw [cells_start hl, List.append_assoc]
    refine (R.blanks (N.length - ds.length)).perm pcomm
  · have hne : m ds ≠ .bad := fun z => by rw [z] at q; exact q
    have e := hm ds hd hne
    cases eb : mb (initS N.length ds) with
    | bad => rw [eb] at e; exact absurd e.symm hne
    | bk S => rw [eb] at e; exact absurd e.symm hne
    | ct S => rw [eb] at e; exact absurd e.symm hne
    | nx S =>
      rw [eb] at e
      rw [← e] at q
      intro σ' H' l' R'
      obtain ⟨G, O, r⟩ := Rel.drop (σ'.zip S) R'
      exact q .non H' (r.new (.d rfl))
    | rt w => rw [eb] at e; rw [← e] at q; exact q
    | exc x S =>
      rw [eb] at e
      rw [← e] at q
      exact fun σ' l' H' d rx => q H' d (rx.weak (σ'.zip S) (List.Perm.refl _))
theorem fun_okN {P : Program} {w : World} {mg : Str → Option Value} {base : Heap} {x qual : Str} {st : Stmt} {f : Addr} {fd : FuncData} {N ps : List Str} {k : Nat} {sp : Sp} (F : Fun K x qual st f fd) (Sc : FnScope N ps (defScope st)) (len : ∀ vs H Q E, sp vs H Q E → vs.length = ps.length)
    (hb : ∀ (cdv : Value) (A : Around) (outer : List Env) (s : Shared) (H : Hp) (vs : List V) (Q : VK) (E : XK), Room k (A.deeper (envOfC qual (defScope st) s.heap.objs.size f cdv)) → sp vs H Q E →
      ∃ t, PSs (cxOf (L2N.CX P w) P w K mg base N qual (defScope st) f cdv A outer s H E) (defBody st) t ∧ t { nx := fun _ H' => Q .non H', rt := Q } (L2.start N vs) H) : FnOk P w K mg base (L2N.CX P w) (k + 1) f fd ps sp := by
  obtain ⟨oc, od, kV, doc, pm, an, cdv, ct, osl, rfl, lk, hcd⟩ := F.ex
  exact fn_of lk hcd Sc len (hb cdv)
theorem okD {P : Program} {w : World} {mg : Str → Option Value} {base : Heap} {x qual : Str} {st : Stmt} {f : Addr} {fd : FuncData} {N ps : List Str} {k n : Nat} {m : List D → Out} {mb : SS → RS} (F : Fun K x qual st f fd) (Sc : FnScope N ps (defScope st)) (hn : ps.length = n)
    (hm : ∀ ds, ds.length = n → m ds ≠ .bad → outOf (mb (initS N.length ds)) = m ds)
    (hb : ∀ (cdv : Value) (A : Around) (outer : List Env) (s : Shared) (H : Hp) (E : XK), Room k (A.deeper (envOfC qual (defScope st) s.heap.objs.size f cdv)) →
      PSs (cxOf (L2N.CX P w) P w K mg base N qual (defScope st) f cdv A outer s H E) (defBody st) (tSt K cl (fun cls d _ H => E cls d H) mb)) : FnOk P w K mg base (L2N.CX P w) (k + 1) f fd ps (spD K cl n m) := by
  refine fun_okN F Sc (fun vs H Q E h => ?_) fun cdv A outer s H vs Q E hr h => ⟨_, hb cdv A outer s H E hr, body_ok ?_ hm h⟩
  · obtain ⟨ds, T, hv, _⟩ := h
    rw [hv, hn]
  · have := congrArg List.length Sc.pre
    rw [List.length_take] at this
    omega
end
end Ly
end
section
set_option Elab.async false
set_option linter.all false
set_option maxRecDepth 100000
set_option maxHeartbeats 4000000
/-! LyK: targets, isinstance. -/
namespace Ly
open PySem PySem.Spec PyProof.Rows L2

inductive IT where
  | tup | lst | int | bl | str | dic | own (c : Nat)
  deriving DecidableEq
inductive Tg where
  | nm (i : Nat) (x : Str) | tp (is : List (Nat × Str))
def Tg.is : Tg → List Nat
  | .nm i _ => [i]
  | .tp is => is.map (·.1)
def Tg.g : Tg → Tgt
  | .nm i _ => gN i
  | .tp is => gT (is.map (·.1))
/-- isinstance -/
def sIsi : IT → D → Option W
  | _, .frl _ => none
  | t, .non => match t with | .own _ => none | _ => some (.d (.bl false))
  | t, .bl _ => match t with | .own _ => none | .int => some (.d (.bl true)) | .bl => some (.d (.bl true)) | _ => some (.d (.bl false))
  | t, .int _ => match t with | .own _ => none | .int => some (.d (.bl true)) | _ => some (.d (.bl false))
  | t, .str _ => match t with | .own _ => some (.d (.bl false)) | .str => some (.d (.bl true)) | _ => some (.d (.bl false))
  | t, .tup _ => match t with | .own _ => none | .tup => some (.d (.bl true)) | _ => some (.d (.bl false))
  | t, .lst _ => match t with | .own _ => none | .lst => some (.d (.bl true)) | _ => some (.d (.bl false))
  | t, .dic _ _ => match t with | .own _ => none | .dic => some (.d (.bl true)) | _ => some (.d (.bl false))
  | t, .obj c _ _ => match t with | .own c' => if c = c' then some (.d (.bl true)) else none | _ => none
theorem Tg.len (tg : Tg) : LenG tg.g := by
  cases tg with
  | nm i x => exact gN_len i
  | tp is => exact gT_len _
end Ly
end
section
set_option Elab.async false
set_option linter.all false
set_option maxRecDepth 100000
set_option maxHeartbeats 4000000
/-! LyL: words about expressions, decided. -/
namespace Ly
open PySem PySem.Spec PyProof.Rows L2

def visB (sc : Scope) (x : Str) : Bool := match sc.names.lookup x with | some .local => true | some .cell => true | some .free => true | _ => false
def locB (sc : Scope) (x : Str) : Bool := match sc.names.lookup x with | some .local => true | some .cell => true | _ => false
def glB (sc : Scope) (x : Str) : Bool := match sc.names.lookup x with | some .globalImplicit => true | _ => false
def plainB (x : Str) : Bool := !(x == "__debug__") && !(x == "__classdict__")
def noStarB : Expr → Bool | .Starred _ _ => false | _ => true
def noSliceB : Expr → Bool | .Slice _ _ _ _ => false | _ => true
def noSetB : Expr → Bool | .Set _ _ _ => false | _ => true
def noSuperB : Expr → Bool | .Call (.Name id _) _ _ _ => !(id == "super") | _ => true
def plainTB : Expr → Bool | .UnaryOp _ _ _ => false | .BoolOp _ _ _ => false | .IfExp _ _ _ _ => false | .Compare _ _ _ _ => false | _ => true
theorem visB_ok {sc : Scope} {x : Str} (h : visB sc x = true) : Vis sc x := by
  unfold visB at h
  split at h
  · exact .inl (by assumption)
  · exact .inr (.inl (by assumption))
  · exact .inr (.inr (by assumption))
  · cases h
theorem glB_ok {sc : Scope} {x : Str} (h : glB sc x = true) : sc.names.lookup x = some .globalImplicit := by
  unfold glB at h
  split at h
  · assumption
  · cases h
theorem plainB_ok {x : Str} (h : plainB x = true) : (x == ("__debug__" : Str)) = false ∧ (x == ("__classdict__" : Str)) = false := by
  unfold plainB at h
  simpa using h
theorem star_one {e : Expr} (h : noStarB e = true) (es : List Expr) (env : Env) : starEach (e :: es) env = (false, eval e env) :: starEach es env := by
  cases e <;> first | rfl | cases h
theorem star_all {env : Env} (pos : Pos) : ∀ {es : List Expr}, es.all noStarB = true → (backTo pos (starEach es env)).any (·.1) = false
  | [], _ => rfl
  | e :: es, h => by
    rw [List.all_cons, Bool.and_eq_true] at h
    rw [star_one h.1]
    have ih := star_all pos (env := env) h.2
    unfold backTo at ih ⊢
    simpa using ih
theorem star_few {env : Env} (pos : Pos) {es : List Expr} (h : es.all noStarB = true) : (backTo pos (starEach es env)).all (fun x => !x.1) = true := by
  have q := star_all (env := env) pos h
  rw [List.any_eq_false] at q
  rw [List.all_eq_true]
  intro x hx
  have := q x hx
  simpa using this
theorem base_any {o : Expr} (h : noSuperB o = true) (n : Str) (env : Env) (w : PySem.Sem Value) : attributeBase o n env w = w := by
  unfold attributeBase
  split
  · rename_i id p pos
    have hid : (id == ("super" : Str)) = false := by simpa [noSuperB] using h
    simp [bne, hid]
  · rfl
theorem plainT_ok {e : Expr} (h : plainTB e = true) (env : Env) : ∀ whole, isTrue e env whole = (do let v ← whole; standAt e.pos; holding [v] (truthy v)) := by
  intro w
  cases e <;> first | rfl | cases h
theorem noSlice_ok {b : Expr} (h : noSliceB b = true) : ∀ l u p, b ≠ .Slice l u none p := by
  intro l u p e
  subst e
  cases h
theorem noSet_marks {b : Expr} (h : noSetB b = true) (o : CmpOp) : behindInMarks o b = false := by
  cases b <;> first | rfl | cases h
theorem noSet_fold {b : Expr} (h : noSetB b = true) (env : Env) : ∀ x, foldedSetIterable b env x = pure x := by
  intro x
  cases b <;> first | rfl | cases h

def IT.nm (cs : List Str) : IT → Option Str
  | .tup => some "tuple" | .lst => some "list" | .int => some "int" | .bl => some "bool" | .str => some "str" | .dic => some "dict" | .own c => cs[c]?
end Ly
end
section
set_option Elab.async false
set_option linter.all false
set_option maxRecDepth 100000
set_option maxHeartbeats 4000000
/-! LyM: the core's soundness. -/
namespace Ly
open PySem PySem.Spec PyProof.Rows L2

def bltNs : List Str := ["abs", "int", "len", "list", "tuple", "all", "isinstance", "range", "enumerate", "iter", "bool", "str", "dict", "super", "ValueError"]
structure GlD (cl : CL) (K : PySem.W.Frag) (mg : Str → Option Value) (x : Str) (d : D) : Prop where
  ex : ∃ u v, mg x = some u ∧ RelV v u ∧ ∀ G, Rep K cl G d v
structure ClsF (K : PySem.W.Frag) (mg : Str → Option Value) (C : Addr) (x : Str) : Prop where
  mg : mg x = some (.ref C)
  cC : Cls K C
  at_ : PySem.W.findIn K (.ref C) "__class__" = some (some (.builtin "object.__class__"))
  sp : PySem.W.specialIn K (.builtin "object.__class__") "__get__" = some (some (.builtin "getset_descriptor.__get__"))
  tk : PySem.W.takesIn K (.builtin "object.__class__") = some true
  mro : PySem.W.mroIn K C (.type "object") = some true
  self : PySem.W.kitOne K (.ref C) (.ref C) = some true
  str : PySem.W.kitOne K (.type "str") (.ref C) = some false
section
variable {cl : CL} {X : Cx} {Wx : WX}
theorem takes_no {X : Cx} : L2N.Takes X (fun _ _ _ _ => False) := fun _ _ ⟨_, _, _, _, _, _, _, _, _, _, _, _, _, _, _, _, w⟩ => w.elim
theorem pw_of {op : BoolOp} {vs : List Expr} {pos : Pos} {t : TT} (h : PT X (.BoolOp op vs pos) t) : PW X (.BoolOp op vs pos) t := ⟨fun _ => h.run⟩
/-- a reading that is never asked for -/
theorem pe_dead {e : Expr} : PE X e (tEv X.K cl Wx fun _ => .bad) := ⟨fun pins s σ H Q I ⟨_, _, _, _, p⟩ => p.elim⟩
theorem pt_dead {e : Expr} : PT X e (tEt X.K cl Wx fun _ => .bad) := ⟨fun pins s σ H Q I ⟨_, _, _, _, p⟩ => p.elim⟩
theorem pl_dead {e : List Expr} : PA X e (tEl X.K cl Wx fun _ => .bad) := ⟨fun pos pins s σ H Q I ⟨_, _, _, _, p⟩ => p.elim⟩
theorem pd_dead {e : List Expr} : PA X e (tEd X.K cl Wx fun _ => .bad) := ⟨fun pos pins s σ H Q I ⟨_, _, _, _, p⟩ => p.elim⟩
theorem po_dead {e : Option Expr} : PO X e (tEi X.K cl Wx fun _ => .bad) := ⟨fun pins s σ H Q I ⟨_, _, _, _, p⟩ => p.elim⟩
theorem pi_dead {tg e : Expr} : PI X tg e (tIt X.K cl Wx fun _ => .bad) := ⟨fun pins s σ H Q I ⟨_, _, _, _, p⟩ => p.elim⟩
theorem meth_eq {o : Expr} {x : Str} {apos pos : Pos} {es : List Expr} {env : Env} (h1 : noSuperB o = true) (h2 : (apos.endLine == pos.line) = true) (h3 : es.length < 30) (h4 : es.all noStarB = true) :
    eval (.Call (.Attribute o x apos) es [] pos) env = (eval o env >>= fun ov => standAt apos.atName >>= fun _ => holding [ov] (getMethod ov x (do return (← importBound o env).getD true)) >>= fun q => callWith pos q.1 q.2 (backTo pos (starEach es env)) (backToKw pos (keywordEach [] env))) := by
  have hf : methodCallForm (es.length + ([] : List Keyword).length) (backTo pos (starEach es env)) (backToKw pos (keywordEach [] env)) = true := by
    unfold methodCallForm
    rw [show (backTo pos (starEach es env)).all (!·.1) = true from star_few pos h4]
    simp [keywordEach, backToKw, h3]
  show (attributeBase o x env (eval o env) >>= fun ov => standAt apos.atName >>= fun _ => methodCall o x apos pos env ov (es.length + ([] : List Keyword).length) (backTo pos (starEach es env)) (backToKw pos (keywordEach [] env))) = _
  rw [base_any h1]
  congr 1
  funext ov
  congr 1
  funext _
  unfold methodCall
  rw [hf]
  congr 1
  funext q
  unfold methodCallPos
  rw [h2]
  rfl
end
end Ly
end
section
set_option Elab.async false
set_option linter.all false
set_option maxRecDepth 100000
set_option maxHeartbeats 4000000
/-! LyN: the core's soundness, expressions. -/
namespace Ly
open PySem PySem.Spec PyProof.Rows L2

def IT.ty : IT → String
  | .tup => "tuple" | .lst => "list" | .int => "int" | .bl => "bool" | .str => "str" | .dic => "dict" | .own _ => ""
section
variable {cl : CL} {X : Cx} {Wx : WX}
theorem isi_ok {K : PySem.W.Frag} {t : IT} {c : V} {u : Value} (kc : ClsV c u) (hb : (∀ c', t ≠ .own c') → u = .type t.ty) (ho : ∀ c', t = .own c' → u = .ref (cl c') ∧ ∃ mg x, ClsF K mg (cl c') x) :
    Op1Ok K cl (fun v H Q => rIsi K [v, c] H Q) (sIsi t) := by
  intro G H d v w Q le tp e k
  have fin : ∀ (ty : Value) (b : Bool), TyX K H v ty → PySem.W.kitOne K ty u = some b → w = .d (.bl b) → rIsi K [v, c] H Q := fun ty b h1 h2 h3 => by
    subst h3
    exact ⟨v, c, ty, u, b, rfl, kc, h1, h2, k _ _ (.d rfl)⟩
  cases d with
  | frl xs => unfold sIsi at e; cases e
  | non =>
    cases (show v = _ from tp)
    cases t <;> unfold sIsi at e <;> cases e <;> (rw [hb (fun _ z => nomatch z)] at fin; exact fin _ _ (.base .non) (kit_ty (by decide +kernel)) rfl)
  | bl b =>
    cases (show v = _ from tp)
    cases t <;> unfold sIsi at e <;> cases e <;> (rw [hb (fun _ z => nomatch z)] at fin; exact fin _ _ (.base (.bl _)) (kit_ty (by decide +kernel)) rfl)
  | int b =>
    cases (show v = _ from tp)
    cases t <;> unfold sIsi at e <;> cases e <;> (rw [hb (fun _ z => nomatch z)] at fin; exact fin _ _ (.base (.int _)) (kit_ty (by decide +kernel)) rfl)
  | str b =>
    cases (show v = _ from tp)
    cases t with
    | own c' =>
      unfold sIsi at e
      cases e
      obtain ⟨hu, mg, x, F⟩ := ho c' rfl
      rw [hu] at fin
      exact fin _ _ (.base (.str _)) F.str rfl
    | _ => unfold sIsi at e; cases e; rw [hb (fun _ z => nomatch z)] at fin; exact fin _ _ (.base (.str _)) (kit_ty (by decide +kernel)) rfl
  | tup xs =>
    obtain ⟨a, vs, rfl, g, r⟩ := tp
    have ty : TyX K H (.ref a) (.type "tuple") := by
      rcases SqT.le le g with (g | ⟨o, g⟩) | ⟨o, its, n, g, hc, _⟩
      · exact .base (.tup g)
      · exact .fTuple g
      · exact .kTuple g hc
    cases t <;> unfold sIsi at e <;> cases e <;> (rw [hb (fun _ z => nomatch z)] at fin; exact fin _ _ ty (kit_ty (by decide +kernel)) rfl)
  | lst xs =>
    obtain ⟨a, vs, rfl, g, r⟩ := tp
    have ty : TyX K H (.ref a) (.type "list") := .base (.lst g)
    cases t <;> unfold sIsi at e <;> cases e <;> (rw [hb (fun _ z => nomatch z)] at fin; exact fin _ _ ty (kit_ty (by decide +kernel)) rfl)
  | dic ks xs =>
    obtain ⟨a, vs, rfl, g, r⟩ := tp
    have ty : TyX K H (.ref a) (.type "dict") := .base (.dK g)
    cases t <;> unfold sIsi at e <;> cases e <;> (rw [hb (fun _ z => nomatch z)] at fin; exact fin _ _ ty (kit_ty (by decide +kernel)) rfl)
  | obj c' ns xs =>
    cases t with
    | own c2 =>
      unfold sIsi at e
      dsimp only at e
      split at e
      · rename_i hc
        subst hc
        cases e
        obtain ⟨a, dx, fs, rfl, g, hn, r⟩ := tp
        obtain ⟨hu, mg, x, F⟩ := ho c' rfl
        rw [hu] at fin
        exact fin _ _ (.base (.ins g F.cC F.at_ F.sp F.tk F.mro)) F.self rfl
      · cases e
    | _ => unfold sIsi at e; cases e
theorem pe_isiD {x : Expr} {y : Str} {py p pos : Pos} {t : IT} {me : SS → RE} {cs : List Str} (blt : ∀ x ∈ bltNs, X.mg x = none) (cls : ∀ c, t = .own c → ClsF X.K X.mg (cl c) y) (hg : Gl X "isinstance") (hy : Gl X y) (hn : t.nm cs = some y) (hx : PE X x (tEv X.K cl Wx me)) (hs : noStarB x = true) (hp : plainB y = true) :
    PE X (.Call (.Name "isinstance" p) [x, .Name y py] [] pos) (tEv X.K cl Wx (mOp1 (sIsi t) me)) := by
  have fin : ∀ (c : V) (u : Value), PE X (.Name y py) (tC c) → ClsV c u → ((∀ c', t ≠ .own c') → u = .type t.ty) → (∀ c', t = .own c' → u = .ref (cl c') ∧ ∃ mg x, ClsF X.K mg (cl c') x) →
      PE X (.Call (.Name "isinstance" p) [x, .Name y py] [] pos) (tEv X.K cl Wx (mOp1 (sIsi t) me)) := fun c u hc kc hb ho => by
    refine PE.imp (pe_callB call_isi hg (blt _ (by decide +kernel)) (by decide +kernel) (pa_cons hx (pa_cons hc pa_nil) (star_one hs _ _)) (by decide) (by decide) (star_one hs _ _) ?_) fun σ H Q q => ?_
    · exact star_all _ (by simp [noStarB])
    · exact ev_op1 (isi_ok kc hb ho) q
  have tyn : ∀ n : String, Gl X (Str.ofString n) → Str.ofString n ∈ bltNs → bootBuiltins (Str.ofString n) = some (.type n) → Str.ofString n ≠ "__name__" → (Str.ofString n == ("__debug__" : Str)) = false → PE X (.Name (Str.ofString n) py) (tC (.ty n)) := fun n hy h1 h2 h3 h4 =>
    pe_bltn (v := .ty n) (u := .type n) hy (blt _ h1) h2 rfl h3 h4
  cases t with
  | own c =>
    have hc := cls c rfl
    exact fin (.ref (cl c)) (.ref (cl c)) (pe_glob (v := .ref (cl c)) (u := .ref (cl c)) hy hc.mg rfl (plainB_ok hp).1) (.own _) (fun z => absurd rfl (z c)) fun c' e => by cases e; exact ⟨rfl, _, _, hc⟩
  | tup => cases hn; exact fin _ _ (tyn "tuple" hy (by decide +kernel) (by decide +kernel) (by decide) (by decide)) (.ty _) (fun _ => rfl) fun c' e => by cases e
  | lst => cases hn; exact fin _ _ (tyn "list" hy (by decide +kernel) (by decide +kernel) (by decide) (by decide)) (.ty _) (fun _ => rfl) fun c' e => by cases e
  | int => cases hn; exact fin _ _ (tyn "int" hy (by decide +kernel) (by decide +kernel) (by decide) (by decide)) (.ty _) (fun _ => rfl) fun c' e => by cases e
  | bl => cases hn; exact fin _ _ (tyn "bool" hy (by decide +kernel) (by decide +kernel) (by decide) (by decide)) (.ty _) (fun _ => rfl) fun c' e => by cases e
  | str => cases hn; exact fin _ _ (tyn "str" hy (by decide +kernel) (by decide +kernel) (by decide) (by decide)) (.ty _) (fun _ => rfl) fun c' e => by cases e
  | dic => cases hn; exact fin _ _ (tyn "dict" hy (by decide +kernel) (by decide +kernel) (by decide) (by decide)) (.ty _) (fun _ => rfl) fun c' e => by cases e
end
end Ly
end
section
set_option Elab.async false
set_option linter.all false
set_option maxRecDepth 100000
set_option maxHeartbeats 4000000
/-! LyP: dicts, pairs of a dict, f-strings. -/
namespace Ly
open PySem PySem.Spec PyProof.Rows L2

/-! ### dicts -/
def mDic0 : SS → RE := fun S => .ok (.t (.m [] [])) S
def keyD : D → Option Key
  | .int i => some (.inl i)
  | .str s => some (.inr s)
  | _ => none
def kD : Key → D
  | .inl i => .int i
  | .inr s => .str s
/-- the value under k -/
def atK (k : Key) : List Key → List D → Option D
  | a :: ks, x :: xs => if a = k then some x else atK k ks xs
  | _, _ => none
/-- x.setdefault(k, d), x this frame's own -/
def sStd (i : Nat) (mk md : SS → RE) : SS → RE := fun S => match S[i]? with
  | some (some (.m _ _)) => (match mk S with
    | .ok o S1 => (match o.get S1 with
      | some dk => (match keyD dk with
        | some k => (match md S1 with
          | .ok o2 S2 => (match o2.keep S2 with
            | some (w, S3) => (match S3[i]? with
              | some (some (.m ks xs)) => if ks.length < sizeLine then (match atK k ks xs with
                  | some d => .ok (.t (.d d)) S3
                  | none => if (ks.any fun a => decide (a = k)) = true then .bad else .ok (.t (.d w.toD)) (S3.set i (some (.m (ks ++ [k]) (xs ++ [w.toD]))))) else .bad
              | _ => .bad)
            | none => .bad)
          | .exc x S2 => .exc x S2
          | .bad => .bad)
        | none => .bad)
      | none => .bad)
    | .exc x S1 => .exc x S1
    | .bad => .bad)
  | _ => .bad
def itemsD : List Key → List D → List D
  | k :: ks, x :: xs => .tup [kD k, x] :: itemsD ks xs
  | _, _ => []
def mItems (me : SS → RE) : SS → RE := fun S => (me S).bind fun o S1 => match o.get S1 with
  | some (.dic ks xs) => .ok (.t (.l (itemsD ks xs))) S1
  | _ => .bad
section
variable {K : PySem.W.Frag} {cl : CL} {Wx : WX} {σ : L2.St} {H G : Hp} {X : Cx} {T : List Cell} {S : SS}
theorem pe_dic0 {pos : Pos} : PE X (.Dict [] [] pos) (tEv X.K cl Wx mDic0) := PE.imp pe_dnewK fun σ H Q ⟨S, T, hl, hR, post⟩ p hp => by
  obtain ⟨G, O, r⟩ := hR
  exact post _ _ _ .t (r.new (.m (kvs := []) hp rfl rfl))
theorem kD_rep (k : Key) : Rep K cl G (kD k) (kV k) := by cases k <;> rfl
theorem keyD_rep {d : D} {v : V} {k : Key} (le : Le G H) (h : keyD d = some k) (r : RepT K cl G H d v) : v = kV k := by
  unfold keyD at h
  split at h <;> cases h <;> exact r
theorem atK_some {k : Key} : ∀ {ks : List Key} {xs : List D} {kvs : List (Key × V)} {d : D}, kvs.map (·.1) = ks → Reps K cl G xs (kvs.map (·.2)) → atK k ks xs = some d → ∃ v, valV kvs k = some v ∧ Rep K cl G d v
  | [], xs, kvs, d, _, _, h => by cases xs <;> cases h
  | a :: ks, [], kvs, d, _, _, h => by cases h
  | a :: ks, x :: xs, [], d, e, _, _ => by cases e
  | a :: ks, x :: xs, (b, v) :: kvs, d, e, r, h => by
    obtain ⟨u, t, e1, q, r2⟩ := r
    simp only [List.map_cons, List.cons.injEq] at e e1
    obtain ⟨rfl, e⟩ := e
    obtain ⟨rfl, rfl⟩ := e1
    unfold atK at h
    by_cases hk : b = k
    · rw [if_pos hk] at h
      cases h
      exact ⟨v, valV_pos hk, q⟩
    · rw [if_neg hk] at h
      rw [valV_neg (p := (b, v)) hk]
      exact atK_some e r2 h
theorem valV_not {k : Key} : ∀ {kvs : List (Key × V)}, k ∉ kvs.map (·.1) → valV kvs k = none
  | [], _ => rfl
  | (b, v) :: kvs, h => by
    simp only [List.map_cons, List.mem_cons, not_or] at h
    rw [valV_neg (p := (b, v)) (fun z => h.1 z.symm)]
    exact valV_not h.2
/-- one more entry -/
theorem Rel.growK {v y : V} {d : D} {ks : List Key} {xs : List D} {k : Key} {cs : List Cell} (hk : k ∉ ks) (r : Rel K cl H ((some v, some (.m ks xs)) :: (some y, some (.d d)) :: cs)) :
    ∃ a kvs, v = .ref a ∧ H a = some (.dK kvs) ∧ kvs.length = ks.length ∧ valV kvs k = none ∧ Rel K cl (upd H a (.dK (putK kvs k y))) ((some v, some (.m (ks ++ [k]) (xs ++ [d]))) :: (some y, some (.d d)) :: cs) := by
  obtain ⟨G, O, s, n, t⟩ := r
  cases t with
  | @cons _ F _ O' h t =>
    cases h with
    | some h =>
      obtain ⟨a, kvs, rfl, hF, g, hks, q⟩ := h
      subst hF
      have hn : valV kvs k = none := valV_not (by rw [hks]; exact hk)
      refine ⟨a, kvs, rfl, g, by rw [← hks]; simp, hn, ?_⟩
      rw [putK_new y hn]
      cases t with
      | @cons _ F2 _ O2 h2 t2 =>
        cases h2 with
        | some h2 =>
          obtain ⟨hF2, q2⟩ := h2
          subst hF2
          have nO : a ∉ O2 := fun z => (List.nodup_cons.mp n).1 z
          refine ⟨G, [a] ++ ([] ++ O2), ?_, n, .cons (F := [a]) (.some ⟨a, _, rfl, rfl, upd_same, by simp [hks], by rw [List.map_append]; exact q.append (.cons q2 rfl)⟩) (.cons (F := []) (.some ⟨rfl, q2⟩) (CReps.step (Le.refl G) (fun b hb o e => ?_) t2))⟩
          · intro b o e
            obtain ⟨h1, h2⟩ := s b o e
            have ne : b ≠ a := fun z => h2 (by rw [z]; simp)
            exact ⟨by rw [upd_ne ne]; exact h1, h2⟩
          · rw [upd_ne (fun z => nO (by rw [← z]; exact hb))]; exact e
theorem Rel.peekM {v : V} {ks : List Key} {xs : List D} {cs : List Cell} (r : Rel K cl H ((some v, some (.m ks xs)) :: cs)) : ∃ a kvs, v = .ref a ∧ H a = some (.dK kvs) ∧ kvs.map (·.1) = ks ∧ ∀ (k : Key) d, atK k ks xs = some d → ∃ u, valV kvs k = some u ∧ Rel K cl H ((some u, some (.d d)) :: (some v, some (.m ks xs)) :: cs) := by
  obtain ⟨G, O, r⟩ := r
  have t := r.rep
  cases t with
  | @cons _ F _ O' h t =>
    cases h with
    | some h =>
      obtain ⟨a, kvs, rfl, hF, g, hks, q⟩ := id h
      refine ⟨a, kvs, rfl, g, hks, fun k d e => ?_⟩
      obtain ⟨u, h1, h2⟩ := atK_some hks q e
      exact ⟨u, h1, r.new (.d h2)⟩
theorem pe_std {i : Nat} {x : Str} {p apos cpos : Pos} {ek ed : Expr} {mk md : SS → RE} (hN : X.N[i]? = some x) (hv : Vis X.env.scope x) (hd : (x == ("__debug__" : Str)) = false) (hcd : (x == ("__classdict__" : Str)) = false)
    (hk : PE X ek (tEv X.K cl Wx mk)) (he : PE X ed (tEv X.K cl Wx md)) (lk : ∀ S, LenE S.length (mk S)) (ld : ∀ S, LenE S.length (md S)) (h1 : noStarB ek = true) (h2 : noStarB ed = true) (hline : (apos.endLine == cpos.line) = true) :
    PE X (.Call (.Attribute (.Name x p) "setdefault" apos) [ek, ed] [] cpos) (tEv X.K cl Wx (sStd i mk md)) := by
  have ht : starEach [ek, ed] X.env = [(false, eval ek X.env), (false, eval ed X.env)] := by rw [star_one h1, star_one h2]; rfl
  refine PE.imp (pe_dsetd (pe_var hN hv hd hcd) hk he ⟨base_any rfl _ _ _, by rw [ht]; rfl, hline, by rw [ht]; rfl⟩) fun σ H Q ⟨S, T, hl, hR, post⟩ => ?_
  unfold sStd at post
  split at post
  · rename_i ks0 xs0 e0
    obtain ⟨v, hv, p0⟩ := slot_cons hR hl e0
    obtain ⟨a, kvs0, rfl, ha0, _⟩ := (hR.perm p0).peekM
    refine ⟨_, hv, a, rfl, .inl ⟨kvs0, .inl ha0⟩, S, T, hl, hR, ?_⟩
    have hs := lk S
    cases ek : mk S with
    | bad => rw [ek] at post; exact post
    | exc x S1 => rw [ek] at post; exact post
    | ok o S1 =>
      rw [ek] at post hs
      have hl1 : S1.length = σ.length := (show S1.length = _ from hs).trans hl
      intro y H1 E oa R
      cases g : o.get S1 with
      | none => simp only [g] at post; exact post.elim
      | some dk =>
        cases hkd : keyD dk with
        | none => simp only [g, hkd] at post; exact post.elim
        | some k =>
          simp only [g, hkd] at post
          obtain ⟨G1, O1, R'⟩ := id R
          have tk := opd_read oa g R' fun c hc => by rcases hc with hc | hc <;> simp [hc]
          have ey := keyD_rep R'.le hkd tk
          refine ⟨S1, E ++ T, hl1, R.perm pcomm, ?_⟩
          have hs2 := ld S1
          cases ed : md S1 with
          | bad => simp only [ed] at post; exact post
          | exc x S2 => simp only [ed] at post; exact XPost.more E post
          | ok o2 S2 =>
            simp only [ed] at post
            rw [ed] at hs2
            have hl2 : S2.length = σ.length := (show S2.length = _ from hs2).trans hl1
            intro z H2 E2 oa2 R2
            cases kp : o2.keep S2 with
            | none => simp only [kp] at post; exact post.elim
            | some pr =>
              obtain ⟨w, S3⟩ := pr
              simp only [kp] at post
              obtain ⟨r, hl3, hx⟩ := keep_ok oa2 kp R2 hl2
              have hl3 : S3.length = σ.length := hl3.trans hl2
              have r := r.freeze hx
              split at post
              · rename_i ks xs es
                split at post
                · rename_i hz
                  obtain ⟨v2, hv2, p3⟩ := slot_cons r.tail hl3 es
                  rw [hv] at hv2
                  cases hv2
                  have pp : ((some z, some (W.d w.toD)) :: (σ.zip S3 ++ (E ++ T))).Perm ((some (.ref a), some (W.m ks xs)) :: (some z, some (W.d w.toD)) :: ((σ.zip S3).eraseIdx i ++ (E ++ T))) := (List.Perm.cons _ p3).trans (List.Perm.swap _ _ _)
                  have rm := r.perm pp
                  obtain ⟨a2, kvs, ea, ha, hks, pk⟩ := rm.peekM
                  cases ea
                  have hlen : kvs.length = ks.length := by rw [← hks]; simp
                  cases ea : atK k ks xs with
                  | some d =>
                    simp only [ea] at post
                    obtain ⟨u, hu, ru⟩ := pk k d ea
                    refine ⟨kvs, k, ha, ey, by rw [hlen]; exact hz, fun v hv => ?_, fun hn => by rw [hn] at hu; cases hu⟩
                    rw [hu] at hv
                    cases hv
                    have q1 := (ru.perm (List.Perm.cons _ pp.symm))
                    exact post u H2 _ .t (Rel.drop [(some z, some (W.d w.toD))] (Rel.drop E (q1.perm (show ((some u, some (W.d d)) :: (some z, some (W.d w.toD)) :: (σ.zip S3 ++ (E ++ T))).Perm (E ++ ([(some z, some (W.d w.toD))] ++ ([(some u, some (W.d d))] ++ (σ.zip S3 ++ T)))) from by
                      refine (List.Perm.swap _ _ _).trans ?_
                      exact ((List.Perm.cons _ ((List.Perm.cons _ pcomm).trans List.perm_middle.symm)).trans List.perm_middle.symm)))))
                  | none =>
                    simp only [ea] at post
                    split at post
                    · exact post.elim
                    · rename_i hnk
                      obtain ⟨a3, kvs3, ea3, ha3, hl5, hn3, r5⟩ := Rel.growK (fun z => hnk (List.any_eq_true.mpr ⟨k, z, decide_eq_true rfl⟩)) rm
                      cases ea3
                      rw [ha] at ha3
                      cases ha3
                      refine ⟨kvs, k, ha, ey, by rw [hlen]; exact hz, fun v hv => (by rw [hn3] at hv; cases hv), fun _ => ?_⟩
                      have q1 := r5.perm (List.Perm.swap _ _ _)
                      have q2 := q1.perm (List.Perm.cons _ (slot_put (T := E ++ T) hv hl3).symm)
                      exact post z _ _ .t (Rel.drop E (q2.perm ((List.Perm.cons _ pcomm).trans List.perm_middle.symm)))
                · exact post.elim
              · exact post.elim
  · exact post.elim
theorem sStd_len {i : Nat} {mk md : SS → RE} (lk : ∀ S, LenE S.length (mk S)) (ld : ∀ S, LenE S.length (md S)) (S : SS) : LenE S.length (sStd i mk md S) := by
  unfold sStd
  split
  · have hs := lk S
    cases ek : mk S with
    | bad => exact trivial
    | exc x S1 => rw [ek] at hs; exact hs
    | ok o S1 =>
      rw [ek] at hs
      dsimp only
      split
      · split
        · have hs2 := ld S1
          cases ed : md S1 with
          | bad => exact trivial
          | exc x S2 => rw [ed] at hs2; exact (show S2.length = _ from hs2).trans hs
          | ok o2 S2 =>
            rw [ed] at hs2
            dsimp only
            cases kp : o2.keep S2 with
            | none => exact trivial
            | some pr =>
              have h3 := keep_len kp
              dsimp only
              split
              · split
                · split
                  · exact h3.trans ((show S2.length = _ from hs2).trans hs)
                  · split
                    · exact trivial
                    · exact (List.length_set ..).trans (h3.trans ((show S2.length = _ from hs2).trans hs))
                · exact trivial
              · exact trivial
        · exact trivial
      · exact trivial
  · exact trivial

/-! ### list(d.items()) -/
theorem itemsD_rep {G' H' : Hp} (hG : Le G G') : ∀ {ks : List Key} {xs : List D} {kvs : List (Key × V)} {ts : List Addr}, kvs.map (·.1) = ks → Reps K cl G xs (kvs.map (·.2)) → Paired (fun (t : Addr) (q : Key × V) => H' t = some (.tup [kV q.1, q.2])) ts kvs →
    (∀ t ∈ ts, G' t = H' t) → Reps K cl G' (itemsD ks xs) (ts.map V.ref)
  | [], xs, kvs, ts, e, _, p, _ => by
    cases kvs with
    | cons _ _ => cases e
    | nil => cases p; cases xs <;> rfl
  | k :: ks, xs, [], ts, e, _, _, _ => by cases e
  | k :: ks, [], (b, v) :: kvs, ts, e, r, _, _ => by cases (show _ = [] from r)
  | k :: ks, x :: xs, (b, v) :: kvs, ts, e, r, p, hg => by
    cases p with
    | @cons t _ ts _ h p =>
      obtain ⟨u, l, e1, q, r2⟩ := r
      simp only [List.map_cons, List.cons.injEq] at e e1
      obtain ⟨rfl, e⟩ := e
      obtain ⟨rfl, rfl⟩ := e1
      refine .cons ⟨t, [kV b, v], rfl, .inl (.inl ?_), .cons (kD_rep b) (.cons (Rep.le hG _ _ q) rfl)⟩ (itemsD_rep hG e r2 p fun t ht => hg t (List.mem_cons_of_mem _ ht))
      rw [hg t List.mem_cons_self]
      exact h
theorem RelG.items {O : List Addr} {cs : List Cell} (r : RelG K cl G H O cs) {H' : Hp} {p : Addr} {ts : List Addr} {ks : List Key} {xs : List D} {kvs : List (Key × V)} (ke : kvs.map (·.1) = ks) (rx : Reps K cl G xs (kvs.map (·.2)))
    (hk : ∀ b o, H b = some o → H' b = some o) (hp : H p = none) (ht : ∀ t ∈ ts, H t = none) (hpt : p ∉ ts) (hl : H' p = some (.lst (ts.map V.ref))) (pr : Paired (fun (t : Addr) (q : Key × V) => H' t = some (.tup [kV q.1, q.2])) ts kvs) :
    Rel K cl H' ((some (.ref p), some (.l (itemsD ks xs))) :: cs) := by
  have hasO : ∀ a ∈ O, ∃ o, H a = some o := fun a ha => r.rep.owns a ha
  have pO : p ∉ O := fun z => by obtain ⟨o, e⟩ := hasO p z; rw [hp] at e; cases e
  let G' : Hp := fun b => if b ∈ ts then H' b else G b
  have le : Le G G' := fun a o e => by
    show (if a ∈ ts then H' a else G a) = some o
    split
    · rename_i ha
      have := (r.sub a o e).1
      rw [ht a ha] at this
      cases this
    · exact e
  refine ⟨G', [p] ++ O, fun a o e => ?_, List.nodup_cons.mpr ⟨pO, r.nd⟩, .cons (F := [p]) (.some ⟨p, _, rfl, rfl, hl, itemsD_rep le ke rx pr fun t h => if_pos h⟩) (CReps.step le (fun a _ o e => hk a o e) r.rep)⟩
  have e : (if a ∈ ts then H' a else G a) = some o := e
  split at e
  · rename_i ha
    refine ⟨e, fun z => ?_⟩
    rcases List.mem_cons.mp z with z | z
    · subst z; exact hpt ha
    · obtain ⟨o, q⟩ := hasO a z; rw [ht a ha] at q; cases q
  · obtain ⟨h1, h2⟩ := r.sub a o e
    refine ⟨hk a o h1, fun z => ?_⟩
    rcases List.mem_cons.mp z with z | z
    · subst z; rw [hp] at h1; cases h1
    · exact h2 z
theorem pe_itemsD {e : Expr} {p apos cpos pos : Pos} {me : SS → RE} (hc : X.calm = true) (he : PE X e (tEv X.K cl Wx me)) (hg : Gl X "list") (hm : X.mg "list" = none) (hb : noSuperB e = true) (hline : (apos.endLine == cpos.line) = true) :
    PE X (.Call (.Name "list" p) [.Call (.Attribute e "items" apos) [] [] cpos] [] pos) (tEv X.K cl Wx (mItems me)) := by
  refine PE.imp (LiI.pe_listItems hc he hg hm (by decide +kernel) (base_any hb _ _ _) hline rfl) fun σ H Q ⟨S, T, hl, hR, post⟩ => ⟨S, T, hl, hR, ?_⟩
  unfold mItems at post
  cases em : me S with
  | bad => rw [em] at post; exact post
  | exc x S1 => rw [em] at post; exact post
  | ok o S1 =>
    rw [em] at post
    intro v H1 E a R
    simp only [RE.bind] at post
    split at post
    · rename_i ks xs g
      obtain ⟨G, O, R'⟩ := id R
      have t := opd_read a g R' fun c hc => by rcases hc with hc | hc <;> simp [hc]
      obtain ⟨b, kvs, rfl, hb, hks, q⟩ := t
      refine ⟨b, kvs, rfl, hb, fun H' p ts h1 h2 h3 h4 h5 h6 => ?_⟩
      have rn := R'.items hks q h1 h2 h3 h4 h5 h6
      exact post _ H' _ .t (Rel.drop E (rn.perm List.perm_middle.symm))
    · exact post.elim
theorem mItems_len {me : SS → RE} (la : ∀ S, LenE S.length (me S)) (S : SS) : LenE S.length (mItems me S) := by
  unfold mItems
  have hs := la S
  cases e : me S with
  | bad => exact trivial
  | exc x S1 => rw [e] at hs; exact hs
  | ok o S1 =>
    rw [e] at hs
    simp only [RE.bind]
    split
    · exact hs
    · exact trivial
end
end Ly
end
section
set_option Elab.async false
set_option linter.all false
set_option maxRecDepth 100000
set_option maxHeartbeats 4000000
/-! LyQ: own ==, !=, len. -/
namespace Ly
open PySem PySem.Spec PyProof.Rows L2

section
variable {cl : CL} {Wx : WX} {X : Cx} {pins : List (Addr × Obj)} {σ : L2.St} {H : Hp} {s : Shared} {CX : CXT} {n : Nat} {f : Addr} {fd : FuncData} {ps : List Str} {sp : Sp} {E : XK}
/-- a def of the text called from around A -/
theorem call_at {A : Around} {us : List Value} {vs : List V} {Q : VK} (sb : Sub X n A) (F : FnOk X.prog X.w X.K X.mg X.base CX n f fd ps sp) (hb : Binds X.K fd ps []) (hx : PassesAt CX X σ E) (I : Inv X pins σ H s) (r : Vals vs us) (h : sp vs H Q E) :
    wpAny (model X.prog X.w) A (call (.ref f) us) (EP X pins σ Q) X.xe s := by
  have few : us.length = ps.length := r.length.symm.trans (F.len _ _ _ _ h)
  have bd := hb s us I.kIn (by simpa using few)
  simp only [List.append_nil] at bd
  have e0 := I.env0
  have eA : Env0 X.prog X.w X.K X.mg X.base A X.stack s H := ⟨sb.fr.trans e0.frames, e0.mod, e0.bs, e0.bsz, e0.funs, e0.frf, e0.hok, e0.bare⟩
  refine wpAny_call (codeAny_mono (F.run A X.stack s H ⟨us, []⟩ us vs Q E sb.room eA bd r h) fun res s2 hq => ?_)
  match res, hq with
  | .error e, hq => exact hx pins H s e s2 I hq
  | .ok (.ret u), hq => exact I.after hq
theorem sub_self (hr : Room n X.A) : Sub X n X.A := ⟨hr, rfl⟩
/-- the other operand's class, as the comparison asks it -/
inductive OtherT (K : PySem.W.Frag) (C : Addr) (H : Hp) : V → Prop where
  | str (z : Str) : OtherT K C H (.str z)
  | own {a dx : Addr} {fs : List (Str × V)} : H a = some (.ins C dx fs) → OtherT K C H (.ref a)
structure EqF (K : PySem.W.Frag) (C f : Addr) : Prop where
  eq : PySem.W.findIn K (.ref C) "__eq__" = some (some (.ref f))
  fn : PySem.W.isFn K (.ref f) = true
  ne : PySem.W.findIn K (.ref C) "__ne__" = some (some (.builtin "object.__ne__"))
  mro : PySem.W.mroIn K C (.type "object") = some true
  str : PySem.W.subIn K (.type "str") (.ref C) = some false
theorem other_type {C : Addr} {y : V} {u : Value} (e : EqF X.K C f) (I : Inv X pins σ H s) (r : RelV y u) (o : OtherT X.K C H y) : ∃ tb, PySem.W.Looks (model X.prog X.w) s.heap (typeOf u) tb ∧ PySem.W.notFirst X.K C tb = true := by
  cases o with
  | str z =>
    obtain ⟨t, rfl⟩ := r
    exact ⟨.type "str", PySem.W.Looks.of_pure (by rfl), by unfold PySem.W.notFirst; rw [e.str]; rfl⟩
  | own ha =>
    cases r
    obtain ⟨_, J, _⟩ := ins_get I.hok ha
    obtain ⟨_, J, _⟩ := J.look
    exact ⟨.ref C, J.type, by unfold PySem.W.notFirst; simp⟩
theorem own_eq {C a dx : Addr} {fs : List (Str × V)} {y : V} {u : Value} {Q : VK} (e : EqF X.K C f) (hr : Room n X.A) (F : FnOk X.prog X.w X.K X.mg X.base CX n f fd ps sp) (hb : Binds X.K fd ps []) (hx : PassesAt CX X σ E) (I : Inv X pins σ H s)
    (ha : H a = some (.ins C dx fs)) (ry : RelV y u) (o : OtherT X.K C H y) (h : sp [.ref a, y] H (fun v H' => ∃ b, v = .bl b ∧ Q (.bl b) H') E) :
    wpAny (model X.prog X.w) X.A (compareOp .Eq (.ref a) u) (EP X pins σ Q) X.xe s := by
  obtain ⟨tb, Lt, nf⟩ := other_type e I ry o
  obtain ⟨_, J, _⟩ := ins_get I.hok ha
  obtain ⟨_, J, _⟩ := J.look
  obtain ⟨_, hF⟩ := I.fr
  refine (show wpAny (model X.prog X.w) X.A (richCompare .Eq (.ref a) u) (EP X pins σ Q) X.xe s from PySem.W.cmp_K (op := .Eq) (tb := tb) hr.units0 hF I.ok.mod.kin J Lt nf e.eq e.fn ?_)
  refine thn (call_at (sub_self hr) F hb hx I (.cons (show RelV (.ref a) (.ref a) from rfl) (.cons ry .nil)) h) fun v s2 ⟨x, H2, I2, rx, b, ex, q⟩ => ?_
  subst ex
  cases rx
  exact ⟨.bl b, H2, I2, rfl, q⟩
theorem ne_bound {M : Model} {A : Around} {Ee : Value → Shared → Prop} {C a : Addr} {ox : Obj} {od : Option Obj} {u : Value} {Q : Option Value → Shared → Prop} {K : PySem.W.Frag} (kin : K.In s.heap) (J : PySem.W.InstAt s.heap a ox C od) (e : EqF K C f)
    (h : wpAny M A (call (.builtin "object.__ne__") [.ref a, u]) (fun v => Q (some v)) Ee s) : wpAny M A (callSpecialIfBound? (.ref a) "__ne__" [u]) Q Ee s := by
  have bd : PySem.W.Looks M s.heap (bindSpecial (.builtin "object.__ne__") (.ref a)) (.builtin "object.__ne__", [.ref a]) := PySem.W.Looks.of_pure (PySem.F.cmp_object.ne.bind _)
  have rest : wpAny M A (call (.builtin "object.__ne__") ([.ref a] ++ [u]) >>= fun v => pure (some v)) Q Ee s := wpAny_bind (thn h fun v s2 q => wpAny_pure q)
  simp only [callSpecialIfBound?, bindSpecialIfBound?]
  refine wpAny_holding (wpAny_bind (wpAny_bind (wpAny_bind (J.type.here ((PySem.W.looks_findIn kin e.ne).here ?_)))))
  refine wpAny_bind (wpAny_askSetting (wpAny_ite ?_))
  split
  · exact wpAny_bind (bd.here (wpAny_pure rest))
  · exact wpAny_tryCatch (wpAny_bind (bd.here (wpAny_pure rest)))
theorem own_ne {C a dx : Addr} {fs : List (Str × V)} {y : V} {u : Value} {Q : VK} (e : EqF X.K C f) (hr : Room (n + 1) X.A) (F : FnOk X.prog X.w X.K X.mg X.base CX n f fd ps sp) (hb : Binds X.K fd ps []) (hx : PassesAt CX X σ E) (I : Inv X pins σ H s)
    (ha : H a = some (.ins C dx fs)) (ry : RelV y u) (o : OtherT X.K C H y) (h : sp [.ref a, y] H (fun v H' => ∃ b, v = .bl b ∧ Q (.bl (!b)) H') E) :
    wpAny (model X.prog X.w) X.A (compareOp .NotEq (.ref a) u) (EP X pins σ Q) X.xe s := by
  obtain ⟨tb, Lt, nf⟩ := other_type e I ry o
  obtain ⟨_, J, _⟩ := ins_get I.hok ha
  obtain ⟨_, J, _⟩ := J.look
  have top : PySem.W.Looks (model X.prog X.w) s.heap (isInstance (.ref a) (.type "object")) true := J.type.andThen (PySem.W.looks_mroIn I.kIn e.mro)
  have inner : wpAny (model X.prog X.w) X.A (call (.builtin "object.__ne__") [.ref a, u]) (fun v s2 => ∃ b, v = .bool b ∧ EP X pins σ Q (.bool b) s2) X.xe s := by
    refine wpAny_call (codeAny_call_builtin PySem.F.cmp_object.ne.plain PySem.F.cmpEntry_ne (PySem.W.check_slot PySem.F.cmpKind_ne PySem.F.cmpSplit_ne top (PySem.F.cmpArgs_ne _ _) ?_))
    unfold Builtin.«object.__ne__»
    refine wpAny_bind (wpAny_of_eq (a := (.ref a, [u])) (by first | rfl | kernel_rfl) ?_)
    refine wpAny_bind (wpAny_cRoomFor hr.in1.units0 ?_)
    refine wpAny_bind (PySem.W.ifBound_K I.kIn J e.eq e.fn (thn (call_at (Sub.in1 (sub_self hr)) F hb hx I (.cons (show RelV (.ref a) (.ref a) from rfl) (.cons ry .nil)) h) fun v s2 ⟨x, H2, I2, rx, b, ex, q⟩ => ?_))
    subst ex
    cases rx
    dsimp only
    refine wpAny_bind (wpAny_truthy_bool ?_)
    exact wpAny_pure ⟨_, rfl, .bl (!b), H2, I2, rfl, q⟩
  show wpAny (model X.prog X.w) X.A (richCompare .NotEq (.ref a) u) _ _ _
  have one : wpAny (model X.prog X.w) X.A (tryCompare (.ref a) "__ne__" u) (fun r s2 => ∃ v, r = some v ∧ EP X pins σ Q v s2) X.xe s := by
    unfold tryCompare
    refine wpAny_bind (ne_bound I.kIn J e (thn inner fun v s2 hv => ?_))
    obtain ⟨b, rfl, q⟩ := hv
    exact wpAny_pure ⟨_, rfl, q⟩
  unfold richCompare
  have thing : oneThing? .NotEq (.ref a) u = none := by cases u <;> rfl
  simp only [thing]
  refine wpAny_holding (wpAny_bind (wpAny_cRoomFor hr.units0 ?_))
  refine wpAny_bind (J.type.here (wpAny_bind (Lt.here ?_)))
  split
  · rename_i z
    have no : PySem.W.subIn X.K tb (.ref C) = some false := by
      rcases Bool.or_eq_true_iff.mp nf with z2 | z2
      · rw [beq_iff_eq.mp z2] at z; simp at z
      · exact beq_iff_eq.mp z2
    refine wpAny_bind ((PySem.W.looks_subIn I.kIn no).here ?_)
    simp only [Bool.false_eq_true, if_false]
    refine wpAny_bind (thn one fun r s2 ⟨v, er, hv⟩ => ?_)
    subst er
    exact wpAny_pure hv
  · refine wpAny_bind (wpAny_pure ?_)
    simp only [Bool.false_eq_true, if_false]
    refine wpAny_bind (thn one fun r s2 ⟨v, er, hv⟩ => ?_)
    subst er
    exact wpAny_pure hv
end
end Ly
end
section
set_option Elab.async false
set_option linter.all false
set_option maxRecDepth 100000
set_option maxHeartbeats 4000000
/-! LyR: own len, own iteration, enumerate with a start, instances made, f-strings. -/
namespace Ly
open PySem PySem.Spec PyProof.Rows L2

/-! ### len(o) by an own __len__ -/
structure LenF (K : PySem.W.Frag) (C f : Addr) : Prop where
  ln : PySem.W.findIn K (.ref C) "__len__" = some (some (.ref f))
  fn : PySem.W.isFn K (.ref f) = true
section
variable {cl : CL} {Wx : WX} {X : Cx} {pins : List (Addr × Obj)} {σ : L2.St} {H : Hp} {s : Shared} {CX : CXT} {n : Nat} {f : Addr} {fd : FuncData} {ps : List Str} {sp : Sp} {E : XK}
theorem own_len {C a dx : Addr} {fs : List (Str × V)} {Q : VK} (e : LenF X.K C f) (hr : Room (n + 1) X.A) (F : FnOk X.prog X.w X.K X.mg X.base CX n f fd ps sp) (hb : Binds X.K fd ps []) (hx : PassesAt CX X σ E) (I : Inv X pins σ H s)
    (ha : H a = some (.ins C dx fs)) (h : sp [.ref a] H (fun v H' => ∃ i : Int, v = .int i ∧ 0 ≤ i ∧ i < 2 ^ 63 ∧ Q (.int i) H') E) :
    wpAny (model X.prog X.w) X.A (call (.builtin "len") [.ref a]) (EP X pins σ Q) X.xe s := by
  obtain ⟨_, J, _⟩ := ins_get I.hok ha
  obtain ⟨_, J, _⟩ := J.look
  refine Calls.call_function_entry kind_len plain_len entry_len (args_len1 _) ?_
  unfold Builtin.«len»
  refine wpAny_bind (m := oneArg "len" _) (wpAny_pure ?_)
  refine wpAny_bind (m := callSpecial? (.ref a) (PySem.Str.ofString "__len__")) ?_
  simp only [callSpecial?]
  refine wpAny_bind (wpAny_bind (J.type.here ((PySem.W.looks_findIn I.kIn e.ln).here ?_)))
  refine wpAny_holding (wpAny_bind ((PySem.W.bind_fn I.kIn _ (beq_iff_eq.mp e.fn)).here (wpAny_bind ?_)))
  refine thn (call_at (Sub.in1 (sub_self hr)) F hb hx I (.cons (show RelV (.ref a) (.ref a) from rfl) .nil) h) fun v s2 ⟨x, H2, I2, rx, i, ex, h0, h1, q⟩ => ?_
  subst ex
  obtain ⟨t, rfl⟩ := rx
  refine wpAny_pure ?_
  refine wpAny_bind (wpAny_holding (wpAny_pure ?_))
  refine wpAny_bind (wpAny_letGo ?_)
  show wpAny _ _ (if i < 0 then _ else _) _ _ _
  rw [if_neg (by omega)]
  show wpAny _ _ (if i ≥ 2 ^ 63 then _ else _) _ _ _
  rw [if_neg (by omega)]
  exact wpAny_bind (wpAny_mkInt (wpAny_pure ⟨_, rfl, .int i, H2, I2.tok _, ⟨_, rfl⟩, q⟩))

/-! ### iteration by an own __iter__ that gives a tuple's iterator -/
abbrev itT (l : Addr) : Obj := { cls := .type "tuple_iterator", data := .fields #[.ref l, .int 0 0] }
def ItT (l it : Addr) : HO := .ext fun h => h.get? it = some (itT l)
theorem itT_ok {P : Program} {w : World} {H : Hp} {h : Heap} {l it : Addr} (e : h.get? it = some (itT l)) : ObjOk P w H h it (ItT l it) := ⟨e, ⟨_, e⟩, fun h1 h2 q k => k _ q⟩
/-- iter(t) -/
theorem call_iterT : CallR X (.builtin "iter") (fun xs H Q => ∃ (l : Addr) (zs : List V), xs = [.ref l] ∧ SqT X.K H l zs ∧ ∀ it, X.s_0.heap.objs.size ≤ it → H it = none → Q (.ref it) (upd H it (ItT l it))) := by
  intro pins s σ H xs us Q I r h
  obtain ⟨l, zs, rfl, hq, q⟩ := h
  obtain ⟨u, rfl, ru⟩ := vals1 r
  cases ru
  obtain ⟨its, rv, pl, hz⟩ := I.tuple hq
  refine Calls.call_function_entry (by decide +kernel) (by decide +kernel) PySem.W.kdk_entry_iter (PySem.W.kdk_args_iter _) ?_
  unfold Builtin.«iter»
  refine wpAny_bind (m := someArgs "iter" 1 2 _) (wpAny_of_eq (a := [Value.ref l]) (by first | rfl | kernel_rfl!) ?_)
  show wpAny _ _ (pyIter (.ref l) >>= _) _ _ _
  refine wpAny_bind (wpAny_pyIter_tuple (show s.heap.IsTuple l its.toArray from pl) ?_)
  exact wpAny_pure ⟨_, rfl, .ref s.heap.objs.size, _, I.laid (t' := s.toks) (fun b u e => Heap.get?_push_of_some _ e) (Nat.le_refl _) (itT_ok (Heap.get?_push_size _ rfl)), rfl, q _ I.sz (I.hok.fresh (Nat.le_refl _))⟩
structure IterF (K : PySem.W.Frag) (C f : Addr) : Prop where
  it : PySem.W.findIn K (.ref C) "__iter__" = some (some (.ref f))
  fn : PySem.W.isFn K (.ref f) = true
/-- what such an __iter__ promises: the iterator of the tuple in the field g, laid behind all that stood at the call -/
def spIt (K : PySem.W.Frag) (C : Addr) (g : Str) (lo : Nat) : Sp := fun vs H Q _ => ∃ (a dx l : Addr) (fs : List (Str × V)) (zs : List V), vs = [.ref a] ∧ H a = some (.ins C dx fs) ∧ fs.lookup g = some (.ref l) ∧ SqT K H l zs ∧
  ∀ it, lo ≤ it → H it = none → Q (.ref it) (upd H it (ItT l it))
/-- a def's promise that knows where it starts -/
structure FnAt (P : Program) (w : World) (K : PySem.W.Frag) (mg : Str → Option Value) (base : Heap) (k : Nat) (f : Addr) (fd : FuncData) (ps : List Str) (sp : Nat → Sp) : Prop where
  len : ∀ lo vs H Q E, sp lo vs H Q E → vs.length = ps.length
  go : ∀ (A : Around) (outer : List Env) (s : Shared) (H : Hp) (args : Args) (us : List Value) (vs : List V) (Q : VK) (E : XK), Room k A → Env0 P w K mg base A outer s H → BindsTo s fd args (ps.zip us) → Vals vs us → sp s.heap.objs.size vs H Q E →
    codeAny (model P w) A (.call (.ref f) args) (CR (L2N.CX P w) outer P w H s Q E) s
theorem fun_at {P : Program} {w : World} {K : PySem.W.Frag} {mg : Str → Option Value} {base : Heap} {x qual : Str} {st : Stmt} {f : Addr} {fd : FuncData} {N ps : List Str} {k : Nat} {sp : Nat → Sp} (F : Fun K x qual st f fd) (Sc : FnScope N ps (defScope st)) (len : ∀ lo vs H Q E, sp lo vs H Q E → vs.length = ps.length)
    (hb : ∀ (cdv : Value) (A : Around) (outer : List Env) (s : Shared) (H : Hp) (vs : List V) (Q : VK) (E : XK), Room k (A.deeper (envOfC qual (defScope st) s.heap.objs.size f cdv)) → sp s.heap.objs.size vs H Q E →
      ∃ t, PSs (cxOf (L2N.CX P w) P w K mg base N qual (defScope st) f cdv A outer s H E) (defBody st) t ∧ t { nx := fun _ H' => Q .non H', rt := Q } (L2.start N vs) H) : FnAt P w K mg base (k + 1) f fd ps sp where
  len := len
  go A outer s H args us vs Q E room e0 bd rel spec := by
    obtain ⟨oc, od, kV, doc, pm, an, cdv, ct, osl, efd, lk, code⟩ := F.ex
    subst efd
    have keep := fun b o e => (e0.bs b o e).1
    have inK := e0.mod.kin.keeps keep
    refine codeAny_call_function room.depth (inK _ _ lk) rfl Sc.co Sc.gen rfl (PySem.W.codeRec_of inK code) (bd _ _ _ _ ?_)
    have kinds : ∀ y ∈ ps.zip us, (defScope st).names.lookup y.1 = some .local ∨ ((defScope st).names.lookup y.1 = some .cell ∧ ((cellsFrom (s.heap.objs.size + 1) (defScope st).names []).lookup y.1).isSome = true) :=
      fun y hm => (Sc.par y.1 (List.of_mem_zip (show (y.1, y.2) ∈ _ from hm)).1).elim .inl fun z => .inr ⟨z, PySem.W.cellsFrom_some _ _ _ (.inl z)⟩
    refine wpAny_newFunctionEnv_cells Sc.kind kinds fun env henv s1 started => ?_
    subst henv
    refine ⟨(e0.mod.nolimit.keeps keep).keeps started.toInCall.keep, codeAny_func ?_⟩
    obtain ⟨t, body, ht⟩ := hb cdv A outer s H vs Q E (room.deeper _) spec
    refine thn (body.run [] s1 _ H _ (inv_start Sc room.hd e0 (len _ _ _ _ _ spec) rel started) ht) fun fl s2 out => ?_
    cases fl with
    | ret u => exact let ⟨v, _, H2, J, rv, q⟩ := out; ⟨v, H2, J.os, J.bare, J.base, J.hok, rv, q⟩
    | next => exact let ⟨_, H2, J, q⟩ := out; ⟨.non, H2, J.os, J.bare, J.base, J.hok, rfl, q⟩
    | brk => exact let ⟨_, _, _, q⟩ := out; q.elim
    | cont => exact let ⟨_, _, _, q⟩ := out; q.elim
theorem pi_ownIt {C : Addr} {g : Str} {tg e : Expr} {te : TE} (F0 : IterF X.K C f) (hr : Room n X.A) (F : FnAt X.prog X.w X.K X.mg X.base n f fd ps (spIt X.K C g)) (hb : Binds X.K fd ps []) (tk : L2N.Takes X Wx) (he : PE X e te) :
    PI X tg e (fun σ H R => te σ H fun v H1 => ∃ (a dx l : Addr) (fs : List (Str × V)) (zs : List V), v = .ref a ∧ H1 a = some (.ins C dx fs) ∧ fs.lookup g = some (.ref l) ∧ SqT X.K H1 l zs ∧ R (Itt X.K l) H1) := by
  refine ⟨fun pins s σ H R I h => ?_⟩
  refine thn (he.run pins s σ H _ I h) fun u s1 ⟨v, H1, I1, ru, a, dx, l, fs, zs, ev, ha, hl, hq, q⟩ => ?_
  subst ev
  cases ru
  obtain ⟨_, J, _⟩ := ins_get I1.hok ha
  obtain ⟨_, J, _⟩ := J.look
  obtain ⟨_, hF⟩ := I1.fr
  refine PySem.W.owit_iter hF I1.ok.mod.kin J F0.it F0.fn ?_
  have hsp : spIt X.K C g s1.heap.objs.size [.ref a] H1 (fun v H' => ∃ it, s1.heap.objs.size ≤ it ∧ v = .ref it ∧ H1 it = none ∧ H' = upd H1 it (ItT l it)) (fun cls d H => Wx cls d σ H) := ⟨a, dx, l, fs, zs, rfl, ha, hl, hq, fun it lo h => ⟨it, lo, rfl, h, rfl⟩⟩
  have few : [Value.ref a].length = ps.length := (F.len _ _ _ _ _ hsp)
  have bd := hb s1 [.ref a] I1.kIn (by simpa using few)
  simp only [List.append_nil] at bd
  refine wpAny_call (codeAny_mono (F.go X.A X.stack s1 H1 ⟨[.ref a], []⟩ [.ref a] [.ref a] _ _ hr I1.env0 bd (.cons (show RelV (.ref a) (.ref a) from rfl) .nil) hsp) fun res s2 hq2 => ?_)
  match res, hq2 with
  | .error e, hq2 => exact L2N.passAt tk σ pins H1 s1 e s2 I1 hq2
  | .ok (.ret u), hq2 =>
    obtain ⟨v3, H3, I3, rv3, it, hge, ev3, hn, eH3⟩ := I1.after hq2
    subst ev3 eH3
    cases rv3
    have hit : s2.heap.get? it = some (itT l) := (I3.hok it _ upd_same).1
    have st : s2.heap.IsTupleIter it l 0 := ⟨_, hit, rfl, rfl⟩
    unfold PySem.W.OwitIt
    refine wpAny_specialOf st.typeIs PySem.F.slot_tuple_iterator_next.lookup ?_
    have hd : ItX.dropH (upd H1 it (ItT l it)) it = H1 := ItX.dropH_upd hn
    have I4 : Inv X pins σ H1 s2 := by
      have := ItX.inv_drop I3 (show upd H1 it (ItT l it) it = some (.ext _) from upd_same)
      rw [hd] at this
      exact this
    refine ⟨it, [it], _, _, H1, rfl, I4, turn_tuple l it, st, fun b hb => ?_, q⟩
    have eb : b = it := by simpa using hb
    rw [eb]
    have fp := ItX.inv_fp I3 (show upd H1 it (ItT l it) it = some (.ext _) from upd_same) (Nat.le_trans I1.sz hge)
    rw [hd] at fp
    exact fp
end
end Ly
end
section
set_option Elab.async false
set_option linter.all false
set_option maxRecDepth 100000
set_option maxHeartbeats 4000000
/-! LyS: enumerate with a start, f-strings. -/
namespace Ly
open PySem PySem.Spec PyProof.Rows L2

/-! ### enumerate(l, start=k) -/
/-- the list at a as it stands, each item behind its number -/
def ItN (K : PySem.W.Frag) (a : Addr) (c : Int) : It where
  go i H := ∃ (xs : List V) (x : V), SqL K H a xs ∧ xs[i]? = some x
  yld i H v H' := ∃ T x, v = .ref T ∧ H T = none ∧ H' = upd H T (.tup [.int (c + (i : Nat)), x]) ∧ ∀ xs, SqL K H a xs → xs[i]? = some x
  stop i H := ∃ xs : List V, SqL K H a xs ∧ xs.length ≤ i
theorem turn_num {P : Program} {w : World} {K : PySem.W.Frag} {elts : List Expr} {kk : Nat} {tpos : Pos} (a e it : Addr) (c : Int) (hai : a ≠ it) :
    Turn P w K (.Tuple elts kk tpos) (ItN K a c) [e, it] e (fun i h => (∃ old, IsEnum h e it (c + (i : Nat)) old) ∧ h.IsListIter it a i ∧ e ≠ it ∧ e ≠ a) where
  mem := List.mem_cons_self
  obj i h st b hb := by
    obtain ⟨⟨old, he⟩, ⟨o, ho, hc, hd⟩, _⟩ := st
    rcases List.mem_cons.mp hb with z | z
    · subst z; exact ⟨_, he, fun v q => nomatch q⟩
    · have z : b = it := by simpa using z
      subst z; exact ⟨o, ho, fun v q => by rw [hd] at q; cases q⟩
  keep i h h' st k := ⟨st.1.imp fun old he => k e List.mem_cons_self _ he, st.2.1.at fun o q => k it (by simp) o q, st.2.2⟩
  item := by
    intro X hP hw hK calm i pins s σ H E I hf st hg
    subst hP hw hK
    obtain ⟨⟨old, he⟩, hit, hne, hea⟩ := st
    obtain ⟨xs, x, hq, hx⟩ := hg
    obtain ⟨its, rv, p, hz⟩ := I.list hq
    obtain ⟨u, hu, ru⟩ := rv.get hx
    have size_e : e < s.heap.objs.size := Heap.lt_size he
    have size_it : it < s.heap.objs.size := let ⟨_, q, _⟩ := hit; Heap.lt_size q
    have off : ∀ b ∈ [e, it], b < s.heap.objs.size := fun b hb => (List.mem_cons.mp hb).elim (fun z => z ▸ size_e) fun z => (show b = it by simpa using z) ▸ size_it
    have hi : i < its.toArray.size := by simpa using (List.getElem?_eq_some_iff.mp hu).1
    have D := Draws.list (prog := X.prog) (w := X.w) (A := X.A.in1) (I.ok.hd calm) it a hai its.toArray
    refine wpAny_pyNext_enum_itemC D he ⟨hit, p.isList⟩ hi hne (by simp [hne, hea]) fun y h1 tk hy out st1 tup sz k => ?_
    have ey : y = u := by
      have := hy.symm.trans (show its.toArray[i]? = some u by simpa using hu)
      exact Option.some.inj this
    subst ey
    refine ⟨_, rfl, wpAny_letOwnedTupleGo_enum (s := { s with heap := h1, toks := tk + 1 }) out fun h2 back sb => ?_⟩
    have tup2 : h2.get? s.heap.objs.size = some { cls := .type "tuple", data := .seq #[.int (c + (i : Nat)) tk, y] } := (sb.2 _ (Nat.ne_of_gt size_e)).trans tup
    have laid : ObjOk X.prog X.w (upd H s.heap.objs.size (.tup [.int (c + (i : Nat)), x])) h2 s.heap.objs.size (.tup [.int (c + (i : Nat)), x]) :=
      ⟨by show 2 ≤ sizeLine; decide, [.int (c + (i : Nat)) tk, y], .cons ⟨_, rfl⟩ (.cons ru .nil), ⟨_, tup2, rfl, _, rfl⟩⟩
    have I1 : Inv X pins σ (upd H s.heap.objs.size (.tup [.int (c + (i : Nat)), x])) { s with heap := h2, toks := tk + 1 } := by
      refine I.turnedNew (ch := [e, it]) (fun b ob hb q => ?_) hf (Nat.le_refl _) laid
      have ne1 : b ≠ e := fun z => hb (by simp [z])
      have ne2 : b ≠ it := fun z => hb (by simp [z])
      exact (sb.2 b ne1).trans (k b ob ne1 ne2 q)
    refine ⟨.ref s.heap.objs.size, _, I1, rfl, ⟨_, x, rfl, I.hok.fresh (Nat.le_refl _), rfl, fun zs hs => (I.list_inj hs hq) ▸ hx⟩, ⟨⟨y, ?_⟩, st1.1.at fun o q => (sb.2 it (Ne.symm hne)).trans q, hne, hea⟩, fun b hb => ?_⟩
    · have e1 : c + ((i + 1 : Nat) : Int) = c + (i : Int) + 1 := by omega
      rw [e1]; exact back
    · rw [upd_ne (Nat.ne_of_lt (off b hb))]
      exact (hf b hb).1
  done := by
    intro X hP hw hK calm i pins s σ H E I hf st hg
    subst hP hw hK
    obtain ⟨⟨old, he⟩, hit, hne, hea⟩ := st
    obtain ⟨xs, hq, hx⟩ := hg
    obtain ⟨its, rv, p, hz⟩ := I.list hq
    obtain ⟨f0, f1, f2, f3, f4, f5⟩ := hf it (by simp)
    have hl := rv.length
    have none_ : its.toArray[i]? = none := by simp; omega
    have hT : s.TypeIs (.ref e) "enumerate" := ⟨_, he, rfl⟩
    unfold pyNext
    refine wpAny_bind (wpAny_attempt (wpAny_callSpecial?_slot (name := Str.ofString "__next__") hT PySem.F.slot_enumerate_next (wpAny_call_entry PySem.F.slot_enumerate_next hT PySem.F.entry_enumerate_next ?_ (PySem.F.args_enumerate_next_1 _))))
    show wpAny _ _ (field (.ref e) 2 >>= _) _ _ _
    refine wpAny_bind (wpAny_field he rfl (x := .ref it) rfl ?_)
    refine wpAny_bind (wpAny_nextOf_list_end (I.ok.hd calm) hit p.isList none_ fun h' x keep stop => ?_)
    obtain ⟨o, ho, hc⟩ := stop
    refine wpAny_bind (wpAny_isInstance (T := "StopIteration") (b := true) ⟨o, ho, hc⟩ isSubtype_stop ?_)
    exact wpAny_pure ⟨rfl, I.turned (t' := s.toks) (fun b o hb q => keep b o hb q) f0 f1 f3 f4 f5⟩
  self A i s Q E st h := let ⟨⟨_, he⟩, _⟩ := st; wpAny_pyIter_enum he h
section
variable {cl : CL} {Wx : WX} {X : Cx}
def NumQ (K : PySem.W.Frag) (v : V) (R : It → Hp → Prop) : List V → Hp → Prop := fun vs H2 => ∃ (a : Addr) (xs : List V) (c : Int), v = .ref a ∧ vs = [.int c] ∧ SqL K H2 a xs ∧ -(2 ^ 63) ≤ c ∧ c < 2 ^ 63 ∧ R (ItN K a c) H2
theorem pi_num {e ek : Expr} {te tk : TE} {p pos kpos tpos : Pos} {elts : List Expr} {kk : Nat} (hg : Gl X "enumerate") (hm : X.mg "enumerate" = none) (he : PE X e te) (hk : PE X ek tk) (hs : noStarB e = true) :
    PI X (.Tuple elts kk tpos) (.Call (.Name "enumerate" p) [e] [⟨some "start", ek, kpos⟩] pos) (fun σ H R => te σ H fun v H1 => tk σ H1 fun n H2 => ∃ (a : Addr) (xs : List V) (c : Int), v = .ref a ∧ n = .int c ∧ SqL X.K H2 a xs ∧ -(2 ^ 63) ≤ c ∧ c < 2 ^ 63 ∧ R (ItN X.K a c) H2) := by
  refine ⟨fun pins s σ H R I h => ?_⟩
  refine wpAny_Call_Name_kw (ld_blt I hg hm boot_enumerate ?_)
  have st : starEach [e] X.env = (false, eval e X.env) :: starEach [] X.env := star_one hs _ _
  refine PySem.W.callWith_of (P := fun _ => True) (by rw [st]; rfl) (fun h _ => ⟨.machine, .inr (.inl rfl), PySem.W.Looks.of_pure rfl⟩) (evalArgs_kw2 rfl ?_ st)
  rw [st]
  refine Calls.spliced_cons (thn (he.run pins s σ H _ I h) fun u s1 ⟨v, H1, I1, r1, q1⟩ => Calls.spliced_nil ?_)
  have q1 : tk σ H1 fun n H2 => ∃ (a : Addr) (xs : List V) (c : Int), v = .ref a ∧ n = .int c ∧ SqL X.K H2 a xs ∧ -(2 ^ 63) ≤ c ∧ c < 2 ^ 63 ∧ R (ItN X.K a c) H2 := q1
  have e : (fun (n : V) (H2 : Hp) => ∃ (a : Addr) (xs : List V) (c : Int), v = .ref a ∧ n = .int c ∧ SqL X.K H2 a xs ∧ -(2 ^ 63) ≤ c ∧ c < 2 ^ 63 ∧ R (ItN X.K a c) H2) = fun n H2 => NumQ X.K v R [n] H2 := by
    funext n H2
    simp [NumQ]
  rw [e] at q1
  refine thn ((pk_cons (nm := some "start") (kpos := kpos) hk pk_nil).run pos pins s1 σ H1 (NumQ X.K v R) I1 q1) fun us s2 ⟨vs, H2, I2, r2, a, xs, c, ev, evs, hq, c0, c1, q2⟩ => ⟨trivial, ?_⟩
  subst ev evs
  cases r1
  obtain ⟨w, rfl, t, rfl⟩ := vals1 r2
  obtain ⟨its, rv, pl, hz⟩ := I2.list hq
  have alive : a < s2.heap.objs.size := by
    obtain ⟨o, ho, _⟩ := pl.isList
    exact Heap.lt_size ho
  show wpAny _ _ (call (.type "enumerate") [.ref a] [(Str.ofString "start", .int c t)]) _ _ _
  refine enum_begins_start (begins_list a its.toArray) pl.isList c0 c1 fun h' he hit hsz keep => wpAny_pyIter_enum he ?_
  have I3 : Inv X pins σ H2 { s2 with heap := h' } := I2.kept (t' := s2.toks) keep
  refine ⟨s2.heap.objs.size + 1, [s2.heap.objs.size + 1, s2.heap.objs.size], _, _, H2, rfl, I3, turn_num a (s2.heap.objs.size + 1) s2.heap.objs.size c (Nat.ne_of_lt alive), ⟨⟨.none, by rw [show c + ((0 : Nat) : Int) = c by omega]; exact he⟩, ⟨_, hit, rfl, rfl⟩, Nat.succ_ne_self _, Nat.ne_of_gt (Nat.lt_succ_of_lt alive)⟩, fun b hb => ?_, q2⟩
  have far : s2.heap.objs.size ≤ b := by
    rcases List.mem_cons.mp hb with z | z
    · rw [z]; exact Nat.le_succ _
    · rw [show b = _ by simpa using z]; exact Nat.le_refl _
  exact I2.fpOk far (I2.hok.fresh far)
end
end Ly
end
section
set_option Elab.async false
set_option linter.all false
set_option maxRecDepth 100000
set_option maxHeartbeats 4000000
/-! LyT: the readings of own ==, !=, len, iteration, enumerate with a start, f-strings. -/
namespace Ly
open PySem PySem.Spec PyProof.Rows L2

/-- kept, as frozen data -/
def dK (me : SS → RE) (f : D → SS → RE) : SS → RE := fun S => match me S with
  | .ok o S1 => (match o.keep S1 with | some (w, S2) => f w.toD S2 | none => .bad)
  | .exc x S1 => .exc x S1
  | .bad => .bad
theorem dK_len {me : SS → RE} {f : D → SS → RE} (la : ∀ S, LenE S.length (me S)) (lf : ∀ d S, LenE S.length (f d S)) (S : SS) : LenE S.length (dK me f S) := by
  unfold dK
  have hs := la S
  cases e : me S with
  | bad => exact trivial
  | exc x S1 => rw [e] at hs; exact hs
  | ok o S1 =>
    rw [e] at hs
    cases k : o.keep S1 with
    | none => simp only [k]; exact trivial
    | some p =>
      simp only [k]
      have h2 := lf p.1.toD p.2
      rw [keep_len k, show S1.length = S.length from hs] at h2
      exact h2
section
variable {K : PySem.W.Frag} {cl : CL} {Wx : WX} {σ : L2.St} {H : Hp} {X : Cx}
theorem EvPost_mono {T : List Cell} {Q Q' : VK} (k : ∀ v H, Q v H → Q' v H) : ∀ r, EvPost K cl Wx σ T Q r → EvPost K cl Wx σ T Q' r
  | .ok o S, h => fun v H E a R => k v H (h v H E a R)
  | .exc x S, h => h
  | .bad, h => h
theorem tEv_mono {me : SS → RE} {Q Q' : VK} (h : tEv K cl Wx me σ H Q) (k : ∀ v H, Q v H → Q' v H) : tEv K cl Wx me σ H Q' := by
  obtain ⟨S, T, hl, hR, post⟩ := h
  exact ⟨S, T, hl, hR, EvPost_mono k _ post⟩
/-- the kept operand stands as a cell of its own -/
theorem ev_dK {me : SS → RE} {f : D → SS → RE} {Q : VK} (la : ∀ S, LenE S.length (me S)) (h : tEv K cl Wx (dK me f) σ H Q) : tEv K cl Wx me σ H fun v H1 => ∃ d S T, S.length = σ.length ∧ Rel K cl H1 ((some v, some (.d d)) :: (σ.zip S ++ T)) ∧ EvPost K cl Wx σ T Q (f d S) := by
  obtain ⟨S, T, hl, hR, post⟩ := h
  refine ⟨S, T, hl, hR, ?_⟩
  unfold dK at post
  have hs := la S
  cases e : me S with
  | bad => rw [e] at post; exact post
  | exc x S1 => rw [e] at post; exact post
  | ok o S1 =>
    rw [e] at post hs
    intro v H1 E a R
    cases k : o.keep S1 with
    | none => simp only [k] at post; exact post.elim
    | some p =>
      obtain ⟨w, S2⟩ := p
      simp only [k] at post
      obtain ⟨r, hl2, hx⟩ := keep_ok a k R ((show S1.length = _ from hs).trans hl)
      exact ⟨w.toD, S2, T, hl2.trans ((show S1.length = _ from hs).trans hl), r.freeze hx, post⟩
end
/-- a def's answer as an operand -/
def outE (r : Out) (S : SS) : RE := match r with
  | .ret w => .ok (.t w) S
  | .exc x => .exc x S
  | .bad => .bad
/-- len(o), o of the class c, m its own __len__ -/
def mOlen (c : Nat) (m : List D → Out) (me : SS → RE) : SS → RE := dK me fun d S => match d with
  | .obj c' ns xs => if c' = c then (match m [.obj c' ns xs] with
      | .ret (.d (.int i)) => if 0 ≤ i ∧ i < 2 ^ 63 then .ok (.t (.d (.int i))) S else .bad
      | .exc x => .exc x S
      | _ => .bad) else .bad
  | _ => .bad
/-- what an own == may be asked about -/
def eqAsk (c : Nat) : D → Bool
  | .obj c2 _ _ => decide (c2 = c)
  | .str _ => true
  | _ => false
/-- a == b, a of the class c, m its own __eq__; neg: a != b -/
def mCeq (c : Nat) (neg : Bool) (m : List D → Out) (ma mb : SS → RE) : SS → RE := fun S => match dCons ma (dCons mb dNil) S with
  | .ok ds S2 => (match ds with
    | [.obj c' ns xs, d2] => if c' = c then (if eqAsk c d2 = true then (match m [.obj c' ns xs, d2] with
        | .ret (.d (.bl b)) => .ok (.t (.d (.bl (b != neg)))) S2
        | .exc x => .exc x S2
        | _ => .bad) else .bad) else .bad
    | _ => .bad)
  | .exc x S2 => .exc x S2
  | .bad => .bad
/-- the items of o.g, o of the class c -/
def mOit (c : Nat) (g : Str) (me : SS → RE) : SS → RIt := fun S => match me S with
  | .ok o S1 => (match o.keep S1 with
    | some (w, S2) => (match w.toD with
      | .obj c' ns xs => if c' = c then (match lookD g ns xs with | some (.tup ys) => .ok ys S2 | _ => .bad) else .bad
      | _ => .bad)
    | none => .bad)
  | .exc x S1 => .exc x S1
  | .bad => .bad
def numD (c : Int) : List D → List D
  | [] => []
  | x :: xs => .tup [.int c, x] :: numD (c + 1) xs
/-- enumerate(l, start=k) -/
def mNum (me mk : SS → RE) : SS → RIt := fun S => match me S with
  | .ok o S1 => (match o.keep S1 with
    | some (w, S2) => (match mk S2 with
      | .ok o2 S3 => (match o2.get S3 with
        | some (.int c) => if -(2 ^ 62) ≤ c ∧ c < 2 ^ 62 then (match w.toD with | .lst xs => .ok (numD c xs) S3 | .frl xs => .ok (numD c xs) S3 | _ => .bad) else .bad
        | _ => .bad)
      | .exc x S3 => .exc x S3
      | .bad => .bad)
    | none => .bad)
  | .exc x S1 => .exc x S1
  | .bad => .bad
theorem outE_len (r : Out) (S : SS) : LenE S.length (outE r S) := by cases r <;> first | rfl | exact trivial
theorem mOlen_len {c : Nat} {m : List D → Out} {me : SS → RE} (la : ∀ S, LenE S.length (me S)) (S : SS) : LenE S.length (mOlen c m me S) := by
  refine dK_len la (fun d S => ?_) S
  cases d with
  | obj c' ns xs =>
    dsimp only
    split
    · split
      · split <;> first | rfl | exact trivial
      · rfl
      · exact trivial
    · exact trivial
  | _ => exact trivial
theorem mCeq_len {c : Nat} {neg : Bool} {m : List D → Out} {ma mb : SS → RE} (la : ∀ S, LenE S.length (ma S)) (lb : ∀ S, LenE S.length (mb S)) (S : SS) : LenE S.length (mCeq c neg m ma mb S) := by
  unfold mCeq
  have h0 : ∀ S : SS, LenD S.length (dNil S) := fun S => rfl
  have hs := dCons_len la (dCons_len lb h0) S
  cases e : dCons ma (dCons mb dNil) S with
  | bad => exact trivial
  | exc x S1 => rw [e] at hs; exact hs
  | ok ds S1 =>
    rw [e] at hs
    dsimp only
    split
    · split
      · split
        · split <;> first | exact hs | exact trivial
        · exact trivial
      · exact trivial
    · exact trivial
theorem mOit_len {c : Nat} {g : Str} {me : SS → RE} (la : ∀ S, LenE S.length (me S)) (S : SS) : LenIt S.length (mOit c g me S) := by
  unfold mOit
  have hs := la S
  cases e : me S with
  | bad => exact trivial
  | exc x S1 => rw [e] at hs; exact hs
  | ok o S1 =>
    rw [e] at hs
    cases k : o.keep S1 with
    | none => simp only [k]; exact trivial
    | some p =>
      simp only [k]
      split
      · split
        · split
          · exact (keep_len k).trans hs
          · exact trivial
        · exact trivial
      · exact trivial
theorem mNum_len {me mk : SS → RE} (la : ∀ S, LenE S.length (me S)) (lk : ∀ S, LenE S.length (mk S)) (S : SS) : LenIt S.length (mNum me mk S) := by
  unfold mNum
  have hs := la S
  cases e : me S with
  | bad => exact trivial
  | exc x S1 => rw [e] at hs; exact hs
  | ok o S1 =>
    rw [e] at hs
    cases k : o.keep S1 with
    | none => simp only [k]; exact trivial
    | some p =>
      simp only [k]
      have h2 := lk p.2
      have h3 := (keep_len k).trans hs
      cases e2 : mk p.2 with
      | bad => exact trivial
      | exc x S3 => rw [e2] at h2; exact (show S3.length = _ from h2).trans h3
      | ok o2 S3 =>
        rw [e2] at h2
        dsimp only
        split
        · split
          · split <;> first | exact (show S3.length = _ from h2).trans h3 | exact trivial
          · exact trivial
        · exact trivial
section
variable {cl : CL} {Wx : WX} {σ : L2.St} {H : Hp} {X : Cx} {k n : Nat} {f : Addr} {fd : FuncData} {ps : List Str}
theorem Rel.obj {K : PySem.W.Frag} {v : V} {c : Nat} {ns : List Str} {xs : List D} {cs : List Cell} (r : Rel K cl H ((some v, some (.d (.obj c ns xs))) :: cs)) : ∃ a dx fs, v = .ref a ∧ H a = some (.ins (cl c) dx fs) := by
  obtain ⟨G, le, rp, _⟩ := r.head
  obtain ⟨a, dx, fs, rfl, g, hn, q⟩ := rp
  exact ⟨a, dx, fs, rfl, le _ _ g⟩
theorem pe_olen {c : Nat} {m : List D → Out} {e : Expr} {p pos : Pos} {me : SS → RE} (L : LenF X.K (cl c) f) (hr : Room (k + 1) X.A) (F : FnOk X.prog X.w X.K X.mg X.base (L2N.CX X.prog X.w) k f fd ps (spD X.K cl 1 m)) (hb : Binds X.K fd ps []) (tk : L2N.Takes X Wx)
    (hg : Gl X "len") (hm : X.mg "len" = none) (he : PE X e (tEv X.K cl Wx me)) (la : ∀ S, LenE S.length (me S)) (hs : noStarB e = true) : PE X (.Call (.Name "len" p) [e] [] pos) (tEv X.K cl Wx (mOlen c m me)) := by
  refine ⟨fun pins s σ H Q I h => ?_⟩
  refine wpAny_Call_Name_kw (ld_blt I hg hm (show bootBuiltins "len" = some (.builtin "len") by decide +kernel) ?_ (by decide) (by decide))
  refine PyProof.Rows.callWith_builtin1 ?_ (star_one hs _ _) (star_all _ (by simp))
  rw [star_one hs]
  refine Calls.spliced_cons (thn (he.run pins s σ H _ I (ev_dK la h)) fun u s1 ⟨v, H1, I1, rv, d, S, T, hl, R, post⟩ => Calls.spliced_nil ?_)
  cases d with
  | obj c' ns xs =>
    dsimp only at post
    split at post
    · rename_i hc
      subst hc
      obtain ⟨a, dx, fs, rfl, ha⟩ := R.obj
      cases rv
      refine own_len L hr F hb (L2N.passAt tk σ) I1 ha ⟨[.obj c' ns xs], σ.zip S ++ T, rfl, rfl, by simpa [cellsD] using R, ?_⟩
      cases em : m [.obj c' ns xs] with
      | bad => rw [em] at post; exact post.elim
      | exc x => rw [em] at post; exact post
      | ret w =>
        rw [em] at post
        intro v2 H2 R2
        split at post
        · rename_i i ei
          cases ei
          split at post
          · rename_i hz
            obtain ⟨G, le, rp, _⟩ := Rel.head R2
            cases (show v2 = _ from rp)
            exact ⟨i, rfl, hz.1, hz.2, post _ H2 _ .t R2⟩
          · exact post.elim
        · rename_i ex; cases ex
        · exact post.elim
    · exact post.elim
  | _ => exact post.elim
theorem ceq_key {c : Nat} {neg : Bool} {m : List D → Out} {ma mb : SS → RE} {σ : L2.St} {H : Hp} {Q : VK} (la : ∀ S, LenE S.length (ma S)) (lb : ∀ S, LenE S.length (mb S)) (h : tEv X.K cl Wx (mCeq c neg m ma mb) σ H Q) :
    tEv X.K cl Wx ma σ H fun v H1 => tEv X.K cl Wx mb σ H1 fun u H2 => ∃ (a dx : Addr) (fs : List (Str × V)), v = .ref a ∧ H2 a = some (.ins (cl c) dx fs) ∧ OtherT X.K (cl c) H2 u ∧
      spD X.K cl 2 m [v, u] H2 (fun w H' => ∃ b, w = .bl b ∧ Q (.bl (b != neg)) H') (fun cls d H => Wx cls d σ H) := by
  have q : tEd X.K cl Wx (dCons ma (dCons mb dNil)) σ H fun vs H2 => ∃ v u, vs = [v, u] ∧ ∃ (a dx : Addr) (fs : List (Str × V)), v = .ref a ∧ H2 a = some (.ins (cl c) dx fs) ∧ OtherT X.K (cl c) H2 u ∧
      spD X.K cl 2 m [v, u] H2 (fun w H' => ∃ b, w = .bl b ∧ Q (.bl (b != neg)) H') (fun cls d H => Wx cls d σ H) := by
    obtain ⟨S, T, hl, hR, post⟩ := h
    refine ⟨S, T, hl, hR, ?_⟩
    unfold mCeq at post
    cases e : dCons ma (dCons mb dNil) S with
    | bad => rw [e] at post; exact post
    | exc x S1 => rw [e] at post; exact post
    | ok ds S1 =>
      rw [e] at post
      intro vs H2 hlen R
      dsimp only at post
      split at post
      · rename_i c' ns xs d2
        split at post
        · rename_i hc
          subst hc
          split at post
          · rename_i hq
            match vs, hlen with
            | [v, u], _ =>
              have R : Rel X.K cl H2 ((some v, some (.d (.obj c' ns xs))) :: (some u, some (.d d2)) :: (σ.zip S1 ++ T)) := R
              obtain ⟨aa, dx, fs, rfl, hin⟩ := R.obj
              refine ⟨_, u, rfl, aa, dx, fs, rfl, hin, ?_, [.obj c' ns xs, d2], σ.zip S1 ++ T, rfl, rfl, R, ?_⟩
              · have R2 := R.tail
                cases d2 with
                | obj c2 ns2 xs2 =>
                  have ec : c2 = c' := of_decide_eq_true hq
                  subst ec
                  obtain ⟨bb, dy, gs, rfl, hin2⟩ := R2.obj
                  exact .own hin2
                | str z =>
                  obtain ⟨G, le, rp, _⟩ := Rel.head R2
                  cases (show u = _ from rp)
                  exact .str z
                | _ => cases hq
              · cases em : m [.obj c' ns xs, d2] with
                | bad => rw [em] at post; exact post.elim
                | exc x => rw [em] at post; exact post
                | ret w =>
                  rw [em] at post
                  intro v2 H3 R3
                  split at post
                  · rename_i b eb
                    cases eb
                    obtain ⟨G, le, rp, _⟩ := Rel.head R3
                    cases (show v2 = _ from rp)
                    refine ⟨b, rfl, post _ H3 [(some (.bl (b != neg)), some (.d (.bl (b != neg))))] .t ?_⟩
                    obtain ⟨G3, O3, r3⟩ := R3.tail
                    exact r3.new (.d rfl)
                  · rename_i ex; cases ex
                  · exact post.elim
          · exact post.elim
        · exact post.elim
      · exact post.elim
  have key := ed_cons la q
  have key : tEv X.K cl Wx ma σ H fun v H1 => tEv X.K cl Wx mb σ H1 fun u H2 => ∃ (a dx : Addr) (fs : List (Str × V)), v = .ref a ∧ H2 a = some (.ins (cl c) dx fs) ∧ OtherT X.K (cl c) H2 u ∧
      spD X.K cl 2 m [v, u] H2 (fun w H' => ∃ b, w = .bl b ∧ Q (.bl (b != neg)) H') (fun cls d H => Wx cls d σ H) := by
    refine tEv_mono key fun v H1 k1 => ?_
    refine tEv_mono (ed_cons lb k1) fun u H2 k2 => ?_
    obtain ⟨v', u', ee, r⟩ := ed_nil k2
    cases ee
    exact r
  exact key
theorem ceq_op {c : Nat} {neg : Bool} {m : List D → Out} {pins : List (Addr × Obj)} {s2 : Shared} {σ : L2.St} {H2 : Hp} {Q : VK} {x y : V} {v u : Value} (L : EqF X.K (cl c) f) (hr : Room (k + 1) X.A) (F : FnOk X.prog X.w X.K X.mg X.base (L2N.CX X.prog X.w) k f fd ps (spD X.K cl 2 m)) (hb : Binds X.K fd ps []) (tk : L2N.Takes X Wx)
    (I2 : Inv X pins σ H2 s2) (rx : RelV x v) (ry : RelV y u) (q : ∃ (a dx : Addr) (fs : List (Str × V)), x = .ref a ∧ H2 a = some (.ins (cl c) dx fs) ∧ OtherT X.K (cl c) H2 y ∧ spD X.K cl 2 m [x, y] H2 (fun w H' => ∃ b, w = .bl b ∧ Q (.bl (b != neg)) H') (fun cls d H => Wx cls d σ H)) :
    wpAny (model X.prog X.w) X.A (compareOp (if neg then .NotEq else .Eq) v u) (EP X pins σ Q) X.xe s2 := by
  obtain ⟨aa, dx, fs, ex, hin, ot, sp⟩ := q
  subst ex
  cases rx
  cases neg with
  | false =>
    refine own_eq L (hr.mono (Nat.le_succ _)) F hb (L2N.passAt tk σ) I2 hin ry ot ?_
    simpa using sp
  | true =>
    refine own_ne L hr F hb (L2N.passAt tk σ) I2 hin ry ot ?_
    simpa using sp
theorem pe_ceq {c : Nat} {neg : Bool} {m : List D → Out} {a b : Expr} {pos : Pos} {ma mb : SS → RE} (L : EqF X.K (cl c) f) (hr : Room (k + 1) X.A) (F : FnOk X.prog X.w X.K X.mg X.base (L2N.CX X.prog X.w) k f fd ps (spD X.K cl 2 m)) (hb : Binds X.K fd ps []) (tk : L2N.Takes X Wx)
    (ha : PE X a (tEv X.K cl Wx ma)) (hbb : PE X b (tEv X.K cl Wx mb)) (la : ∀ S, LenE S.length (ma S)) (lb : ∀ S, LenE S.length (mb S)) (hm : behindInMarks (if neg then .NotEq else .Eq) b = false) :
    PE X (.Compare a [if neg then .NotEq else .Eq] [b] pos) (tEv X.K cl Wx (mCeq c neg m ma mb)) := by
  refine ⟨fun pins s σ H Q I h => ?_⟩
  exact wpAny_Compare1 (binT ha hbb I (ceq_key la lb h) fun v u s2 x y H2 I2 rx ry q => ceq_op L hr F hb tk I2 rx ry q) hm
theorem pt_ceq {c : Nat} {neg : Bool} {m : List D → Out} {a b : Expr} {pos : Pos} {ma mb : SS → RE} (L : EqF X.K (cl c) f) (hr : Room (k + 1) X.A) (F : FnOk X.prog X.w X.K X.mg X.base (L2N.CX X.prog X.w) k f fd ps (spD X.K cl 2 m)) (hb : Binds X.K fd ps []) (tk : L2N.Takes X Wx)
    (ha : PE X a (tEv X.K cl Wx ma)) (hbb : PE X b (tEv X.K cl Wx mb)) (la : ∀ S, LenE S.length (ma S)) (lb : ∀ S, LenE S.length (mb S)) (hm : behindInMarks (if neg then .NotEq else .Eq) b = false) :
    PT X (.Compare a [if neg then .NotEq else .Eq] [b] pos) (tEt X.K cl Wx (mTruth (mCeq c neg m ma mb) isBl)) := by
  refine ⟨fun pins s σ H Q I h => ?_⟩
  have h := et_bl h
  refine wpAny_isTrue_Compare1 (thn (ha.run pins s σ H _ I (ceq_key (Q := fun x H' => ∃ k, x = .bl k ∧ Q k H') la lb h)) fun v s1 ⟨x, H1, I1, r1, q1⟩ => thn (hbb.run pins s1 σ H1 _ I1 q1) fun u s2 ⟨y, H2, I2, r2, q2⟩ =>
    thn (ceq_op (Q := fun x H' => ∃ k, x = .bl k ∧ Q k H') L hr F hb tk I2 r1 r2 q2) fun z s3 ⟨z', H3, I3, r3, k, ez, q3⟩ => ?_) hm
  subst ez
  cases r3
  exact wpAny_truthy_bool ⟨H3, I3, q3⟩
end
end Ly
end
section
set_option Elab.async false
set_option linter.all false
set_option maxRecDepth 100000
set_option maxHeartbeats 4000000
/-! LyU: own iteration, enumerate with a start, f-strings: over data. -/
namespace Ly
open PySem PySem.Spec PyProof.Rows L2

section
variable {cl : CL} {Wx : WX} {σ : L2.St} {H : Hp} {X : Cx} {k n : Nat} {f : Addr} {fd : FuncData} {ps : List Str} {tg : Expr}
theorem pi_oitD {c : Nat} {g : Str} {e : Expr} {me : SS → RE} (L : IterF X.K (cl c) f) (hr : Room k X.A) (F : FnAt X.prog X.w X.K X.mg X.base k f fd ps (spIt X.K (cl c) g)) (hb : Binds X.K fd ps []) (tk : L2N.Takes X Wx)
    (he : PE X e (tEv X.K cl Wx me)) (la : ∀ S, LenE S.length (me S)) : PI X tg e (tIt X.K cl Wx (mOit c g me)) := by
  refine PI.imp (pi_ownIt L hr F hb tk he) fun σ H R ⟨S, T, hl, hR, post⟩ => ⟨S, T, hl, hR, ?_⟩
  unfold mOit at post
  have hs := la S
  cases e : me S with
  | bad => rw [e] at post; exact post
  | exc x S1 => rw [e] at post; exact post
  | ok o S1 =>
    rw [e] at post hs
    intro v H1 E oa R1
    cases k : o.keep S1 with
    | none => simp only [k] at post; exact post.elim
    | some p =>
      obtain ⟨w, S2⟩ := p
      simp only [k] at post
      obtain ⟨r, hl2, hx⟩ := keep_ok oa k R1 ((show S1.length = _ from hs).trans hl)
      have r := r.freeze hx
      cases ed : w.toD with
      | obj c' ns xs =>
        rw [ed] at post r
        dsimp only at post
        split at post
        · rename_i hc
          subst hc
          split at post
          · rename_i ys hy
            obtain ⟨G, le, rp, more⟩ := Rel.head r
            obtain ⟨a, dx, fs, rfl, hg, hn, q⟩ := rp
            obtain ⟨u, hu, ru⟩ := lookD_ok hn q hy
            obtain ⟨l, zs, rfl, hz, rz⟩ := id ru
            refine ⟨a, dx, l, fs, zs, rfl, le _ _ hg, hu, SqT.le le hz, post (Itt X.K l) H1 [(some (.ref l), some (.d (.tup ys)))] walk_tup ?_⟩
            have r2 := more (.ref l) (.tup ys) ru
            exact (r2.perm (List.Perm.swap _ _ _)).tail
          · exact post.elim
        · exact post.elim
      | _ => rw [ed] at post; exact post.elim
theorem numD_len : ∀ (xs : List D) (c : Int), (numD c xs).length = xs.length
  | [], _ => rfl
  | x :: xs, c => by unfold numD; simp [numD_len xs]
theorem numD_at : ∀ (xs : List D) (c : Int) (i : Nat) (x : D), xs[i]? = some x → (numD c xs)[i]? = some (.tup [.int (c + (i : Nat)), x])
  | [], _, _, _, h => by simp at h
  | y :: xs, c, 0, x, h => by
    simp at h
    subst h
    unfold numD
    simp
  | y :: xs, c, i + 1, x, h => by
    unfold numD
    have := numD_at xs (c + 1) i x (by simpa using h)
    simp only [List.getElem?_cons_succ, this]
    rw [show c + 1 + ((i : Nat) : Int) = c + ((i + 1 : Nat) : Int) by omega]
theorem walk_num {K : PySem.W.Frag} {a : Addr} {d : D} {xs : List D} {c : Int} (hd : d = .lst xs ∨ d = .frl xs) : Walk K cl (ItN K a c) (numD c xs) [(some (V.ref a), some (.d d))] where
  go := fun i H cs R hi => by
    rw [numD_len] at hi
    have hx : xs[i]? = some xs[i] := List.getElem?_eq_getElem hi
    have sq : ∃ vs, SqL K H a vs ∧ ∃ G, Le G H ∧ Reps K cl G xs vs := by
      obtain ⟨G, le, rp, _⟩ := Rel.head R
      rcases hd with rfl | rfl
      · obtain ⟨b, vs, eb, g, r⟩ := rp
        cases eb
        exact ⟨vs, SqL.of (le _ _ g), G, le, r⟩
      · obtain ⟨b, vs, eb, g, r⟩ := rp
        cases eb
        exact ⟨vs, SqL.le le g, G, le, r⟩
    obtain ⟨vs, hv, G, le, r⟩ := sq
    obtain ⟨v, h1, h2⟩ := r.get hx
    refine ⟨⟨vs, v, hv, h1⟩, fun x H' ⟨T, y, ev, hT, eH, hy⟩ => ⟨_, numD_at xs c i _ hx, ?_⟩⟩
    subst ev eH
    have ey := hy vs hv
    rw [h1] at ey
    cases ey
    obtain ⟨G', O, R'⟩ := id R
    have sq' : ∃ us, SqL K H a us ∧ Reps K cl G' xs us := by
      have t := R'.rep
      cases t with
      | @cons _ F _ O' h t =>
        cases h with
        | some h =>
          rcases hd with rfl | rfl
          · obtain ⟨_, b, us, eb, g, r⟩ := h
            cases eb
            exact ⟨us, SqL.of (R'.le _ _ g), r⟩
          · obtain ⟨_, b, us, eb, g, r⟩ := h
            cases eb
            exact ⟨us, SqL.le R'.le g, r⟩
    obtain ⟨us, hu, r'⟩ := sq'
    obtain ⟨v', h1', h2'⟩ := r'.get hx
    have := hy us hu
    rw [h1'] at this
    cases this
    exact R'.new (.t (xs := [.int (c + (i : Nat)), xs[i]]) hT (.cons rfl (.cons h2' rfl)))
  stop := fun i H cs R hi => by
    rw [numD_len] at hi
    obtain ⟨G, le, rp, _⟩ := Rel.head R
    rcases hd with rfl | rfl
    · obtain ⟨b, vs, eb, g, r⟩ := rp
      cases eb
      exact ⟨vs, SqL.of (le _ _ g), by rw [← r.length]; exact hi⟩
    · obtain ⟨b, vs, eb, g, r⟩ := rp
      cases eb
      exact ⟨vs, SqL.le le g, by rw [← r.length]; exact hi⟩
theorem pi_numD {e ek : Expr} {me mk : SS → RE} {p pos kpos tpos : Pos} {elts : List Expr} {kk : Nat} (hg : Gl X "enumerate") (hm : X.mg "enumerate" = none) (he : PE X e (tEv X.K cl Wx me)) (hk : PE X ek (tEv X.K cl Wx mk)) (la : ∀ S, LenE S.length (me S)) (hs : noStarB e = true) :
    PI X (.Tuple elts kk tpos) (.Call (.Name "enumerate" p) [e] [⟨some "start", ek, kpos⟩] pos) (tIt X.K cl Wx (mNum me mk)) := by
  refine PI.imp (pi_num hg hm he hk hs) fun σ H R ⟨S, T, hl, hR, post⟩ => ⟨S, T, hl, hR, ?_⟩
  unfold mNum at post
  have hs := la S
  cases e : me S with
  | bad => rw [e] at post; exact post
  | exc x S1 => rw [e] at post; exact post
  | ok o S1 =>
    rw [e] at post hs
    intro v H1 E oa R1
    cases k : o.keep S1 with
    | none => simp only [k] at post; exact post.elim
    | some p =>
      obtain ⟨w, S2⟩ := p
      simp only [k] at post
      obtain ⟨r, hl2, hx⟩ := keep_ok oa k R1 ((show S1.length = _ from hs).trans hl)
      have r := r.freeze hx
      refine ⟨S2, [(some v, some (.d w.toD))] ++ T, hl2.trans ((show S1.length = _ from hs).trans hl), r.perm (pcomm (A := [(some v, some (W.d w.toD))])), ?_⟩
      cases e2 : mk S2 with
      | bad => rw [e2] at post; exact post
      | exc x S3 => rw [e2] at post; exact XPost.more _ post
      | ok o2 S3 =>
        rw [e2] at post
        intro u H2 E2 oa2 R2
        dsimp only at post
        split at post
        · rename_i c hc
          split at post
          · rename_i hz
            obtain ⟨G2, O2, R2'⟩ := id R2
            have tu := opd_read oa2 hc R2' fun q hq => by rcases hq with hq | hq <;> simp [hq]
            cases (show u = _ from tu)
            have R3 : Rel X.K cl H2 ((some v, some (.d w.toD)) :: (σ.zip S3 ++ T)) := Rel.drop E2 (R2.perm (List.Perm.append_left _ (pcomm (B := [(some v, some (W.d w.toD))]))))
            have fin : ∀ xs, (w.toD = .lst xs ∨ w.toD = .frl xs) → ItPost X.K cl Wx σ T R (.ok (numD c xs) S3) → ∃ (a : Addr) (zs : List V) (c' : Int), v = .ref a ∧ V.int c = .int c' ∧ SqL X.K H2 a zs ∧ -(2 ^ 63) ≤ c' ∧ c' < 2 ^ 63 ∧ R (ItN X.K a c') H2 := fun xs hd p => by
              obtain ⟨G, le, rp, _⟩ := Rel.head R3
              have sq : ∃ a vs, v = .ref a ∧ SqL X.K H2 a vs := by
                rcases hd with hd | hd
                · rw [hd] at rp
                  obtain ⟨b, vs, eb, g, r⟩ := rp
                  exact ⟨b, vs, eb, SqL.of (le _ _ g)⟩
                · rw [hd] at rp
                  obtain ⟨b, vs, eb, g, r⟩ := rp
                  exact ⟨b, vs, eb, SqL.le le g⟩
              obtain ⟨a, vs, rfl, hq⟩ := sq
              exact ⟨a, vs, c, rfl, rfl, hq, by omega, by omega, p (ItN X.K a c) H2 [(some (.ref a), some (.d w.toD))] (walk_num hd) R3⟩
            split at post
            · rename_i xs hd; exact fin xs (.inl hd) post
            · rename_i xs hd; exact fin xs (.inr hd) post
            · exact post.elim
          · exact post.elim
        · exact post.elim
end

/-! ### f-strings of texts and numbers -/
/-- a part's text -/
def fmtD : D → Option Str
  | .str y => if y.length ≤ sizeLine then some y else none
  | .int i => if i.natAbs.log2 < 1920 then some (toString i) else none
  | _ => none
def sFmt (d : D) : Option W := (fmtD d).map fun y => .d (.str y)
section
variable {cl : CL} {Wx : WX} {σ : L2.St} {H : Hp} {X : Cx}
theorem pe_fmtD {e : Expr} {pos : Pos} {me : SS → RE} (he : PE X e (tEv X.K cl Wx me)) : PE X (.FormattedValue e (-1) none pos) (tEv X.K cl Wx (mOp1 sFmt me)) := by
  refine PE.imp (pe_fmt he) fun σ H Q q => ev_op1 (r := fun x H1 Q => (∃ y : Str, x = .str y ∧ y.length ≤ sizeLine ∧ Q (.str y) H1) ∨ ∃ i : Int, x = .int i ∧ i.natAbs.log2 < 1920 ∧ Q (.str (toString i)) H1) ?_ q
  intro G H d v w Q le t e k
  obtain ⟨y, hy, rfl⟩ := Option.map_eq_some_iff.mp e
  unfold fmtD at hy
  split at hy
  · split at hy
    · rename_i hz
      cases hy
      cases (show v = _ from t)
      exact .inl ⟨_, rfl, hz, k _ _ (.d rfl)⟩
    · cases hy
  · split at hy
    · rename_i hz
      cases hy
      cases (show v = _ from t)
      exact .inr ⟨_, rfl, hz, k _ _ (.d rfl)⟩
    · cases hy
  · cases hy
/-- the parts one behind the other -/
def mJs : List (SS → RE) → Str → SS → RE
  | [], acc => fun S => .ok (.t (.d (.str acc))) S
  | m :: ms, acc => fun S => match m S with
    | .ok o S1 => (match o.get S1 with
      | some (.str y) => if (acc ++ y).length ≤ sizeLine then mJs ms (acc ++ y) S1 else .bad
      | _ => .bad)
    | .exc x S1 => .exc x S1
    | .bad => .bad
theorem mJs_len : ∀ (ms : List (SS → RE)), (∀ m ∈ ms, ∀ S, LenE S.length (m S)) → ∀ (acc : Str) (S : SS), LenE S.length (mJs ms acc S)
  | [], _, acc, S => rfl
  | m :: ms, h, acc, S => by
    unfold mJs
    have hs := h m List.mem_cons_self S
    cases e : m S with
    | bad => exact trivial
    | exc x S1 => rw [e] at hs; exact hs
    | ok o S1 =>
      rw [e] at hs
      dsimp only
      split
      · rename_i y _
        split
        · have h2 := mJs_len ms (fun m hm => h m (List.mem_cons_of_mem _ hm)) (acc ++ y) S1
          rw [show S1.length = S.length from hs] at h2
          exact h2
        · exact trivial
      · exact trivial
theorem ev_js : ∀ (ms : List (SS → RE)) (acc : Str) {σ : L2.St} {H : Hp} {Q : VK}, (∀ m ∈ ms, ∀ S, LenE S.length (m S)) → tEv X.K cl Wx (mJs ms acc) σ H Q → tJs (ms.map fun m => tEv X.K cl Wx m) acc σ H fun out H1 => Q (.str out) H1
  | [], acc, σ, H, Q, _, h => by
    obtain ⟨S, T, hl, hR, post⟩ := h
    obtain ⟨G, O, r⟩ := hR
    exact post _ _ _ .t (r.new (.d rfl))
  | m :: ms, acc, σ, H, Q, hm, h => by
    obtain ⟨S, T, hl, hR, post⟩ := h
    refine ⟨S, T, hl, hR, ?_⟩
    unfold mJs at post
    have hs := hm m List.mem_cons_self S
    cases e : m S with
    | bad => rw [e] at post; exact post
    | exc x S1 => rw [e] at post; exact post
    | ok o S1 =>
      rw [e] at post hs
      intro v H1 E oa R1
      dsimp only at post
      split at post
      · rename_i y hy
        split at post
        · rename_i hz
          obtain ⟨G, O, R'⟩ := id R1
          have t := opd_read oa hy R' fun c hc => by rcases hc with hc | hc <;> simp [hc]
          cases (show v = _ from t)
          exact ⟨y, rfl, hz, ev_js ms (acc ++ y) (fun m hm' => hm m (List.mem_cons_of_mem _ hm')) ⟨S1, T, (show S1.length = _ from hs).trans hl, Rel.drop E R1, post⟩⟩
        · exact post.elim
      · exact post.elim
end
end Ly
end
section
set_option Elab.async false
set_option linter.all false
set_option maxRecDepth 100000
set_option maxHeartbeats 4000000
/-! LyV: new instances of the text's classes. -/
namespace Ly
open PySem PySem.Spec PyProof.Rows L2

section
variable {cl : CL} {Wx : WX} {X : Cx} {pins : List (Addr × Obj)} {σ : L2.St} {H : Hp} {s : Shared} {CX : CXT} {k : Nat} {f C : Addr} {fd : FuncData} {ps : List Str} {sp : Sp} {E : XK}
/-- C(..): the arguments us0, kw as the call has them, us in the parameters' order -/
theorem make_at {us0 us : List Value} {kw : List (Str × Value)} {vs : List V} {Q : VK} (M : Mk X.K C f) (F : FnOk X.prog X.w X.K X.mg X.base CX k f fd ps sp) (room : Room (k + 1) X.A)
    (bd : ∀ (s2 : Shared) (x : Addr), X.K.In s2.heap → (Value.ref x :: us).length = ps.length → BindsTo s2 fd ⟨.ref x :: us0, kw⟩ (ps.zip (.ref x :: us))) (hx : PassesAt CX X σ E) (I : Inv X pins σ H s) (r : Vals vs us)
    (h : ∀ x dx, H x = none → H dx = none → dx ≠ x → sp (.ref x :: vs) (upd (upd H dx (.own x)) x (.ins C dx [])) (fun v H2 => v = .non ∧ Q (.ref x) H2) E) :
    wpAny (model X.prog X.w) X.A (call (.ref C) us0 kw) (EP X pins σ Q) X.xe s := by
  have spec := h (s.heap.objs.size + 1) s.heap.objs.size (I.hok.fresh (Nat.le_succ _)) (I.hok.fresh (Nat.le_refl _)) (Nat.ne_of_lt (Nat.lt_succ_self _))
  have made := Inv.made (C := C) I
  have rel : Vals (V.ref (s.heap.objs.size + 1) :: vs) (Value.ref (s.heap.objs.size + 1) :: us) := .cons rfl r
  have few := rel.length.symm.trans (F.len _ _ _ _ spec)
  refine wpAny_call (make_map (f := f) I.kIn M.makes M.init (beq_iff_eq.mp M.fn) (codeAny_mono (F.run _ X.stack _ _ ⟨Value.ref (s.heap.objs.size + 1) :: us0, kw⟩ _ _ _ E (room.make C us0 kw) (made.env0.make C us0 kw) (bd _ _ made.kIn few) rel spec) fun res s2 out => ?_))
  match res, out with
  | .error e, out => exact hx pins _ _ e s2 made out
  | .ok (.ret u), out =>
    obtain ⟨v, H2, I2, rv, ev, q⟩ := made.after out
    subst ev
    exact ⟨rv, V.ref (s.heap.objs.size + 1), H2, I2, rfl, q⟩
end

/-- an __init__'s promise over data: the instance's fields -/
def spI (K : PySem.W.Frag) (cl : CL) (c n : Nat) (m : List D → Out) : Sp := fun vs H Q E => ∃ (a : Addr) (vs' : List V) (ds : List D) (T : List Cell), vs = .ref a :: vs' ∧ vs'.length = n ∧ ds.length = n ∧
  Rel K cl H ((some (.ref a), some (.o a c [] [])) :: (cellsD ds vs' ++ T)) ∧ (match m ds with
  | .ret (.d (.obj c' ns xs)) => c' = c ∧ ∀ H', Rel K cl H' ((some (.ref a), some (.o a c ns xs)) :: T) → Q .non H'
  | .ret _ => False
  | .exc x => ∀ H' d, RelX K cl H' d x T → E (.ref (cl x.c)) d H'
  | .bad => False)
def mNew (c n : Nat) (m : List D → Out) (ml : SS → RD) : SS → RE := fun S => match ml S with
  | .ok ds S1 => if ds.length = n then (match m ds with
      | .ret (.d (.obj c' ns xs)) => if c' = c then .ok (.t (.d (.obj c' ns xs))) S1 else .bad
      | .exc x => .exc x S1
      | _ => .bad) else .bad
  | .exc x S1 => .exc x S1
  | .bad => .bad
theorem mNew_len {c n : Nat} {m : List D → Out} {ml : SS → RD} (la : ∀ S, LenD S.length (ml S)) (S : SS) : LenE S.length (mNew c n m ml S) := by
  unfold mNew
  have hs := la S
  cases e : ml S with
  | bad => exact trivial
  | exc x S1 => rw [e] at hs; exact hs
  | ok o S1 =>
    rw [e] at hs
    dsimp only
    split
    · split
      · split <;> first | exact hs | exact trivial
      · exact hs
      · exact trivial
    · exact trivial
section
variable {cl : CL} {Wx : WX} {X : Cx} {σ : L2.St} {H : Hp} {k c n : Nat} {f : Addr} {fd : FuncData} {ps : List Str} {m : List D → Out}
theorem Rel.fresh {K : PySem.W.Frag} {cs : List Cell} {x dx : Addr} (hx : H x = none) (hd : H dx = none) (ne : dx ≠ x) (r : Rel K cl H cs) : Rel K cl (upd (upd H dx (.own x)) x (.ins (cl c) dx [])) ((some (.ref x), some (.o x c [] [])) :: cs) := by
  obtain ⟨G, O, r⟩ := r
  have xO : x ∉ O := (r.fresh hx).1
  have k : ∀ a o, H a = some o → upd (upd H dx (.own x)) x (.ins (cl c) dx []) a = some o := fun a o e => by
    rw [upd_ne (ne_of_none e hx), upd_ne (ne_of_none e hd)]; exact e
  refine ⟨G, [x] ++ O, fun a o e => ?_, List.nodup_cons.mpr ⟨xO, r.nd⟩, .cons (F := [x]) (.some ⟨dx, [], rfl, rfl, upd_same, rfl, rfl⟩) (CReps.step (Le.refl G) (fun a _ o e => k a o e) r.rep)⟩
  obtain ⟨h1, h2⟩ := r.sub a o e
  refine ⟨k a o h1, fun z => ?_⟩
  rcases List.mem_cons.mp z with z | z
  · subst z; rw [hx] at h1; cases h1
  · exact h2 z
/-- from the kept arguments to the instance -/
theorem ev_new {ml : SS → RD} {Q : VK} (h : tEv X.K cl Wx (mNew c n m ml) σ H Q) : tEd X.K cl Wx ml σ H fun vs H1 => vs.length = n ∧ ∀ x dx, H1 x = none → H1 dx = none → dx ≠ x →
    spI X.K cl c n m (.ref x :: vs) (upd (upd H1 dx (.own x)) x (.ins (cl c) dx [])) (fun v H2 => v = .non ∧ Q (.ref x) H2) (fun cls d H => Wx cls d σ H) := by
  obtain ⟨S, T, hl, hR, post⟩ := h
  refine ⟨S, T, hl, hR, ?_⟩
  unfold mNew at post
  cases e : ml S with
  | bad => rw [e] at post; exact post
  | exc x S1 => rw [e] at post; exact post
  | ok ds S1 =>
    rw [e] at post
    intro vs H1 hlen R
    dsimp only at post
    split at post
    · rename_i hn
      refine ⟨hlen.trans hn, fun x dx hx hd ne => ⟨x, vs, ds, σ.zip S1 ++ T, rfl, hlen.trans hn, hn, R.fresh hx hd ne, ?_⟩⟩
      cases em : m ds with
      | bad => rw [em] at post; exact post.elim
      | exc x => rw [em] at post; exact post
      | ret w =>
        rw [em] at post
        split at post
        · rename_i c' ns xs ew
          cases ew
          split at post
          · rename_i hc
            subst hc
            exact ⟨rfl, fun H' R' => ⟨rfl, post _ H' [(some (.ref x), some (.d (.obj c' ns xs)))] .t (R'.freeze (fun z => by cases z))⟩⟩
          · exact post.elim
        · rename_i ex; cases ex
        · exact post.elim
    · exact post.elim
theorem pe_newD {x : Str} {p pos : Pos} {e : Expr} {es : List Expr} {ml : SS → RD} (M : Mk X.K (cl c) f) (F : FnOk X.prog X.w X.K X.mg X.base (L2N.CX X.prog X.w) k f fd ps (spI X.K cl c n m)) (hr : Room (k + 1) X.A) (hg : Gl X x) (hm : X.mg x = some (.ref (cl c))) (hb : Binds X.K fd ps [])
    (tk : L2N.Takes X Wx) (ha : PA X (e :: es) (tEd X.K cl Wx ml)) (hdb : (x == ("__debug__" : Str)) = false) (he : starEach (e :: es) X.env = (false, eval e X.env) :: starEach es X.env) (hpl : (backTo pos (starEach es X.env)).any (·.1) = false) :
    PE X (.Call (.Name x p) (e :: es) [] pos) (tEv X.K cl Wx (mNew c n m ml)) := by
  refine ⟨fun pins s σ H Q I h => ?_⟩
  refine wpAny_Call_Name_kw (ld_glob I hg hm ?_ hdb)
  refine PySem.W.callWith_K (h₀ := X.base) I.ok.mod.kin M.kp (thn (ha.run pos pins s σ H _ I (ev_new h)) fun us s1 ⟨vs, H1, I1, r, hn, q⟩ => ⟨I1.kIn, ?_⟩) he hpl
  exact make_at M F hr (fun s2 a kin few => by simpa using hb s2 (.ref a :: us) kin (by simpa using few)) (L2N.passAt tk σ) I1 r q
/-- one argument, by its name -/
theorem pe_newKw {x y : Str} {p pos kpos : Pos} {e : Expr} {me : SS → RE} (M : Mk X.K (cl c) f) (F : FnOk X.prog X.w X.K X.mg X.base (L2N.CX X.prog X.w) k f fd ps (spI X.K cl c 1 m)) (hr : Room (k + 1) X.A) (hg : Gl X x) (hm : X.mg x = some (.ref (cl c)))
    (hb : ∀ (s2 : Shared) (u0 u : Value), X.K.In s2.heap → BindsTo s2 fd ⟨[u0], [(y, u)]⟩ (ps.zip [u0, u])) (tk : L2N.Takes X Wx) (he : PE X e (tEv X.K cl Wx me)) (la : ∀ S, LenE S.length (me S)) (hdb : (x == ("__debug__" : Str)) = false) :
    PE X (.Call (.Name x p) [] [⟨some y, e, kpos⟩] pos) (tEv X.K cl Wx (mNew c 1 m (dCons me dNil))) := by
  refine ⟨fun pins s σ H Q I h => ?_⟩
  refine wpAny_Call_Name_kw (ld_glob I hg hm ?_ hdb)
  refine PySem.W.callWith_KW0 (h₀ := X.base) I.ok.mod.kin M.kp rfl ?_ rfl
  have q := ed_cons la (ev_new h)
  refine thn ((pk_cons (nm := some y) (kpos := kpos) he pk_nil).run pos pins s σ H (fun vs H1 => vs.length = 1 ∧ ∀ x dx, H1 x = none → H1 dx = none → dx ≠ x →
    spI X.K cl c 1 m (.ref x :: vs) (upd (upd H1 dx (.own x)) x (.ins (cl c) dx [])) (fun v H2 => v = .non ∧ Q (.ref x) H2) (fun cls d H => Wx cls d σ H)) I (tEv_mono q fun v H1 q1 => ed_nil q1)) fun us s1 ⟨vs, H1, I1, r, hn, q1⟩ => ⟨I1.kIn, ?_⟩
  have hlen := r.length
  rw [hn] at hlen
  match us, hlen with
  | [u], _ => exact make_at (us0 := []) (us := [u]) (kw := [(y, u)]) M F hr (fun s2 a kin _ => hb s2 (.ref a) u kin) (L2N.passAt tk σ) I1 r q1
end

/-! ### an __init__ by its body -/
def initI (a : Addr) (c N : Nat) (ds : List D) : SS := some (.o a c [] []) :: (ds.map (fun d => some (.d d)) ++ List.replicate (N - (ds.length + 1)) none)
def outI (a : Addr) (c : Nat) (r : RS) : Out := match r with
  | .nx S => (match S[0]? with
    | some (some (W.o a' c' ns xs)) => if a' = a ∧ c' = c then .ret (.d (.obj c ns xs)) else .bad
    | _ => .bad)
  | .exc x _ => .exc x
  | _ => .bad
section
variable {cl : CL} {K : PySem.W.Frag} {H : Hp} {c n : Nat} {m : List D → Out}
theorem cellsI_start {N : List Str} {a : Addr} {ds : List D} {vs : List V} (h : vs.length = ds.length) : (L2.start N (.ref a :: vs)).zip (initI a c N.length ds) = (some (V.ref a), some (.o a c [] [])) :: (cellsD ds vs ++ List.replicate (N.length - (ds.length + 1)) (none, none)) := by
  have z : ∀ (ds : List D) (vs : List V) (a : List (Option V)) (b : SS), vs.length = ds.length → (vs.map some ++ a).zip (ds.map (fun d => some (W.d d)) ++ b) = cellsD ds vs ++ a.zip b := fun ds => by
    induction ds with
    | nil => intro vs a b h; cases vs with | nil => rfl | cons _ _ => simp at h
    | cons d ds ih =>
      intro vs a b h
      cases vs with
      | nil => simp at h
      | cons v vs => simp [cellsD, ih vs a b (by simpa using h)]
  unfold L2.start initI
  simp only [List.map_cons, List.cons_append, List.zip_cons_cons, List.length_cons]
  rw [z ds vs _ _ h, h]
  congr 2
  induction (N.length - (ds.length + 1)) with
  | zero => rfl
  | succ n ih => simp [List.replicate_succ, ih]
theorem okI {P : Program} {w : World} {mg : Str → Option Value} {base : Heap} {x qual : Str} {st : Stmt} {f : Addr} {fd : FuncData} {N ps : List Str} {k : Nat} {mb : SS → RS} (F : Fun K x qual st f fd) (Sc : FnScope N ps (defScope st)) (hn : ps.length = n + 1) (lb : ∀ S, LenS S.length (mb S))
    (hm : ∀ a ds, ds.length = n → m ds ≠ .bad → outI a c (mb (initI a c N.length ds)) = m ds)
    (hb : ∀ (cdv : Value) (A : Around) (outer : List Env) (s : Shared) (H : Hp) (E : XK), Room k (A.deeper (envOfC qual (defScope st) s.heap.objs.size f cdv)) →
      PSs (cxOf (L2N.CX P w) P w K mg base N qual (defScope st) f cdv A outer s H E) (defBody st) (tSt K cl (fun cls d _ H => E cls d H) mb)) : FnOk P w K mg base (L2N.CX P w) (k + 1) f fd ps (spI K cl c n m) := by
  have hN : n + 1 ≤ N.length := by
    have := congrArg List.length Sc.pre
    rw [List.length_take] at this
    omega
  refine fun_okN F Sc (fun vs H Q E h => ?_) fun cdv A outer s H vs Q E hr h => ⟨_, hb cdv A outer s H E hr, ?_⟩
  · obtain ⟨a, vs', ds, T, rfl, hv, _⟩ := h
    simp [hv, hn]
  · obtain ⟨a, vs', ds, T, rfl, hv, hd, R, q⟩ := h
    have hl : vs'.length = ds.length := hv.trans hd.symm
    have lenS : (initI a c N.length ds).length = (L2.start N (.ref a :: vs')).length := by unfold initI L2.start; simp; omega
    refine ⟨initI a c N.length ds, T, lenS, ?_, ?_⟩
    · rw [cellsI_start hl]
      have r2 : Rel K cl H (List.replicate (N.length - (ds.length + 1)) (none, none) ++ ((some (V.ref a), some (.o a c [] [])) :: (cellsD ds vs' ++ T))) := R.blanks _
      refine r2.perm (List.perm_middle.trans (List.Perm.cons _ ?_))
      show (List.replicate (N.length - (ds.length + 1)) (none, none) ++ (cellsD ds vs' ++ T)).Perm ((cellsD ds vs' ++ List.replicate (N.length - (ds.length + 1)) (none, none)) ++ T)
      rw [List.append_assoc]
      exact pcomm
    · have hne : m ds ≠ .bad := fun z => by rw [z] at q; exact q
      have e := hm a ds hd hne
      cases eb : mb (initI a c N.length ds) with
      | bad => rw [eb] at e; exact absurd e.symm hne
      | bk S => rw [eb] at e; exact absurd e.symm hne
      | ct S => rw [eb] at e; exact absurd e.symm hne
      | rt w => rw [eb] at e; exact absurd e.symm hne
      | exc x S =>
        rw [eb] at e
        rw [← e] at q
        exact fun σ' l' H' d rx => q H' d (rx.weak (σ'.zip S) (List.Perm.refl _))
      | nx S =>
        rw [eb] at e
        unfold outI at e
        dsimp only at e
        split at e
        · rename_i a' c' ns xs es
          split at e
          · rename_i hac
            obtain ⟨rfl, rfl⟩ := hac
            rw [← e] at q
            intro σ' H' l' R'
            have lb1 := lb (initI a' c' N.length ds)
            rw [eb] at lb1
            obtain ⟨v, hv2, p0⟩ := slot_cons R' ((show _ = _ from lb1).trans (lenS.trans l'.symm)) es
            have r3 := R'.perm p0
            have ev : v = .ref a' := by
              obtain ⟨G, O, s, nn, t⟩ := id r3
              cases t with
              | cons h t =>
                cases h with
                | some h =>
                  obtain ⟨dx, fs, e1, _⟩ := h
                  exact e1
            subst ev
            exact q.2 H' (Rel.drop ((σ'.zip S).eraseIdx 0) (r3.perm List.perm_middle.symm))
          · exact absurd e.symm hne
        · exact absurd e.symm hne
end
end Ly
end
section
set_option Elab.async false
set_option linter.all false
set_option maxRecDepth 100000
set_option maxHeartbeats 4000000
/-! LyW: exceptions whose __init__ says super().__init__(message) and keeps one field. -/
namespace Ly
open PySem PySem.Spec PyProof.Rows L2

abbrev bmVE : List Value := [.type "ValueError", .type "Exception", .type "BaseException", .type "object"]
/-- what the written part says of such a class -/
structure XInit (P : Program) (K : PySem.W.Frag) (mg : Str → Option Value) (C fI : Addr) (qual : Str) (st : Stmt) (fd : FuncData) : Prop where
  oex : OexC K C
  fn : ∃ (oc : Value) (od : Option Addr) (kV doc pm : Value) (an : Option Addr) (cda : Addr) (ct : Value) (osl : Array (Option Value)) (cc : Addr), fd = PySem.W.ksFn "__init__" qual (defArgs st) (defBody st) (defScope st) .none kV doc pm an (.ref cda) ct cc ∧
    K.lookup fI = some ⟨oc, od, .func fd, osl⟩ ∧ PySem.W.codeIn K (.ref cda) qual = true ∧
    (∃ (ccl : Value) (cdd : Option Addr) (vs : Array Value) (ccs : Array (Option Value)) (file : Str) (tf : Tok), K.lookup cda = some ⟨ccl, cdd, .fields vs, ccs⟩ ∧ vs[2]? = some (.str file tf) ∧ (P.main.file == file) = true) ∧
    ∃ (cl : Value) (cld : Option Addr) (csl : Array (Option Value)), K.lookup cc = some ⟨cl, cld, .cell (some (.ref C)), csl⟩
  cd : ∃ cd, PySem.W.clsIn K C = some cd
  up : PySem.W.ks_superIn K C C "__init__" = some (some (.builtin "ValueError.__init__"))
  self : PySem.W.mroIn K C (.ref C) = some true
  ve : PySem.W.subIn K (.ref C) (.type "ValueError") = some true
  op : PySem.W.nsIn K cStatics "thirdparty.any" = some none
  xi : PySem.W.excInitIn K C bmVE "ValueError.__new__" = true
  sup : mg "super" = none
  top : (P.main.scope.names.lookup ("super" : Str)).isSome = false
/-- the one value v (fit for the message) is kept in the field g -/
def spX (C : Addr) (g : Str) (okm : V → Prop) : Sp := fun vs H Q _ => ∃ (a : Addr) (v : V) (H1 : Hp), vs = [.ref a, v] ∧ H1 a = none ∧ H = upd H1 a (exo a C none) ∧ okm v ∧ ∀ dx, H dx = none → dx ≠ a → Q .non (upd (upd H dx (exd dx [(g, v)])) a (exo a C (some dx)))
theorem meth_eq0 {o : Expr} {x : Str} {apos pos : Pos} {es : List Expr} {env : Env} (h2 : (apos.endLine == pos.line) = true) (h3 : es.length < 30) (h4 : es.all noStarB = true) :
    eval (.Call (.Attribute o x apos) es [] pos) env = (attributeBase o x env (eval o env) >>= fun ov => standAt apos.atName >>= fun _ => holding [ov] (getMethod ov x (do return (← importBound o env).getD true)) >>= fun q => callWith pos q.1 q.2 (backTo pos (starEach es env)) []) := by
  have hf : methodCallForm (es.length + ([] : List Keyword).length) (backTo pos (starEach es env)) (backToKw pos (keywordEach [] env)) = true := by
    unfold methodCallForm
    rw [show (backTo pos (starEach es env)).all (!·.1) = true from star_few pos h4]
    simp [keywordEach, backToKw, h3]
  show (attributeBase o x env (eval o env) >>= fun ov => standAt apos.atName >>= fun _ => methodCall o x apos pos env ov (es.length + ([] : List Keyword).length) (backTo pos (starEach es env)) (backToKw pos (keywordEach [] env))) = _
  congr 1
  funext ov
  congr 1
  funext _
  unfold methodCall
  rw [hf]
  congr 1
  funext q
  unfold methodCallPos
  rw [h2]
  rfl
section
variable {X : Cx} {pins : List (Addr × Obj)} {σ : L2.St} {H : Hp} {s : Shared}
/-- super() within such an __init__ -/
theorem super_at {C fI cda cc a : Addr} {fd : FuncData} {body : List Stmt} {p0 p1 : Pos} {whole : PySem.Sem Value} {ar : Arg} {ccl cll : Value} {cdd cld : Option Addr} {vs : Array Value} {ccs csl osl : Array (Option Value)} {file : Str} {tf : Tok} {oc : Value} {od : Option Addr} {m : Str → Option Value} {cd : ClassData}
    (I : Inv X pins σ H s) (hks : X.env.kindOf "super" = some .globalImplicit) (hkc : X.env.kindOf "__class__" = some .free) (hfu : X.env.func = some fI) (lk : X.K.lookup fI = some ⟨oc, od, .func fd, osl⟩) (hp : (fd.params.posonlyargs ++ fd.params.args).head? = some ar)
    (hco : X.env.code = .ref cda) (lc : X.K.lookup cda = some ⟨ccl, cdd, .fields vs, ccs⟩) (hvs : vs[2]? = some (.str file tf)) (hfile : (X.prog.main.file == file) = true) (top : (X.prog.main.scope.names.lookup ("super" : Str)).isSome = false)
    (lcell : X.K.lookup cc = some ⟨cll, cld, .cell (some (.ref C)), csl⟩) (hcc : X.env.cells.lookup ("__class__" : Str) = some cc) (hself : X.env.kindOf ar.arg = some .local) (hns : s.heap.Ns X.env.locals m) (hm : m ar.arg = some (.ref a)) (sup : X.mg "super" = none)
    (hcd : PySem.W.clsIn X.K C = some cd) (hsub : PySem.W.mroIn X.K C (.ref C) = some true) (ha : H a = some (exo a C none)) :
    _root_.PySem.wpAt (model X.prog X.w) X.A (.func body X.env) (attributeBase (.Call (.Name "super" p0) [] [] p1) "__init__" X.env whole) (fun v s2 => ∃ so, v = .ref so ∧ s2.heap.get? so = some (PySem.W.ks_superObj C a C) ∧ Inv X pins σ H s2) X.xe s := by
  obtain ⟨t1, hobj⟩ := exo_at I.hok ha
  have kin := I.kIn
  obtain ⟨oD, hD1, hD2⟩ : ∃ oD, s.heap.get? C = some oD ∧ oD.data = .cls cd := by
    unfold PySem.W.clsIn at hcd
    split at hcd
    · rename_i c d cd' sl ho
      cases hcd
      exact ⟨_, kin _ _ ho, rfl⟩
    · cases hcd
  obtain ⟨mb, hb1, hb2⟩ := I.mod.blt
  refine PySem.ks_wpAt_super_base hks hkc (by decide) hfu (kin _ _ lk) rfl hp hco (kin _ _ lc) rfl hvs hfile top ?_
  have hg : s.heap.Ns X.env.globals X.mg := by rw [I.ok.glob]; exact I.mod.glob.keeps I.bk
  have hbl : s.heap.Ns X.env.builtins mb := by rw [I.ok.blt]; exact hb1.keeps I.bk
  refine PySem.W.ks_loadName_global I.ok.kind hks (Calls.loadGlobal_builtin hg sup hbl ((hb2 _ (by decide +kernel)).trans (by decide +kernel : bootBuiltins "super" = some (.type "super"))) ⟨rfl, ?_⟩)
  refine wpAny_loadName_free I.ok.kind hkc hcc ⟨_, kin _ _ lcell, rfl⟩ ?_
  refine wpAny_loadName_local I.ok.kind hself hns hm ?_
  obtain ⟨hh, g, d, t, os⟩ := s
  refine PySem.ks_wpAny_isType_cls hD1 hD2 ⟨rfl, ?_⟩
  refine PySem.ks_wpAny_call_super hD1 hD2 hobj rfl (fun c z => by cases z) (PySem.W.looks_mroIn kin hsub) fun h' e k => ?_
  exact ⟨_, rfl, e, I.kept (t' := t) k⟩
/-- super().__init__(message) within such an __init__ -/
theorem super_init {C a so : Addr} {msg : Expr} {te : TE} {pos : Pos} {pl : PySem.Sem Bool} {Q : Value → Shared → Prop} (I : Inv X pins σ H s) (ha : H a = some (exo a C none)) (hso : s.heap.get? so = some (PySem.W.ks_superObj C a C)) (up : PySem.W.ks_superIn X.K C C "__init__" = some (some (.builtin "ValueError.__init__")))
    (ve : PySem.W.subIn X.K (.ref C) (.type "ValueError") = some true) (op : PySem.W.nsIn X.K cStatics "thirdparty.any" = some none) (xi : PySem.W.excInitIn X.K C bmVE "ValueError.__new__" = true) (he : PE X msg te) (hstar : noStarB msg = true)
    (hte : te σ H fun v H1 => (∃ z, v = .str z) ∧ H1 = H) (hq : ∀ v s2, Inv X pins σ H s2 → Q v s2) :
    wpAny (model X.prog X.w) X.A (getMethod (.ref so) "__init__" pl) (fun fx s2 => wpAny (model X.prog X.w) X.A (callWith pos fx.1 fx.2 (backTo pos (starEach [msg] X.env)) []) Q X.xe s2) X.xe s := by
  obtain ⟨t1, hobj⟩ := exo_at I.hok ha
  have kin := I.kIn
  have isVE : PySem.W.Looks (model X.prog X.w) s.heap (isInstance (.ref a) (.type "ValueError")) true := by
    have Lt : PySem.W.Looks (model X.prog X.w) s.heap (typeOf (.ref a)) (.ref C) := fun A Q E s2 k q => wpAny_typeOf_ref (k _ _ hobj) q
    exact Lt.andThen (PySem.W.looks_subIn kin ve)
  cases hcd : PySem.W.clsIn X.K C with
  | none => unfold PySem.W.ks_superIn at up; rw [hcd] at up; cases up
  | some cd =>
    unfold PySem.W.ks_superIn at up
    rw [hcd] at up
    have aC : a ≠ C := by
      intro z
      unfold PySem.W.clsIn at hcd
      split at hcd
      · rename_i c d cd' sl ho
        have := kin _ _ ho
        rw [← z, hobj] at this
        cases this
      · cases hcd
    have mro : PySem.W.Looks (model X.prog X.w) s.heap (mroOf (.ref C)) cd.mro := fun A Q E s2 k q => wpAny_bind ((PySem.W.looks_clsIn kin hcd) A _ E s2 k (wpAny_pure q))
    obtain ⟨hh, g, d, t, os⟩ := s
    refine PySem.W.kxs_getMethod PySem.W.kxs_ValueError hso (PySem.W.looks_opaque kin op) mro rfl kin up isVE aC (by decide) ?_
    have I2 : Inv X pins σ H ⟨hh.push (PySem.W.kxs_mw "ValueError.__init__" a), g, d, t + 1, os⟩ := I.kept (t' := t + 1) fun b o e => Heap.get?_push_of_some _ e
    have hmw : (hh.push (PySem.W.kxs_mw "ValueError.__init__" a)).get? hh.objs.size = some (PySem.W.kxs_mw "ValueError.__init__" a) := Heap.get?_push_size _ rfl
    show wpAny _ _ (callWith pos (.ref hh.objs.size) [] (backTo pos (starEach [msg] X.env)) []) _ _ _
    generalize hu : hh.objs.size = u at hmw ⊢
    have fp := I.fpOk (b := u) (by rw [← hu]; exact Nat.le_refl _) (by rw [← hu]; exact I.hok.fresh (Nat.le_refl _))
    obtain ⟨f0, f1, f2, f3, f4, f5⟩ := fp
    have I3 : Inv X ((u, PySem.W.kxs_mw "ValueError.__init__" a) :: pins) σ H ⟨hh.push (PySem.W.kxs_mw "ValueError.__init__" a), g, d, t + 1, os⟩ := by
      refine ⟨I2.ok, I2.os, I2.bare, I2.base, I2.loc, I2.cell, I2.free, I2.freeC, fun p hp => ?_, I2.hok, I2.len⟩
      rcases List.mem_append.mp hp with hp | hp
      · exact I2.pin p (List.mem_append_left _ hp)
      · rcases List.mem_cons.mp hp with z | hp
        · subst z; exact ⟨hmw, f0, f1, f2, fun v z => by cases z⟩
        · exact I2.pin p (List.mem_append_right _ hp)
    have st : starEach [msg] X.env = (false, eval msg X.env) :: starEach [] X.env := star_one hstar _ _
    refine PySem.W.kxs_callWith (i := "ValueError.__init__") (x := a) (by rw [st]; rfl) ?_
    rw [st]
    refine Calls.evalArgs_plain (Calls.spliced_cons (thn (he.run _ _ σ H _ I3 hte) fun mv s4 ⟨v, H1, I4, rv, ⟨z, ev⟩, eH⟩ => Calls.spliced_nil ?_))
    subst ev
    rw [eH] at I4
    have mw4 : s4.heap.get? u = some (PySem.W.kxs_mw "ValueError.__init__" a) := (I4.pin _ (List.mem_append_right _ List.mem_cons_self)).1
    have I5 : Inv X pins σ H s4 := by
      refine ⟨I4.ok, I4.os, I4.bare, I4.base, I4.loc, I4.cell, I4.free, I4.freeC, fun p hp => I4.pin p ?_, I4.hok, I4.len⟩
      rcases List.mem_append.mp hp with hp | hp
      · exact List.mem_append_left _ hp
      · exact List.mem_append_right _ (List.mem_cons_of_mem _ hp)
    refine ⟨mw4, ?_⟩
    obtain ⟨t4, hobj4⟩ := exo_at I5.hok ha
    obtain ⟨nm, N', qn, bs, bm, hdct, sn, sub, ab, col, dd, k0, k1, k2, k3, k5, hC, hT⟩ := PySem.W.excInit_of I5.kIn xi
    have I6 : ∀ h', (∀ b o, b ≠ a → s4.heap.get? b = some o → h'.get? b = some o) → h'.get? a = some (PySem.W.excRec (.ref C) s4.heap.objs.size none .none .none (.bool false)) → Inv X pins σ H { s4 with heap := h' } := fun h' k e => by
      have J := I5.write (t' := s4.toks) (x := a) (e := a) (o := exo a C none) (by rw [ha]; exact True.intro) (.inl rfl) k ⟨_, e⟩ (exo_ok e)
      have eu : upd H a (exo a C none) = H := by
        funext b
        by_cases hb : b = a
        · rw [hb, upd_same, ha]
        · rw [upd_ne hb]
      rw [eu] at J
      exact J
    obtain ⟨hp4, g4, d4, tk4, os4⟩ := s4
    show wpAny _ _ (call (.ref u) [mv]) _ _ _
    refine wpAny_call (codeAny_of_tree ?_)
    show wpAny _ X.A.in1 (callAny (.ref u) ⟨[mv], []⟩) _ _ _
    unfold callAny
    refine wpAny_bind (wpAny_load mw4 ?_)
    simp only [PySem.W.kxs_mw, show (Value.type "method-wrapper" == Value.type "method" || Value.type "method-wrapper" == Value.type "builtin_function_or_method" || Value.type "method-wrapper" == Value.type "method-wrapper") = true by decide, if_true]
    refine PySem.W.KFB.if_so (by decide) ?_
    refine wpAny_bind (PySem.W.check_bound_init PySem.F.excBase_ValueError.toExcCallFacts hC hobj4 rfl ?_)
    refine wpAny_bind (wpAny_pure (wpAny_pure ?_))
    refine ⟨plainId_quiet PySem.F.excBase_ValueError.init.plain _, codeAny_builtin PySem.F.excBase_ValueError.initEntry ?_⟩
    exact PySem.W.exc_init_tree (cls := .ref C) (t0 := t4) (dv := none) (c2 := .none) (c3 := .none) (b4 := .bool false) hobj4 (show 1 ≤ sizeLine by decide) fun h' k e' _ => hq _ _ (I6 h' k e')
end
/-- a message fit for every value of okm, v in the slot 1 -/
structure MsgOk (N : List Str) (sc : Scope) (msg : Expr) (okm : V → Prop) : Prop where
  ex : ∃ te : TE, (∀ X : Cx, X.N = N → X.env.scope = sc → PE X msg te) ∧ ∀ (σ : L2.St) (H : Hp) (v : V), okm v → σ[1]? = some (some v) → te σ H fun u H1 => (∃ z, u = .str z) ∧ H1 = H
theorem exc_init {P : Program} {w : World} {K : PySem.W.Frag} {mg : Str → Option Value} {base : Heap} {C fI : Addr} {qual : Str} {st : Stmt} {fd : FuncData} {k : Nat} {s0 p g : Str} {msg : Expr} {okm : V → Prop} {ar : Arg} {p0 p1 ap cp ep q0 q1 q2 q3 : Pos}
    (F : XInit P K mg C fI qual st fd) (NS : NdefX.NScope [s0, p, "__class__"] [s0, p] ["__class__"] (defScope st)) (hbody : defBody st = [.Expr (.Call (.Attribute (.Call (.Name "super" p0) [] [] p1) "__init__" ap) [msg] [] cp) ep, .Assign [.Attribute (.Name s0 q0) g q1] (.Name p q2) q3])
    (hline : (ap.endLine == cp.line) = true) (hp : ((defArgs st).posonlyargs ++ (defArgs st).args).head? = some ar) (har : ar.arg = s0) (hsup : (defScope st).names.lookup ("super" : Str) = some .globalImplicit) (hno : PySem.W.findIn K (.ref C) g = some none)
    (hstar : noStarB msg = true) (hmsg : MsgOk [s0, p, "__class__"] (defScope st) msg okm) (h0 : plainB s0 = true) (h1 : plainB p = true) : FnOk P w K mg base (L2N.CX P w) (k + 1) fI fd [s0, p] (spX C g okm) where
  len vs H Q E h := by obtain ⟨a, v, H1, rfl, _⟩ := h; rfl
  run A outer s H args us vs Q E room e0 bd rel spec := by
    obtain ⟨a, v, H1, evs, hn1, eH, okv, hq⟩ := spec
    obtain ⟨oc, od, kV, doc, pm, an, cda, ct, osl, cc, efd, lk, code, ⟨ccl, cdd, fvs, ccs, file, tf, lc, hvs, hfile⟩, cll, cld, csl, lcell⟩ := F.fn
    obtain ⟨cd, hcd⟩ := F.cd
    subst efd
    have inK : K.In s.heap := e0.mod.kin.keeps fun b o e => (e0.bs b o e).1
    have hl : vs.length = [s0, p].length := by rw [evs]; rfl
    let NFn : NdefX.NF := ⟨"__init__", qual, defArgs st, defBody st, defScope st, [("__class__", cc)], cda⟩
    have hH : H a = some (exo a C none) := by rw [eH, upd_same]
    have cellAt : s.heap.IsCell cc (some (.ref C)) := ⟨_, inK _ _ lcell, rfl⟩
    have cellFree : H cc = none := by
      obtain ⟨o, ho⟩ : ∃ o, base.get? cc = some o := ⟨_, e0.mod.kin _ _ lcell⟩
      exact (e0.bs cc o ho).2
    have caps : NdefX.CellsAt NFn.cl ["__class__"] [some (V.ref C)] s.heap H := by
      have only : ∀ y c, List.lookup y [(("__class__" : Str), cc)] = some c → y = "__class__" ∧ c = cc := fun y c e => by
        rw [List.lookup_cons] at e
        split at e
        · rename_i z; cases e; exact ⟨by simpa using z, rfl⟩
        · cases e
      refine ⟨rfl, fun y c e => ?_, fun x y c e1 e2 => ?_, fun i y hi => ?_⟩
      · obtain ⟨_, rfl⟩ := only y c e; exact ⟨cellFree, _, cellAt⟩
      · exact (only x c e1).1.trans (only y c e2).1.symm
      · match i, hi with
        | 0, hi =>
          cases hi
          exact ⟨cc, by rw [List.lookup_cons]; simp, fun v hv => by cases hv; exact ⟨.ref C, rfl, cellAt⟩⟩
        | i + 1, hi => simp at hi
    refine PySem.ks_codeAny_call_defAt (fd := PySem.W.ksFn "__init__" qual (defArgs st) (defBody st) (defScope st) .none kV doc pm an (.ref cda) ct cc) (body := defBody st) room.depth (inK _ _ lk) rfl (e0.mod.nolimit.keeps fun b o e => (e0.bs b o e).1) (PySem.W.codeRec_of inK code) rfl bd NS.nocell
      (fun ⟨nm, _⟩ hm => NS.par nm (List.of_mem_zip hm).1) (fun h₁ hns keep => ?_) NS.co NS.gen NS.kind
    have I : Inv (NdefX.ncx (L2N.CX P w) P w K mg base [s0, p, "__class__"] NFn fI A outer s H E) [] (NdefX.startF [s0, p, "__class__"] vs [some (V.ref C)]) H { s with heap := h₁, toks := s.toks + ([s0, p].zip us).length } := NdefX.inv_startN NS room.hd e0 hl rel caps hns keep
    generalize hX : NdefX.ncx (L2N.CX P w) P w K mg base [s0, p, "__class__"] NFn fI A outer s H E = X at I
    have hus : us[0]? = some (.ref a) := by
      rw [evs] at rel
      cases rel with
      | cons r0 _ => cases r0; rfl
    have look0 : ([s0, p].zip us).reverse.lookup s0 = some (.ref a) := NdefX.zip_look (i := 0) (by
      have := NS.nd
      simp only [List.nodup_cons, List.mem_cons, not_or] at this
      simp [this.1.1]) rfl hus
    have hσ0 : (NdefX.startF [s0, p, "__class__"] vs [some (V.ref C)])[0]? = some (some (.ref a)) := by rw [evs]; rfl
    have hσ1 : (NdefX.startF [s0, p, "__class__"] vs [some (V.ref C)])[1]? = some (some v) := by rw [evs]; rfl
    obtain ⟨te, hpe, hte⟩ := hmsg.ex
    have main : _root_.PySem.wpAt (model X.prog X.w) X.A (.func (defBody st) X.env) (execs (defBody st) X.env) (SP X [] { nx := fun _ H' => Q .non H', rt := Q }) X.xe { s with heap := h₁, toks := s.toks + ([s0, p].zip us).length } := by
      rw [show execs (defBody st) X.env = execs [.Expr (.Call (.Attribute (.Call (.Name "super" p0) [] [] p1) "__init__" ap) [msg] [] cp) ep, .Assign [.Attribute (.Name s0 q0) g q1] (.Name p q2) q3] X.env by rw [hbody]]
      have env0 : X.env = NdefX.envF NFn fI s.heap.objs.size := by rw [← hX]; rfl
      have sc0 : X.env.scope = defScope st := by rw [env0]
      have N0 : X.N = [s0, p, "__class__"] := by rw [← hX]; rfl
      have K0 : X.K = K := by rw [← hX]; rfl
      have mg0 : X.mg = mg := by rw [← hX]; rfl
      have P0 : X.prog = P := by rw [← hX]; rfl
      have kS : X.env.kindOf s0 = some .local := by show X.env.scope.names.lookup s0 = _; rw [sc0]; exact NS.par s0 (by simp)
      have kP : X.env.kindOf p = some .local := by show X.env.scope.names.lookup p = _; rw [sc0]; exact NS.par p (by simp)
      have kC : X.env.kindOf "__class__" = some .free := by show X.env.scope.names.lookup _ = _; rw [sc0]; exact NS.frk _ (by simp)
      have kU : X.env.kindOf "super" = some .globalImplicit := by show X.env.scope.names.lookup _ = _; rw [sc0]; exact hsup
      have plain : interactive X.env = false := by
        unfold interactive
        rw [sc0, NS.kind]
        rfl
      refine PySem.ks_wpAt_execs_cons (PySem.ks_wpAt_Expr_any (PySem.ks_wpAt_MethodCall ?_ (meth_eq0 hline (by simp) (by simp [hstar]))) plain rfl)
      refine PySem.ks_wpAt_mono (super_at (C := C) (cc := cc) (a := a) (ar := ar) (m := fun x => ([s0, p].zip us).reverse.lookup x) (body := defBody st) I kU kC (by rw [env0]) (by rw [K0]; exact lk) hp (by rw [env0]) (by rw [K0]; exact lc) hvs (by rw [P0]; exact hfile) (by rw [P0]; exact F.top) (by rw [K0]; exact lcell)
        (by rw [env0]; show List.lookup (("__class__" : Str)) [(("__class__" : Str), cc)] = _; rw [List.lookup_cons]; simp) (by rw [har]; exact kS) (by rw [env0]; exact hns) (by rw [har]; exact look0) (by rw [mg0]; exact F.sup) (by rw [K0]; exact hcd) (by rw [K0]; exact F.self) hH) (fun ov s1 hs1 => ?_) fun _ _ z => z
      obtain ⟨so, rfl, hso, I1⟩ := hs1
      refine super_init I1 hH hso (by rw [K0]; exact F.up) (by rw [K0]; exact F.ve) (by rw [K0]; exact F.op) (by rw [K0]; exact F.xi) (hpe X N0 sc0) hstar (hte _ H v okv hσ1) fun _ s2 I2 => ?_
      show _root_.PySem.wpAt (model X.prog X.w) X.A (.func (defBody st) X.env) (execs [.Assign [.Attribute (.Name s0 q0) g q1] (.Name p q2) q3] X.env) (SP X [] { nx := fun _ H' => Q .non H', rt := Q }) X.xe s2
      refine _root_.PySem.wpAt_of_wpAny ?_
      have r0 : PE X (.Name s0 q0) (tVar 0) := pe_var (by rw [N0]; rfl) (.inl kS) (plainB_ok h0).1 (plainB_ok h0).2
      have r1 : PE X (.Name p q2) (tVar 1) := pe_var (by rw [N0]; rfl) (.inl kP) (plainB_ok h1).1 (plainB_ok h1).2
      refine (pss_one (ps_ost (pos := q3) (f := g) (p' := q1) r0 r1 rfl)).run [] s2 _ H _ I2 ?_
      refine ⟨v, hσ1, .ref a, hσ0, a, C, rfl, by rw [K0]; exact F.oex, by rw [K0]; exact hno, .inl ⟨hH, fun dx hd ne => ?_⟩⟩
      exact hq dx hd ne
    subst hX
    refine PySem.ks_wpAt_mono main (fun fl s2 out => ?_) fun _ _ z => z
    cases fl with
    | ret u => exact let ⟨v, _, H2, J, rv, q⟩ := out; ⟨v, H2, J.os, J.bare, J.base, J.hok, rv, q⟩
    | next => exact let ⟨_, H2, J, q⟩ := out; ⟨.non, H2, J.os, J.bare, J.base, J.hok, rfl, q⟩
    | brk => exact let ⟨_, _, _, q⟩ := out; q.elim
    | cont => exact let ⟨_, _, _, q⟩ := out; q.elim
end Ly
end
section
set_option Elab.async false
set_option linter.all false
set_option maxRecDepth 100000
set_option maxHeartbeats 4000000
/-! LyX: raise of the text's own exceptions. -/
namespace Ly
open PySem PySem.Spec PyProof.Rows L2

section
variable {X : Cx} {Wx : WX} {cl : CL}
/-- C(e) makes an exception whose context is none -/
theorem pmkN {x : Str} {C fI : Addr} {k : Nat} {fd : FuncData} {ps : List Str} {sp : Sp} {e : Expr} {es : List Expr} {p pos : Pos} {ta : TA} (T : OexC X.K C) (iC : PySem.W.findIn X.K (.ref C) "__init__" = some (some (.ref fI))) (tI : PySem.W.typeIn X.K (.ref fI) = some (.type "function"))
    (F1 : FnOk X.prog X.w X.K X.mg X.base (L2N.CX X.prog X.w) k fI fd ps sp) (room : Room (k + 1) X.A) (hb : Binds X.K fd ps []) (hg : Gl X x) (hm : X.mg x = some (.ref C)) (ha : PA X (e :: es) ta)
    (hdb : (x == ("__debug__" : Str)) = false) (he : starEach (e :: es) X.env = (false, eval e X.env) :: starEach es X.env) (hpl : (backTo pos (starEach es X.env)).any (·.1) = false) :
    L2N.PMk X (.Call (.Name x p) (e :: es) [] pos) (tMkO C sp [] ta) := fun pins s σ H Q I h => by
  obtain ⟨nm, qn, N, bs, bm, sn, sub, ab, col, dd, k0, k1, k2, k3, k5, cls, refs⟩ := T.cls
  have within := fun Y => PySem.HandSPX.refsVE_contains Y bm refs
  refine wpAny_Call_Name_kw (ld_glob I hg hm (PySem.W.callWith_K (h₀ := X.base) I.ok.mod.kin T.kC (thn (ha.run pos pins s σ H _ I h) fun us s1 ⟨vs, H1, I1, r1, few, q1⟩ => ⟨I1.kIn, ?_⟩) he hpl) hdb)
  show wpAny _ _ (call (.ref C) us) _ _ _
  obtain ⟨hp, gs, dr, tk, os⟩ := s1
  have low : hp.objs.size ≤ hp.objs.size + 1 := Nat.le_succ _
  have blank : H1 (hp.objs.size + 1) = none := I1.hok.fresh low
  have spec := q1 _ blank
  have there : ((hp.push (PySem.W.kdv_tup us)).push (PySem.HandSPX.excO C hp.objs.size)).get? (hp.objs.size + 1) = some (PySem.HandSPX.excO C hp.objs.size) := by heap_get
  have keep : ∀ b o, hp.get? b = some o → ((hp.push (PySem.W.kdv_tup us)).push (PySem.HandSPX.excO C hp.objs.size)).get? b = some o := fun b o e => Heap.get?_push_of_some _ (Heap.get?_push_of_some _ e)
  have I2 : Inv X pins σ (upd H1 (hp.objs.size + 1) (exo (hp.objs.size + 1) C none)) ⟨(hp.push (PySem.W.kdv_tup us)).push (PySem.HandSPX.excO C hp.objs.size), gs, dr, tk, os⟩ :=
    I1.laid (t' := tk) (a := hp.objs.size + 1) (o := exo (hp.objs.size + 1) C none) keep low (exo_ok there)
  have rel : Vals (V.ref (hp.objs.size + 1) :: (vs ++ [])) (Value.ref (hp.objs.size + 1) :: us) := by rw [List.append_nil]; exact .cons rfl r1
  have hl : (Value.ref (hp.objs.size + 1) :: us).length = ps.length := rel.length.symm.trans (F1.len _ _ _ _ spec)
  have small : us.length ≤ sizeLine := by
    have := r1.length
    rw [sizeLine_eq]
    omega
  have bd := hb _ (Value.ref (hp.objs.size + 1) :: us) I2.kIn (by simpa using hl)
  rw [List.append_nil] at bd
  refine wpAny_call (PySem.HandSPX.call_own PySem.F.excBase_ValueError within (I1.kIn _ _ cls) (PySem.W.looks_findIn I1.kIn iC) (fun self => PySem.W.bind_fn I1.kIn self tI) small
    (codeAny_mono (F1.run _ X.stack _ _ ⟨Value.ref (hp.objs.size + 1) :: us, []⟩ _ _ _ (fun _ _ _ => False) (room.make C us []) (I2.env0.make C us []) bd rel spec) fun r s2 out => ?_))
  match r, out with
  | .error er, out =>
    obtain ⟨_, _, _, _, _, _, _, _, _, _, _, _, z⟩ := out
    exact z.elim
  | .ok (.ret u), out =>
    obtain ⟨v, H2, os2, bare, un, hok, rv, ev, d, fs, ea, ed, hd1, q2⟩ := out
    subst ev
    obtain ⟨h2, g2, d2, t2, os'⟩ := s2
    obtain ⟨t0, G, J, kG, ge, hoe, na⟩ := mk_end0 (d2 := d2) (t2 := t2) I1 low keep un hok os2 bare ea ed hd1
    exact ⟨rv, _, _, _, ⟨G, g2, d2, t2, os'⟩, _, .ref C, some d, rfl, J, kG, ge, hoe, ⟨rfl, rfl, fun vs e => by cases e; rfl⟩, rfl, rfl, na, rfl, bare, raises_own T.exC T.tyC, q2⟩
/-- a value that the message takes -/
def okMsg : V → Prop := fun v => ∃ i : Int, v = .int i ∧ i.natAbs.log2 < 1920
def okMsgD : D → Bool
  | .int i => decide (i.natAbs.log2 < 1920)
  | _ => false
/-- raise of the class c with one value, kept in g -/
def sRaise (c : Nat) (g : Str) (ml : SS → RD) : SS → RS := fun S => match ml S with
  | .ok ds S1 => (match ds with | [d] => if okMsgD d = true then .exc ⟨c, true, [g], [d]⟩ S1 else .bad | _ => .bad)
  | .exc x S1 => .exc x S1
  | .bad => .bad
theorem sRaise_len {c : Nat} {g : Str} {ml : SS → RD} (la : ∀ S, LenD S.length (ml S)) (S : SS) : LenS S.length (sRaise c g ml S) := by
  unfold sRaise
  have hs := la S
  cases e : ml S with
  | bad => exact trivial
  | exc x S1 => rw [e] at hs; exact hs
  | ok ds S1 =>
    rw [e] at hs
    dsimp only
    split
    · split <;> first | exact hs | exact trivial
    · exact trivial
/-- the new exception's dict as a cell -/
theorem Rel.raised {K : PySem.W.Frag} {H : Hp} {v : V} {d : D} {g : Str} {dx : Addr} {cs : List Cell} (hd : H dx = none) (r : Rel K cl H ((some v, some (.d d)) :: cs)) : Rel K cl (upd H dx (.xd [(g, v)])) ((some (.ref dx), some (.ex [g] [d])) :: cs) := by
  obtain ⟨G, O, r⟩ := r
  have fr := r.fresh hd
  obtain ⟨s, n, t⟩ := r
  cases t with
  | @cons _ F _ O' h t =>
    cases h with
    | some h =>
      obtain ⟨hF, q⟩ := h
      subst hF
      refine ⟨G, [dx] ++ O', fun a o e => ?_, List.nodup_cons.mpr ⟨fun z => fr.1 (by simpa using z), by simpa using n⟩, .cons (F := [dx]) (.some ⟨dx, [(g, v)], rfl, rfl, upd_same, rfl, .cons q rfl⟩) (CReps.step (Le.refl G) (fun a _ o e => by rw [upd_ne (ne_of_none e hd)]; exact e) t)⟩
      obtain ⟨h1, h2⟩ := s a o e
      refine ⟨by rw [upd_ne (ne_of_none h1 hd)]; exact h1, fun z => ?_⟩
      rcases List.mem_cons.mp z with z | z
      · subst z; rw [hd] at h1; cases h1
      · exact h2 (by simpa using z)
theorem ps_raiseD {c k : Nat} {x g : Str} {fI : Addr} {fd : FuncData} {ps : List Str} {e : Expr} {p pos pos' : Pos} {ml : SS → RD} (T : OexC X.K (cl c)) (iC : PySem.W.findIn X.K (.ref (cl c)) "__init__" = some (some (.ref fI))) (tI : PySem.W.typeIn X.K (.ref fI) = some (.type "function"))
    (F1 : FnOk X.prog X.w X.K X.mg X.base (L2N.CX X.prog X.w) k fI fd ps (spX (cl c) g okMsg)) (room : Room (k + 1) X.A) (calm : X.calm = true) (hb : Binds X.K fd ps []) (hg : Gl X x) (hm : X.mg x = some (.ref (cl c))) (tk : L2N.Takes X Wx) (ha : PA X [e] (tEd X.K cl Wx ml))
    (hdb : (x == ("__debug__" : Str)) = false) (hstar : noStarB e = true) : PS X (.Raise (some (.Call (.Name x p) [e] [] pos)) none pos') (tSt X.K cl Wx (sRaise c g ml)) := by
  refine PS.imp (L2N.ps_raise calm tk (pmkN T iC tI F1 room hb hg hm ha hdb (star_one hstar _ _) rfl)) fun De σ H ⟨S, T, hl, hR, post⟩ => ⟨S, T, hl, hR, ?_⟩
  unfold sRaise at post
  cases em : ml S with
  | bad => rw [em] at post; exact post
  | exc x S1 => rw [em] at post; exact post σ rfl
  | ok ds S1 =>
    rw [em] at post
    intro vs H1 hlen R
    dsimp only at post
    split at post
    · rename_i d
      split at post
      · rename_i hk
        match vs, hlen with
        | [v], _ =>
          have R : Rel X.K cl H1 ((some v, some (.d d)) :: (σ.zip S1 ++ T)) := R
          have okv : okMsg v := by
            obtain ⟨G, le, rp, _⟩ := Rel.head R
            cases d with
            | int i => exact ⟨i, rp, of_decide_eq_true hk⟩
            | _ => cases hk
          refine ⟨by show 1 ≤ 1000; decide, fun a hn => ⟨a, v, H1, rfl, hn, rfl, okv, fun dx hd ne => ⟨rfl, dx, [(g, v)], upd_same, ?_, ?_, ?_⟩⟩⟩
          · rw [upd_ne ne, upd_same]
          · rw [upd_ne ne] at hd; exact hd
          · have hd1 : H1 dx = none := by rw [upd_ne ne] at hd; exact hd
            have same : upd (del (upd (upd (upd H1 a (exo a (cl c) none)) dx (exd dx [(g, v)])) a (exo a (cl c) (some dx))) a) dx (.xd [(g, v)]) = upd H1 dx (.xd [(g, v)]) := by
              funext b
              by_cases h1 : b = dx
              · rw [h1, upd_same, upd_same]
              · rw [upd_ne h1, upd_ne h1]
                by_cases h2 : b = a
                · rw [h2, del_same, hn]
                · rw [del_ne h2, upd_ne h2, upd_ne h1, upd_ne h2]
            rw [same]
            exact post σ rfl _ (some dx) ⟨rfl, R.raised hd1⟩
      · exact post.elim
    · exact post.elim
end
end Ly
end
section
set_option Elab.async false
set_option linter.all false
set_option maxRecDepth 100000
set_option maxHeartbeats 4000000
/-! LyY: isinstance of a caught exception that has a dict. -/
namespace Ly
open PySem PySem.Spec PyProof.Rows L2 PySem.W

section
variable {prog : Program} {w : World} {A : Around} {E : Value → Shared → Prop} {s : Shared} {K : Frag} {x B : Addr} {ox : Obj} {od : Option Obj}
theorem data_first {nm : Str} {acc get : Value} (own : (clsIn K B).isSome = true) (at_ : findIn K (.ref B) nm = some (some acc)) (gets : specialIn K acc "__get__" = some (some get)) (takes : takesIn K acc = some true) : findObj K B od nm = some (.bind get acc) := by
  cases e : clsIn K B with
  | none => rw [e] at own; cases own
  | some cd => simp [findObj, e, at_, gets, takes]
/-- x.__class__ of an exception, whatever its dict -/
theorem class_of_exc {Q : Option Value → Shared → Prop} (F : ExcC K B) (inK : K.In s.heap) (J : InstAt s.heap x ox B od) (h : Q (some (.ref B)) { s with toks := s.toks + 1 }) : wpAny (model prog w) A (getAttr? (.ref x) "__class__") Q E s := by
  have own : (clsIn K B).isSome = true := by
    obtain ⟨cd, e, _⟩ := any_some F.hd
    simp [e]
  have found := data_first (od := od) own F.ha F.hn F.ht
  obtain ⟨hp, gs, dr, tk, os⟩ := s
  have ty := J.type (M := model prog w)
  have lGet := looks_findIn (M := model prog w) inK F.hg
  have lHook := looks_findIn (M := model prog w) inK F.hk
  have lFind := looks_find (M := model prog w) inK J found
  have isExc : Looks (model prog w) hp (isInstance (.ref x) (.type "BaseException")) true := ty.andThen (looks_subIn inK F.hs)
  have other : (Value.builtin "BaseException.__getattribute__" == Value.builtin "object.__getattribute__") = false := by decide +kernel
  unfold getAttr? getAttrBy? getAttrBy
  refine wpAny_bind (wpAny_mkText (wpAny_bind (wpAny_attempt (wpAny_holding (wpAny_bind (ty.at (wpAny_bind (lGet.at ?_))))))))
  dsimp only
  rw [if_neg (by rw [other]; simp)]
  unfold getAttrByItsOwn hookBefore
  refine wpAny_bind ?_
  rw [if_pos (show onTheHeap (Value.ref B) = true from rfl)]
  refine lHook.at ?_
  refine wpAny_bind (wpAny_attempt (wpAny_holding ?_))
  unfold callGetattribute
  rw [if_neg (show ¬ (false && onTheHeap (Value.builtin "BaseException.__getattribute__")) = true from Bool.false_ne_true)]
  unfold boundAndCalled
  rw [PySem.F.excAttr_ValueError.ga.bind (.ref x)]
  refine wpAny_bind (wpAny_pure ?_)
  show wpAny _ _ (call (.builtin "BaseException.__getattribute__") [.ref x, .str "__class__" tk]) _ _ _
  have fits := PySem.F.args_bexc_ga (.ref x) (.str "__class__" tk)
  refine wpAny_call (codeAny_call_builtin PySem.F.excAttr_ValueError.ga.plain PySem.F.entry_bexc_ga (check_slot (s := ⟨hp, gs, dr, tk + 1, os⟩) (i := "BaseException.__getattribute__") (owner := "BaseException") (n := "__getattribute__") (by decide +kernel) (by decide +kernel) isExc fits ?_))
  unfold Builtin.«object.__getattribute__»
  refine wpAny_bind (wpAny_of_eq (a := ((Value.ref x : Value), [Value.str "__class__" tk])) (by first | rfl | (simp only [slotArgs]; rfl)) ?_)
  refine wpAny_bind (wpAny_pure (wpAny_bind (ty.at (wpAny_bind (lFind.at ?_)))))
  show wpAny _ _ (holding [Value.builtin "object.__class__"] (call (.builtin "getset_descriptor.__get__") [.builtin "object.__class__", .ref x, .ref B]) >>= ret) _ _ _
  refine wpAny_bind (wpAny_holding (wpAny_call (class_get (s := ⟨hp, gs, dr, tk + 1, os⟩) (ox := ox) (od := od) inK J F.hm (wpAny_pure ?_))))
  show wpAny _ _ (handedOut (.ref B)) _ _ _
  rw [handedOut_of (v := .ref B) rfl]
  first
    | exact wpAny_pure (wpAny_pure h)
    | exact wpAny_pure h
    | exact wpAny_pure (wpAny_bind (wpAny_pure (wpAny_pure h)))
theorem kit_exc (F : ExcC K B) : KitX K (.ref x) (.ref B) (fun h => InstAt h x ox B od) := by
  have plain : KitX K (.ref x) (.ref B) (fun h => InstAt h x ox B none) := handS_kitx_exc F.hg F.hk F.hs F.hd F.ha F.hn F.ht F.hm
  exact ⟨fun _ _ _ J => J.type, fun M h inK J => by
    obtain ⟨cd, e, _⟩ := any_some F.hd
    unfold clsIn at e
    split at e
    · rename_i ho
      intro A' Q' E' s' k q
      unfold isType loadHead
      exact wpAny_bind (wpAny_loadPart (k _ _ (inK _ _ ho)) (wpAny_pure q))
    · (cases e), plain.ne, fun inK J h => class_of_exc F inK J h⟩
end
end Ly
namespace Ly
open PySem PySem.Spec PyProof.Rows L2
def DictAt (H : Hp) : Option Addr → Prop
  | none => True
  | some dd => ∃ fs, H dd = some (.xd fs)
/-- isinstance(e, c), e the exception that the suite holds, with or without a dict -/
theorem call_isX {X : Cx} {a B : Addr} {d : Option Addr} {oe : Obj} {pn : List (Addr × Obj)} (F : ExcC X.K B) (hz : Zc (.ref B) d oe) (hf : ∃ vs, oe.data = .fields vs) :
    CallR (X.suite a ((a, oe) :: pn)) (.builtin "isinstance") (fun xs H Q => DictAt H d ∧ rIsE X.K B a xs H Q) := by
  intro pins s σ H xs us Q I r ⟨hd, c, cv, b, ex, hcv, e, q⟩
  subst ex
  obtain ⟨u1, u2, eu, r1, r2⟩ := vals2 r
  subst eu
  cases r1
  have ec := hcv _ r2
  subst ec
  obtain ⟨there, _⟩ := I.pin (a, oe) (List.mem_append.mpr (.inl List.mem_cons_self))
  obtain ⟨vs, hv⟩ := hf
  have fin : ∀ od, PySem.W.InstAt s.heap a oe B od → wpAny (model X.prog X.w) (X.suite a ((a, oe) :: pn)).A (call (.builtin "isinstance") [.ref a, u2]) (EP (X.suite a ((a, oe) :: pn)) pins σ Q) (X.suite a ((a, oe) :: pn)).xe s := fun od J =>
    PySem.W.kia_one (kit_exc F) I.kIn J e (fun z => nomatch z) fun tk => ⟨.bl b, H, I.kept (t' := tk) fun _ _ z => z, rfl, q⟩
  have no : PySem.W.notCls oe = true := by unfold PySem.W.notCls; rw [hv]
  cases d with
  | none => exact fin none ⟨there, hz.1, no, by rw [hz.2]; trivial⟩
  | some dd =>
    obtain ⟨fs, hdd⟩ := hd
    have hx : ObjOk X.prog X.w H s.heap dd (.xd fs) := I.hok dd _ hdd
    obtain ⟨mA, hns, _⟩ := hx
    obtain ⟨od, ho, _⟩ := lookIn_ns hns
    exact fin (some od) ⟨there, hz.1, no, by rw [hz.2]; exact ho⟩
end Ly
end
section
set_option Elab.async false
set_option linter.all false
set_option maxRecDepth 100000
set_option maxHeartbeats 4000000
/-! LyZ: try, except .. as e, what is asked of e; defs called there. -/
namespace Ly
open PySem PySem.Spec PyProof.Rows L2

/-- X is an except suite; cl tells the exception, its class, its dict -/
structure Suite (cl : CL) (X : Cx) : Prop where
  ex : ∃ (X0 : Cx) (a : Addr) (oe : Obj) (pn : List (Addr × Obj)), X = X0.suite a ((a, oe) :: pn) ∧ cl.xa = some a ∧ L2N.Zn (.ref (cl cl.xc)) cl.xd oe ∧ ∃ vs, oe.data = .fields vs
theorem Suite.hot {cl : CL} {X : Cx} (h : Suite cl X) : L2H.HotC X := by
  obtain ⟨X0, a, oe, pn, rfl, _, hz, vs, hv⟩ := h.ex
  exact ⟨(a, oe), ⟨rfl, vs, hv, hz.2.2 vs hv⟩, List.mem_cons_self⟩
def mIsE (i : Nat) (tab : Nat → Option Bool) : SS → RE := fun S => match S[i]? with
  | some (some (.xv c _ _)) => (match tab c with | some b => .ok (.t (.d (.bl b))) S | none => .bad)
  | _ => .bad
def mEF (i : Nat) (f : Str) (ok : Nat → Bool) : SS → RE := fun S => match S[i]? with
  | some (some (.xv c ns xs)) => if ok c = true then (match lookD f ns xs with | some d => .ok (.t (.d d)) S | none => .bad) else .bad
  | _ => .bad
theorem mIsE_len (i : Nat) (tab : Nat → Option Bool) (S : SS) : LenE S.length (mIsE i tab S) := by
  unfold mIsE
  split
  · split <;> first | rfl | exact trivial
  · exact trivial
theorem mEF_len (i : Nat) (f : Str) (ok : Nat → Bool) (S : SS) : LenE S.length (mEF i f ok S) := by
  unfold mEF
  split
  · split
    · split <;> first | rfl | exact trivial
    · exact trivial
  · exact trivial
section
variable {cl : CL} {Wx : WX} {X : Cx} {σ : L2.St} {H : Hp} {T : List Cell} {S : SS}
/-- the slot of the exception -/
theorem Rel.exc {i c : Nat} {ns : List Str} {xs : List D} {K : PySem.W.Frag} (hR : Rel K cl H (σ.zip S ++ T)) (hl : S.length = σ.length) (h : S[i]? = some (some (.xv c ns xs))) :
    ∃ a, cl.xa = some a ∧ σ[i]? = some (some (.ref a)) ∧ c = cl.xc ∧ (match cl.xd with | none => ns = [] | some dd => ∃ fs, H dd = some (.xd fs) ∧ ∀ f d, lookD f ns xs = some d → ∃ v, fs.lookup f = some v ∧ Rel K cl H ((some v, some (.d d)) :: (σ.zip S ++ T))) := by
  obtain ⟨v, hv, p0⟩ := slot_cons hR hl h
  obtain ⟨G, O, r⟩ := hR.perm p0
  have t := r.rep
  cases t with
  | @cons _ F _ O' h t =>
    cases h with
    | some h =>
      obtain ⟨rfl, ⟨a, ha, rfl⟩, hh⟩ := h
      refine ⟨a, ha, hv, rfl, ?_⟩
      rcases hh with ⟨e, f⟩ | ⟨b, fs, e, f, hb, hn, q⟩
      · rw [e]; exact f.2
      · rw [e]
        refine ⟨fs, hb, fun f d hd => ?_⟩
        obtain ⟨u, h1, h2⟩ := lookD_ok hn q hd
        exact ⟨u, h1, (r.new (.d h2)).perm (List.Perm.cons _ p0.symm)⟩
theorem pe_isED {i : Nat} {x y : Str} {C : Addr} {p px py pos : Pos} {tab : Nat → Option Bool} (su : Suite cl X) (ht : ∀ c b, tab c = some b → ExcC X.K (cl c) ∧ PySem.W.kitOne X.K (.ref (cl c)) (.ref C) = some b) (hg : Gl X "isinstance") (hb : X.mg "isinstance" = none) (hy : Gl X y)
    (hm : X.mg y = some (.ref C)) (hN : X.N[i]? = some x) (hv : Vis X.env.scope x) (hx : plainB x = true) (hp : plainB y = true) : PE X (.Call (.Name "isinstance" p) [.Name x px, .Name y py] [] pos) (tEv X.K cl Wx (mIsE i tab)) := by
  obtain ⟨X0, a, oe, pn, rfl, hxa, hz, hf⟩ := su.ex
  refine ⟨fun pins s σ H Q I ⟨S, T, hl, hR, post⟩ => ?_⟩
  unfold mIsE at post
  split at post
  · rename_i c ns xs es
    obtain ⟨a', ha', hσ, hc, hd⟩ := hR.exc hl es
    rw [hxa] at ha'
    cases ha'
    subst hc
    cases et : tab cl.xc with
    | none => rw [et] at post; exact post.elim
    | some b =>
      rw [et] at post
      obtain ⟨F, hk⟩ := ht _ _ et
      have args : PA (X0.suite a ((a, oe) :: pn)) [.Name x px, .Name y py] (tCons (tVar i) (tCons (tC (.ref C)) tNil)) := pa_cons (pe_var hN hv (plainB_ok hx).1 (plainB_ok hx).2) (pa_cons (pe_glob (v := .ref C) (u := .ref C) hy hm rfl (plainB_ok hp).1) pa_nil rfl) rfl
      refine (pe_callB (call_isX F hz.zc hf) hg hb (show bootBuiltins "isinstance" = some (.builtin "isinstance") by decide +kernel) args (by decide) (by decide) rfl rfl).run pins s σ H Q I ?_
      refine ⟨.ref a, hσ, ?_, .ref C, .ref C, b, rfl, fun u hu => hu, hk, ?_⟩
      · cases exd : cl.xd with
        | none => trivial
        | some dd => rw [exd] at hd; obtain ⟨fs, hfs, _⟩ := hd; exact ⟨fs, hfs⟩
      · obtain ⟨G, O, r⟩ := hR
        exact post _ _ _ .t (r.new (.d rfl))
  · exact post.elim
theorem pe_eFD {i : Nat} {x f : Str} {px pos : Pos} {ok : Nat → Bool} (su : Suite cl X) (hF : ∀ c, ok c = true → XfC X.K (cl c) ∧ PySem.W.findIn X.K (.ref (cl c)) f = some none) (hN : X.N[i]? = some x) (hv : Vis X.env.scope x) (hx : plainB x = true) :
    PE X (.Attribute (.Name x px) f pos) (tEv X.K cl Wx (mEF i f ok)) := by
  obtain ⟨X0, a, oe, pn, rfl, hxa, hz, hf⟩ := su.ex
  refine ⟨fun pins s σ H Q I ⟨S, T, hl, hR, post⟩ => ?_⟩
  unfold mEF at post
  split at post
  · rename_i c ns xs es
    obtain ⟨a', ha', hσ, hc, hd⟩ := hR.exc hl es
    rw [hxa] at ha'
    cases ha'
    subst hc
    split at post
    · rename_i hok
      obtain ⟨F, hno⟩ := hF _ hok
      cases ed : lookD f ns xs with
      | none => rw [ed] at post; exact post.elim
      | some d =>
        rw [ed] at post
        refine (pe_xf F hno hz.zc hf (pe_var (pos := px) hN hv (plainB_ok hx).1 (plainB_ok hx).2) (base_any rfl _ _ _)).run pins s σ H Q I ?_
        cases exd : cl.xd with
        | none =>
          rw [exd] at hd
          have hd : ns = [] := hd
          subst hd
          cases xs <;> cases ed
        | some dd =>
          rw [exd] at hd
          obtain ⟨fs, hfs, get⟩ := hd
          obtain ⟨v, hv2, r2⟩ := get f d ed
          exact ⟨.ref a, hσ, rfl, rfl, dd, fs, v, rfl, hfs, hv2, post v H _ .t r2⟩
    · exact post.elim
  · exact post.elim
end
end Ly
end
section
set_option Elab.async false
set_option linter.all false
set_option maxRecDepth 100000
set_option maxHeartbeats 4000000
/-! MaA: try .. except C as e: .. -/
namespace Ly
open PySem PySem.Spec PyProof.Rows L2

def NoXv (c : Cell) : Prop := ∀ cc ns xs, c.2 ≠ some (.xv cc ns xs)
def W.noXv : W → Bool
  | .xv _ _ _ => false
  | _ => true
def noXvS (S : SS) : Bool := S.all fun o => match o with | some w => w.noXv | none => true
/-- try: body; except C as e: suite. sub: is the class one of C's -/
def sTry (i : Nat) (sub : Nat → Option Bool) (mb msu : SS → RS) : SS → RS := fun S => match mb S with
  | .exc x S1 => (match sub x.c with
    | some true => if (x.has || x.ns.isEmpty) = false then .bad else (match msu (S1.set i (some (.xv x.c x.ns x.xs))) with
      | .nx S2 => if noXvS (S2.set i none) = true then .nx (S2.set i none) else .bad
      | .bk S2 => if noXvS (S2.set i none) = true then .bk (S2.set i none) else .bad
      | .ct S2 => if noXvS (S2.set i none) = true then .ct (S2.set i none) else .bad
      | .rt w => if w.noXv = true then .rt w else .bad
      | _ => .bad)
    | some false => .exc x S1
    | none => .bad)
  | r => r
theorem sTry_len {i : Nat} {sub : Nat → Option Bool} {mb msu : SS → RS} (lb : ∀ S, LenS S.length (mb S)) (ls : ∀ S, LenS S.length (msu S)) (S : SS) : LenS S.length (sTry i sub mb msu S) := by
  unfold sTry
  have hb := lb S
  cases e : mb S with
  | exc x S1 =>
    rw [e] at hb
    have hb : S1.length = S.length := hb
    dsimp only
    cases sub x.c with
    | none => exact trivial
    | some b =>
      cases b with
      | false => exact hb
      | true =>
        have h2 := ls (S1.set i (some (.xv x.c x.ns x.xs)))
        rw [List.length_set, hb] at h2
        dsimp only
        split
        · exact trivial
        cases e2 : msu (S1.set i (some (.xv x.c x.ns x.xs))) with
        | nx S2 => rw [e2] at h2; dsimp only; split <;> first | exact (List.length_set ..).trans h2 | exact trivial
        | bk S2 => rw [e2] at h2; dsimp only; split <;> first | exact (List.length_set ..).trans h2 | exact trivial
        | ct S2 => rw [e2] at h2; dsimp only; split <;> first | exact (List.length_set ..).trans h2 | exact trivial
        | rt w => dsimp only; split <;> exact trivial
        | exc y S2 => exact trivial
        | bad => exact trivial
  | nx S1 => rw [e] at hb; exact hb
  | bk S1 => rw [e] at hb; exact hb
  | ct S1 => rw [e] at hb; exact hb
  | rt w => exact trivial
  | bad => exact trivial
section
variable {K : PySem.W.Frag} {cl : CL} {G H : Hp} {a d : Option Addr} {c : Nat}
theorem WRep.switch {w : W} {v : V} {F : List Addr} {cl' : CL} (hf : cl'.f = cl.f) (no : w.noXv = true) (r : WRep K cl G H w v F) : WRep K cl' G H w v F := by
  obtain ⟨f, xa, xd, xc⟩ := cl
  obtain ⟨f', xa', xd', xc'⟩ := cl'
  subst hf
  cases w with
  | xv c ns xs => cases no
  | _ => exact r
theorem CReps.switch {cl' : CL} (hf : cl'.f = cl.f) : ∀ {cs : List Cell} {O : List Addr}, (∀ c ∈ cs, ∀ v w, c = (some v, some w) → w.noXv = true) → CReps K cl G H cs O → CReps K cl' G H cs O
  | _, _, _, .nil => .nil
  | _, _, no, .cons h t => .cons (match h with
      | .none => .none
      | .some w => .some (w.switch hf (no _ List.mem_cons_self _ _ rfl))) (CReps.switch hf (fun c hc => no c (List.mem_cons_of_mem _ hc)) t)
theorem CReps.noXv (hx : cl.xa = none) : ∀ {cs : List Cell} {O : List Addr}, CReps K cl G H cs O → ∀ c ∈ cs, ∀ v w, c = (some v, some w) → w.noXv = true
  | _, _, .nil, c, hc, _, _, _ => by simp at hc
  | _, _, .cons h t, c, hc, v, w, e => by
    rcases List.mem_cons.mp hc with z | z
    · subst z
      subst e
      cases h with
      | some h =>
        cases w with
        | xv cc ns xs =>
          obtain ⟨_, ⟨a, ha, _⟩, _⟩ := h
          rw [hx] at ha
          cases ha
        | _ => rfl
    · exact CReps.noXv hx t c z v w e
theorem Rel.noXv {cs : List Cell} (hx : cl.xa = none) (r : Rel K cl H cs) : ∀ c ∈ cs, ∀ v w, c = (some v, some w) → w.noXv = true := by
  obtain ⟨G, O, r⟩ := r
  exact r.rep.noXv hx
theorem Rel.switch {cl' : CL} {cs : List Cell} (hf : cl'.f = cl.f) (no : ∀ c ∈ cs, ∀ v w, c = (some v, some w) → w.noXv = true) (r : Rel K cl H cs) : Rel K cl' H cs := by
  obtain ⟨G, O, s, n, t⟩ := r
  exact ⟨G, O, s, n, t.switch hf no⟩
theorem noXvS_zip {σ : L2.St} {S : SS} (h : noXvS S = true) : ∀ c ∈ σ.zip S, ∀ v w, c = (some v, some w) → w.noXv = true := fun c hc v w e => by
  subst e
  have := (List.of_mem_zip hc).2
  unfold noXvS at h
  rw [List.all_eq_true] at h
  exact h _ this
/-- the caught exception in its slot -/
theorem RelX.caught {σ : L2.St} {S : SS} {T : List Cell} {i : Nat} {p : Addr} {dd : Option Addr} {x : Exn} (hx : cl.xa = none) (hk : (x.has || x.ns.isEmpty) = true) (r : RelX K cl H dd x (σ.zip S ++ T)) :
    Rel K { cl with xa := some p, xd := dd, xc := x.c } H ((σ.set i (some (.ref p))).zip (S.set i (some (.xv x.c x.ns x.xs))) ++ T) := by
  have hf : ({ cl with xa := some p, xd := dd, xc := x.c } : CL).f = cl.f := rfl
  refine Rel.store ?_
  cases dd with
  | none =>
    obtain ⟨h1, r⟩ := r
    have no := r.noXv hx
    obtain ⟨G, O, s, n, t⟩ := r.switch hf no
    have en : x.ns = [] := by
      rw [h1] at hk
      simpa using hk
    exact ⟨G, O, s, n, .cons (F := []) (.some ⟨rfl, ⟨p, rfl, rfl⟩, .inl ⟨rfl, rfl, en⟩⟩) t⟩
  | some b =>
    obtain ⟨h1, r⟩ := r
    have no := r.noXv hx
    obtain ⟨G, O, s, n, t⟩ := r.switch hf no
    cases t with
    | @cons _ F _ O' h t =>
      cases h with
      | some h =>
        obtain ⟨b', fs, eb, hF, hb, hn, q⟩ := h
        cases eb
        exact ⟨G, F ++ O', s, n, .cons (.some ⟨rfl, ⟨p, rfl, rfl⟩, .inr ⟨b, fs, rfl, hF, hb, hn, q⟩⟩) t⟩
end
section
variable {cl : CL} {Wx : WX} {X : Cx} {T : List Cell}
theorem ps_tryD {i j : Nat} {x n : Str} {sub : Nat → Option Bool} {body suite : List Stmt} {b₀ : Stmt} {np pos pos' : Pos} {mb msu : SS → RS} (plain : cl.xa = none) (hs : X.stack = X.env :: X.outer) (hf : X.env.frame = some X.env.locals) (hN : X.N.Nodup) (hi : X.N[i]? = some n)
    (hln : X.env.kindOf n = some .local) (hc : Names X x (.ref (cl j))) (tk : L2N.Takes X Wx) (hsub : ∀ c b, sub c = some b → PySem.W.exmOne X.K (.ref (cl c)) (.ref (cl j)) = some b) (lb : ∀ S, LenS S.length (mb S)) (lsu : ∀ S, LenS S.length (msu S))
    (hb : ∀ (W : WX) (pn : List (Addr × Obj)) (xe : Value → Shared → Prop), L2N.Takes (X.tr pn xe) W → PassesOwn (model X.prog X.w) X.A X.env xe → PSs (X.tr pn xe) body (tSt X.K cl W mb))
    (hsu : ∀ (a : Addr) (oe : Obj) (d : Option Addr) (c : Nat) (pn : List (Addr × Obj)), L2N.Zn (.ref (cl c)) d oe → (∃ vs, oe.data = .fields vs) → PSs (X.suite a ((a, oe) :: pn)) (b₀ :: suite) (tSt X.K { cl with xa := some a, xd := d, xc := c } (fun _ _ _ _ => False) msu)) :
    PS X (.Try body [.ExceptHandler (some (.Name x np)) (some n) (b₀ :: suite) pos'] [] [] pos) (tSt X.K cl Wx (sTry i sub mb msu)) := by
  refine PS.imp (L2N.ps_try_as (tb := fun W => tSt X.K cl W mb) (ts := fun a cls d D σ H => ∃ c, cls = .ref (cl c) ∧ tSt X.K { cl with xa := some a, xd := d, xc := c } (fun _ _ _ _ => False) msu D σ H) (Wout := Wx) hs hf hN hi hln hc tk hb fun a oe cls d pn hz hd => ⟨fun pins s σ H D I h => ?_⟩) fun De σ H h => ?_
  · obtain ⟨c, rfl, h⟩ := h
    exact (hsu a oe d c pn hz hd).run pins s σ H D I h
  · obtain ⟨S, T, hl, hR, post⟩ := h
    refine ⟨S, T, hl, hR, ?_⟩
    have noT : ∀ c ∈ T, ∀ v w, c = (some v, some w) → w.noXv = true := fun c hc => hR.noXv plain c (List.mem_append_right _ hc)
    have h1 := lb S
    unfold sTry at post
    cases e : mb S with
    | nx S1 => rw [e] at post; exact post
    | bk S1 => rw [e] at post; exact post
    | ct S1 => rw [e] at post; exact post
    | rt w => rw [e] at post; exact post
    | bad => rw [e] at post; exact post.elim
    | exc y S1 =>
      rw [e] at post h1
      have h1 : S1.length = S.length := h1
      dsimp only at post
      intro σ' l' H' d rx
      cases es : sub y.c with
      | none => rw [es] at post; exact post.elim
      | some b =>
        rw [es] at post
        refine ⟨b, hsub _ _ es, fun hb a na => ?_, fun hb => ?_⟩
        · subst hb
          dsimp only at post
          split at post
          · exact post.elim
          · rename_i hk
            have hk : (y.has || y.ns.isEmpty) = true := by
              cases e : (y.has || y.ns.isEmpty) with
              | true => rfl
              | false => exact absurd e hk
            refine ⟨y.c, rfl, S1.set i (some (.xv y.c y.ns y.xs)), T, by rw [List.length_set, List.length_set, h1, hl, l'], RelX.caught plain hk rx, ?_⟩
            have h2 := lsu (S1.set i (some (.xv y.c y.ns y.xs)))
            have back : ∀ (S2 : SS) (σ2 : L2.St) (H2 : Hp), noXvS (S2.set i none) = true → Rel X.K { cl with xa := some a, xd := d, xc := y.c } H2 (σ2.zip S2 ++ T) → Rel X.K cl H2 ((σ2.set i none).zip (S2.set i none) ++ T) := fun S2 σ2 H2 no R2 => by
              refine Rel.switch (cl := { cl with xa := some a, xd := d, xc := y.c }) rfl (fun c hc => ?_) R2.unset
              rcases List.mem_append.mp hc with hc | hc
              · exact noXvS_zip no c hc
              · exact noT c hc
            have len : (σ'.set i (some (V.ref a))).length = σ.length := by rw [List.length_set, l']
            cases e2 : msu (S1.set i (some (.xv y.c y.ns y.xs))) with
            | nx S2 =>
              rw [e2] at post
              dsimp only at post
              split at post
              · rename_i no
                exact fun σ2 H2 l2 R2 => post (σ2.set i none) H2 (by rw [List.length_set, l2, len]) (back S2 σ2 H2 no R2)
              · exact post.elim
            | bk S2 =>
              rw [e2] at post
              dsimp only at post
              split at post
              · rename_i no
                exact fun σ2 H2 l2 R2 => post (σ2.set i none) H2 (by rw [List.length_set, l2, len]) (back S2 σ2 H2 no R2)
              · exact post.elim
            | ct S2 =>
              rw [e2] at post
              dsimp only at post
              split at post
              · rename_i no
                exact fun σ2 H2 l2 R2 => post (σ2.set i none) H2 (by rw [List.length_set, l2, len]) (back S2 σ2 H2 no R2)
              · exact post.elim
            | rt w =>
              rw [e2] at post
              dsimp only at post
              split at post
              · rename_i no
                intro v2 H2 R2
                refine post v2 H2 (Rel.switch (cl := { cl with xa := some a, xd := d, xc := y.c }) rfl (fun c hc v w' e => ?_) R2)
                rcases List.mem_cons.mp hc with z | z
                · subst z; cases e; exact no
                · exact noT c z v w' e
              · exact post.elim
            | exc z S2 => rw [e2] at post; exact post.elim
            | bad => rw [e2] at post; exact post.elim
        · subst hb
          exact post σ' l' H' d rx
end
end Ly
end
section
set_option Elab.async false
set_option linter.all false
set_option maxRecDepth 100000
set_option maxHeartbeats 4000000
/-! MaB: defs called within an except suite. -/
namespace Ly
open PySem PySem.Spec PyProof.Rows L2

section
variable {cl : CL} {Wx : WX} {X : Cx} {T : List Cell}
theorem pe_hotD {k n : Nat} {m : List D → Out} {x : Str} {p pos : Pos} {e : Expr} {es : List Expr} {ml : SS → RD} {f : Addr} {fd : FuncData} {ps : List Str} (hm : X.mg x = some (.ref f)) (hk : PySem.W.keepIn X.K (.ref f) = true) (hb : Binds X.K fd ps [])
    (F : L2H.FnH X.prog X.w X.K X.mg X.base (L2N.CX X.prog X.w) k f fd ps (spD X.K cl n m)) (hr : L2H.RoomH k X.A) (hc : L2H.HotC X) (hg : Gl X x) (tk : L2N.Takes X Wx) (ha : PA X (e :: es) (tEd X.K cl Wx ml))
    (hdb : (x == ("__debug__" : Str)) = false) (he : starEach (e :: es) X.env = (false, eval e X.env) :: starEach es X.env) (hpl : (backTo pos (starEach es X.env)).any (·.1) = false) :
    PE X (.Call (.Name x p) (e :: es) [] pos) (tEv X.K cl Wx (mCall n m ml)) :=
  PE.imp (L2H.pe_callH (E := fun σ cls d H => Wx cls d σ H) F hr hc hg hm hk hb (fun σ => L2N.passAt tk σ) ha hdb he hpl) fun σ H Q q => ev_call q
theorem fun_hot {P : Program} {w : World} {K : PySem.W.Frag} {mg : Str → Option Value} {base : Heap} {x qual : Str} {st : Stmt} {f : Addr} {fd : FuncData} {N ps : List Str} {k : Nat} {sp : Sp} (F : Fun K x qual st f fd) (Sc : FnScope N ps (defScope st)) (len : ∀ vs H Q E, sp vs H Q E → vs.length = ps.length)
    (hb : ∀ (cdv : Value) (A : Around) (outer : List Env) (s : Shared) (H : Hp) (vs : List V) (Q : VK) (E : XK) (p : Addr × Obj), L2H.Hot1 A p → L2H.RoomH k (A.deeper (envOfC qual (defScope st) s.heap.objs.size f cdv)) → sp vs H Q E →
      ∃ t, PSs (L2H.cxH (L2N.CX P w) P w K mg base N qual (defScope st) f cdv A outer s H E p) (defBody st) t ∧ t { nx := fun _ H' => Q .non H', rt := Q } (L2.start N vs) H) : L2H.FnH P w K mg base (L2N.CX P w) (k + 1) f fd ps sp := by
  obtain ⟨oc, od, kV, doc, pm, an, cdv, ct, osl, rfl, lk, hcd⟩ := F.ex
  exact L2H.fn_ofH lk hcd Sc len (hb cdv)
/-- a def by its body, as it is called within a suite -/
theorem okH {P : Program} {w : World} {K : PySem.W.Frag} {mg : Str → Option Value} {base : Heap} {x qual : Str} {st : Stmt} {f : Addr} {fd : FuncData} {N ps : List Str} {k n : Nat} {m : List D → Out} {mb : SS → RS} (F : Fun K x qual st f fd) (Sc : FnScope N ps (defScope st)) (hn : ps.length = n)
    (hm : ∀ ds, ds.length = n → m ds ≠ .bad → outOf (mb (initS N.length ds)) = m ds)
    (hb : ∀ (cdv : Value) (A : Around) (outer : List Env) (s : Shared) (H : Hp) (E : XK) (p : Addr × Obj), L2H.Hot1 A p → L2H.RoomH k (A.deeper (envOfC qual (defScope st) s.heap.objs.size f cdv)) →
      PSs (L2H.cxH (L2N.CX P w) P w K mg base N qual (defScope st) f cdv A outer s H E p) (defBody st) (tSt K cl (fun cls d _ H => E cls d H) mb)) : L2H.FnH P w K mg base (L2N.CX P w) (k + 1) f fd ps (spD K cl n m) := by
  refine fun_hot F Sc (fun vs H Q E h => ?_) fun cdv A outer s H vs Q E p hp hr h => ⟨_, hb cdv A outer s H E p hp hr, body_ok ?_ hm h⟩
  · obtain ⟨ds, T, hv, _⟩ := h
    rw [hv, hn]
  · have := congrArg List.length Sc.pre
    rw [List.length_take] at this
    omega
end
end Ly
end
section
set_option Elab.async false
set_option linter.all false
set_option maxRecDepth 100000
set_option maxHeartbeats 4000000
/-! LyO: comprehensions over a list that stays this frame's own. -/
namespace Ly
open PySem PySem.Spec PyProof.Rows L2
section
variable {K : PySem.W.Frag} {cl : CL} {Wx : WX} {H : Hp}
theorem lc_run {σ : L2.St} {own is : List Nat} {g : Tgt} {cond : SS → RT} {elt : SS → RE} {Q : VK} (hsub : ∀ i ∈ is, i ∈ own) (lg : LenG g) (lc : ∀ S, LenT S.length (cond S)) (le : ∀ S, LenE S.length (elt S))
    {items : List D} {S1 : SS} {T : List Cell} {J : It} {H1 : Hp} {C : List Cell} (hl1 : S1.length = σ.length) (wk : Walk K cl J items C) (R1 : Rel K cl H1 (C ++ (σ.zip S1 ++ T))) {Da : Addr} (hD : H1 Da = none) {accF : List D} {SF : SS} (ec : loopC own g cond elt items (wipeS S1 own) [] = .ok accF SF)
    (post : ∀ H', Rel K cl H' ((some (V.ref Da), some (.l accF)) :: (C ++ (σ.zip (restS S1 own SF) ++ T))) → Q (.ref Da) H') :
    ∃ W : Nat → Nat → Hp → Prop, (∃ m, W 0 m (upd H1 Da (.lst []))) ∧ ∀ i m H, W i m H →
      (J.stop i H ∧ Q (.ref Da) H) ∨ (J.go i H ∧ ∃ Nx : Hp → Prop, (∀ H', Nx H' → ∃ m', m' < m ∧ W (i + 1) m' H') ∧ ∀ x H', J.yld i H x H' → tG K cl is g x (wipe σ own) H' fun σ2 H2 => wipe σ2 own = wipe σ own ∧ tEt K cl (fun _ _ _ _ => False) cond σ2 H2 fun b H3 =>
        if b = true then tEv K cl (fun _ _ _ _ => False) elt σ2 H3 fun y H4 => ∃ acc, H4 Da = some (.lst acc) ∧ acc.length < sizeLine ∧ Nx (upd H4 Da (.lst (acc ++ [y]))) else Nx H3) := by
  obtain ⟨R, r0, back⟩ := Rel.aside own hl1 (R1.perm pcomm)
  refine ⟨fun i m H' => i ≤ items.length ∧ m = items.length - i ∧ ∃ S' acc, S'.length = σ.length ∧ Rel K cl H' ((some (.ref Da), some (.l acc)) :: (C ++ ((wipe σ own).zip S' ++ (R ++ T)))) ∧ loopC own g cond elt (items.drop i) S' acc = .ok accF SF, ?_, ?_⟩
  · refine ⟨items.length, Nat.zero_le _, by simp, wipeS S1 own, [], by rw [wipeS_len]; exact hl1, ?_, ec⟩
    obtain ⟨G, O, r⟩ := r0
    have q := r.new (NewAt.l (xs := []) (vs := []) hD rfl)
    refine q.perm (List.Perm.cons _ ?_)
    exact (List.Perm.append_left _ pcomm).trans pcomm
  · rintro i m H' ⟨hi, rfl, S', acc, lS, R', el⟩
    by_cases hlt : i < items.length
    · have Rc : Rel K cl H' (C ++ ((some (V.ref Da), some (.l acc)) :: ((wipe σ own).zip S' ++ (R ++ T)))) := R'.perm List.perm_middle.symm
      obtain ⟨go, yl⟩ := wk.go i H' _ Rc hlt
      refine .inr ⟨go, fun H2 => i + 1 ≤ items.length ∧ ∃ S' acc, S'.length = σ.length ∧ Rel K cl H2 ((some (.ref Da), some (.l acc)) :: (C ++ ((wipe σ own).zip S' ++ (R ++ T)))) ∧ loopC own g cond elt (items.drop (i + 1)) S' acc = .ok accF SF,
        fun H2 ⟨a1, a2⟩ => ⟨items.length - (i + 1), by omega, a1, rfl, a2⟩, fun x H2 hy => ?_⟩
      obtain ⟨d, hd, R2⟩ := yl x H2 hy
      have hdrop : items.drop i = d :: items.drop (i + 1) := by
        rw [List.drop_eq_getElem_cons hlt]
        rw [List.getElem?_eq_getElem hlt] at hd
        rw [Option.some.inj hd]
      rw [hdrop] at el
      unfold loopC at el
      cases eg : g d S' with
      | none => simp only [eg] at el; cases el
      | some S2 =>
        simp only [eg] at el
        have l2 : S2.length = S'.length := lg _ _ _ eg
        refine ⟨S', C ++ ((some (V.ref Da), some (.l acc)) :: (R ++ T)), d, S2, by rw [lS, wipe_length], ?_, eg, fun σ2 l3 ag R3 => ⟨?_, S2, C ++ ((some (V.ref Da), some (.l acc)) :: (R ++ T)), by rw [l2, lS, l3, wipe_length], R3, ?_⟩⟩
        · refine R2.perm (List.Perm.cons _ ?_)
          exact (List.Perm.append_left C List.perm_middle.symm).trans pcomm
        · rw [ag own hsub]
          apply List.ext_getElem?
          intro j
          rw [wipe_get, wipe_get]
          by_cases hj : j ∈ own
          · rw [if_pos hj, if_pos hj]; cases σ[j]? <;> rfl
          · rw [if_neg hj, if_neg hj]
        · have hlc := lc S2
          have nxt : ∀ (S5 : SS) (acc5 : List D) (H5 : Hp), S5.length = σ.length → Rel K cl H5 (σ2.zip S5 ++ (C ++ ((some (V.ref Da), some (.l acc5)) :: (R ++ T)))) → loopC own g cond elt (items.drop (i + 1)) (wipeS S5 own) acc5 = .ok accF SF →
              i + 1 ≤ items.length ∧ ∃ S' acc, S'.length = σ.length ∧ Rel K cl H5 ((some (.ref Da), some (.l acc)) :: (C ++ ((wipe σ own).zip S' ++ (R ++ T)))) ∧ loopC own g cond elt (items.drop (i + 1)) S' acc = .ok accF SF := fun S5 acc5 H5 l5 R5 e5 => by
            refine ⟨hlt, wipeS S5 own, acc5, by rw [wipeS_len]; exact l5, ?_, e5⟩
            have q := R5.wiped own
            rw [ag own hsub] at q
            have ew : wipe (wipe σ own) own = wipe σ own := by
              apply List.ext_getElem?
              intro j
              rw [wipe_get, wipe_get]
              by_cases hj : j ∈ own
              · rw [if_pos hj, if_pos hj]; cases σ[j]? <;> rfl
              · rw [if_neg hj, if_neg hj]
            rw [ew] at q
            refine q.perm (pcomm.trans ?_)
            exact (List.Perm.append_left C List.perm_middle).trans List.perm_middle
          cases ecn : cond S2 with
          | bad => simp only [ecn] at el; cases el
          | exc x S3 => simp only [ecn] at el; cases el
          | ok b S3 =>
            rw [ecn] at hlc
            have hlc : S3.length = S2.length := hlc
            simp only [ecn] at el
            intro H3 R4
            cases b with
            | false => exact iteF (nxt S3 acc H3 (by rw [hlc, l2, lS]) R4 el)
            | true =>
              refine iteT ⟨S3, _, by rw [hlc, l2, lS, l3, wipe_length], R4, ?_⟩
              dsimp only at el
              have hle := le S3
              cases ee : elt S3 with
              | bad => rw [ee] at el; cases el
              | exc x S4 => rw [ee] at el; cases el
              | ok o S4 =>
                rw [ee] at el hle
                have hle : S4.length = S3.length := hle
                dsimp only at el
                intro y H4 E a R5
                cases ek : o.keep S4 with
                | none => rw [ek] at el; cases el
                | some pr =>
                  obtain ⟨w, S5⟩ := pr
                  rw [ek] at el
                  dsimp only at el
                  obtain ⟨r, hl5, hx⟩ := keep_ok a ek R5 (by rw [hle, hlc, l2, lS, l3, wipe_length])
                  have r := r.freeze hx
                  split at el
                  · rename_i hz
                    have pp : ((some y, some (W.d w.toD)) :: (σ2.zip S5 ++ (C ++ ((some (V.ref Da), some (W.l acc)) :: (R ++ T))))).Perm ((some (V.ref Da), some (W.l acc)) :: (some y, some (W.d w.toD)) :: (σ2.zip S5 ++ (C ++ (R ++ T)))) := by
                      refine List.Perm.trans (List.Perm.cons _ ?_) (List.Perm.swap _ _ _)
                      refine (List.Perm.append_left _ List.perm_middle).trans ?_
                      exact List.perm_middle
                    obtain ⟨b, vs, eb, gb, hlen, r2⟩ := Rel.grow (r.perm pp)
                    cases eb
                    refine ⟨vs, gb, by rw [hlen]; exact hz, nxt S5 _ _ (by rw [hl5, hle, hlc, l2, lS]) ?_ el⟩
                    refine r2.perm ?_
                    refine List.Perm.trans ?_ (List.Perm.append_left _ List.perm_middle.symm)
                    exact List.perm_middle.symm
                  · cases el
    · have ei : i = items.length := by omega
      subst ei
      rw [List.drop_length] at el
      unfold loopC at el
      cases el
      refine .inl ⟨wk.stop _ H' _ (R'.perm List.perm_middle.symm) (Nat.le_refl _), post H' ?_⟩
      have q : Rel K cl H' ((wipe σ own).zip SF ++ (R ++ ((some (V.ref Da), some (.l accF)) :: (C ++ T)))) := by
        refine R'.perm ?_
        refine (List.Perm.cons _ pcomm).trans ?_
        refine List.perm_middle.symm.trans (List.Perm.append_left _ ?_)
        refine (List.Perm.cons _ pcomm).trans List.perm_middle.symm
      have q2 := back SF _ H' lS q
      refine q2.perm ?_
      exact List.perm_middle.trans (List.Perm.cons _ pcomm)
/-- own: Some i: over the list of the slot i, which stays this frame's own and is out of sight meanwhile -/
def mLcG (own : List Nat) (v : Option Nat) (mi : SS → RIt) (g : Tgt) (cond : SS → RT) (elt : SS → RE) : SS → RE := fun S => match v with
  | none => mLc own mi g cond elt S
  | some i => match S[i]? with
    | some (some (.l items)) => if own.contains i = true then .bad else (match loopC own g cond elt items (wipeS (S.set i none) own) [] with
      | .ok acc S2 => .ok (.t (.l acc)) ((restS (S.set i none) own S2).set i (some (.l items)))
      | .bad => .bad)
    | _ => .bad
theorem walk_own {a : Addr} {xs : List D} : Walk K cl (Itl K a) xs [(some (V.ref a), some (.l xs))] where
  go := fun i H cs R hi => by
    obtain ⟨G, O, r⟩ := R
    have t := r.rep
    cases t with
    | @cons _ F _ O' h t =>
      cases h with
      | some h =>
        obtain ⟨b, vs, eb, f, hb, q⟩ := h
        cases eb
        obtain ⟨v, hv, rv⟩ := q.get (List.getElem?_eq_getElem hi)
        exact ⟨⟨vs, v, SqL.of hb, hv⟩, fun x H' ⟨e, y⟩ => ⟨xs[i], List.getElem?_eq_getElem hi, by
          have z := y vs (SqL.of hb)
          rw [hv] at z
          cases z
          subst e
          exact r.new (.d rv)⟩⟩
  stop := fun i H cs R hi => by
    obtain ⟨G, O, r⟩ := R
    have t := r.rep
    cases t with
    | @cons _ F _ O' h t =>
      cases h with
      | some h =>
        obtain ⟨b, vs, eb, f, hb, q⟩ := h
        cases eb
        exact ⟨vs, SqL.of hb, by rw [← q.length]; exact hi⟩
theorem ev_lcV {σ : L2.St} {own is : List Nat} {i : Nat} {mi : SS → RIt} {g : Tgt} {cond : SS → RT} {elt : SS → RE} {Q : VK} (hsub : ∀ i ∈ is, i ∈ own) (lg : LenG g) (lc : ∀ S, LenT S.length (cond S)) (le : ∀ S, LenE S.length (elt S))
    (h : tEv K cl Wx (mLcG own (some i) mi g cond elt) σ H Q) :
    tLc (iAny K (tVar i)) (tG K cl is g) (tEt K cl (fun _ _ _ _ => False) cond) (tEv K cl (fun _ _ _ _ => False) elt) own σ H Q := by
  obtain ⟨S, T, hl, hR, post⟩ := h
  unfold mLcG at post
  dsimp only at post
  split at post
  · rename_i items hs
    split at post
    · exact post.elim
    · cases ec : loopC own g cond elt items (wipeS (S.set i none) own) [] with
      | bad => rw [ec] at post; exact post.elim
      | ok accF SF =>
        rw [ec] at post
        dsimp only at post
        obtain ⟨v, hv⟩ := hR.slot hl hs
        have hi : i < σ.length := by
          rcases List.getElem?_eq_some_iff.mp hv with ⟨h, _⟩
          exact h
        have hz := zip_get hv hs
        have hzl : i < (σ.zip S).length := by rw [List.length_zip]; omega
        have es : σ = σ.set i (some v) := by
          apply List.ext_getElem?
          intro j
          by_cases hj : j = i
          · subst hj; rw [hv, List.getElem?_set_self hi]
          · rw [List.getElem?_set_ne (Ne.symm hj)]
        -- the slot's cell, apart
        have R1 : Rel K cl H ((some v, some (.l items)) :: (σ.zip (S.set i none) ++ T)) := by
          have q := (hR.perm (List.Perm.append_right T (perm_at hz))).blank (o := some v)
          have e := zip_set (l := σ) (k := S) i (some v) none
          rw [← es] at e
          rw [e]
          refine q.perm ?_
          refine (List.Perm.swap _ _ _).trans (List.Perm.cons _ ?_)
          exact (List.Perm.append_right T (perm_set hzl)).symm
        obtain ⟨G, O, r⟩ := id R1
        have t := r.rep
        cases t with
        | @cons _ F _ O' h t =>
          cases h with
          | some h =>
            obtain ⟨a, vs, rfl, f, ha, q⟩ := h
            refine ⟨.ref a, hv, .inl ⟨a, vs, rfl, SqL.of ha, fun Da hD => ?_⟩⟩
            have hl1 : (S.set i none).length = σ.length := by rw [List.length_set]; exact hl
            refine lc_run hsub lg lc le hl1 (walk_own (a := a) (xs := items)) R1 hD ec fun H' R' => ?_
            refine post (.ref Da) H' _ .t ?_
            -- the cell back in its slot
            have hlen : (restS (S.set i none) own SF).length = σ.length ∨ (restS (S.set i none) own SF).length ≠ σ.length := Classical.em _
            have R2 : Rel K cl H' ((some (V.ref a), some (.l items)) :: ((some (V.ref Da), some (.l accF)) :: (σ.zip (restS (S.set i none) own SF) ++ T))) := R'.perm (List.Perm.swap _ _ _)
            generalize restS (S.set i none) own SF = S2 at R2 ⊢
            have e := zip_set (l := σ) (k := S2) i (some (V.ref a)) (some (W.l items))
            rw [← es] at e
            show Rel K cl H' ([(some (V.ref Da), some (.l accF))] ++ (σ.zip (S2.set i (some (W.l items))) ++ T))
            rw [e]
            by_cases h2 : i < (σ.zip S2).length
            · have R3 := R2.perm (List.Perm.cons _ (List.Perm.cons _ (List.Perm.append_right T (perm_at (List.getElem?_eq_getElem h2)))))
              have R4 := (R3.perm ((List.Perm.cons _ (List.Perm.swap _ _ _)).trans (List.Perm.swap _ _ _))).tail
              refine R4.perm ?_
              refine (List.Perm.swap _ _ _).trans (List.Perm.cons _ ?_)
              exact (List.Perm.append_right T (perm_set h2)).symm
            · rw [List.set_eq_of_length_le (by omega)]
              exact R2.tail
  · exact post.elim
theorem mLcG_len {own : List Nat} {v : Option Nat} {mi : SS → RIt} {g : Tgt} {cond : SS → RT} {elt : SS → RE} (li : ∀ S, LenIt S.length (mi S)) (lg : LenG g) (lc : ∀ S, LenT S.length (cond S)) (le : ∀ S, LenE S.length (elt S)) (S : SS) : LenE S.length (mLcG own v mi g cond elt S) := by
  unfold mLcG
  cases v with
  | none => exact mLc_len li lg lc le S
  | some i =>
    dsimp only
    split
    · rename_i items hs
      split
      · exact trivial
      · have h := mLc_len (own := own) (mi := fun S => .ok items S) (fun S => rfl) lg lc le (S.set i none)
        unfold mLc at h
        dsimp only at h
        cases e : loopC own g cond elt items (wipeS (S.set i none) own) [] with
        | bad => trivial
        | ok acc S2 =>
          rw [e] at h
          dsimp only at h ⊢
          have h : (restS (S.set i none) own S2).length = (S.set i none).length := h
          rw [List.length_set] at h
          exact (List.length_set ..).trans h
    · exact trivial
end
end Ly
end
section
set_option Elab.async false
set_option linter.all false
set_option maxRecDepth 100000
set_option maxHeartbeats 4000000
/-! MaC: the core language of expressions: its reading. -/
namespace Ly
open PySem PySem.Spec PyProof.Rows L2

/-- the static side of a text -/
structure Sig where
  fns : List (Nat × Str × Nat) := []
  hots : List (Nat × Str × Nat) := []
  gls : List (Nat × Str) := []
  mts : List (Nat × Nat × Str × Nat) := []
  cnm : List Str := []
  inst : List Nat := []
  fls : List (Nat × Str) := []
  nws : List (Nat × Nat × Nat) := []
  nwk : List (Nat × Nat × Str) := []
  eqs : List (Nat × Nat) := []
  lens : List (Nat × Nat) := []
  its : List (Nat × Str) := []
  xcs : List (Nat × Str) := []
  sub : List (Nat × Nat × Bool) := []
structure Cfg where
  N : List Str
  sc : Scope
  own : Str → Bool
  calm : Bool
  hot : Bool
  sui : Bool
/-- what the text's names mean -/
structure Mean where
  fn : Nat → List D → Out
  hot : Nat → List D → Out
  gl : Nat → D
  mt : Nat → List D → Out
  nw : Nat → List D → Out
  fuel : Nat → SS → Nat
/-- the classes' kinship as the table tells it -/
def subT (l : List (Nat × Nat × Bool)) (c j : Nat) : Option Bool := (l.find? fun t => t.1 == c && t.2.1 == j).map (·.2.2)
inductive C where
  | dead
  | var (i : Nat) (x : Str)
  | non | bl (b : Bool) | int (i : Int) | str (s : Str)
  | glb (j : Nat) (x : Str)
  | bin (o : BO) (a b : C)
  | cmp (o : CO) (a b : C)
  | chain (o o' : CO) (a b c : C)
  | and (a b : C) | or (a b : C) | not (a : C)
  | ite (t a b : C)
  | bi (o : BI) (l : C)
  | bm (o : BM) (a l : C)
  | idx (a b : C) | sl (a lo hi : C) | no | so (a : C)
  | tup (l : C) | lst (l : C) | dic0
  | call (j : Nat) (x : Str) (n : Nat) (l : C)
  | hot (j : Nat) (x : Str) (n : Nat) (l : C)
  | meth (j : Nat) (c : Nat) (x : Str) (n : Nat) (a l : C)
  | new (j : Nat) (c : Nat) (x : Str) (n : Nat) (l : C)
  | newk (j : Nat) (c : Nat) (x y : Str) (a : C)
  | ceq (c j : Nat) (neg : Bool) (a b : C)
  | olen (c j : Nat) (a : C)
  | fld (c : Nat) (f : Str) (a : C)
  | std (i : Nat) (x : Str) (a b : C)
  | items (a : C)
  | js (l : C) | fm (a : C)
  | lc (own : List (Str × Nat)) (tg : Tg) (it cond elt : C) | yes
  | isi (t : IT) (a : C)
  | isE (i : Nat) (x : Str) (c : Nat) | eF (i : Nat) (x f : Str)
  | itv (a : C) | rng1 (l : C) | rng2 (l : C) | num (a b : C) | oit (c : Nat) (g : Str) (a : C)
  | nil | cons (a b : C)
  | itw (i : Nat) (x : Str)
/-- the list of a slot, walked over where it stands -/
def C.vi : C → Option Nat
  | .itw i _ => some i
  | _ => none
structure Sem where
  e : SS → RE := fun _ => .bad
  t : SS → RT := fun _ => .bad
  l : SS → RL := fun _ => .bad
  d : SS → RD := fun _ => .bad
  i : SS → RI := fun _ => .bad
  it : SS → RIt := fun _ => .bad
  j : List (SS → RE) := []
abbrev vE (m : SS → RE) : Sem := { e := m, t := mTruth m trD }
abbrev bE (m : SS → RE) : Sem := { e := m, t := mTruth m isBl }
def ev (sg : Sig) (Γ : Mean) : C → Sem
  | .dead => {}
  | .var i _ => vE (mVar i)
  | .non => vE (mCst .non)
  | .bl b => vE (mCst (.bl b))
  | .int i => vE (mCst (.int i))
  | .str s => vE (mCst (.str s))
  | .glb j _ => vE (mCst (Γ.gl j))
  | .bin o a b => vE (mOp2 (sB o) (ev sg Γ a).e (ev sg Γ b).e)
  | .cmp o a b => bE (mOp2 (sCW o) (ev sg Γ a).e (ev sg Γ b).e)
  | .chain o o' a b c => bE (mChain o o' (ev sg Γ a).e (ev sg Γ b).e (ev sg Γ c).e)
  | .and a b => { e := mAnd (ev sg Γ a).e (ev sg Γ b).e, t := tAndM (ev sg Γ a).t (ev sg Γ b).t }
  | .or a b => { e := mOr (ev sg Γ a).e (ev sg Γ b).e, t := tOrM (ev sg Γ a).t (ev sg Γ b).t }
  | .not a => { e := mNot (ev sg Γ a).e, t := tNotM (ev sg Γ a).t }
  | .ite t a b => { e := mIte (ev sg Γ t).t (ev sg Γ a).e (ev sg Γ b).e }
  | .bi o l => vE (mOpL (sBI o) (ev sg Γ l).l)
  | .bm o a l => vE (mBm (sBM o) (ev sg Γ a).e (ev sg Γ l).l)
  | .idx a b => vE (mOp2 sIx (ev sg Γ a).e (ev sg Γ b).e)
  | .sl a lo hi => vE (mSl (ev sg Γ a).e (ev sg Γ lo).i (ev sg Γ hi).i)
  | .no => { i := mNoPart }
  | .so a => { i := mPart (ev sg Γ a).e }
  | .tup l => vE (mOpD sTup (ev sg Γ l).d)
  | .lst l => vE (mOpD sLst (ev sg Γ l).d)
  | .dic0 => vE mDic0
  | .call j _ n l => vE (mCall n (Γ.fn j) (ev sg Γ l).d)
  | .hot j _ n l => vE (mCall n (Γ.hot j) (ev sg Γ l).d)
  | .meth j c x n a l => vE (mMeth c x n (Γ.mt j) (ev sg Γ a).e (ev sg Γ l).d)
  | .new j c _ n l => vE (mNew c n (Γ.nw j) (ev sg Γ l).d)
  | .newk j c _ _ a => vE (mNew c 1 (Γ.nw j) (dCons (ev sg Γ a).e dNil))
  | .ceq c j neg a b => bE (mCeq c neg (Γ.mt j) (ev sg Γ a).e (ev sg Γ b).e)
  | .olen c j a => vE (mOlen c (Γ.mt j) (ev sg Γ a).e)
  | .fld c f a => vE (mOp1 (sFldD c f) (ev sg Γ a).e)
  | .std i _ a b => vE (sStd i (ev sg Γ a).e (ev sg Γ b).e)
  | .items a => vE (mItems (ev sg Γ a).e)
  | .js l => vE (mJs (ev sg Γ l).j Str.empty)
  | .fm a => { e := mOp1 sFmt (ev sg Γ a).e }
  | .lc own tg it cond elt => vE (mLcG (own.map (·.2)) it.vi (ev sg Γ it).it tg.g (ev sg Γ cond).t (ev sg Γ elt).e)
  | .yes => { t := tTrue }
  | .isi t a => vE (mOp1 (sIsi t) (ev sg Γ a).e)
  | .isE i _ c => vE (mIsE i fun c' => subT sg.sub c' c)
  | .eF i _ f => vE (mEF i f fun c => sg.xcs.contains (c, f))
  | .itv a => { it := mIter (ev sg Γ a).e }
  | .itw i _ => { it := mIter (mVar i) }
  | .rng1 l => { it := mRng1 (ev sg Γ l).l }
  | .rng2 l => { it := mRng2 (ev sg Γ l).l }
  | .num a b => { it := mNum (ev sg Γ a).e (ev sg Γ b).e }
  | .oit c g a => { it := mOit c g (ev sg Γ a).e }
  | .nil => { l := mNil, d := dNil }
  | .cons a b => { l := mCons (ev sg Γ a).e (ev sg Γ b).l, d := dCons (ev sg Γ a).e (ev sg Γ b).d, j := (ev sg Γ a).e :: (ev sg Γ b).j }
structure LenAll (s : Sem) : Prop where
  e : ∀ S, LenE S.length (s.e S)
  t : ∀ S, LenT S.length (s.t S)
  l : ∀ S, LenL S.length (s.l S)
  d : ∀ S, LenD S.length (s.d S)
  i : ∀ S, LenI S.length (s.i S)
  it : ∀ S, LenIt S.length (s.it S)
  j : ∀ m ∈ s.j, ∀ S, LenE S.length (m S)
theorem LenAll.none : LenAll {} := ⟨fun _ => trivial, fun _ => trivial, fun _ => trivial, fun _ => trivial, fun _ => trivial, fun _ => trivial, fun _ h => by cases h⟩
theorem LenAll.eT {m : SS → RE} {t : SS → RT} (h : ∀ S, LenE S.length (m S)) (k : ∀ S, LenT S.length (t S)) : LenAll { e := m, t := t } := { LenAll.none with e := h, t := k }
theorem LenAll.vE {m : SS → RE} (h : ∀ S, LenE S.length (m S)) : LenAll (vE m) := .eT h (mTruth_len h)
theorem LenAll.bE {m : SS → RE} (h : ∀ S, LenE S.length (m S)) : LenAll (bE m) := .eT h (mTruth_len h)
theorem mDic0_len (S : SS) : LenE S.length (mDic0 S) := rfl
theorem ev_len (sg : Sig) (Γ : Mean) (c : C) : LenAll (ev sg Γ c) := by
  induction c with
  | dead => exact .none
  | var i x => exact .vE (mVar_len i)
  | non => exact .vE (mCst_len _)
  | bl b => exact .vE (mCst_len _)
  | int b => exact .vE (mCst_len _)
  | str b => exact .vE (mCst_len _)
  | glb j x => exact .vE (mCst_len _)
  | bin o a b iha ihb => exact .vE (mOp2_len iha.e ihb.e)
  | cmp o a b iha ihb => exact .bE (mOp2_len iha.e ihb.e)
  | chain o o' a b c iha ihb ihc => exact .bE (mChain_len iha.e ihb.e ihc.e)
  | and a b iha ihb => exact .eT (mAnd_len iha.e ihb.e) (tAndM_len iha.t ihb.t)
  | or a b iha ihb => exact .eT (mOr_len iha.e ihb.e) (tOrM_len iha.t ihb.t)
  | not a iha => exact .eT (mNot_len iha.e) (tNotM_len iha.t)
  | ite t a b iht iha ihb => exact .eT (mIte_len iht.t iha.e ihb.e) fun _ => trivial
  | bi o l ih => exact .vE (mOpL_len ih.l)
  | bm o a l iha ih => exact .vE (mBm_len iha.e ih.l)
  | idx a b iha ihb => exact .vE (mOp2_len iha.e ihb.e)
  | sl a lo hi iha ih1 ih2 => exact .vE (mSl_len iha.e ih1.i ih2.i)
  | no => exact { LenAll.none with i := fun _ => rfl }
  | so a iha => exact { LenAll.none with i := mPart_len iha.e }
  | tup l ih => exact .vE (mOpD_len ih.d)
  | lst l ih => exact .vE (mOpD_len ih.d)
  | dic0 => exact .vE mDic0_len
  | call j x n l ih => exact .vE (mCall_len ih.d)
  | hot j x n l ih => exact .vE (mCall_len ih.d)
  | meth j c x n a l iha ih => exact .vE (mMeth_len iha.e ih.d)
  | new j c x n l ih => exact .vE (mNew_len ih.d)
  | newk j c x y a iha => exact .vE (mNew_len (dCons_len iha.e dNil_len))
  | ceq c j neg a b iha ihb => exact .bE (mCeq_len iha.e ihb.e)
  | olen c j a iha => exact .vE (mOlen_len iha.e)
  | fld c f a iha => exact .vE (mOp1_len iha.e)
  | std i x a b iha ihb => exact .vE (sStd_len iha.e ihb.e)
  | items a iha => exact .vE (mItems_len iha.e)
  | js l ih => exact .vE (mJs_len _ ih.j _)
  | fm a iha => exact .eT (mOp1_len iha.e) fun _ => trivial
  | lc own tg it cond elt ih1 ih2 ih3 => exact .vE (mLcG_len ih1.it tg.len ih2.t ih3.e)
  | yes => exact { LenAll.none with t := fun _ => rfl }
  | isi t a iha => exact .vE (mOp1_len iha.e)
  | isE i x c => exact .vE (mIsE_len i _)
  | eF i x f => exact .vE (mEF_len i f _)
  | itv a iha => exact { LenAll.none with it := mIter_len iha.e }
  | itw i x => exact { LenAll.none with it := mIter_len (mVar_len i) }
  | rng1 l ih => exact { LenAll.none with it := mRng1_len ih.l }
  | rng2 l ih => exact { LenAll.none with it := mRng2_len ih.l }
  | num a b iha ihb => exact { LenAll.none with it := mNum_len iha.e ihb.e }
  | oit c g a iha => exact { LenAll.none with it := mOit_len iha.e }
  | nil => exact { LenAll.none with l := mNil_len, d := dNil_len }
  | cons a b iha ihb => exact { LenAll.none with l := mCons_len iha.e ihb.l, d := dCons_len iha.e ihb.d, j := fun m hm => (List.mem_cons.mp hm).elim (fun z => z ▸ iha.e) (ihb.j m) }
end Ly
end
section
set_option Elab.async false
set_option linter.all false
set_option maxRecDepth 100000
set_option maxHeartbeats 4000000
/-! MaD: the core's check against the text. -/
namespace Ly
open PySem PySem.Spec PyProof.Rows L2

def nmB (cf : Cfg) (i : Nat) (x : Str) : Bool := decide (cf.N[i]? = some x) && (match cf.sc.names.lookup x with | some .local => true | some .cell => cf.own x | _ => false)
def namesB (cf : Cfg) : List (Nat × Str) → List Expr → Bool
  | [], [] => true
  | (i, x) :: is, .Name y _ :: es => decide (y = x) && nmB cf i x && namesB cf is es
  | _, _ => false
def tgB (cf : Cfg) : Tg → Expr → Bool
  | .nm i x, .Name y _ => decide (y = x) && nmB cf i x
  | .tp is, .Tuple es _ _ => cf.calm && namesB cf is es
  | _, _ => false
def varB (cf : Cfg) (i : Nat) (x y : Str) : Bool := decide (y = x) && (decide (cf.N[i]? = some x) && (visB cf.sc x && plainB x))
def Cfg.blk (cf : Cfg) (scope : Scope) : Cfg := { cf with sc := relS scope cf.sc, own := fun x => scope.names.lookup x == some .cell, hot := false, sui := false }
structure Chk where
  e : Cfg → Expr → Bool := fun _ _ => false
  t : Cfg → Expr → Bool := fun _ _ => false
  l : Cfg → List Expr → Bool := fun _ _ => false
  i : Cfg → Option Expr → Bool := fun _ _ => false
  it : Cfg → Expr → Expr → Bool := fun _ _ _ => false
  j : Cfg → List Expr → Bool := fun _ _ => false
abbrev vC (f : Cfg → Expr → Bool) : Chk := { e := f, t := fun cf e => plainTB e && f cf e }
abbrev bC (f : Cfg → Expr → Bool) : Chk := { e := f, t := f }
def C.isNil : C → Bool | .nil => true | _ => false
def C.isYes : C → Bool | .yes => true | _ => false
def isTupB : Expr → Bool | .Tuple _ _ _ => true | _ => false
def twoB : List Expr → Bool | _ :: _ :: _ => true | _ => false
def chk (sg : Sig) : C → Chk
  | .dead => { e := fun _ _ => true, t := fun _ _ => true, l := fun _ _ => true, i := fun _ _ => true, it := fun _ _ _ => true }
  | .var i x => vC fun cf e => match e with
    | .Name y _ => varB cf i x y
    | _ => false
  | .non => vC fun _ e => match e with | .Constant .none _ _ => true | _ => false
  | .bl b => vC fun _ e => match e with | .Constant (.bool c) _ _ => c == b | _ => false
  | .int i => vC fun _ e => match e with | .Constant (.int j) _ _ => decide (j = i) | .UnaryOp .USub (.Constant (.int j) _ _) _ => decide (-j = i) | _ => false
  | .str s => vC fun _ e => match e with | .Constant (.str z) _ _ => decide (z = s) | _ => false
  | .glb j x => vC fun cf e => match e with
    | .Name y _ => decide (y = x) && (sg.gls.contains (j, x) && (glB cf.sc x && plainB x))
    | _ => false
  | .bin o a b => vC fun cf e => match e with
    | .BinOp l p r _ => decide (p = o.py) && ((chk sg a).e cf l && (chk sg b).e cf r)
    | _ => false
  | .cmp o a b => bC fun cf e => match e with
    | .Compare l [p] [r] _ => decide (p = o.py) && (noSetB r && ((chk sg a).e cf l && (chk sg b).e cf r))
    | _ => false
  | .chain o o' a b c => bC fun cf e => match e with
    | .Compare l [p, p'] [r, r'] _ => decide (p = o.py) && (decide (p' = o'.py) && (noSetB r' && ((chk sg a).e cf l && ((chk sg b).e cf r && (chk sg c).e cf r'))))
    | _ => false
  | .and a b => {
      e := fun cf e => match e with
        | .BoolOp .And (x :: y :: r) pos => (chk sg a).e cf x && (match r with | [] => (chk sg b).e cf y | z :: r => (chk sg b).e cf (.BoolOp .And (y :: z :: r) pos))
        | _ => false
      t := fun cf e => match e with
        | .BoolOp .And (x :: y :: r) pos => (chk sg a).t cf x && (match r with | [] => (chk sg b).t cf y | z :: r => (chk sg b).t cf (.BoolOp .And (y :: z :: r) pos))
        | _ => false }
  | .or a b => {
      e := fun cf e => match e with
        | .BoolOp .Or (x :: y :: r) pos => (chk sg a).e cf x && (match r with | [] => (chk sg b).e cf y | z :: r => (chk sg b).e cf (.BoolOp .Or (y :: z :: r) pos))
        | _ => false
      t := fun cf e => match e with
        | .BoolOp .Or (x :: y :: r) pos => (chk sg a).t cf x && (match r with | [] => (chk sg b).t cf y | z :: r => (chk sg b).t cf (.BoolOp .Or (y :: z :: r) pos))
        | _ => false }
  | .not a => {
      e := fun cf e => match e with | .UnaryOp .Not x _ => (chk sg a).e cf x | _ => false
      t := fun cf e => match e with | .UnaryOp .Not x _ => (chk sg a).t cf x | _ => false }
  | .ite t a b => { e := fun cf e => match e with | .IfExp c x y _ => (chk sg t).t cf c && ((chk sg a).e cf x && (chk sg b).e cf y) | _ => false }
  | .bi o l => vC fun cf e => match e with
    | .Call (.Name f _) (x :: xs) [] _ => decide (f = o.nm) && (cf.calm && (glB cf.sc f && ((x :: xs).all noStarB && (chk sg l).l cf (x :: xs))))
    | _ => false
  | .bm o a l => vC fun cf e => match e with
    | .Call (.Attribute p f apos) xs [] cpos => decide (f = o.nm) && (noSuperB p && ((apos.endLine == cpos.line) && (decide (xs.length < 30) && (xs.all noStarB && ((chk sg a).e cf p &&
        (match xs with | [] => decide (o = .upper) && l.isNil | x :: xs => decide (o ≠ .upper) && (chk sg l).l cf (x :: xs)))))))
    | _ => false
  | .idx a b => vC fun cf e => match e with
    | .Subscript x y _ => noSliceB y && ((chk sg a).e cf x && (chk sg b).e cf y)
    | _ => false
  | .sl a lo hi => vC fun cf e => match e with
    | .Subscript x (.Slice l u none _) _ => (chk sg a).e cf x && ((chk sg lo).i cf l && (chk sg hi).i cf u)
    | _ => false
  | .no => { i := fun _ o => match o with | none => true | _ => false }
  | .so a => { i := fun cf o => match o with | some x => (chk sg a).e cf x | _ => false }
  | .tup l => vC fun cf e => match e with | .Tuple xs _ _ => (chk sg l).l cf xs | _ => false
  | .lst l => vC fun cf e => match e with | .List xs _ => (chk sg l).l cf xs | _ => false
  | .dic0 => vC fun cf e => match e with | .Dict [] [] _ => true | _ => false
  | .call j x n l => vC fun cf e => match e with
    | .Call (.Name f _) xs [] _ => decide (f = x) && (sg.fns.contains (j, x, n) && (cf.calm && (glB cf.sc x && (plainB x && (xs.all noStarB && (match xs with | [] => decide (n = 0) && l.isNil | x :: xs => (chk sg l).l cf (x :: xs)))))))
    | _ => false
  | .hot j x n l => vC fun cf e => match e with
    | .Call (.Name f _) (y :: ys) [] _ => decide (f = x) && (sg.hots.contains (j, x, n) && (cf.hot && (glB cf.sc x && (plainB x && ((y :: ys).all noStarB && (chk sg l).l cf (y :: ys))))))
    | _ => false
  | .meth j c x n a l => vC fun cf e => match e with
    | .Call (.Attribute p f apos) xs [] cpos => decide (f = x) && (sg.mts.contains (j, c, x, n) && (cf.calm && (noSuperB p && ((apos.endLine == cpos.line) && (decide (xs.length < 30) && (xs.all noStarB && ((chk sg a).e cf p &&
        (match xs with | [] => l.isNil | x :: xs => (chk sg l).l cf (x :: xs)))))))))
    | _ => false
  | .new j c x n l => vC fun cf e => match e with
    | .Call (.Name f _) (y :: ys) [] _ => decide (f = x) && (decide (sg.cnm[c]? = some x) && (sg.nws.contains (j, c, n) && (cf.calm && (glB cf.sc x && (plainB x && ((y :: ys).all noStarB && (chk sg l).l cf (y :: ys)))))))
    | _ => false
  | .newk j c x y a => vC fun cf e => match e with
    | .Call (.Name f _) [] [⟨some z, e0, _⟩] _ => decide (f = x) && (decide (z = y) && (decide (sg.cnm[c]? = some x) && (sg.nws.contains (j, c, 1) && (sg.nwk.contains (j, c, y) && (cf.calm && (glB cf.sc x && (plainB x && (chk sg a).e cf e0)))))))
    | _ => false
  | .ceq c j neg a b => bC fun cf e => match e with
    | .Compare l [p] [r] _ => decide (p = (if neg then .NotEq else .Eq)) && (noSetB r && (sg.eqs.contains (c, j) && (cf.calm && ((chk sg a).e cf l && (chk sg b).e cf r))))
    | _ => false
  | .olen c j a => vC fun cf e => match e with
    | .Call (.Name f _) [x] [] _ => decide (f = "len") && (sg.lens.contains (c, j) && (cf.calm && (glB cf.sc f && (noStarB x && (chk sg a).e cf x))))
    | _ => false
  | .fld c f a => vC fun cf e => match e with
    | .Attribute p g _ => decide (g = f) && (sg.fls.contains (c, f) && (noSuperB p && (chk sg a).e cf p))
    | _ => false
  | .std i x a b => vC fun cf e => match e with
    | .Call (.Attribute (.Name y _) f apos) [u, v] [] cpos => decide (f = "setdefault") && (varB cf i x y && ((apos.endLine == cpos.line) && (noStarB u && (noStarB v && ((chk sg a).e cf u && (chk sg b).e cf v)))))
    | _ => false
  | .items a => vC fun cf e => match e with
    | .Call (.Name f _) [.Call (.Attribute p g apos) [] [] cpos] [] _ => decide (f = "list") && (decide (g = "items") && (cf.calm && (glB cf.sc f && (noSuperB p && ((apos.endLine == cpos.line) && (chk sg a).e cf p)))))
    | _ => false
  | .js l => vC fun cf e => match e with | .JoinedStr xs _ => twoB xs && (chk sg l).j cf xs | _ => false
  | .fm a => { e := fun cf e => match e with | .FormattedValue x (-1) none _ => (chk sg a).e cf x | _ => false }
  | .lc own tg it cond elt => vC fun cf e => match e with
    | .ListComp e0 [⟨t0, i0, ifs, as⟩] scope _ => (as == 0) && (cf.calm && (noSetB i0 && (blkC cf.N cf.sc scope own && (tgB (cf.blk scope) tg t0 && (tg.is.all (fun i => (own.map (·.2)).contains i) && ((chk sg it).it cf t0 i0 &&
        ((match ifs with | [] => cond.isYes | [c] => (chk sg cond).t (cf.blk scope) c | _ => false) && (chk sg elt).e (cf.blk scope) e0)))))))
    | _ => false
  | .yes => {}
  | .isi t a => vC fun cf e => match e with
    | .Call (.Name f _) [x, .Name y _] [] _ => decide (f = "isinstance") && (glB cf.sc f && (glB cf.sc y && (noStarB x && (decide (t.nm sg.cnm = some y) && ((match t with | .own c => sg.inst.contains c | _ => true) && ((chk sg a).e cf x && plainB y))))))
    | _ => false
  | .isE i x c => vC fun cf e => match e with
    | .Call (.Name f _) [.Name z _, .Name y _] [] _ => decide (f = "isinstance") && (cf.sui && (glB cf.sc f && (glB cf.sc y && (decide (sg.cnm[c]? = some y) && (varB cf i x z && plainB y)))))
    | _ => false
  | .eF i x f => vC fun cf e => match e with
    | .Attribute (.Name z _) g _ => decide (g = f) && (cf.sui && varB cf i x z)
    | _ => false
  | .itv a => { it := fun cf _ e => (chk sg a).e cf e }
  | .itw i x => { it := fun cf _ e => match e with | .Name y _ => varB cf i x y | _ => false }
  | .rng1 l => { it := fun cf _ e => match e with
    | .Call (.Name f _) [x] [] _ => decide (f = "range") && (glB cf.sc f && (noStarB x && (chk sg l).l cf [x]))
    | _ => false }
  | .rng2 l => { it := fun cf _ e => match e with
    | .Call (.Name f _) [x, y] [] _ => decide (f = "range") && (glB cf.sc f && (noStarB x && (noStarB y && (chk sg l).l cf [x, y])))
    | _ => false }
  | .num a b => { it := fun cf tg e => match e with
    | .Call (.Name f _) [x] [⟨some z, k, _⟩] _ => decide (f = "enumerate") && (decide (z = "start") && (isTupB tg && (glB cf.sc f && (noStarB x && ((chk sg a).e cf x && (chk sg b).e cf k)))))
    | _ => false }
  | .oit c g a => { it := fun cf _ e => sg.its.contains (c, g) && (cf.calm && (chk sg a).e cf e) }
  | .nil => { l := fun _ es => es.isEmpty, j := fun _ es => es.isEmpty }
  | .cons a b => {
      l := fun cf es => match es with | x :: xs => noStarB x && ((chk sg a).e cf x && (chk sg b).l cf xs) | [] => false
      j := fun cf es => match es with | x :: xs => (chk sg a).e cf x && (chk sg b).j cf xs | [] => false }
end Ly
end
section
set_option Elab.async false
set_option linter.all false
set_option maxRecDepth 100000
set_option maxHeartbeats 4000000
/-! MaE: the core's soundness, expressions. -/
namespace Ly
open PySem PySem.Spec PyProof.Rows L2

/-- what is known of the text's names, at the depth k -/
structure Facts (sg : Sig) (Γ : Mean) (f : Nat → Addr) (k : Nat) (P : Program) (w : World) (K : PySem.W.Frag) (mg : Str → Option Value) (base : Heap) : Prop where
  blt : ∀ x ∈ bltNs, mg x = none
  fn : ∀ j x n, (j, x, n) ∈ sg.fns → ∃ g fd ps, mg x = some (.ref g) ∧ PySem.W.keepIn K (.ref g) = true ∧ Binds K fd ps [] ∧ FnOk P w K mg base (L2N.CX P w) k g fd ps (spD K ⟨f, none, none, 0⟩ n (Γ.fn j))
  hot : ∀ j x n, (j, x, n) ∈ sg.hots → ∃ g fd ps, mg x = some (.ref g) ∧ PySem.W.keepIn K (.ref g) = true ∧ Binds K fd ps [] ∧ ∀ xa xd xc, L2H.FnH P w K mg base (L2N.CX P w) k g fd ps (spD K ⟨f, xa, xd, xc⟩ n (Γ.hot j))
  gl : ∀ j x, (j, x) ∈ sg.gls → ∃ u v, mg x = some u ∧ RelV v u ∧ ∀ G, Rep K f G (Γ.gl j) v
  mt : ∀ j c x n, (j, c, x, n) ∈ sg.mts → Cls K (f c) ∧ ∃ g fd ps, Meth K (f c) x g ∧ Binds K fd ps [] ∧ FnOk P w K mg base (L2N.CX P w) k g fd ps (spD K ⟨f, none, none, 0⟩ n (Γ.mt j))
  cnm : ∀ c x, sg.cnm[c]? = some x → mg x = some (.ref (f c))
  inst : ∀ c x, c ∈ sg.inst → sg.cnm[c]? = some x → ClsF K mg (f c) x
  fls : ∀ c x, (c, x) ∈ sg.fls → Cls K (f c) ∧ NoAttr K (f c) x
  nw : ∀ j c n, (j, c, n) ∈ sg.nws → ∃ g fd ps, Mk K (f c) g ∧ Binds K fd ps [] ∧ FnOk P w K mg base (L2N.CX P w) k g fd ps (spI K ⟨f, none, none, 0⟩ c n (Γ.nw j)) ∧
    ∀ y, (j, c, y) ∈ sg.nwk → ∀ (s2 : Shared) (u0 u : Value), K.In s2.heap → BindsTo s2 fd ⟨[u0], [(y, u)]⟩ (ps.zip [u0, u])
  eqs : ∀ c j, (c, j) ∈ sg.eqs → ∃ g fd ps, EqF K (f c) g ∧ Binds K fd ps [] ∧ FnOk P w K mg base (L2N.CX P w) k g fd ps (spD K ⟨f, none, none, 0⟩ 2 (Γ.mt j))
  lens : ∀ c j, (c, j) ∈ sg.lens → ∃ g fd ps, LenF K (f c) g ∧ Binds K fd ps [] ∧ FnOk P w K mg base (L2N.CX P w) k g fd ps (spD K ⟨f, none, none, 0⟩ 1 (Γ.mt j))
  its : ∀ c x, (c, x) ∈ sg.its → ∃ g fd ps, IterF K (f c) g ∧ Binds K fd ps [] ∧ FnAt P w K mg base k g fd ps (spIt K (f c) x)
  xcs : ∀ c x, (c, x) ∈ sg.xcs → XfC K (f c) ∧ PySem.W.findIn K (.ref (f c)) x = some none ∧ OexC K (f c) ∧ ∃ g fd ps, PySem.W.findIn K (.ref (f c)) "__init__" = some (some (.ref g)) ∧ PySem.W.typeIn K (.ref g) = some (.type "function") ∧ Binds K fd ps [] ∧
    FnOk P w K mg base (L2N.CX P w) k g fd ps (spX (f c) x okMsg)
  sub : ∀ c j b, subT sg.sub c j = some b → ExcC K (f c) ∧ PySem.W.kitOne K (.ref (f c)) (.ref (f j)) = some b ∧ PySem.W.exmOne K (.ref (f c)) (.ref (f j)) = some b
structure Good (sg : Sig) (Γ : Mean) (f : Nat → Addr) (k : Nat) (cf : Cfg) (cl : CL) (X : Cx) (Wx : WX) : Prop where
  fa : Facts sg Γ f k X.prog X.w X.K X.mg X.base
  cls : cl.f = f
  hN : X.N = cf.N
  nd : cf.N.Nodup
  sc : X.env.scope = cf.sc
  own : ∀ x, cf.own x = true → X.fn x = true
  calm : cf.calm = true → X.calm = true ∧ Room (k + 1) X.A ∧ cl = ⟨f, none, none, 0⟩
  hot : cf.hot = true → L2H.HotC X ∧ L2H.RoomH k X.A
  sui : cf.sui = true → Suite cl X
  un : X.A.units + 65 < cLine
  tk : L2N.Takes X Wx
section
variable {sg : Sig} {Γ : Mean} {f : Nat → Addr} {k : Nat} {cf : Cfg} {cl : CL} {X : Cx} {Wx : WX}
theorem Good.vis (g : Good sg Γ f k cf cl X Wx) {x : Str} (h : visB cf.sc x = true) : Vis X.env.scope x := by rw [g.sc]; exact visB_ok h
theorem Good.gl (g : Good sg Γ f k cf cl X Wx) {x : Str} (h : glB cf.sc x = true) : Gl X x := by
  show X.env.scope.names.lookup x = _
  rw [g.sc]; exact glB_ok h
theorem Good.room (g : Good sg Γ f k cf cl X Wx) (h : cf.calm = true) : Room k X.A := (g.calm h).2.1.mono (Nat.le_succ _)
theorem Good.blk (g : Good sg Γ f k cf cl X Wx) (scope : Scope) (s : Shared) (H : Hp) (C : Addr) (cs : List (Str × Addr)) (fp : List Addr) :
    Good sg Γ f k (cf.blk scope) cl (X.blk s H scope (compEnvC scope cs C X.env) fp) (fun _ _ _ _ => False) where
  fa := g.fa
  cls := g.cls
  hN := g.hN
  nd := g.nd
  sc := by
    show relS scope X.env.scope = relS scope cf.sc
    rw [g.sc]
  own := fun x h => h
  calm := g.calm
  hot := fun h => by cases h
  sui := fun h => by cases h
  un := g.un
  tk := takes_no
theorem varB_ok (g : Good sg Γ f k cf cl X Wx) {i : Nat} {x y : Str} (h : varB cf i x y = true) : y = x ∧ X.N[i]? = some x ∧ Vis X.env.scope x ∧ plainB x = true := by
  unfold varB at h
  simp only [Bool.and_eq_true, decide_eq_true_eq] at h
  exact ⟨h.1, by rw [g.hN]; exact h.2.1, g.vis h.2.2.1, h.2.2.2⟩
theorem nmB_ok (g : Good sg Γ f k cf cl X Wx) {i : Nat} {x : Str} (h : nmB cf i x = true) : X.N[i]? = some x ∧ Loc X.env.scope x ∧ (X.fn x = true ∨ X.env.scope.names.lookup x = some .local) := by
  unfold nmB at h
  simp only [Bool.and_eq_true, decide_eq_true_eq] at h
  rw [g.hN, g.sc]
  refine ⟨h.1, ?_⟩
  have h2 := h.2
  split at h2
  · rename_i e; exact ⟨.inl e, .inr e⟩
  · rename_i e; exact ⟨.inr e, .inl (g.own _ h2)⟩
  · cases h2
theorem namesB_ok (g : Good sg Γ f k cf cl X Wx) : ∀ {is : List (Nat × Str)} {es : List Expr}, namesB cf is es = true → PNames X es (is.map (·.1))
  | [], [], _ => .nil
  | [], _ :: _, h => by cases h
  | (i, x) :: is, [], h => by cases h
  | (i, x) :: is, e :: es, h => by
    cases e with
    | Name y p =>
      have h : (decide (y = x) && nmB cf i x && namesB cf is es) = true := h
      simp only [Bool.and_eq_true, decide_eq_true_eq] at h
      obtain ⟨⟨rfl, h1⟩, h2⟩ := h
      obtain ⟨a, b, c⟩ := nmB_ok g h1
      exact .cons a b c (namesB_ok g h2)
    | _ => cases h
theorem tgB_ok (g : Good sg Γ f k cf cl X Wx) {tg : Tg} {e : Expr} (h : tgB cf tg e = true) : PG X e (tG X.K cl tg.is tg.g) := by
  unfold tgB at h
  split at h
  · simp only [Bool.and_eq_true, decide_eq_true_eq] at h
    obtain ⟨rfl, h1⟩ := h
    obtain ⟨a, b, c⟩ := nmB_ok g h1
    exact pg_nameD (by rw [g.hN]; exact g.nd) a b c
  · simp only [Bool.and_eq_true] at h
    exact pg_tupD (g.calm h.1).1 (by rw [g.hN]; exact g.nd) (namesB_ok g h.2)
  · cases h
end
structure Snd (sg : Sig) (Γ : Mean) (f : Nat → Addr) (k : Nat) (c : C) : Prop where
  e : ∀ {cf : Cfg} {cl : CL} {X : Cx} {Wx : WX}, Good sg Γ f k cf cl X Wx → ∀ {e : Expr}, (chk sg c).e cf e = true → PE X e (tEv X.K cl Wx (ev sg Γ c).e)
  t : ∀ {cf : Cfg} {cl : CL} {X : Cx} {Wx : WX}, Good sg Γ f k cf cl X Wx → ∀ {e : Expr}, (chk sg c).t cf e = true → PT X e (tEt X.K cl Wx (ev sg Γ c).t)
  l : ∀ {cf : Cfg} {cl : CL} {X : Cx} {Wx : WX}, Good sg Γ f k cf cl X Wx → ∀ {e : List Expr}, (chk sg c).l cf e = true → PA X e (tEl X.K cl Wx (ev sg Γ c).l) ∧ PA X e (tEd X.K cl Wx (ev sg Γ c).d)
  i : ∀ {cf : Cfg} {cl : CL} {X : Cx} {Wx : WX}, Good sg Γ f k cf cl X Wx → ∀ {e : Option Expr}, (chk sg c).i cf e = true → PO X e (tEi X.K cl Wx (ev sg Γ c).i)
  it : ∀ {cf : Cfg} {cl : CL} {X : Cx} {Wx : WX}, Good sg Γ f k cf cl X Wx → ∀ {tg e : Expr}, (chk sg c).it cf tg e = true → PI X tg e (tIt X.K cl Wx (ev sg Γ c).it)
  j : ∀ {cf : Cfg} {cl : CL} {X : Cx} {Wx : WX}, Good sg Γ f k cf cl X Wx → ∀ {e : List Expr}, (chk sg c).j cf e = true → PJ X e ((ev sg Γ c).j.map fun m => tEv X.K cl Wx m)
section
variable {sg : Sig} {Γ : Mean} {f : Nat → Addr} {k : Nat} {c : C}
theorem Snd.mkE {m : SS → RE} {mt : SS → RT} {g gt : Cfg → Expr → Bool} (h1 : ev sg Γ c = { e := m, t := mt }) (h2 : chk sg c = { e := g, t := gt }) (h : ∀ {cf : Cfg} {cl : CL} {X : Cx} {Wx : WX}, Good sg Γ f k cf cl X Wx → ∀ {e : Expr}, g cf e = true → PE X e (tEv X.K cl Wx m))
    (h' : ∀ {cf : Cfg} {cl : CL} {X : Cx} {Wx : WX}, Good sg Γ f k cf cl X Wx → ∀ {e : Expr}, gt cf e = true → PT X e (tEt X.K cl Wx mt)) : Snd sg Γ f k c := by
  constructor
  · intro _ _ _ _ g e q; rw [h2] at q; rw [h1]; exact h g q
  · intro _ _ _ _ g e q; rw [h2] at q; rw [h1]; exact h' g q
  · intro _ _ _ _ g e q; rw [h2] at q; cases q
  · intro _ _ _ _ g e q; rw [h2] at q; cases q
  · intro _ _ _ _ g tg e q; rw [h2] at q; cases q
  · intro _ _ _ _ g e q; rw [h2] at q; cases q
theorem Snd.mkV {m : SS → RE} {g : Cfg → Expr → Bool} (h1 : ev sg Γ c = vE m) (h2 : chk sg c = vC g) (h : ∀ {cf : Cfg} {cl : CL} {X : Cx} {Wx : WX}, Good sg Γ f k cf cl X Wx → ∀ {e : Expr}, g cf e = true → PE X e (tEv X.K cl Wx m)) : Snd sg Γ f k c :=
  .mkE h1 h2 h fun {cf cl X Wx} gd {e} q => by
    have q : (plainTB e && g cf e) = true := q
    rw [Bool.and_eq_true] at q
    exact pt_truthD (h gd q.2) (plainT_ok q.1 _)
theorem Snd.mkI {m : SS → RI} {g : Cfg → Option Expr → Bool} (h1 : ev sg Γ c = { i := m }) (h2 : chk sg c = { i := g }) (h : ∀ {cf : Cfg} {cl : CL} {X : Cx} {Wx : WX}, Good sg Γ f k cf cl X Wx → ∀ {e : Option Expr}, g cf e = true → PO X e (tEi X.K cl Wx m)) : Snd sg Γ f k c := by
  constructor
  · intro _ _ _ _ g e q; rw [h2] at q; cases q
  · intro _ _ _ _ g e q; rw [h2] at q; cases q
  · intro _ _ _ _ g e q; rw [h2] at q; cases q
  · intro _ _ _ _ g e q; rw [h2] at q; rw [h1]; exact h g q
  · intro _ _ _ _ g tg e q; rw [h2] at q; cases q
  · intro _ _ _ _ g e q; rw [h2] at q; cases q
theorem Snd.mkIt {m : SS → RIt} {g : Cfg → Expr → Expr → Bool} (h1 : ev sg Γ c = { it := m }) (h2 : chk sg c = { it := g }) (h : ∀ {cf : Cfg} {cl : CL} {X : Cx} {Wx : WX}, Good sg Γ f k cf cl X Wx → ∀ {tg e : Expr}, g cf tg e = true → PI X tg e (tIt X.K cl Wx m)) : Snd sg Γ f k c := by
  constructor
  · intro _ _ _ _ g e q; rw [h2] at q; cases q
  · intro _ _ _ _ g e q; rw [h2] at q; cases q
  · intro _ _ _ _ g e q; rw [h2] at q; cases q
  · intro _ _ _ _ g e q; rw [h2] at q; cases q
  · intro _ _ _ _ g tg e q; rw [h2] at q; rw [h1]; exact h g q
  · intro _ _ _ _ g e q; rw [h2] at q; cases q
theorem pe_cstD {cl : CL} {X : Cx} {Wx : WX} {e : Expr} {d : D} {v : V} (h : PE X e (tC v)) (r : ∀ G, Rep X.K cl G d v) : PE X e (tEv X.K cl Wx (mCst d)) := PE.imp h fun _ _ _ => ev_cst r
theorem isNil_ok {c : C} (h : c.isNil = true) : c = .nil := by cases c <;> first | rfl | cases h
theorem isYes_ok {c : C} (h : c.isYes = true) : c = .yes := by cases c <;> first | rfl | cases h
theorem cont {α : Type} [BEq α] [LawfulBEq α] {l : List α} {a : α} (h : l.contains a = true) : a ∈ l := List.contains_iff_mem.mp h
theorem itw_name {i : Nat} {x : Str} {cf : Cfg} {t i0 : Expr} (h : (chk sg (.itw i x)).it cf t i0 = true) : ∃ y pos, i0 = .Name y pos ∧ varB cf i x y = true := by
  simp only [chk] at h
  split at h
  · exact ⟨_, _, rfl, h⟩
  · cases h
/-- the parts of a list comprehension that has been checked -/
theorem lc_parts {own : List (Str × Nat)} {tg : Tg} {it cond elt : C} (s1 : Snd sg Γ f k it) (s2 : Snd sg Γ f k cond) (s3 : Snd sg Γ f k elt) {cf : Cfg} {cl : CL} {X : Cx} {Wx : WX} (g : Good sg Γ f k cf cl X Wx) {e : Expr} (h : (chk sg (.lc own tg it cond elt)).e cf e = true) :
    ∃ e0 t0 i0 ifs scope pos, e = .ListComp e0 [⟨t0, i0, ifs, 0⟩] scope pos ∧ cf.calm = true ∧ noSetB i0 = true ∧ PI X t0 i0 (tIt X.K cl Wx (ev sg Γ it).it) ∧ BlkOk X.N X.env.scope scope own ∧
      (∀ (s : Shared) (H : Hp) (C : Addr) (cs : List (Str × Addr)) (fp : List Addr), PG (X.blk s H scope (compEnvC scope cs C X.env) fp) t0 (tG X.K cl tg.is tg.g)) ∧
      (∀ (s : Shared) (H : Hp) (C : Addr) (cs : List (Str × Addr)) (fp : List Addr), PTs (X.blk s H scope (compEnvC scope cs C X.env) fp) ifs (tEt X.K cl (fun _ _ _ _ => False) (ev sg Γ cond).t)) ∧
      (∀ (s : Shared) (H : Hp) (C : Addr) (cs : List (Str × Addr)) (fp : List Addr), PE (X.blk s H scope (compEnvC scope cs C X.env) fp) e0 (tEv X.K cl (fun _ _ _ _ => False) (ev sg Γ elt).e)) ∧ (∀ i ∈ tg.is, i ∈ own.map (·.2)) ∧ ∀ i, it.vi = some i → PI X t0 i0 (iAny X.K (tVar i)) := by
  simp only [chk] at h
  split at h
  · rename_i e0 t0 i0 ifs as scope pos
    simp only [Bool.and_eq_true] at h
    obtain ⟨h0, h1, h2, h3, h4, h5, h6, h7, h8⟩ := h
    rw [beq_iff_eq] at h0
    subst h0
    refine ⟨e0, t0, i0, ifs, scope, pos, rfl, h1, h2, s1.it g h6, blkOk_by (own := own) (by rw [g.hN, g.sc]; exact h3), fun s H C cs fp => tgB_ok (g.blk scope s H C cs fp) h4, fun s H C cs fp => ?_, fun s H C cs fp => s3.e (g.blk scope s H C cs fp) h8, fun i hi => ?_, fun i hi => ?_⟩
    · split at h7
      · rw [isYes_ok h7]
        exact ⟨fun pins s σ H Q I q => pts_nil.run pins s σ H Q I (by
          obtain ⟨S, T, hl, hR, p⟩ := q
          exact p H hR)⟩
      · exact pts_one (s2.t (g.blk scope s H C cs fp) h7)
      · cases h7
    · rw [List.all_eq_true] at h5
      exact cont (h5 i hi)
    · cases it <;> cases hi
      rename_i x
      obtain ⟨y, pos, rfl, h6⟩ := itw_name h6
      obtain ⟨rfl, v1, v2, v3⟩ := varB_ok g h6
      exact pi_any (pe_var v1 v2 (plainB_ok v3).1 (plainB_ok v3).2)
  · cases h
def wiG (K : PySem.W.Frag) (cl : CL) (Wx : WX) (mi : SS → RIt) : Option Nat → TI
  | none => tIt K cl Wx mi
  | some i => iAny K (tVar i)
theorem ev_lcG {K : PySem.W.Frag} {cl : CL} {Wx : WX} {H : Hp} {σ : L2.St} {own is : List Nat} {mi : SS → RIt} {g : Tgt} {cond : SS → RT} {elt : SS → RE} {Q : VK} (hsub : ∀ i ∈ is, i ∈ own) (li : ∀ S, LenIt S.length (mi S)) (lg : LenG g) (lc : ∀ S, LenT S.length (cond S)) (le : ∀ S, LenE S.length (elt S)) (v : Option Nat)
    (h : tEv K cl Wx (mLcG own v mi g cond elt) σ H Q) :
    tLc (wiG K cl Wx mi v) (tG K cl is g) (tEt K cl (fun _ _ _ _ => False) cond) (tEv K cl (fun _ _ _ _ => False) elt) own σ H Q := by
  cases v with
  | none => exact ev_lc hsub li lg lc le h
  | some i => exact ev_lcV hsub lg lc le h
end
end Ly
end
section
set_option Elab.async false
set_option linter.all false
set_option maxRecDepth 100000
set_option maxHeartbeats 4000000
/-! MaF: the core's soundness, expressions: the theorem. -/
namespace Ly
open PySem PySem.Spec PyProof.Rows L2

section
variable {sg : Sig} {Γ : Mean} {f : Nat → Addr} {k : Nat}
theorem sound (c : C) : Snd sg Γ f k c := by
  induction c with
  | dead => exact ⟨fun _ _ _ => pe_dead, fun _ _ _ => pt_dead, fun _ _ _ => ⟨pl_dead, pd_dead⟩, fun _ _ _ => po_dead, fun _ _ _ _ => pi_dead, fun _ _ h => by cases h⟩
  | var i x =>
    refine .mkV rfl rfl fun {cf cl X Wx} g {e} h => ?_
    split at h
    · obtain ⟨rfl, h1, h2, h3⟩ := varB_ok g h
      exact pe_varD h1 h2 (plainB_ok h3).1 (plainB_ok h3).2
    · cases h
  | non =>
    refine .mkV rfl rfl fun {cf cl X Wx} g {e} h => ?_
    split at h
    · exact pe_cstD pe_non fun _ => rfl
    · cases h
  | bl b =>
    refine .mkV rfl rfl fun {cf cl X Wx} g {e} h => ?_
    split at h
    · rw [beq_iff_eq] at h
      subst h
      exact pe_cstD pe_bl fun _ => rfl
    · cases h
  | int i =>
    refine .mkV rfl rfl fun {cf cl X Wx} g {e} h => ?_
    split at h
    · rw [decide_eq_true_eq] at h
      subst h
      exact pe_cstD pe_int fun _ => rfl
    · rw [decide_eq_true_eq] at h
      subst h
      exact pe_cstD (PE.imp (pe_un un_neg pe_int) fun σ H Q q => ⟨_, rfl, q⟩) fun _ => rfl
    · cases h
  | str i =>
    refine .mkV rfl rfl fun {cf cl X Wx} g {e} h => ?_
    split at h
    · rw [decide_eq_true_eq] at h
      subst h
      exact pe_cstD pe_str fun _ => rfl
    · cases h
  | glb j x =>
    refine .mkV rfl rfl fun {cf cl X Wx} g {e} h => ?_
    split at h
    · simp only [Bool.and_eq_true, decide_eq_true_eq] at h
      obtain ⟨rfl, h1, h2, h3⟩ := h
      obtain ⟨u, v, m, r, q⟩ := g.fa.gl _ _ (cont h1)
      exact pe_cstD (pe_glob (g.gl h2) m r (plainB_ok h3).1) (by rw [g.cls]; exact q)
    · cases h
  | bin o a b iha ihb =>
    refine .mkV rfl rfl fun {cf cl X Wx} g {e} h => ?_
    split at h
    · simp only [Bool.and_eq_true, decide_eq_true_eq] at h
      obtain ⟨rfl, h1, h2⟩ := h
      exact pe_bin o (iha.e g h1) (ihb.e g h2) (ev_len sg Γ a).e
    · cases h
  | cmp o a b iha ihb =>
    refine .mkE rfl rfl (fun {cf cl X Wx} g {e} h => ?_) fun {cf cl X Wx} g {e} h => ?_
    · split at h
      · simp only [Bool.and_eq_true, decide_eq_true_eq] at h
        obtain ⟨rfl, h1, h2, h3⟩ := h
        exact pe_cmpD g.un o (iha.e g h2) (ihb.e g h3) (ev_len sg Γ a).e (noSet_marks h1 _)
      · cases h
    · split at h
      · simp only [Bool.and_eq_true, decide_eq_true_eq] at h
        obtain ⟨rfl, h1, h2, h3⟩ := h
        exact pt_cmpD g.un o (iha.e g h2) (ihb.e g h3) (ev_len sg Γ a).e (noSet_marks h1 _)
      · cases h
  | chain o o' a b c iha ihb ihc =>
    refine .mkE rfl rfl (fun {cf cl X Wx} g {e} h => ?_) fun {cf cl X Wx} g {e} h => ?_
    · split at h
      · simp only [Bool.and_eq_true, decide_eq_true_eq] at h
        obtain ⟨rfl, rfl, h0, h1, h2, h3⟩ := h
        exact pe_chainD g.un o o' (iha.e g h1) (ihb.e g h2) (ihc.e g h3) (ev_len sg Γ a).e (ev_len sg Γ b).e (noSet_marks h0 _)
      · cases h
    · split at h
      · simp only [Bool.and_eq_true, decide_eq_true_eq] at h
        obtain ⟨rfl, rfl, h0, h1, h2, h3⟩ := h
        exact pt_chainD g.un o o' (iha.e g h1) (ihb.e g h2) (ihc.e g h3) (ev_len sg Γ a).e (ev_len sg Γ b).e (noSet_marks h0 _)
      · cases h
  | and a b iha ihb =>
    refine .mkE rfl rfl (fun {cf cl X Wx} g {e} h => ?_) fun {cf cl X Wx} g {e} h => ?_
    · split at h
      · rw [Bool.and_eq_true] at h
        obtain ⟨h1, h2⟩ := h
        refine PE.imp (pe_and (iha.e g h1) (tb := tEv X.K cl Wx (ev sg Γ b).e) ?_) fun σ H Q => ev_and (ev_len sg Γ a).e
        split at h2
        · exact pe_one (ihb.e g h2)
        · exact ihb.e g h2
      · cases h
    · split at h
      · rw [Bool.and_eq_true] at h
        obtain ⟨h1, h2⟩ := h
        refine PT.imp (PW.pt (pw_and (iha.t g h1) (tB' := tEt X.K cl Wx (ev sg Γ b).t) ?_)) fun σ H Q => et_and (ev_len sg Γ a).t
        split at h2
        · exact pw_and1 (ihb.t g h2)
        · exact pw_of (ihb.t g h2)
      · cases h
  | or a b iha ihb =>
    refine .mkE rfl rfl (fun {cf cl X Wx} g {e} h => ?_) fun {cf cl X Wx} g {e} h => ?_
    · split at h
      · rw [Bool.and_eq_true] at h
        obtain ⟨h1, h2⟩ := h
        refine PE.imp (pe_or (iha.e g h1) (tb := tEv X.K cl Wx (ev sg Γ b).e) ?_) fun σ H Q => ev_or (ev_len sg Γ a).e
        split at h2
        · exact pe_one (ihb.e g h2)
        · exact ihb.e g h2
      · cases h
    · split at h
      · rw [Bool.and_eq_true] at h
        obtain ⟨h1, h2⟩ := h
        refine PT.imp (PW.pt (pw_or (iha.t g h1) (tB' := tEt X.K cl Wx (ev sg Γ b).t) ?_)) fun σ H Q => et_or (ev_len sg Γ a).t
        split at h2
        · exact pw_or1 (ihb.t g h2)
        · exact pw_of (ihb.t g h2)
      · cases h
  | not a iha =>
    refine .mkE rfl rfl (fun {cf cl X Wx} g {e} h => ?_) fun {cf cl X Wx} g {e} h => ?_
    · split at h
      · exact PE.imp (pe_not (iha.e g h)) fun σ H Q => ev_not (ev_len sg Γ a).e
      · cases h
    · split at h
      · exact PT.imp (pt_not (iha.t g h)) fun σ H Q => et_not
      · cases h
  | ite t a b iht iha ihb =>
    refine .mkE (mt := fun _ => .bad) (gt := fun _ _ => false) rfl rfl (fun {cf cl X Wx} g {e} h => ?_) fun {cf cl X Wx} g {e} h => by cases h
    split at h
    · simp only [Bool.and_eq_true] at h
      obtain ⟨h1, h2, h3⟩ := h
      exact PE.imp (pe_ifExp (iht.t g h1) (iha.e g h2) (ihb.e g h3)) fun σ H Q => ev_ite (ev_len sg Γ t).t
    · cases h
  | bi o l ih =>
    refine .mkV rfl rfl fun {cf cl X Wx} g {e} h => ?_
    split at h
    · simp only [Bool.and_eq_true, decide_eq_true_eq] at h
      obtain ⟨rfl, h1, h2, h3, h4⟩ := h
      have h5 := h3
      rw [List.all_cons, Bool.and_eq_true] at h5
      exact pe_bi (x := o.nm) o (g.calm h1).1 (g.gl h2) (g.fa.blt _ (by cases o <;> decide +kernel)) (ih.l g h4).1 (star_one h5.1 _ _) (star_all _ h5.2)
    · cases h
  | bm o a l iha ih =>
    refine .mkV rfl rfl fun {cf cl X Wx} g {e} h => ?_
    split at h
    · rename_i p f apos xs cpos
      simp only [Bool.and_eq_true, decide_eq_true_eq] at h
      obtain ⟨rfl, h1, h2, h3, h4, h5, h6⟩ := h
      cases xs with
      | nil =>
        simp only [Bool.and_eq_true, decide_eq_true_eq] at h6
        obtain ⟨rfl, h6⟩ := h6
        rw [isNil_ok h6]
        exact pe_bmD0 (iha.e g h5) (ev_len sg Γ a).e (fun n => base_any h1 _ _ _) h2
      | cons x xs =>
        simp only [Bool.and_eq_true, decide_eq_true_eq] at h6
        have h7 := h4
        rw [List.all_cons, Bool.and_eq_true] at h7
        refine pe_bmD o h6.1 (iha.e g h5) (ev_len sg Γ a).e (ih.l g h6.2).1 (fun n => base_any h1 _ _ _) ?_ h2 (star_one h7.1 _ _) (star_all _ h7.2)
        rw [star_few _ h4]
        simp only [keywordEach, backToKw, List.map_nil, List.all_nil, Bool.true_and, Bool.and_true, List.isEmpty_nil, if_true, List.length_nil, Nat.add_zero, decide_eq_true_eq]
        exact h3
    · cases h
  | idx a b iha ihb =>
    refine .mkV rfl rfl fun {cf cl X Wx} g {e} h => ?_
    split at h
    · simp only [Bool.and_eq_true] at h
      obtain ⟨h1, h2, h3⟩ := h
      exact pe_ixD (iha.e g h2) (ihb.e g h3) (ev_len sg Γ a).e (noSlice_ok h1)
    · cases h
  | sl a lo hi iha ih1 ih2 =>
    refine .mkV rfl rfl fun {cf cl X Wx} g {e} h => ?_
    split at h
    · simp only [Bool.and_eq_true] at h
      obtain ⟨h1, h2, h3⟩ := h
      exact pe_sl (iha.e g h1) (ih1.i g h2) (ih2.i g h3) (ev_len sg Γ a).e (ev_len sg Γ lo).i
    · cases h
  | no =>
    refine .mkI rfl rfl fun {cf cl X Wx} g {e} h => ?_
    cases e with
    | none => exact po_no
    | some x => cases h
  | so a iha =>
    refine .mkI rfl rfl fun {cf cl X Wx} g {e} h => ?_
    cases e with
    | none => cases h
    | some x => exact po_part (iha.e g h)
  | tup l ih =>
    refine .mkV rfl rfl fun {cf cl X Wx} g {e} h => ?_
    split at h
    · exact pe_tupD (ih.l g h).2
    · cases h
  | lst l ih =>
    refine .mkV rfl rfl fun {cf cl X Wx} g {e} h => ?_
    split at h
    · exact pe_lstD (ih.l g h).2
    · cases h
  | dic0 =>
    refine .mkV rfl rfl fun {cf cl X Wx} g {e} h => ?_
    split at h
    · exact pe_dic0
    · cases h
  | call j x n l ih =>
    refine .mkV rfl rfl fun {cf cl X Wx} g {e} h => ?_
    split at h
    · rename_i f p xs cpos
      simp only [Bool.and_eq_true, decide_eq_true_eq] at h
      obtain ⟨rfl, h1, h2, h3, h4, h5, h6⟩ := h
      have F : FnD cl X k f n (Γ.fn j) := by
        rw [(g.calm h2).2.2]
        exact ⟨g.fa.fn j f n (cont h1)⟩
      cases xs with
      | nil =>
        simp only [Bool.and_eq_true, decide_eq_true_eq] at h6
        obtain ⟨rfl, h6⟩ := h6
        rw [isNil_ok h6]
        exact pe_userD0 F (g.room h2) (g.gl h3) g.tk (plainB_ok h4).1
      | cons x xs =>
        have h7 := h5
        rw [List.all_cons, Bool.and_eq_true] at h7
        exact pe_userD F (g.room h2) (g.gl h3) g.tk (ih.l g h6).2 (plainB_ok h4).1 (star_one h7.1 _ _) (star_all _ h7.2)
    · cases h
  | hot j x n l ih =>
    refine .mkV rfl rfl fun {cf cl X Wx} g {e} h => ?_
    split at h
    · rename_i f' p y ys cpos
      simp only [Bool.and_eq_true, decide_eq_true_eq] at h
      obtain ⟨rfl, h1, h2, h3, h4, h5, h6⟩ := h
      obtain ⟨gg, fd, ps, hm, hk, hb, F⟩ := g.fa.hot j f' n (cont h1)
      have F' := F cl.xa cl.xd cl.xc
      rw [← g.cls] at F'
      obtain ⟨hc, hr⟩ := g.hot h2
      have h7 := h5
      rw [List.all_cons, Bool.and_eq_true] at h7
      exact pe_hotD (cl := cl) hm hk hb F' hr hc (g.gl h3) g.tk (ih.l g h6).2 (plainB_ok h4).1 (star_one h7.1 _ _) (star_all _ h7.2)
    · cases h
  | meth j c x n a l iha ih =>
    refine .mkV rfl rfl fun {cf cl X Wx} g {e} h => ?_
    split at h
    · rename_i p f apos xs cpos
      simp only [Bool.and_eq_true, decide_eq_true_eq] at h
      obtain ⟨rfl, h1, h2, h3, h4, h5, h6, h7, h8⟩ := h
      have F : MtD cl X k c f n (Γ.mt j) := by
        rw [(g.calm h2).2.2]
        obtain ⟨cC, q⟩ := g.fa.mt j c f n (cont h1)
        exact ⟨cC, q⟩
      cases xs with
      | nil =>
        rw [isNil_ok h8]
        exact pe_methD0 F (iha.e g h7) (ev_len sg Γ a).e (g.room h2) g.tk (meth_eq h3 h4 h5 h6)
      | cons x xs =>
        have h9 := h6
        rw [List.all_cons, Bool.and_eq_true] at h9
        exact pe_methD F (iha.e g h7) (ev_len sg Γ a).e (g.room h2) g.tk (ih.l g h8).2 (star_one h9.1 _ _) (star_all _ h9.2) (meth_eq h3 h4 h5 h6)
    · cases h
  | new j c x n l ih =>
    refine .mkV rfl rfl fun {cf cl X Wx} g {e} h => ?_
    split at h
    · rename_i f' p y ys cpos
      simp only [Bool.and_eq_true, decide_eq_true_eq] at h
      obtain ⟨rfl, h1, h2, h3, h4, h5, h6, h7⟩ := h
      obtain ⟨gg, fd, ps, M, hb, F, _⟩ := g.fa.nw j c n (cont h2)
      have hm := g.fa.cnm c f' h1
      have e := (g.calm h3).2.2
      subst e
      have h8 := h6
      rw [List.all_cons, Bool.and_eq_true] at h8
      exact pe_newD (cl := ⟨f, none, none, 0⟩) M F (g.calm h3).2.1 (g.gl h4) hm hb g.tk (ih.l g h7).2 (plainB_ok h5).1 (star_one h8.1 _ _) (star_all _ h8.2)
    · cases h
  | newk j c x y a iha =>
    refine .mkV rfl rfl fun {cf cl X Wx} g {e} h => ?_
    split at h
    · rename_i f' p z e0 kp cpos
      simp only [Bool.and_eq_true, decide_eq_true_eq] at h
      obtain ⟨rfl, rfl, h1, h2, h2', h3, h4, h5, h6⟩ := h
      obtain ⟨gg, fd, ps, M, hb, F, hkw⟩ := g.fa.nw j c 1 (cont h2)
      have hm := g.fa.cnm c f' h1
      have e := (g.calm h3).2.2
      subst e
      exact pe_newKw (cl := ⟨f, none, none, 0⟩) M F (g.calm h3).2.1 (g.gl h4) hm (hkw z (cont h2')) g.tk (iha.e g h6) (ev_len sg Γ a).e (plainB_ok h5).1
    · cases h
  | ceq c j neg a b iha ihb =>
    refine .mkE rfl rfl (fun {cf cl X Wx} g {e} h => ?_) fun {cf cl X Wx} g {e} h => ?_
    · split at h
      · simp only [Bool.and_eq_true, decide_eq_true_eq] at h
        obtain ⟨rfl, h1, h2, h3, h4, h5⟩ := h
        obtain ⟨gg, fd, ps, L, hb, F⟩ := g.fa.eqs c j (cont h2)
        have e := (g.calm h3).2.2
        subst e
        exact pe_ceq (cl := ⟨f, none, none, 0⟩) L (g.calm h3).2.1 F hb g.tk (iha.e g h4) (ihb.e g h5) (ev_len sg Γ a).e (ev_len sg Γ b).e (noSet_marks h1 _)
      · cases h
    · split at h
      · simp only [Bool.and_eq_true, decide_eq_true_eq] at h
        obtain ⟨rfl, h1, h2, h3, h4, h5⟩ := h
        obtain ⟨gg, fd, ps, L, hb, F⟩ := g.fa.eqs c j (cont h2)
        have e := (g.calm h3).2.2
        subst e
        exact pt_ceq (cl := ⟨f, none, none, 0⟩) L (g.calm h3).2.1 F hb g.tk (iha.e g h4) (ihb.e g h5) (ev_len sg Γ a).e (ev_len sg Γ b).e (noSet_marks h1 _)
      · cases h
  | olen c j a iha =>
    refine .mkV rfl rfl fun {cf cl X Wx} g {e} h => ?_
    split at h
    · simp only [Bool.and_eq_true, decide_eq_true_eq] at h
      obtain ⟨rfl, h1, h2, h3, h4, h5⟩ := h
      obtain ⟨gg, fd, ps, L, hb, F⟩ := g.fa.lens c j (cont h1)
      have e := (g.calm h2).2.2
      subst e
      exact pe_olen (cl := ⟨f, none, none, 0⟩) L (g.calm h2).2.1 F hb g.tk (g.gl h3) (g.fa.blt _ (by decide +kernel)) (iha.e g h5) (ev_len sg Γ a).e h4
    · cases h
  | fld c f' a iha =>
    refine .mkV rfl rfl fun {cf cl X Wx} g {e} h => ?_
    split at h
    · simp only [Bool.and_eq_true, decide_eq_true_eq] at h
      obtain ⟨rfl, h1, h2, h3⟩ := h
      obtain ⟨cC, nA⟩ := g.fa.fls _ _ (cont h1)
      exact pe_fldD (by rw [g.cls]; exact cC) (by rw [g.cls]; exact nA) (iha.e g h3) (base_any h2 _ _ _)
    · cases h
  | std i x a b iha ihb =>
    refine .mkV rfl rfl fun {cf cl X Wx} g {e} h => ?_
    split at h
    · simp only [Bool.and_eq_true, decide_eq_true_eq] at h
      obtain ⟨rfl, h1, h2, h3, h4, h5, h6⟩ := h
      obtain ⟨rfl, v1, v2, v3⟩ := varB_ok g h1
      exact pe_std v1 v2 (plainB_ok v3).1 (plainB_ok v3).2 (iha.e g h5) (ihb.e g h6) (ev_len sg Γ a).e (ev_len sg Γ b).e h3 h4 h2
    · cases h
  | items a iha =>
    refine .mkV rfl rfl fun {cf cl X Wx} g {e} h => ?_
    split at h
    · simp only [Bool.and_eq_true, decide_eq_true_eq] at h
      obtain ⟨rfl, rfl, h1, h2, h3, h4, h5⟩ := h
      exact pe_itemsD (g.calm h1).1 (iha.e g h5) (g.gl h2) (g.fa.blt _ (by decide +kernel)) h3 h4
    · cases h
  | js l ih =>
    refine .mkV rfl rfl fun {cf cl X Wx} g {e} h => ?_
    split at h
    · rename_i xs pos
      simp only [Bool.and_eq_true] at h
      obtain ⟨h1, h2⟩ := h
      match xs, h1 with
      | v1 :: v2 :: rest, _ =>
        exact PE.imp (pe_joined (ih.j g h2)) fun σ H Q q => ev_js _ _ (ev_len sg Γ l).j q
    · cases h
  | fm a iha =>
    refine .mkE (mt := fun _ => .bad) (gt := fun _ _ => false) rfl rfl (fun {cf cl X Wx} g {e} h => ?_) fun {cf cl X Wx} g {e} h => by cases h
    split at h
    · exact pe_fmtD (iha.e g h)
    · cases h
  | lc own tg it cond elt ih1 ih2 ih3 =>
    refine .mkV rfl rfl fun {cf cl X Wx} g {e} h => ?_
    obtain ⟨e0, t0, i0, ifs, scope, pos, rfl, hc, hs, hi, ok, hg, ht, he, hsub, hv⟩ := lc_parts ih1 ih2 ih3 g h
    have hi2 : PI X t0 i0 (wiG X.K cl Wx (ev sg Γ it).it it.vi) := by
      cases e : it.vi with
      | none => exact hi
      | some i => exact hv i e
    exact PE.imp (pe_lc (g.calm hc).1 (by rw [g.hN]; exact g.nd) hi2 ok hg ht he (noSet_fold hs _)) fun σ H Q => ev_lcG hsub (ev_len sg Γ it).it tg.len (ev_len sg Γ cond).t (ev_len sg Γ elt).e it.vi
  | yes => constructor <;> (intros; rename_i h; cases h)
  | isi t a iha =>
    refine .mkV rfl rfl fun {cf cl X Wx} g {e} h => ?_
    split at h
    · simp only [Bool.and_eq_true, decide_eq_true_eq] at h
      obtain ⟨rfl, h1, h2, h3, h4, h4', h5, h6⟩ := h
      refine pe_isiD (cs := sg.cnm) g.fa.blt (fun c ec => ?_) (g.gl h1) (g.gl h2) h4 (iha.e g h5) h3 h6
      subst ec
      rw [g.cls]
      exact g.fa.inst c _ (cont h4') h4
    · cases h
  | isE i x c =>
    refine .mkV rfl rfl fun {cf cl X Wx} g {e} h => ?_
    split at h
    · simp only [Bool.and_eq_true, decide_eq_true_eq] at h
      obtain ⟨rfl, h1, h2, h3, h4, h5, h6⟩ := h
      obtain ⟨rfl, v1, v2, v3⟩ := varB_ok g h5
      refine pe_isED (C := f c) (g.sui h1) (fun c' b hb => ?_) (g.gl h2) (g.fa.blt _ (by decide +kernel)) (g.gl h3) (g.fa.cnm c _ h4) v1 v2 v3 h6
      rw [g.cls]
      obtain ⟨q1, q2, _⟩ := g.fa.sub _ _ _ hb
      exact ⟨q1, q2⟩
    · cases h
  | eF i x f' =>
    refine .mkV rfl rfl fun {cf cl X Wx} g {e} h => ?_
    split at h
    · simp only [Bool.and_eq_true, decide_eq_true_eq] at h
      obtain ⟨rfl, h1, h2⟩ := h
      obtain ⟨rfl, v1, v2, v3⟩ := varB_ok g h2
      refine pe_eFD (g.sui h1) (fun c hc => ?_) v1 v2 v3
      rw [g.cls]
      obtain ⟨q1, q2, _⟩ := g.fa.xcs _ _ (cont hc)
      exact ⟨q1, q2⟩
    · cases h
  | itv a iha => exact .mkIt rfl rfl fun {cf cl X Wx} g {tg e} h => pi_anyD (iha.e g h) (ev_len sg Γ a).e
  | itw i x =>
    refine .mkIt rfl rfl fun {cf cl X Wx} g {tg e} h => ?_
    split at h
    · obtain ⟨rfl, v1, v2, v3⟩ := varB_ok g h
      exact pi_anyD (pe_varD v1 v2 (plainB_ok v3).1 (plainB_ok v3).2) (mVar_len i)
    · cases h
  | rng1 l ih =>
    refine .mkIt rfl rfl fun {cf cl X Wx} g {tg e} h => ?_
    split at h
    · simp only [Bool.and_eq_true, decide_eq_true_eq] at h
      obtain ⟨rfl, h1, h2, h3⟩ := h
      exact PI.imp (pi_range1 (g.gl h1) (g.fa.blt _ (by decide +kernel)) (ih.l g h3).1 (star_one h2 _ _)) fun σ H R => it_rng1
    · cases h
  | rng2 l ih =>
    refine .mkIt rfl rfl fun {cf cl X Wx} g {tg e} h => ?_
    split at h
    · simp only [Bool.and_eq_true, decide_eq_true_eq] at h
      obtain ⟨rfl, h1, h2, h3, h4⟩ := h
      exact PI.imp (pi_range2 (g.gl h1) (g.fa.blt _ (by decide +kernel)) (ih.l g h4).1 (by rw [star_one h2, star_one h3]; rfl) (star_one h3 _ _)) fun σ H R => it_rng2
    · cases h
  | num a b iha ihb =>
    refine .mkIt rfl rfl fun {cf cl X Wx} g {tg e} h => ?_
    split at h
    · simp only [Bool.and_eq_true, decide_eq_true_eq] at h
      obtain ⟨rfl, rfl, h1, h2, h3, h4, h5⟩ := h
      cases tg with
      | Tuple elts kk tpos => exact pi_numD (g.gl h2) (g.fa.blt _ (by decide +kernel)) (iha.e g h4) (ihb.e g h5) (ev_len sg Γ a).e h3
      | _ => cases h1
    · cases h
  | oit c x a iha =>
    refine .mkIt rfl rfl fun {cf cl X Wx} g {tg e} h => ?_
    simp only [Bool.and_eq_true] at h
    obtain ⟨h1, h2, h3⟩ := h
    obtain ⟨gg, fd, ps, L, hb, F⟩ := g.fa.its c x (cont h1)
    rw [← g.cls] at L F
    exact pi_oitD L (g.room h2) F hb g.tk (iha.e g h3) (ev_len sg Γ a).e
  | nil =>
    constructor
    · intro _ _ _ _ g e h; cases h
    · intro _ _ _ _ g e h; cases h
    · intro cf cl X Wx g e h
      cases e with
      | nil => exact ⟨⟨fun p pins s σ H Q I q => pa_nil.run p pins s σ H Q I (el_nil q)⟩, ⟨fun p pins s σ H Q I q => pa_nil.run p pins s σ H Q I (ed_nil q)⟩⟩
      | cons x xs => cases h
    · intro _ _ _ _ g e h; cases h
    · intro _ _ _ _ g tg e h; cases h
    · intro cf cl X Wx g e h
      cases e with
      | nil => exact .nil
      | cons x xs => cases h
  | cons a b iha ihb =>
    constructor
    · intro _ _ _ _ g e h; cases h
    · intro _ _ _ _ g e h; cases h
    · intro cf cl X Wx g e h
      cases e with
      | nil => cases h
      | cons x xs =>
        have h : (noStarB x && ((chk sg a).e cf x && (chk sg b).l cf xs)) = true := h
        simp only [Bool.and_eq_true] at h
        obtain ⟨h1, h2, h3⟩ := h
        exact ⟨PA.imp (pa_cons (iha.e g h2) (ihb.l g h3).1 (star_one h1 _ _)) fun σ H Q => el_cons (ev_len sg Γ a).e, PA.imp (pa_cons (iha.e g h2) (ihb.l g h3).2 (star_one h1 _ _)) fun σ H Q => ed_cons (ev_len sg Γ a).e⟩
    · intro _ _ _ _ g e h; cases h
    · intro _ _ _ _ g tg e h; cases h
    · intro cf cl X Wx g e h
      cases e with
      | nil => cases h
      | cons x xs =>
        have h : ((chk sg a).e cf x && (chk sg b).j cf xs) = true := h
        rw [Bool.and_eq_true] at h
        exact .cons (iha.e g h.1) (ihb.j g h.2)
end
end Ly
end
section
set_option Elab.async false
set_option linter.all false
set_option maxRecDepth 100000
set_option maxHeartbeats 4000000
/-! MaG: the core language of statements. -/
namespace Ly
open PySem PySem.Spec PyProof.Rows L2

inductive B where
  | dead | nil | seq (a b : B)
  | pass | brk | cont | retN
  | set (i : Nat) (x : Str) (e : C)
  | asg (tg : Tg) (e : C)
  | ret (e : C)
  | ex (e : C)
  | ife (t : C) (a b : B)
  | app (i : Nat) (x : Str) (e : C)
  | each (it : C) (tg : Tg) (b : B)
  | whl (j : Nat) (t : C) (b : B)
  | fldS (c i : Nat) (x f : Str) (e : C)
  | raise (c : Nat) (x f : Str) (l : C)
  | tryS (i : Nat) (n : Str) (c : Nat) (b s : B)
def evS (sg : Sig) (Γ : Mean) : B → SS → RS
  | .dead => fun _ => .bad
  | .nil => sNop
  | .seq a b => sSeq (evS sg Γ a) (evS sg Γ b)
  | .pass => sNop
  | .brk => fun S => .bk S
  | .cont => fun S => .ct S
  | .retN => sRetN
  | .set i _ e => sSet i (ev sg Γ e).e
  | .asg tg e => sAsg tg.g (ev sg Γ e).e
  | .ret e => sRet (ev sg Γ e).e
  | .ex e => sExpr (ev sg Γ e).e
  | .ife t a b => sIf (ev sg Γ t).t (evS sg Γ a) (evS sg Γ b)
  | .app i _ e => sApp i (ev sg Γ e).e
  | .each it tg b => sFor (ev sg Γ it).it tg.g (evS sg Γ b)
  | .whl j t b => fun S => loopW (ev sg Γ t).t (evS sg Γ b) (Γ.fuel j S) S
  | .fldS c i _ f e => sFldS c i f (ev sg Γ e).e
  | .raise c _ f l => sRaise c f (ev sg Γ l).d
  | .tryS i _ c b s => sTry i (fun c' => subT sg.sub c' c) (evS sg Γ b) (evS sg Γ s)
theorem sNop_len (S : SS) : LenS S.length (sNop S) := rfl
theorem sRet_len' (m : SS → RE) (la : ∀ S, LenE S.length (m S)) (S : SS) : LenS S.length (sRet m S) := by
  unfold sRet
  have hs := la S
  cases e : m S with
  | bad => exact trivial
  | exc x S1 => rw [e] at hs; exact hs
  | ok o S1 =>
    rw [e] at hs
    dsimp only
    split <;> exact trivial
theorem sExpr_len' (m : SS → RE) (la : ∀ S, LenE S.length (m S)) (S : SS) : LenS S.length (sExpr m S) := by
  unfold sExpr
  have hs := la S
  cases e : m S with
  | bad => exact trivial
  | exc x S1 => rw [e] at hs; exact hs
  | ok o S1 => rw [e] at hs; exact hs
theorem evS_len (sg : Sig) (Γ : Mean) (b : B) : ∀ S, LenS S.length (evS sg Γ b S) := by
  induction b with
  | dead => exact fun _ => trivial
  | nil => exact sNop_len
  | seq a b iha ihb => exact sSeq_len iha ihb
  | pass => exact sNop_len
  | brk => exact fun _ => rfl
  | cont => exact fun _ => rfl
  | retN => exact fun _ => trivial
  | set i x e => exact sSet_len (ev_len sg Γ e).e
  | asg tg e => exact sAsg_len tg.len (ev_len sg Γ e).e
  | ret e => exact sRet_len' _ (ev_len sg Γ e).e
  | ex e => exact sExpr_len' _ (ev_len sg Γ e).e
  | ife t a b iha ihb => exact sIf_len (ev_len sg Γ t).t iha ihb
  | app i x e => exact sApp_len (ev_len sg Γ e).e
  | each it tg b ih => exact sFor_len (ev_len sg Γ it).it tg.len ih
  | whl j t b ih => exact fun S => loopW_len (ev_len sg Γ t).t ih _ S
  | fldS c i x f e => exact sFldS_len (ev_len sg Γ e).e
  | raise c x f l => exact sRaise_len (ev_len sg Γ l).d
  | tryS i n c b s ihb ihs => exact sTry_len ihb ihs

/-! ### the check -/
def noCompB : Expr → Bool
  | .ListComp _ _ _ _ => false | .SetComp _ _ _ _ => false | .DictComp _ _ _ _ _ => false | _ => true
def noTupB : Expr → Bool | .Tuple _ _ _ => false | _ => true
def C.isLc : C → Bool | .lc _ _ _ _ _ => true | _ => false
/-- x = [..] on one line, x a local that the block does not own -/
def swapB (cf : Cfg) (y : Str) (py : Pos) : Expr → Bool
  | .ListComp _ _ scope pos => decide (cf.sc.kind = .function) && ((match cf.sc.names.lookup y with | some .local => true | _ => false) && ((py.line == pos.line) && !(scope.names.any fun (n, k) => n == y && (k == .local || k == .cell))))
  | _ => false
def celB (cf : Cfg) (y : Str) : Bool := match cf.sc.names.lookup y with | some .cell => true | _ => false
structure ChkS where
  s : Cfg → Stmt → Bool := fun _ _ => false
  l : Cfg → List Stmt → Bool := fun _ _ => false
def chkS (sg : Sig) : B → ChkS
  | .dead => { s := fun _ _ => true, l := fun _ _ => true }
  | .nil => { l := fun _ l => l.isEmpty }
  | .seq a b => { l := fun cf l => match l with | x :: xs => (chkS sg a).s cf x && (chkS sg b).l cf xs | [] => false }
  | .pass => { s := fun _ st => match st with | .Pass _ => true | _ => false }
  | .brk => { s := fun _ st => match st with | .Break _ => true | _ => false }
  | .cont => { s := fun _ st => match st with | .Continue _ => true | _ => false }
  | .retN => { s := fun _ st => match st with | .Return none _ => true | _ => false }
  | .set i x e => { s := fun cf st => match st with
    | .Assign [.Name y py] v _ => decide (y = x) && (nmB cf i x && ((chk sg e).e cf v && (noCompB v || (celB cf x || (e.isLc && swapB cf x py v)))))
    | _ => false }
  | .asg tg e => { s := fun cf st => match st with
    | .Assign [t] v _ => isTupB t && (tgB cf tg t && (noTupB v && (noCompB v && (chk sg e).e cf v)))
    | _ => false }
  | .ret e => { s := fun cf st => match st with | .Return (some v) _ => (chk sg e).e cf v | _ => false }
  | .ex e => { s := fun cf st => match st with | .Expr v _ => noCompB v && (chk sg e).e cf v | _ => false }
  | .ife t a b => { s := fun cf st => match st with | .If c x y _ => (chk sg t).t cf c && ((chkS sg a).l cf x && (chkS sg b).l cf y) | _ => false }
  | .app i x e => { s := fun cf st => match st with
    | .Expr (.Call (.Attribute (.Name y _) m apos) [v] [] cpos) _ => decide (m = "append") && (varB cf i x y && ((apos.endLine == cpos.line) && (noStarB v && (chk sg e).e cf v)))
    | _ => false }
  | .each it tg b => { s := fun cf st => match st with
    | .For t i body [] _ => cf.calm && (noSetB i && (tgB cf tg t && ((chk sg it).it cf t i && (chkS sg b).l cf body)))
    | _ => false }
  | .whl _ t b => { s := fun cf st => match st with | .While c body [] _ => cf.calm && ((chk sg t).t cf c && (chkS sg b).l cf body) | _ => false }
  | .fldS c i x f e => { s := fun cf st => match st with
    | .Assign [.Attribute (.Name y _) g _] v _ => decide (g = f) && (varB cf i x y && (sg.fls.contains (c, f) && (chk sg e).e cf v))
    | _ => false }
  | .raise c x f l => { s := fun cf st => match st with
    | .Raise (some (.Call (.Name y _) [v] [] _)) none _ => decide (y = x) && (decide (sg.cnm[c]? = some x) && (sg.xcs.contains (c, f) && (cf.calm && (glB cf.sc x && (plainB x && (noStarB v && (chk sg l).l cf [v]))))))
    | _ => false }
  | .tryS i n c b s => { s := fun cf st => match st with
    | .Try body [.ExceptHandler (some (.Name x _)) (some m) (s0 :: suite) _] [] [] _ => decide (m = n) && (cf.calm && (!cf.hot && (!cf.sui && (decide (cf.N[i]? = some n) && ((match cf.sc.names.lookup n with | some .local => true | _ => false) && (decide (sg.cnm[c]? = some x) &&
        (glB cf.sc x && (plainB x && ((chkS sg b).l cf body && (chkS sg s).l { cf with calm := false, hot := true, sui := true } (s0 :: suite))))))))))
    | _ => false }
/-- the frame's own facts -/
structure GoodS (sg : Sig) (Γ : Mean) (f : Nat → Addr) (k : Nat) (cf : Cfg) (cl : CL) (X : Cx) (Wx : WX) : Prop extends Good sg Γ f k cf cl X Wx where
  pass : cf.calm = true → PassesOwn (model X.prog X.w) X.A X.env X.xe
  stk : cf.calm = true → X.stack = X.env :: X.outer ∧ X.env.frame = some X.env.locals
structure SndS (sg : Sig) (Γ : Mean) (f : Nat → Addr) (k : Nat) (b : B) : Prop where
  s : ∀ {cf : Cfg} {cl : CL} {X : Cx} {Wx : WX}, GoodS sg Γ f k cf cl X Wx → ∀ {st : Stmt}, (chkS sg b).s cf st = true → PS X st (tSt X.K cl Wx (evS sg Γ b))
  l : ∀ {cf : Cfg} {cl : CL} {X : Cx} {Wx : WX}, GoodS sg Γ f k cf cl X Wx → ∀ {st : List Stmt}, (chkS sg b).l cf st = true → PSs X st (tSt X.K cl Wx (evS sg Γ b))
section
variable {sg : Sig} {Γ : Mean} {f : Nat → Addr} {k : Nat} {b : B}
theorem SndS.mk1 {g : Cfg → Stmt → Bool} (h2 : chkS sg b = { s := g }) (h : ∀ {cf : Cfg} {cl : CL} {X : Cx} {Wx : WX}, GoodS sg Γ f k cf cl X Wx → ∀ {st : Stmt}, g cf st = true → PS X st (tSt X.K cl Wx (evS sg Γ b))) : SndS sg Γ f k b := by
  constructor
  · intro _ _ _ _ g st q; rw [h2] at q; exact h g q
  · intro _ _ _ _ g st q; rw [h2] at q; cases q
theorem noComp_swap {v : Expr} (h : noCompB v = true) (t : Option Expr) (l : Nat) (env : Env) : swapsWith v t l env = pure false := by
  cases v <;> first | rfl | cases h
theorem cell_swap {v : Expr} {y : Str} {py : Pos} {l : Nat} {env : Env} (h : env.scope.names.lookup y = some .cell) : swapsWith v (some (.Name y py)) l env = pure false := by
  have k : (env.kindOf y == some .local) = false := by
    unfold Env.kindOf
    rw [h]
    rfl
  unfold swapsWith
  cases v <;> first | rfl | (simp [k])
theorem sole_swap {v : Expr} (h : noCompB v = true) (t : Expr) (l : Nat) (env : Env) : swapsWithSole [t] v l env = pure false := by
  unfold swapsWithSole
  exact noComp_swap h _ _ _
theorem attr_swap {v o : Expr} {g : Str} {p : Pos} {l : Nat} {env : Env} : swapsWith v (some (.Attribute o g p)) l env = pure false := by
  cases v <;> rfl
theorem tup_stores {ts : List Expr} {kk : Nat} {tp : Pos} {v : Expr} (h : noTupB v = true) (env : Env) : swappedStores [.Tuple ts kk tp] v env = pure none := by
  cases v <;> first | rfl | cases h
theorem soundS (b : B) : SndS sg Γ f k b := by
  induction b with
  | dead => exact ⟨fun g st h => ⟨fun pins s σ H D I ⟨_, _, _, _, p⟩ => p.elim⟩, fun g st h => ⟨fun pins s σ H D I ⟨_, _, _, _, p⟩ => p.elim⟩⟩
  | nil =>
    constructor
    · intro _ _ _ _ g st h; cases h
    · intro _ _ _ _ g st h
      cases st with
      | nil => exact pss_nilD
      | cons x xs => cases h
  | seq a b iha ihb =>
    constructor
    · intro _ _ _ _ g st h; cases h
    · intro cf cl X Wx g st h
      cases st with
      | nil => cases h
      | cons x xs =>
        have h : ((chkS sg a).s cf x && (chkS sg b).l cf xs) = true := h
        rw [Bool.and_eq_true] at h
        exact pss_consD (iha.s g h.1) (ihb.l g h.2) (evS_len sg Γ a)
  | pass =>
    refine .mk1 rfl fun {cf cl X Wx} g {st} h => ?_
    split at h
    · exact PS.imp ps_pass fun D σ H ⟨S, T, hl, hR, p⟩ => p σ H rfl hR
    · cases h
  | brk =>
    refine .mk1 rfl fun {cf cl X Wx} g {st} h => ?_
    split at h
    · exact PS.imp ps_break fun D σ H ⟨S, T, hl, hR, p⟩ => p σ H rfl hR
    · cases h
  | cont =>
    refine .mk1 rfl fun {cf cl X Wx} g {st} h => ?_
    split at h
    · exact PS.imp ps_continue fun D σ H ⟨S, T, hl, hR, p⟩ => p σ H rfl hR
    · cases h
  | retN =>
    refine .mk1 rfl fun {cf cl X Wx} g {st} h => ?_
    split at h
    · exact PS.imp ps_retN fun D σ H => st_retN
    · cases h
  | set i x e =>
    refine .mk1 rfl fun {cf cl X Wx} g {st} h => ?_
    split at h
    · rename_i y py v pos
      simp only [Bool.and_eq_true, decide_eq_true_eq, Bool.or_eq_true] at h
      obtain ⟨rfl, h1, h2, h3⟩ := h
      obtain ⟨a1, a2, a3⟩ := nmB_ok g.toGood h1
      have nd : X.N.Nodup := by rw [g.hN]; exact g.nd
      by_cases hc : noCompB v = true
      · exact PS.imp (ps_set (pos' := py) nd a1 a2 ((sound e).e g.toGood h2) (noComp_swap hc _ _ _) a3) fun D σ H => st_set (ev_len sg Γ e).e
      · have h3 := h3.resolve_left hc
        by_cases hz : celB cf y = true
        · have hcell : X.env.scope.names.lookup y = some .cell := by
            unfold celB at hz
            rw [g.sc]
            split at hz
            · assumption
            · cases hz
          exact PS.imp (ps_set (pos' := py) nd a1 a2 ((sound e).e g.toGood h2) (cell_swap hcell) a3) fun D σ H => st_set (ev_len sg Γ e).e
        have h3 : e.isLc = true ∧ swapB cf y py v = true := h3.resolve_left hz
        cases e with
        | lc own tg it cond elt =>
          obtain ⟨e0, t0, i0, ifs, scope, cpos, rfl, hcalm, hs, hi, ok, hg, ht, he, hsub, hv⟩ := lc_parts (sound it) (sound cond) (sound elt) g.toGood h2
          have hsw := h3.2
          unfold swapB at hsw
          simp only [Bool.and_eq_true, decide_eq_true_eq, Bool.not_eq_true'] at hsw
          obtain ⟨w1, w2, w3, w4⟩ := hsw
          have loc : X.env.scope.names.lookup y = some .local := by
            rw [g.sc]
            split at w2
            · assumption
            · cases w2
          have hi2 : PI X t0 i0 (wiG X.K cl Wx (ev sg Γ it).it it.vi) := by
            cases e : it.vi with
            | none => exact hi
            | some i => exact hv i e
          refine PS.imp (ps_setLc (py := py) (spos := pos) (g.calm hcalm).1 nd a1 loc (sw_true (by rw [g.sc]; exact w1) loc w3 w4) hi2 ok hg ht he (noSet_fold hs _)) fun D σ H q => ?_
          exact ev_lcG hsub (ev_len sg Γ it).it tg.len (ev_len sg Γ cond).t (ev_len sg Γ elt).e it.vi (st_set (ev_len sg Γ (.lc own tg it cond elt)).e q)
        | _ => cases h3.1
    · cases h
  | asg tg e =>
    refine .mk1 rfl fun {cf cl X Wx} g {st} h => ?_
    split at h
    · rename_i t v pos
      simp only [Bool.and_eq_true] at h
      obtain ⟨h1, h2, h3, h4, h5⟩ := h
      cases t with
      | Tuple ts kk tp =>
        exact PS.imp (ps_asg ((sound e).e g.toGood h5) (tgB_ok g.toGood h2) (sole_swap h4 _ _ _) (tup_stores h3 _)) fun D σ H => st_asg (ev_len sg Γ e).e
      | _ => cases h1
    · cases h
  | ret e =>
    refine .mk1 rfl fun {cf cl X Wx} g {st} h => ?_
    split at h
    · exact PS.imp (ps_ret ((sound e).e g.toGood h)) fun D σ H => st_ret (ev_len sg Γ e).e
    · cases h
  | ex e =>
    refine .mk1 rfl fun {cf cl X Wx} g {st} h => ?_
    split at h
    · rw [Bool.and_eq_true] at h
      exact PS.imp (ps_expr ((sound e).e g.toGood h.2) (noComp_swap h.1 _ _ _)) fun D σ H => st_expr
    · cases h
  | ife t a b iha ihb =>
    refine .mk1 rfl fun {cf cl X Wx} g {st} h => ?_
    split at h
    · simp only [Bool.and_eq_true] at h
      obtain ⟨h1, h2, h3⟩ := h
      exact PS.imp (ps_if ((sound t).t g.toGood h1) (iha.l g h2) (ihb.l g h3)) fun D σ H => st_if (ev_len sg Γ t).t
    · cases h
  | app i x e =>
    refine .mk1 rfl fun {cf cl X Wx} g {st} h => ?_
    split at h
    · simp only [Bool.and_eq_true, decide_eq_true_eq] at h
      obtain ⟨rfl, h1, h2, h3, h4⟩ := h
      obtain ⟨rfl, v1, v2, v3⟩ := varB_ok g.toGood h1
      exact ps_appD v1 v2 (plainB_ok v3).1 (plainB_ok v3).2 ((sound e).e g.toGood h4) (ev_len sg Γ e).e (star_one h3 _ _) h2
    · cases h
  | each it tg b ih =>
    refine .mk1 rfl fun {cf cl X Wx} g {st} h => ?_
    split at h
    · simp only [Bool.and_eq_true] at h
      obtain ⟨h1, h2, h3, h4, h5⟩ := h
      exact ps_forD (g.pass h1) (g.calm h1).1 ((sound it).it g.toGood h4) (tgB_ok g.toGood h3) (ih.l g h5) (ev_len sg Γ it).it tg.len (evS_len sg Γ b) (noSet_fold h2 _)
    · cases h
  | whl j t b ih =>
    refine .mk1 rfl fun {cf cl X Wx} g {st} h => ?_
    split at h
    · simp only [Bool.and_eq_true] at h
      obtain ⟨h1, h2, h3⟩ := h
      refine PS.imp (ps_while (g.pass h1) ((sound t).t g.toGood h2) (ih.l g h3)) fun D σ H ⟨S, T, hl, hR, p⟩ => ?_
      exact st_while (n := Γ.fuel j S) (ev_len sg Γ t).t (evS_len sg Γ b) ⟨S, T, hl, hR, p⟩
    · cases h
  | fldS c i x f' e =>
    refine .mk1 rfl fun {cf cl X Wx} g {st} h => ?_
    split at h
    · simp only [Bool.and_eq_true, decide_eq_true_eq] at h
      obtain ⟨rfl, h1, h2, h3⟩ := h
      obtain ⟨rfl, v1, v2, v3⟩ := varB_ok g.toGood h1
      obtain ⟨cC, nA⟩ := g.fa.fls _ _ (cont h2)
      exact ps_fldD (by rw [g.cls]; exact cC) (by rw [g.cls]; exact nA) v1 v2 (plainB_ok v3).1 (plainB_ok v3).2 ((sound e).e g.toGood h3) (ev_len sg Γ e).e attr_swap
    · cases h
  | raise c x f' l =>
    refine .mk1 rfl fun {cf cl X Wx} g {st} h => ?_
    split at h
    · simp only [Bool.and_eq_true, decide_eq_true_eq] at h
      obtain ⟨rfl, h1, h2, h3, h4, h5, h6, h7⟩ := h
      obtain ⟨_, _, ox, gg, fd, ps, iC, tI, hb, F⟩ := g.fa.xcs _ _ (cont h2)
      have hm := g.fa.cnm c _ h1
      rw [← g.cls] at ox iC F hm
      exact ps_raiseD (c := c) ox iC tI F (g.calm h3).2.1 (g.calm h3).1 hb (g.gl h4) hm g.tk ((sound l).l g.toGood h7).2 (plainB_ok h5).1 h6
    · cases h
  | tryS i n c b s ihb ihs =>
    refine .mk1 rfl fun {cf cl X Wx} g {st} h => ?_
    split at h
    · rename_i body x np m s0 suite hp pos
      simp only [Bool.and_eq_true, decide_eq_true_eq, Bool.not_eq_true'] at h
      obtain ⟨rfl, h1, n1, n2, h2, h3, h4, h5, h6, h7, h8⟩ := h
      obtain ⟨st1, st2⟩ := g.stk h1
      have pl := (g.calm h1).2.2
      have loc : X.env.scope.names.lookup m = some .local := by
        rw [g.sc]
        split at h3
        · assumption
        · cases h3
      refine ps_tryD (j := c) (by rw [pl]) st1 st2 (by rw [g.hN]; exact g.nd) (by rw [g.hN]; exact h2) loc ⟨g.gl h5, (plainB_ok h6).1, .inl (by rw [g.cls]; exact g.fa.cnm c _ h4)⟩ g.tk (fun c' b' hb' => ?_) (evS_len sg Γ b) (evS_len sg Γ s) (fun W pn xe tk pass => ?_) fun a oe d c' pn hz hf => ?_
      · obtain ⟨_, _, q⟩ := g.fa.sub _ _ _ hb'
        rw [g.cls]; exact q
      · have gt : GoodS sg Γ f k cf cl (X.tr pn xe) W := {
          fa := g.fa, cls := g.cls, hN := g.hN, nd := g.nd, sc := g.sc, own := g.own, calm := g.calm
          hot := fun hh => (by rw [n1] at hh; cases hh), sui := fun hh => (by rw [n2] at hh; cases hh), un := g.un, tk := tk, pass := fun _ => pass, stk := g.stk }
        exact ihb.l gt h7
      · have gs : GoodS sg Γ f k { cf with calm := false, hot := true, sui := true } { cl with xa := some a, xd := d, xc := c' } (X.suite a ((a, oe) :: pn)) (fun _ _ _ _ => False) := {
          fa := g.fa, cls := g.cls, hN := g.hN, nd := g.nd, sc := g.sc, own := g.own, calm := fun hh => by cases hh
          hot := fun _ => ⟨Suite.hot (cl := { cl with xa := some a, xd := d, xc := c' }) ⟨X, a, oe, pn, rfl, rfl, hz, hf⟩, L2H.roomH_of ((g.room h1)) |> fun r => ⟨r.dp, r.un⟩⟩
          sui := fun _ => ⟨X, a, oe, pn, rfl, rfl, hz, hf⟩, un := g.un, tk := takes_no, pass := fun hh => (by cases hh), stk := fun hh => (by cases hh) }
        exact ihs.l gs h8
    · cases h
end
end Ly
end
section
set_option Elab.async false
set_option linter.all false
set_option maxRecDepth 100000
set_option maxHeartbeats 4000000
/-! MaH: the text's defs, joined one by one. -/
namespace Ly
open PySem PySem.Spec PyProof.Rows L2

section
variable {sg : Sig} {Γ : Mean} {f : Nat → Addr} {k : Nat} {P : Program} {w : World} {K : PySem.W.Frag} {mg : Str → Option Value} {base : Heap}
theorem FnH.mono {CX : CXT} {j : Nat} {g : Addr} {fd : FuncData} {ps : List Str} {sp : Sp} (F : L2H.FnH P w K mg base CX j g fd ps sp) (h : j ≤ k) : L2H.FnH P w K mg base CX k g fd ps sp :=
  ⟨F.len, fun A outer s H args us vs Q E p hr => F.run A outer s H args us vs Q E p (hr.mono h)⟩
theorem FnAt.mono {j : Nat} {g : Addr} {fd : FuncData} {ps : List Str} {sp : Nat → Sp} (F : FnAt P w K mg base j g fd ps sp) (h : j ≤ k) : FnAt P w K mg base k g fd ps sp :=
  ⟨F.len, fun A outer s H args us vs Q E hr => F.go A outer s H args us vs Q E (hr.mono h)⟩
theorem Facts.mono {j : Nat} (F : Facts sg Γ f j P w K mg base) (h : j ≤ k) : Facts sg Γ f k P w K mg base where
  blt := F.blt
  fn := fun a b c d => by obtain ⟨g, fd, ps, h1, h2, h3, h4⟩ := F.fn a b c d; exact ⟨g, fd, ps, h1, h2, h3, h4.mono h⟩
  hot := fun a b c d => by obtain ⟨g, fd, ps, h1, h2, h3, h4⟩ := F.hot a b c d; exact ⟨g, fd, ps, h1, h2, h3, fun xa xd xc => FnH.mono (h4 xa xd xc) h⟩
  gl := F.gl
  mt := fun a b c d e => by obtain ⟨h0, g, fd, ps, h1, h2, h3⟩ := F.mt a b c d e; exact ⟨h0, g, fd, ps, h1, h2, h3.mono h⟩
  cnm := F.cnm
  inst := F.inst
  fls := F.fls
  nw := fun a b c d => by obtain ⟨g, fd, ps, h1, h2, h3, h4⟩ := F.nw a b c d; exact ⟨g, fd, ps, h1, h2, h3.mono h, h4⟩
  eqs := fun a b d => by obtain ⟨g, fd, ps, h1, h2, h3⟩ := F.eqs a b d; exact ⟨g, fd, ps, h1, h2, h3.mono h⟩
  lens := fun a b d => by obtain ⟨g, fd, ps, h1, h2, h3⟩ := F.lens a b d; exact ⟨g, fd, ps, h1, h2, h3.mono h⟩
  its := fun a b d => by obtain ⟨g, fd, ps, h1, h2, h3⟩ := F.its a b d; exact ⟨g, fd, ps, h1, h2, FnAt.mono h3 h⟩
  xcs := fun a b d => by obtain ⟨h0, h1, h2, g, fd, ps, h3, h4, h5, h6⟩ := F.xcs a b d; exact ⟨h0, h1, h2, g, fd, ps, h3, h4, h5, h6.mono h⟩
  sub := F.sub
/-- the frame of a def called by calm code -/
theorem good_cx {N : List Str} {sc : Scope} {qual : Str} {g : Addr} {cdv : Value} {A : Around} {outer : List Env} {s : Shared} {H : Hp} {E : XK} (fa : Facts sg Γ f k P w K mg base) (nd : N.Nodup) (hr : Room (k + 1) (A.deeper (envOfC qual sc s.heap.objs.size g cdv))) :
    GoodS sg Γ f k ⟨N, sc, fun _ => true, true, false, false⟩ ⟨f, none, none, 0⟩ (cxOf (L2N.CX P w) P w K mg base N qual sc g cdv A outer s H E) (fun cls d _ H => E cls d H) where
  fa := fa
  cls := rfl
  hN := rfl
  nd := nd
  sc := rfl
  own := fun _ _ => rfl
  calm := fun _ => ⟨rfl, hr, rfl⟩
  hot := fun h => by cases h
  sui := fun h => by cases h
  un := by have := hr.un; show (A.deeper (envOfC qual sc s.heap.objs.size g cdv)).units + 65 < cLine; omega
  tk := L2N.takes_of rfl rfl rfl rfl
  pass := fun _ => L2.passes_of rfl
  stk := fun _ => ⟨rfl, rfl⟩
/-- the frame of a def called within an except suite -/
theorem good_cxH {N : List Str} {sc : Scope} {qual : Str} {g : Addr} {cdv : Value} {A : Around} {outer : List Env} {s : Shared} {H : Hp} {E : XK} {p : Addr × Obj} {xa xd : Option Addr} {xc : Nat} (fa : Facts sg Γ f k P w K mg base) (nd : N.Nodup) (hp : L2H.Hot1 A p) (hr : L2H.RoomH (k + 1) (A.deeper (envOfC qual sc s.heap.objs.size g cdv))) :
    GoodS sg Γ f k ⟨N, sc, fun _ => true, false, true, false⟩ ⟨f, xa, xd, xc⟩ (L2H.cxH (L2N.CX P w) P w K mg base N qual sc g cdv A outer s H E p) (fun cls d _ H => E cls d H) where
  fa := fa
  cls := rfl
  hN := rfl
  nd := nd
  sc := rfl
  own := fun _ _ => rfl
  calm := fun h => by cases h
  hot := fun _ => ⟨⟨p, hp, List.mem_singleton.mpr rfl⟩, hr.mono (Nat.le_succ _)⟩
  sui := fun h => by cases h
  un := by have := hr.un; show (A.deeper (envOfC qual sc s.heap.objs.size g cdv)).units + 65 < cLine; omega
  tk := L2N.takes_of rfl rfl rfl rfl
  pass := fun h => by cases h
  stk := fun h => by cases h
/-- a def's own scope, looked at -/
def scpB (N ps : List Str) (z : Scope) : Bool := (decide N.Nodup && decide (N.take ps.length = ps)) && ((z.kind == .function) && (!z.isGenerator && (!z.isCoroutine && (ps.all (locB z) && z.names.all fun p => !(p.2 == .free)))))
theorem scpB_ok {N ps : List Str} {z : Scope} (h : scpB N ps z = true) : FnScope N ps z := by
  unfold scpB at h
  simp only [Bool.and_eq_true, decide_eq_true_eq, Bool.not_eq_true', List.all_eq_true] at h
  obtain ⟨⟨a, b⟩, c, d, e, q, r⟩ := h
  refine ⟨by simpa using c, e, d, a, b, fun x hx => ?_, fun y hy => by simpa using r y hy⟩
  have := q x hx
  unfold locB at this
  split at this
  · exact .inl (by assumption)
  · exact .inr (by assumption)
  · cases this
/-- the check of a def -/
def defC (sg : Sig) (N ps : List Str) (st : Stmt) (b : B) : Bool := scpB N ps (defScope st) && (chkS sg b).l ⟨N, defScope st, fun _ => true, true, false, false⟩ (defBody st)
def hotC (sg : Sig) (N ps : List Str) (st : Stmt) (b : B) : Bool := scpB N ps (defScope st) && (chkS sg b).l ⟨N, defScope st, fun _ => true, false, true, false⟩ (defBody st)
/-- what the mirror says is what the core says -/
def Mirr (sg : Sig) (Γ : Mean) (N n : Nat) (b : B) (m : List D → Out) : Prop := ∀ ds, ds.length = n → m ds ≠ .bad → outOf (evS sg Γ b (initS N ds)) = m ds
theorem def_ok {x qual : Str} {st : Stmt} {g : Addr} {fd : FuncData} {N ps : List Str} {n : Nat} {m : List D → Out} {b : B} (fa : Facts sg Γ f k P w K mg base) (F : Fun K x qual st g fd) (hc : defC sg N ps st b = true) (hn : ps.length = n) (hm : Mirr sg Γ N.length n b m) :
    FnOk P w K mg base (L2N.CX P w) (k + 2) g fd ps (spD K ⟨f, none, none, 0⟩ n m) := by
  unfold defC at hc
  rw [Bool.and_eq_true] at hc
  exact okD F (scpB_ok hc.1) hn hm fun cdv A outer s H E hr => (soundS b).l (good_cx fa (scpB_ok hc.1).nd hr) hc.2
theorem hot_ok {x qual : Str} {st : Stmt} {g : Addr} {fd : FuncData} {N ps : List Str} {n : Nat} {m : List D → Out} {b : B} (fa : Facts sg Γ f k P w K mg base) (F : Fun K x qual st g fd) (hc : hotC sg N ps st b = true) (hn : ps.length = n) (hm : Mirr sg Γ N.length n b m) (xa xd : Option Addr) (xc : Nat) :
    L2H.FnH P w K mg base (L2N.CX P w) (k + 2) g fd ps (spD K ⟨f, xa, xd, xc⟩ n m) := by
  unfold hotC at hc
  rw [Bool.and_eq_true] at hc
  exact okH F (scpB_ok hc.1) hn hm fun cdv A outer s H E p hp hr => (soundS b).l (good_cxH fa (scpB_ok hc.1).nd hp hr) hc.2
theorem init_ok {x qual : Str} {st : Stmt} {g : Addr} {fd : FuncData} {N ps : List Str} {c n : Nat} {m : List D → Out} {b : B} (fa : Facts sg Γ f k P w K mg base) (F : Fun K x qual st g fd) (hc : defC sg N ps st b = true) (hn : ps.length = n + 1)
    (hm : ∀ a ds, ds.length = n → m ds ≠ .bad → outI a c (evS sg Γ b (initI a c N.length ds)) = m ds) : FnOk P w K mg base (L2N.CX P w) (k + 2) g fd ps (spI K ⟨f, none, none, 0⟩ c n m) := by
  unfold defC at hc
  rw [Bool.and_eq_true] at hc
  exact okI F (scpB_ok hc.1) hn (evS_len sg Γ b) hm fun cdv A outer s H E hr => (soundS b).l (good_cx fa (scpB_ok hc.1).nd hr) hc.2
/-- def __iter__(self): return iter(self.f) -/
def iterC (s0 fl : Str) (st : Stmt) : Bool := scpB [s0] [s0] (defScope st) && (match defBody st with
  | [.Return (some (.Call (.Name i _) [.Attribute (.Name y _) fl' _] [] _)) _] => decide (i = "iter") && (decide (y = s0) && (decide (fl' = fl) && (plainB s0 && (glB (defScope st) "iter"))))
  | _ => false)
theorem iter_ok {x qual s0 fl : Str} {st : Stmt} {g : Addr} {fd : FuncData} {C : Addr} (F : Fun K x qual st g fd) (hc : iterC s0 fl st = true) (cC : Cls K C) (nA : NoAttr K C fl) (hm : mg "iter" = none) : FnAt P w K mg base (k + 1) g fd [s0] (spIt K C fl) := by
  unfold iterC at hc
  rw [Bool.and_eq_true] at hc
  obtain ⟨h1, h2⟩ := hc
  refine fun_at F (scpB_ok h1) (fun lo vs H Q E h => ?_) fun cdv A outer s H vs Q E hr h => ?_
  · obtain ⟨a, dx, l, fs, zs, rfl, _⟩ := h
    rfl
  · split at h2
    · rename_i i ip y yp fl' ap cp rp heq
      simp only [Bool.and_eq_true, decide_eq_true_eq] at h2
      obtain ⟨rfl, rfl, rfl, h3, h4⟩ := h2
      rw [heq]
      obtain ⟨a, dx, l, fs, zs, rfl, ha, hl, hq, q⟩ := h
      have hv : Vis (defScope st) y := by
        rcases (scpB_ok h1).par y (List.mem_singleton.mpr rfl) with e | e
        · exact .inl e
        · exact .inr (.inl e)
      let X := cxOf (L2N.CX P w) P w K mg base [y] qual (defScope st) g cdv A outer s H E
      have p0 : PE X (.Name y yp) (tVar 0) := pe_var (i := 0) rfl hv (plainB_ok h3).1 (plainB_ok h3).2
      have p1 : PE X (.Attribute (.Name y yp) fl' ap) (tFld X.K (tVar 0) fl') := pe_fld p0 (base_any rfl _ _ _)
      have p2 := pe_callB (X := X) (x := "iter") (p := ip) (pos := cp) call_iterT (glB_ok h4) hm (by decide +kernel) (pa_cons p1 pa_nil rfl)
      exact ⟨_, pss_cons (ps_ret p2) pss_nil, .ref a, rfl, a, C, dx, fs, .ref l, rfl, ha, cC, nA, hl, l, zs, rfl, hq, fun it h1 h2 => q it h1 h2⟩
    · cases h2
/-- class C(..): def __init__(self, p): super().__init__(f'..{p}..'); self.g = p -/
def msgB (x : Str) : Expr → Bool
  | .JoinedStr [.Constant (.str a) _ _, .FormattedValue (.Name y _) (-1) none _, .Constant (.str b) _ _] _ => decide (y = x) && decide (a.length + b.length < 2000)
  | _ => false
def xinC (s0 p g : Str) (st : Stmt) : Bool := NdefX.nscB [s0, p, "__class__"] [s0, p] ["__class__"] (defScope st) && (match defBody st with
  | [.Expr (.Call (.Attribute (.Call (.Name su _) [] [] _) ini ap) [msg] [] cp) _, .Assign [.Attribute (.Name y _) g' _] (.Name z _) _] => decide (su = "super") && (decide (ini = "__init__") && (decide (y = s0) && (decide (z = p) && (decide (g' = g) && ((ap.endLine == cp.line) && (msgB p msg && (plainB s0 && (plainB p && (glB (defScope st) "super" && (match (defArgs st).posonlyargs ++ (defArgs st).args with | ar :: _ => decide (ar.arg = s0) | [] => false))))))))))
  | _ => false)
theorem msg_ok {s0 p : Str} {sc : Scope} {msg : Expr} (h : msgB p msg = true) (hp : plainB p = true) (hv : Vis sc p) : MsgOk [s0, p, "__class__"] sc msg okMsg := by
  unfold msgB at h
  split at h
  · rename_i a a1 ap y yp fp b b1 bp jp
    simp only [Bool.and_eq_true, decide_eq_true_eq] at h
    obtain ⟨rfl, hl⟩ := h
    refine ⟨_, fun X hN hs => pe_joined (.cons pe_str (.cons (pe_fmt (pe_var (i := 1) (by rw [hN]; rfl) (by rw [hs]; exact hv) (plainB_ok hp).1 (plainB_ok hp).2)) (.cons pe_str .nil))), fun σ H v ⟨i, ev, hi⟩ hσ => ?_⟩
    subst ev
    have hz := int_text_length_le (k := 1920) (by decide) hi
    have e0 : (Str.ofString (toString i)).length ≤ 4000 := by rw [PySem.ofString_length]; omega
    have eA := Str.length_append
    refine ⟨a, rfl, ?_, .int i, hσ, .inr ⟨i, rfl, hi, _, rfl, ?_, b, rfl, ?_, ⟨_, rfl⟩, rfl⟩⟩
    · rw [eA, sizeLine_eq]; show 0 + _ ≤ _; omega
    · rw [eA, eA, sizeLine_eq]; show 0 + _ + _ ≤ _; omega
    · rw [eA, eA, eA, sizeLine_eq]; show 0 + _ + _ + _ ≤ _; omega
  · cases h
theorem xin_ok {qual s0 p g : Str} {st : Stmt} {fI : Addr} {fd : FuncData} {C : Addr} (F : XInit P K mg C fI qual st fd) (hc : xinC s0 p g st = true) (hno : PySem.W.findIn K (.ref C) g = some none) : FnOk P w K mg base (L2N.CX P w) (k + 1) fI fd [s0, p] (spX C g okMsg) := by
  unfold xinC at hc
  rw [Bool.and_eq_true] at hc
  obtain ⟨h1, h2⟩ := hc
  split at h2
  · rename_i su sup sup1 ini ap msg cp ep y yp g' gp z zp asp heq
    simp only [Bool.and_eq_true, decide_eq_true_eq] at h2
    obtain ⟨rfl, rfl, rfl, rfl, rfl, h3, h4, h5, h6, h7, h8⟩ := h2
    split at h8
    · rename_i ar rest har
      simp only [decide_eq_true_eq] at h8
      have S := NdefX.nscope_by h1
      refine exc_init F S heq h3 (ar := ar) (by rw [har]; rfl) h8 (glB_ok h7) hno ?_ (msg_ok h4 h6 (.inl (S.par _ (List.mem_cons_of_mem _ (List.mem_singleton.mpr rfl))))) h5 h6
      unfold msgB at h4
      split at h4
      · rfl
      · cases h4
    · cases h8
  · cases h2
end
end Ly
end
section
set_option Elab.async false
set_option linter.all false
set_option maxRecDepth 100000
set_option maxHeartbeats 4000000
/-! MaI: what the head tells of the text's names. -/
namespace Ly
open PySem PySem.Spec PyProof.Rows L2
open He (ga ma fAd eqO eqO_ok ba)

abbrev bmV : List Value := [.type "ValueError", .type "Exception", .type "BaseException", .type "object"]
/-- an exception class of the text, laid on ValueError -/
def oexB (K : PySem.W.Frag) (a : Addr) : Bool := match K.lookup a with
  | some ⟨.type t, _, .cls cd, sl⟩ => decide (t = "type") && (match cd.mro, sl.toList with
    | .ref b :: bm, [_, _, _, _, some (.builtin n), _] => decide (b = a) && (decide (n = "ValueError.__new__") && (!cd.hasDel && (cd.hasDict && PySem.HandSPX.refsVE bm)))
    | _, _ => false)
  | _ => false
theorem oexB_ok {K : PySem.W.Frag} {C : Addr} (h : oexB K C = true) : ∃ nm q N bs bm sn sub ab col dd k0 k1 k2 k3 k5, K.lookup C = some (excClassObj nm q C N bs bm true sn sub ab col dd k0 k1 k2 k3 k5 "ValueError.__new__") ∧ PySem.HandSPX.refsVE bm = true := by
  unfold oexB at h
  split at h
  · rename_i t dd cd sl he
    rw [Bool.and_eq_true] at h
    obtain ⟨h1, h2⟩ := h
    split at h2
    · rename_i b bm k0 k1 k2 k3 n k5 hm hs
      simp only [Bool.and_eq_true, decide_eq_true_eq, Bool.not_eq_true'] at h1 h2
      obtain ⟨rfl, rfl, h3, h4, h5⟩ := h2
      subst h1
      obtain ⟨c1, c2, c3, c4, c5, c6, c7, c8, c9, c10, c11⟩ := cd
      dsimp only at hm h3 h4
      subst hm h3 h4
      obtain ⟨sl⟩ := sl
      dsimp only at hs
      subst hs
      exact ⟨_, _, _, _, _, _, _, _, _, _, _, _, _, _, _, he, h5⟩
    · cases h2
  · cases h
/-- a fact of the text's names; o a b: a's kinship to b -/
inductive MF where
  | glo (x : Str) | free (x : Str) | int (x : Str) (i : Int) | str (x z : Str)
  | cls (x : Str) | inst (x : Str) | noat (x g : Str) | meth (x m : Str) | mkr (x : Str)
  | eq (x : Str) | len (x : Str) | iter (x : Str)
  | exc (x : Str) | sub (x y : Str) (b : Bool) | xin (x : Str)
def MF.ok (K : PySem.W.Frag) : MF → Bool
  | .glo x => eqO (PySem.W.nsIn K mainGlobals x) (some (some (.ref (ga K x))))
  | .free x => eqO (PySem.W.nsIn K mainGlobals x) (some none)
  | .int x i => (He.Fa.int x i).ok K
  | .str x z => (He.Fa.str x z).ok K
  | .cls x => (He.Fa.cls x).ok K
  | .inst x => eqO (PySem.W.findIn K (.ref (ga K x)) "__class__") (some (some (.builtin "object.__class__"))) && (eqO (PySem.W.specialIn K (.builtin "object.__class__") "__get__") (some (some (.builtin "getset_descriptor.__get__"))) && (decide (PySem.W.takesIn K (.builtin "object.__class__") = some true) &&
      (decide (PySem.W.mroIn K (ga K x) (.type "object") = some true) && (decide (PySem.W.kitOne K (.ref (ga K x)) (.ref (ga K x)) = some true) && decide (PySem.W.kitOne K (.type "str") (.ref (ga K x)) = some false)))))
  | .noat x g => eqO (PySem.W.findIn K (.ref (ga K x)) g) (some none)
  | .meth x m => (He.Fa.meth x m).ok K
  | .mkr x => (He.Fa.mkr x).ok K
  | .eq x => eqO (PySem.W.findIn K (.ref (ga K x)) "__eq__") (some (some (.ref (ma K (ga K x) "__eq__")))) && (PySem.W.isFn K (.ref (ma K (ga K x) "__eq__")) && (eqO (PySem.W.findIn K (.ref (ga K x)) "__ne__") (some (some (.builtin "object.__ne__"))) &&
      (decide (PySem.W.mroIn K (ga K x) (.type "object") = some true) && decide (PySem.W.subIn K (.type "str") (.ref (ga K x)) = some false))))
  | .len x => eqO (PySem.W.findIn K (.ref (ga K x)) "__len__") (some (some (.ref (ma K (ga K x) "__len__")))) && PySem.W.isFn K (.ref (ma K (ga K x) "__len__"))
  | .iter x => eqO (PySem.W.findIn K (.ref (ga K x)) "__iter__") (some (some (.ref (ma K (ga K x) "__iter__")))) && PySem.W.isFn K (.ref (ma K (ga K x) "__iter__"))
  | .exc x => oexB K (ga K x) && (eqO (PySem.W.findIn K (.ref (ga K x)) "__setattr__") (some (some (.builtin "object.__setattr__"))) && (decide (PySem.W.subIn K (.ref (ga K x)) (.type "BaseException") = some true) && (decide (PySem.W.typeIn K (.ref (ga K x)) = some (.type "type")) && (PySem.W.keepIn K (.ref (ga K x)) &&
      (eqO (PySem.W.findIn K (.ref (ga K x)) "__getattribute__") (some (some (.builtin "BaseException.__getattribute__"))) && (eqO (PySem.W.findIn K (.ref (ga K x)) "__getattr__") (some none) && (PySem.W.hasDictIn K (ga K x) &&
      (eqO (PySem.W.findIn K (.ref (ga K x)) "__class__") (some (some (.builtin "object.__class__"))) && (eqO (PySem.W.specialIn K (.builtin "object.__class__") "__get__") (some (some (.builtin "getset_descriptor.__get__"))) && (decide (PySem.W.takesIn K (.builtin "object.__class__") = some true) &&
      decide (PySem.W.mroIn K (ga K x) (.type "object") = some true)))))))))))
  | .sub x y b => decide (PySem.W.kitOne K (.ref (ga K x)) (.ref (ga K y)) = some b) && decide (PySem.W.exmOne K (.ref (ga K x)) (.ref (ga K y)) = some b)
  | .xin x => eqO (PySem.W.findIn K (.ref (ga K x)) "__init__") (some (some (.ref (ma K (ga K x) "__init__")))) && (decide (PySem.W.typeIn K (.ref (ma K (ga K x) "__init__")) = some (.type "function")) &&
      (decide (PySem.W.ks_superIn K (ga K x) (ga K x) "__init__" = some (some (.builtin "ValueError.__init__"))) && (decide (PySem.W.mroIn K (ga K x) (.ref (ga K x)) = some true) && (decide (PySem.W.subIn K (.ref (ga K x)) (.type "ValueError") = some true) &&
      (eqO (PySem.W.nsIn K cStatics "thirdparty.any") (some none) && (PySem.W.excInitIn K (ga K x) bmVE "ValueError.__new__" && eqO (PySem.W.nsIn K mainGlobals "super") (some none)))))))
section
variable {K : PySem.W.Frag} {h : Heap} {mg : Str → Option Value} {x : Str}
theorem glo_ok (X : K.In h) (G : h.Ns mainGlobals mg) (c : (MF.glo x).ok K = true) : mg x = some (.ref (ga K x)) := PySem.W.mg_of X G (eqO_ok c)
theorem free_ok (X : K.In h) (G : h.Ns mainGlobals mg) (c : (MF.free x).ok K = true) : mg x = none := PySem.W.mg_none_of X G (eqO_ok c)
theorem inst_ok (X : K.In h) (G : h.Ns mainGlobals mg) (c0 : (MF.glo x).ok K = true) (c1 : (MF.cls x).ok K = true) (c : (MF.inst x).ok K = true) : ClsF K mg (ga K x) x := by
  simp only [MF.ok, Bool.and_eq_true, decide_eq_true_eq] at c
  obtain ⟨a1, a2, a3, a4, a5, a6⟩ := c
  exact ⟨glo_ok X G c0, He.cls_ok c1, eqO_ok a1, eqO_ok a2, a3, a4, a5, a6⟩
theorem eqF_ok (c : (MF.eq x).ok K = true) : EqF K (ga K x) (ma K (ga K x) "__eq__") := by
  simp only [MF.ok, Bool.and_eq_true, decide_eq_true_eq] at c
  obtain ⟨a1, a2, a3, a4, a5⟩ := c
  exact ⟨eqO_ok a1, a2, eqO_ok a3, a4, a5⟩
theorem len_ok (c : (MF.len x).ok K = true) : LenF K (ga K x) (ma K (ga K x) "__len__") := by
  simp only [MF.ok, Bool.and_eq_true] at c
  exact ⟨eqO_ok c.1, c.2⟩
theorem iterF_ok (c : (MF.iter x).ok K = true) : IterF K (ga K x) (ma K (ga K x) "__iter__") := by
  simp only [MF.ok, Bool.and_eq_true] at c
  exact ⟨eqO_ok c.1, c.2⟩
theorem exc_ok (c : (MF.exc x).ok K = true) : OexC K (ga K x) ∧ XfC K (ga K x) ∧ ExcC K (ga K x) := by
  simp only [MF.ok, Bool.and_eq_true, decide_eq_true_eq] at c
  obtain ⟨a1, a2, a3, a4, a5, a6, a7, a8, a9, a10, a11, a12⟩ := c
  exact ⟨⟨oexB_ok a1, eqO_ok a2, a3, a4, a5⟩, ⟨eqO_ok a6, eqO_ok a7, a3, a8⟩, ⟨eqO_ok a6, eqO_ok a7, a3, a8, eqO_ok a9, eqO_ok a10, a11, a12⟩⟩
theorem kin_ok {y : Str} {b : Bool} (c : (MF.sub x y b).ok K = true) : PySem.W.kitOne K (.ref (ga K x)) (.ref (ga K y)) = some b ∧ PySem.W.exmOne K (.ref (ga K x)) (.ref (ga K y)) = some b := by
  simp only [MF.ok, Bool.and_eq_true, decide_eq_true_eq] at c
  exact c
end
/-! ### the defs -/
abbrev FnV : Type := Option ((Str × Str × Arguments × FuncBody × Scope × Addr) × List Str × Addr)
def fnV (K : PySem.W.Frag) (p : Str × Option Str) : FnV := match K.lookup (fAd K p) with
  | some ⟨_, _, .func fd, _⟩ => some ((fd.name, fd.qualname, fd.params, fd.body, fd.scope, fd.globals), fd.closure.map (·.1), fd.builtins)
  | _ => none
/-- one def of the text; sup: its class stands in its closure -/
structure DefM where
  at_ : Str × Option Str
  qual : Str
  st : Stmt
  sup : Bool := false
def DefM.name (d : DefM) : Str := d.at_.2.getD d.at_.1
def DefM.val (d : DefM) : FnV := some ((d.name, d.qual, defArgs d.st, .stmts (defBody d.st), defScope d.st, mainGlobals), if d.sup then ["__class__"] else [], builtinsNs)
/-- the cell of the class -/
def supB (fl : Str) (K : PySem.W.Frag) (fd : FuncData) (C : Addr) : Bool := (match fd.closure with
    | [(_, cc)] => (match K.lookup cc with
      | some ⟨_, _, .cell (some (.ref b)), _⟩ => decide (b = C)
      | _ => false)
    | _ => false) && (match fd.code with
    | .ref c => (match K.lookup c with
      | some ⟨_, _, .fields vs, _⟩ => (match vs[2]? with
        | some (Value.str f _) => f == fl
        | _ => false)
      | _ => false)
    | _ => false)
def DefM.ok (fl : Str) (K : PySem.W.Frag) (d : DefM) : Bool := PySem.W.keepIn K (.ref (fAd K d.at_)) && (match K.lookup (fAd K d.at_) with
  | some ⟨_, _, .func fd, _⟩ => PySem.W.codeIn K fd.code d.qual && ((match fd.defaults with | .none => true | _ => false) && (!d.sup || supB fl K fd (ga K d.at_.1)))
  | _ => false)
theorem DefM.fun {fl : Str} {K : PySem.W.Frag} {d : DefM} (hs : d.sup = false) (e : fnV K d.at_ = d.val) (c : d.ok fl K = true) : ∃ fd, Fun K d.name d.qual d.st (fAd K d.at_) fd := by
  unfold DefM.ok at c
  rw [Bool.and_eq_true] at c
  obtain ⟨kp, c2⟩ := c
  unfold fnV at e
  unfold DefM.val at e
  cases q : K.lookup (fAd K d.at_) with
  | none => rw [q] at c2; cases c2
  | some o =>
    obtain ⟨oc, od, dt, osl⟩ := o
    rw [q] at c2 e
    cases dt with
    | func fd =>
      obtain ⟨n1, n2, n3, n4, n5, n6, n7, n8, n9, n10, n11, n12, n13, n14, n15⟩ := fd
      simp only [hs, Option.some.injEq, Prod.mk.injEq, Bool.false_eq_true, if_false, List.map_eq_nil_iff] at e
      obtain ⟨⟨h1, h2, h3, h4, h5, h6⟩, h7, h8⟩ := e
      subst h1 h2 h3 h4 h5 h6 h7 h8
      simp only [Bool.and_eq_true] at c2
      obtain ⟨k1, k2, _⟩ := c2
      cases n8 with
      | none => exact ⟨_, ⟨⟨oc, od, n9, n10, n11, n12, n13, n14, osl, rfl, q, k1⟩, kp⟩⟩
      | _ => cases k2
    | _ => cases c2
theorem DefM.xin {P : Program} {K : PySem.W.Frag} {h : Heap} {mg : Str → Option Value} (X : K.In h) (G : h.Ns mainGlobals mg) {d : DefM} (hs : d.sup = true) (hm : d.at_.2 = some "__init__") (e : fnV K d.at_ = d.val) (c : d.ok P.main.file K = true)
    (ce : (MF.exc d.at_.1).ok K = true) (cx : (MF.xin d.at_.1).ok K = true) (top : (P.main.scope.names.lookup ("super" : Str)).isSome = false) : ∃ fd, XInit P K mg (ga K d.at_.1) (fAd K d.at_) d.qual d.st fd := by
  obtain ⟨oex, _, _⟩ := exc_ok ce
  simp only [MF.ok, Bool.and_eq_true, decide_eq_true_eq] at cx
  obtain ⟨x1, x2, x3, x4, x5, x6, x7, x8⟩ := cx
  unfold DefM.ok at c
  rw [Bool.and_eq_true] at c
  obtain ⟨kp, c2⟩ := c
  unfold fnV at e
  unfold DefM.val at e
  cases q : K.lookup (fAd K d.at_) with
  | none => rw [q] at c2; cases c2
  | some o =>
    obtain ⟨oc, od, dt, osl⟩ := o
    rw [q] at c2 e
    cases dt with
    | func fd =>
      obtain ⟨n1, n2, n3, n4, n5, n6, n7, n8, n9, n10, n11, n12, n13, n14, n15⟩ := fd
      simp only [hs, Option.some.injEq, Prod.mk.injEq, if_true] at e
      obtain ⟨⟨h1, h2, h3, h4, h5, h6⟩, h7, h8⟩ := e
      have h1 : n1 = "__init__" := by rw [h1]; unfold DefM.name; rw [hm]; rfl
      subst h1 h2 h3 h4 h5 h6 h8
      simp only [Bool.and_eq_true, hs, Bool.not_true, Bool.false_or] at c2
      obtain ⟨k1, k2, k3⟩ := c2
      unfold supB at k3
      rw [Bool.and_eq_true] at k3
      obtain ⟨k4, k5⟩ := k3
      dsimp only at k4 k5
      split at k4
      · rename_i cn cc
        simp only [List.map_cons, List.map_nil, List.cons.injEq, and_true] at h7
        subst h7
        split at k4
        · rename_i ccl ccd cb ccs hcell
          have hb : cb = ga K d.at_.1 := of_decide_eq_true k4
          subst hb
          split at k5
          · rename_i cda
            split at k5
            · rename_i dcl ddd vs dcs hcode
              split at k5
              · rename_i fl tf hv
                cases n8 with
                | none =>
                  have hcd : ∃ cd, PySem.W.clsIn K (ga K d.at_.1) = some cd := by
                    obtain ⟨nm, q0, N, bs, bm, sn, sub, ab, col, dd, k0, k1, k2, k3, k5, hl, _⟩ := oex.cls
                    unfold PySem.W.clsIn
                    rw [hl]
                    exact ⟨_, rfl⟩
                  exact ⟨_, ⟨oex, ⟨oc, od, n9, n10, n11, n12, cda, n14, osl, cc, rfl, q, k1, ⟨dcl, ddd, vs, dcs, fl, tf, hcode, hv, by rw [beq_iff_eq] at k5 ⊢; exact k5.symm⟩, ccl, ccd, ccs, hcell⟩, hcd, x3, x4, x5, eqO_ok x6, x7, free_ok X G (x := "super") x8, top⟩⟩
                | _ => cases k2
              · cases k5
            · cases k5
          · cases k5
        · cases k4
      · cases k4
    | _ => cases c2
/-! ### the Hook -/
abbrev AlM : Type := Bool × List FnV
def obsM (fl : Str) (fs : List MF) (ds : List DefM) (K : PySem.W.Frag) : AlM := (fs.all (fun f => f.ok K) && ds.all (fun d => d.ok fl K), ds.map fun d => fnV K d.at_)
def valM (ds : List DefM) : AlM := (true, ds.map DefM.val)
def frM (g : Addr → Option Obj) (n : Nat) : PySem.W.Frag := He.frG g (He.asD g n ++ [cStatics])
def hookM (n : Nat) (fl : Str) (fs : List MF) (ds : List DefM) : PySem.W.Hook where
  α := AlM
  obs := fun s => obsM fl fs ds (frM s.heap.get? n)
  val := fun _ => valM ds
  says := fun _ h => ∃ K : PySem.W.Frag, K.In h ∧ obsM fl fs ds K = valM ds
  of := fun _ _ e => ⟨_, He.frG_in, e⟩
  keeps := fun _ _ _ ⟨K, hK, c⟩ k => ⟨K, PySem.W.Frag.In.keeps hK k, c⟩
theorem obsM_eq {n : Nat} {fl : Str} {fs : List MF} {ds : List DefM} {g : Addr → Option Obj} {s : Shared} (h : ∀ a, g a = s.heap.get? a) : obsM fl fs ds (frM g n) = (hookM n fl fs ds).obs s := by
  have e : g = s.heap.get? := funext h
  rw [e] <;> rfl
section
variable {fl : Str} {fs : List MF} {ds : List DefM} {K : PySem.W.Frag}
theorem fact_of (c : obsM fl fs ds K = valM ds) {f : MF} (h : f ∈ fs) : f.ok K = true := by
  have c1 : (fs.all (fun f => f.ok K) && ds.all (fun d => d.ok fl K)) = true := congrArg (fun z : AlM => z.1) c
  rw [Bool.and_eq_true, List.all_eq_true] at c1
  exact c1.1 f h
theorem def_of (c : obsM fl fs ds K = valM ds) {d : DefM} (h : d ∈ ds) : fnV K d.at_ = d.val ∧ d.ok fl K = true := by
  have c1 : (fs.all (fun f => f.ok K) && ds.all (fun d => d.ok fl K)) = true := congrArg (fun z : AlM => z.1) c
  have c2 : ds.map (fun d => fnV K d.at_) = ds.map DefM.val := congrArg (fun z : AlM => z.2) c
  rw [Bool.and_eq_true, List.all_eq_true, List.all_eq_true] at c1
  refine ⟨?_, c1.2 d h⟩
  rw [List.map_inj_left] at c2
  exact c2 d h
end
end Ly
end
section
set_option Elab.async false
set_option linter.all false
set_option maxRecDepth 100000
set_option maxHeartbeats 4000000
/-! MaJ: the known names, one more at a time. -/
namespace Ly
open PySem PySem.Spec PyProof.Rows L2

section
variable {sg : Sig} {Γ : Mean} {f : Nat → Addr} {k : Nat} {P : Program} {w : World} {K : PySem.W.Frag} {mg : Str → Option Value} {base : Heap}
theorem Facts.addFn (F : Facts sg Γ f k P w K mg base) (j : Nat) (x : Str) (n : Nat) (h : ∃ g fd ps, mg x = some (.ref g) ∧ PySem.W.keepIn K (.ref g) = true ∧ Binds K fd ps [] ∧ FnOk P w K mg base (L2N.CX P w) k g fd ps (spD K ⟨f, none, none, 0⟩ n (Γ.fn j))) :
    Facts { sg with fns := (j, x, n) :: sg.fns } Γ f k P w K mg base where
  blt := F.blt
  fn := fun j' x' n' hm => by
    rcases List.mem_cons.mp hm with e | hm
    · cases e; exact h
    · exact F.fn j' x' n' hm
  hot := F.hot
  gl := F.gl
  mt := F.mt
  cnm := F.cnm
  inst := F.inst
  fls := F.fls
  nw := F.nw
  eqs := F.eqs
  lens := F.lens
  its := F.its
  xcs := F.xcs
  sub := F.sub
theorem Facts.addHot (F : Facts sg Γ f k P w K mg base) (j : Nat) (x : Str) (n : Nat) (h : ∃ g fd ps, mg x = some (.ref g) ∧ PySem.W.keepIn K (.ref g) = true ∧ Binds K fd ps [] ∧ ∀ xa xd xc, L2H.FnH P w K mg base (L2N.CX P w) k g fd ps (spD K ⟨f, xa, xd, xc⟩ n (Γ.hot j))) :
    Facts { sg with hots := (j, x, n) :: sg.hots } Γ f k P w K mg base where
  blt := F.blt
  fn := F.fn
  hot := fun j' x' n' hm => by
    rcases List.mem_cons.mp hm with e | hm
    · cases e; exact h
    · exact F.hot j' x' n' hm
  gl := F.gl
  mt := F.mt
  cnm := F.cnm
  inst := F.inst
  fls := F.fls
  nw := F.nw
  eqs := F.eqs
  lens := F.lens
  its := F.its
  xcs := F.xcs
  sub := F.sub
theorem Facts.addMt (F : Facts sg Γ f k P w K mg base) (j c : Nat) (x : Str) (n : Nat) (h : Cls K (f c) ∧ ∃ g fd ps, Meth K (f c) x g ∧ Binds K fd ps [] ∧ FnOk P w K mg base (L2N.CX P w) k g fd ps (spD K ⟨f, none, none, 0⟩ n (Γ.mt j))) :
    Facts { sg with mts := (j, c, x, n) :: sg.mts } Γ f k P w K mg base where
  blt := F.blt
  fn := F.fn
  hot := F.hot
  gl := F.gl
  mt := fun j' c' x' n' hm => by
    rcases List.mem_cons.mp hm with e | hm
    · cases e; exact h
    · exact F.mt j' c' x' n' hm
  cnm := F.cnm
  inst := F.inst
  fls := F.fls
  nw := F.nw
  eqs := F.eqs
  lens := F.lens
  its := F.its
  xcs := F.xcs
  sub := F.sub
theorem Facts.addNw (F : Facts sg Γ f k P w K mg base) (j c n : Nat) (h : ∃ g fd ps, Mk K (f c) g ∧ Binds K fd ps [] ∧ FnOk P w K mg base (L2N.CX P w) k g fd ps (spI K ⟨f, none, none, 0⟩ c n (Γ.nw j)) ∧
    ∀ y, (j, c, y) ∈ sg.nwk → ∀ (s2 : Shared) (u0 u : Value), K.In s2.heap → BindsTo s2 fd ⟨[u0], [(y, u)]⟩ (ps.zip [u0, u])) :
    Facts { sg with nws := (j, c, n) :: sg.nws } Γ f k P w K mg base where
  blt := F.blt
  fn := F.fn
  hot := F.hot
  gl := F.gl
  mt := F.mt
  cnm := F.cnm
  inst := F.inst
  fls := F.fls
  nw := fun j' c' n' hm => by
    rcases List.mem_cons.mp hm with e | hm
    · cases e; exact h
    · exact F.nw j' c' n' hm
  eqs := F.eqs
  lens := F.lens
  its := F.its
  xcs := F.xcs
  sub := F.sub
theorem Facts.addEq (F : Facts sg Γ f k P w K mg base) (c j : Nat) (h : ∃ g fd ps, EqF K (f c) g ∧ Binds K fd ps [] ∧ FnOk P w K mg base (L2N.CX P w) k g fd ps (spD K ⟨f, none, none, 0⟩ 2 (Γ.mt j))) :
    Facts { sg with eqs := (c, j) :: sg.eqs } Γ f k P w K mg base where
  blt := F.blt
  fn := F.fn
  hot := F.hot
  gl := F.gl
  mt := F.mt
  cnm := F.cnm
  inst := F.inst
  fls := F.fls
  nw := F.nw
  eqs := fun j' n' hm => by
    rcases List.mem_cons.mp hm with e | hm
    · cases e; exact h
    · exact F.eqs j' n' hm
  lens := F.lens
  its := F.its
  xcs := F.xcs
  sub := F.sub
theorem Facts.addLen (F : Facts sg Γ f k P w K mg base) (c j : Nat) (h : ∃ g fd ps, LenF K (f c) g ∧ Binds K fd ps [] ∧ FnOk P w K mg base (L2N.CX P w) k g fd ps (spD K ⟨f, none, none, 0⟩ 1 (Γ.mt j))) :
    Facts { sg with lens := (c, j) :: sg.lens } Γ f k P w K mg base where
  blt := F.blt
  fn := F.fn
  hot := F.hot
  gl := F.gl
  mt := F.mt
  cnm := F.cnm
  inst := F.inst
  fls := F.fls
  nw := F.nw
  eqs := F.eqs
  lens := fun j' n' hm => by
    rcases List.mem_cons.mp hm with e | hm
    · cases e; exact h
    · exact F.lens j' n' hm
  its := F.its
  xcs := F.xcs
  sub := F.sub
theorem Facts.addIt (F : Facts sg Γ f k P w K mg base) (c : Nat) (x : Str) (h : ∃ g fd ps, IterF K (f c) g ∧ Binds K fd ps [] ∧ FnAt P w K mg base k g fd ps (spIt K (f c) x)) :
    Facts { sg with its := (c, x) :: sg.its } Γ f k P w K mg base where
  blt := F.blt
  fn := F.fn
  hot := F.hot
  gl := F.gl
  mt := F.mt
  cnm := F.cnm
  inst := F.inst
  fls := F.fls
  nw := F.nw
  eqs := F.eqs
  lens := F.lens
  its := fun j' n' hm => by
    rcases List.mem_cons.mp hm with e | hm
    · cases e; exact h
    · exact F.its j' n' hm
  xcs := F.xcs
  sub := F.sub
theorem Facts.addXc (F : Facts sg Γ f k P w K mg base) (c : Nat) (x : Str) (h : XfC K (f c) ∧ PySem.W.findIn K (.ref (f c)) x = some none ∧ OexC K (f c) ∧ ∃ g fd ps, PySem.W.findIn K (.ref (f c)) "__init__" = some (some (.ref g)) ∧ PySem.W.typeIn K (.ref g) = some (.type "function") ∧ Binds K fd ps [] ∧
    FnOk P w K mg base (L2N.CX P w) k g fd ps (spX (f c) x okMsg)) :
    Facts { sg with xcs := (c, x) :: sg.xcs } Γ f k P w K mg base where
  blt := F.blt
  fn := F.fn
  hot := F.hot
  gl := F.gl
  mt := F.mt
  cnm := F.cnm
  inst := F.inst
  fls := F.fls
  nw := F.nw
  eqs := F.eqs
  lens := F.lens
  its := F.its
  xcs := fun j' n' hm => by
    rcases List.mem_cons.mp hm with e | hm
    · cases e; exact h
    · exact F.xcs j' n' hm
  sub := F.sub
/-- the names that are known before any def is walked -/
theorem facts0 {h : Heap} (sg : Sig) (X : K.In h) (G : h.Ns mainGlobals mg) (cn : List Str) (hf : ∀ c x, sg.cnm[c]? = some x → f c = He.ga K x)
    (e1 : sg.fns = []) (e2 : sg.hots = []) (e3 : sg.mts = []) (e4 : sg.nws = []) (e5 : sg.eqs = []) (e6 : sg.lens = []) (e7 : sg.its = []) (e8 : sg.xcs = [])
    (blt : ∀ x ∈ bltNs, (MF.free x).ok K = true) (gl : ∀ j x, (j, x) ∈ sg.gls → ∃ u v, mg x = some u ∧ RelV v u ∧ ∀ G, Rep K f G (Γ.gl j) v)
    (cnm : ∀ x ∈ sg.cnm, (MF.glo x).ok K = true) (inst : ∀ c ∈ sg.inst, ∃ x, sg.cnm[c]? = some x ∧ (MF.cls x).ok K = true ∧ (MF.inst x).ok K = true)
    (fls : ∀ c g, (c, g) ∈ sg.fls → ∃ x, sg.cnm[c]? = some x ∧ (MF.cls x).ok K = true ∧ (MF.noat x g).ok K = true)
    (sub : ∀ c j b, subT sg.sub c j = some b → ∃ x y, sg.cnm[c]? = some x ∧ sg.cnm[j]? = some y ∧ (MF.exc x).ok K = true ∧ (MF.sub x y b).ok K = true) : Facts sg Γ f k P w K mg base where
  blt := fun x hx => free_ok X G (blt x hx)
  fn := fun j x n hm => by rw [e1] at hm; cases hm
  hot := fun j x n hm => by rw [e2] at hm; cases hm
  gl := gl
  mt := fun j c x n hm => by rw [e3] at hm; cases hm
  cnm := fun c x hc => by rw [hf c x hc]; exact glo_ok X G (cnm x (List.mem_of_getElem? hc))
  inst := fun c x hi hc => by
    obtain ⟨y, hy, h1, h2⟩ := inst c hi
    rw [hc] at hy
    cases hy
    rw [hf c x hc]
    exact inst_ok X G (cnm x (List.mem_of_getElem? hc)) h1 h2
  fls := fun c g hm => by
    obtain ⟨x, hx, h1, h2⟩ := fls c g hm
    rw [hf c x hx]
    exact ⟨He.cls_ok h1, He.eqO_ok h2⟩
  nw := fun j c n hm => by rw [e4] at hm; cases hm
  eqs := fun c j hm => by rw [e5] at hm; cases hm
  lens := fun c j hm => by rw [e6] at hm; cases hm
  its := fun c j hm => by rw [e7] at hm; cases hm
  xcs := fun c j hm => by rw [e8] at hm; cases hm
  sub := fun c j b hs => by
    obtain ⟨x, y, hx, hy, h1, h2⟩ := sub c j b hs
    rw [hf c x hx, hf j y hy]
    obtain ⟨k1, k2⟩ := kin_ok h2
    exact ⟨(exc_ok h1).2.2, k1, k2⟩
end
end Ly
end
section
set_option Elab.async false
set_option linter.all false
set_option maxRecDepth 100000
set_option maxHeartbeats 4000000
/-! MaK: a law's end by data. -/
namespace Ly
open PySem PySem.Spec PyProof.Rows L2

theorem reps_ints {K : PySem.W.Frag} {f : Nat → Addr} {G : Hp} : ∀ ns : List Int, Reps K f G (ns.map D.int) (ns.map V.int)
  | [] => rfl
  | n :: ns => ⟨_, _, rfl, rfl, reps_ints ns⟩
theorem rel_script {K : PySem.W.Frag} {cl : CL} {H : Hp} {a : Addr} {ns : List Int} (h : SqL K H a (ns.map V.int)) : Rel K cl H (cellsD [.frl (ns.map D.int)] [.ref a] ++ []) := by
  refine ⟨H, [], ⟨fun b o e => ⟨e, by simp⟩, List.nodup_nil, ?_⟩⟩
  show CReps K cl H H [(some (.ref a), some (.d (.frl (ns.map D.int))))] ([] ++ [])
  exact .cons (.some ⟨rfl, a, _, rfl, h, reps_ints ns⟩) .nil
theorem end_of {l : PySem.W.OpenLaw} {n k : Nat} {q : Program} {loose : List Str} {XP : (Str → Option Value) → Heap → Prop} {YP : World → Heap → Prop} {d : DefRec} {x : Str}
    (h1 : l.most = some n) (h2 : n ≤ sizeLine) (h3 : d.params.defaults = []) (room : Room k callerA)
    (main : ∀ (w : World) (mg : Str → Option Value) (g : Addr) (h : Heap), YP w h → h.Ns mainGlobals mg → mg d.name = some (.ref g) → ∃ (K : PySem.W.Frag) (fd : FuncData) (f : Nat → Addr) (m : List D → Out),
      K.In h ∧ (∀ (s : Shared) (u : Value), BindsTo s fd ⟨[u], []⟩ [(x, u)]) ∧ (∀ ns : List Int, ns.length ≤ n → m [.frl (ns.map D.int)] = .ret (.d (.bl true))) ∧
      ∀ base : Heap, K.In base → base.Ns mainGlobals mg → FnOk l.prog w K mg base (L2N.CX l.prog w) k g fd [x] (spD K ⟨f, none, none, 0⟩ 1 m)) :
    PySem.W.WalkO q loose XP YP l.row.toRowW d [] (fun f vs => PySem.call f vs) := by
  refine Att.attach_call h1 h3 fun w t0 t1 mg mb g ob pm cv doc a us ns Gr Y _ _ _ hm hob hin hle hge => ?_
  obtain ⟨K, fd, f, m, kin, hb, hmm, hF⟩ := main w mg g _ Y Gr.T.g hm
  refine law_call kin Gr.T.g Gr.T.b Gr.T.builtins Gr.T.nolimit hge hob hin (Nat.le_trans hle h2) room hF hb (fun H _ hS => ?_) fun H e s' => ?_
  · refine ⟨[.frl (ns.map D.int)], [], rfl, rfl, rel_script hS, ?_⟩
    rw [hmm ns hle]
    intro v H' R
    obtain ⟨G, le, rp, _⟩ := Rel.head R
    exact rp
  · rintro ⟨_, _, _, _, _, _, _, _, _, _, _, _, z⟩
    exact z
theorem subT_mem {l : List (Nat × Nat × Bool)} {c j : Nat} {b : Bool} (h : subT l c j = some b) : (c, j, b) ∈ l := by
  unfold subT at h
  obtain ⟨t, ht, rfl⟩ := Option.map_eq_some_iff.mp h
  have m := List.mem_of_find?_eq_some ht
  have p := List.find?_some ht
  simp only [Bool.and_eq_true, beq_iff_eq] at p
  obtain ⟨rfl, rfl⟩ := p
  exact m
/-- a def without defaults takes its parameters -/
theorem fun_binds {K : PySem.W.Frag} {x qual : Str} {st : Stmt} {g : Addr} {fd : FuncData} {ps : List Str} (F : Fun K x qual st g fd)
    (h : ∀ (kV doc pm : Value) (an : Option Addr) (cdv ct : Value) (us : List Value), us.length = ps.length → bindArgs (PySem.W.fnOf x qual (defArgs st) (defBody st) (defScope st) .none kV doc pm an cdv ct) ⟨us, []⟩ = pure (ps.zip us)) :
    Binds K fd ps [] ∧ ∀ (s : Shared) (us : List Value), us.length = ps.length → BindsTo s fd ⟨us, []⟩ (ps.zip us) := by
  obtain ⟨oc, od, kV, doc, pm, an, cdv, ct, osl, rfl, lk, hcd⟩ := F.ex
  exact ⟨.all (h kV doc pm an cdv ct), fun s us hl => .of_eq (h kV doc pm an cdv ct us hl)⟩
end Ly
end
section
set_option Elab.async false
set_option linter.all false
set_option autoImplicit false
set_option maxRecDepth 100000
set_option maxHeartbeats 4000000
/-! MaL: a meaning for every list of defs, each reading only those before it. -/
namespace Ly
open PySem PySem.Spec PyProof.Rows L2

/-- a name of a meaning: 0 fn, 1 hot, 3 mt, 4 nw -/
abbrev Rf := Nat × Nat
def C.refs : C → List Rf
  | .bin _ a b | .cmp _ a b | .and a b | .or a b | .idx a b | .std _ _ a b | .num a b | .cons a b => a.refs ++ b.refs
  | .chain _ _ a b c | .ite a b c | .sl a b c => a.refs ++ (b.refs ++ c.refs)
  | .not a | .so a | .tup a | .lst a | .bi _ a | .fld _ _ a | .items a | .js a | .fm a | .isi _ a | .itv a | .rng1 a | .rng2 a | .oit _ _ a => a.refs
  | .bm _ a l => a.refs ++ l.refs
  | .call j _ _ l => (0, j) :: l.refs
  | .hot j _ _ l => (1, j) :: l.refs
  | .meth j _ _ _ a l => (3, j) :: (a.refs ++ l.refs)
  | .new j _ _ _ l => (4, j) :: l.refs
  | .newk j _ _ _ a => (4, j) :: a.refs
  | .ceq _ j _ a b => (3, j) :: (a.refs ++ b.refs)
  | .olen _ j a => (3, j) :: a.refs
  | .lc _ _ a b c => a.refs ++ (b.refs ++ c.refs)
  | _ => []
def B.refs : B → List Rf
  | .seq a b => a.refs ++ b.refs
  | .set _ _ e | .asg _ e | .ret e | .ex e | .app _ _ e | .fldS _ _ _ _ e | .raise _ _ _ e => e.refs
  | .ife t a b => t.refs ++ (a.refs ++ b.refs)
  | .each it _ b => it.refs ++ b.refs
  | .whl _ t b => t.refs ++ b.refs
  | .tryS _ _ _ a b => a.refs ++ b.refs
  | _ => []
/-- the same at these names -/
structure Agree (l : List Rf) (Γ Δ : Mean) : Prop where
  gl : Γ.gl = Δ.gl
  fuel : Γ.fuel = Δ.fuel
  fn : ∀ j, (0, j) ∈ l → Γ.fn j = Δ.fn j
  hot : ∀ j, (1, j) ∈ l → Γ.hot j = Δ.hot j
  mt : ∀ j, (3, j) ∈ l → Γ.mt j = Δ.mt j
  nw : ∀ j, (4, j) ∈ l → Γ.nw j = Δ.nw j
theorem Agree.sub {l l' : List Rf} {Γ Δ : Mean} (h : Agree l Γ Δ) (k : ∀ x ∈ l', x ∈ l) : Agree l' Γ Δ := ⟨h.gl, h.fuel, fun j m => h.fn j (k _ m), fun j m => h.hot j (k _ m), fun j m => h.mt j (k _ m), fun j m => h.nw j (k _ m)⟩
theorem Agree.l {l l' : List Rf} {Γ Δ : Mean} (h : Agree (l ++ l') Γ Δ) : Agree l Γ Δ := h.sub fun _ m => List.mem_append_left _ m
theorem Agree.r {l l' : List Rf} {Γ Δ : Mean} (h : Agree (l ++ l') Γ Δ) : Agree l' Γ Δ := h.sub fun _ m => List.mem_append_right _ m
theorem Agree.tl {p : Rf} {l' : List Rf} {Γ Δ : Mean} (h : Agree (p :: l') Γ Δ) : Agree l' Γ Δ := h.sub fun _ m => List.mem_cons_of_mem _ m
theorem ev_congr (sg : Sig) {Γ Δ : Mean} (c : C) : Agree c.refs Γ Δ → ev sg Γ c = ev sg Δ c := by
  induction c with
  | bin o a b iha ihb | cmp o a b iha ihb | and a b iha ihb | or a b iha ihb | idx a b iha ihb | std i x a b iha ihb | num a b iha ihb | cons a b iha ihb | bm o a b iha ihb => intro h; simp only [ev, iha h.l, ihb h.r]
  | chain o o' a b c iha ihb ihc | ite a b c iha ihb ihc | sl a b c iha ihb ihc | lc own tg a b c iha ihb ihc => intro h; simp only [ev, iha h.l, ihb h.r.l, ihc h.r.r]
  | not a iha | so a iha | tup a iha | lst a iha | bi o a iha | fld c f a iha | items a iha | js a iha | fm a iha | isi t a iha | itv a iha | rng1 a iha | rng2 a iha | oit c g a iha => intro h; simp only [ev, iha h]
  | call j x n l ih => intro h; simp only [ev, ih h.tl, h.fn j List.mem_cons_self]
  | hot j x n l ih => intro h; simp only [ev, ih h.tl, h.hot j List.mem_cons_self]
  | meth j c x n a l iha ih => intro h; simp only [ev, iha h.tl.l, ih h.tl.r, h.mt j List.mem_cons_self]
  | new j c x n l ih => intro h; simp only [ev, ih h.tl, h.nw j List.mem_cons_self]
  | newk j c x y a ih => intro h; simp only [ev, ih h.tl, h.nw j List.mem_cons_self]
  | ceq c j neg a b iha ihb => intro h; simp only [ev, iha h.tl.l, ihb h.tl.r, h.mt j List.mem_cons_self]
  | olen c j a ih => intro h; simp only [ev, ih h.tl, h.mt j List.mem_cons_self]
  | glb j x => intro h; simp only [ev, h.gl]
  | _ => intro h; rfl
theorem evS_congr (sg : Sig) {Γ Δ : Mean} (b : B) : Agree b.refs Γ Δ → evS sg Γ b = evS sg Δ b := by
  induction b with
  | seq a b iha ihb | tryS i n c a b iha ihb => intro h; simp only [evS, iha h.l, ihb h.r]
  | set i x e | asg tg e | ret e | ex e | app i x e | fldS c i x f e | raise c x f e => intro h; simp only [evS, ev_congr sg e h]
  | ife t a b iha ihb => intro h; simp only [evS, ev_congr sg t h.l, iha h.r.l, ihb h.r.r]
  | each it tg b ih => intro h; simp only [evS, ev_congr sg it h.l, ih h.r]
  | whl j t b ih => intro h; simp only [evS, ev_congr sg t h.l, ih h.r, h.fuel]
  | _ => intro h; rfl
/-- a def of a text: what it is, its number, its signature, its slots, its body; c: the class of an __init__ -/
structure Df where
  k : Nat
  j : Nat
  sg : Sig
  N : Nat
  b : B
  c : Nat := 0
open Classical in
noncomputable def Df.run (d : Df) (Γ : Mean) (ds : List D) : Out :=
  if d.k = 4 then (if ∀ a, outI a d.c (evS d.sg Γ d.b (initI a d.c d.N ds)) = outI 0 d.c (evS d.sg Γ d.b (initI 0 d.c d.N ds)) then outI 0 d.c (evS d.sg Γ d.b (initI 0 d.c d.N ds)) else .bad)
  else outOf (evS d.sg Γ d.b (initS d.N ds))
def Mean.at (Γ : Mean) : Rf → List D → Out
  | (0, j) => Γ.fn j
  | (1, j) => Γ.hot j
  | (3, j) => Γ.mt j
  | (4, j) => Γ.nw j
  | _ => fun _ => .bad
def updN {α : Type} (f : Nat → α) (j : Nat) (v : α) : Nat → α := fun i => if i = j then v else f i
def Mean.put (Γ : Mean) : Rf → (List D → Out) → Mean
  | (0, j), v => { Γ with fn := updN Γ.fn j v }
  | (1, j), v => { Γ with hot := updN Γ.hot j v }
  | (3, j), v => { Γ with mt := updN Γ.mt j v }
  | (4, j), v => { Γ with nw := updN Γ.nw j v }
  | _, _ => Γ
def okRf (p : Rf) : Bool := p.1 == 0 || (p.1 == 1 || (p.1 == 3 || p.1 == 4))
theorem Mean.at_put {Γ : Mean} {p : Rf} {v : List D → Out} (h : okRf p = true) : (Γ.put p v).at p = v := by
  obtain ⟨k, j⟩ := p
  simp only [okRf, Bool.or_eq_true, beq_iff_eq] at h
  rcases h with h | h | h | h <;> subst h <;> simp [Mean.put, Mean.at, updN]
theorem Mean.put_agree {Γ : Mean} {p : Rf} {v : List D → Out} {l : List Rf} (h : p ∉ l) : Agree l (Γ.put p v) Γ := by
  obtain ⟨k, j⟩ := p
  have ne : ∀ k' i, (k', i) ∈ l → k' = k → i ≠ j := fun k' i m e z => h (by subst e z; exact m)
  unfold Mean.put
  refine ⟨?_, ?_, fun i m => ?_, fun i m => ?_, fun i m => ?_, fun i m => ?_⟩
  · split <;> rfl
  · split <;> rfl
  all_goals
    split <;> first
    | rfl
    | (rename_i hh; cases hh; simp only [updN]; exact if_neg (ne _ _ m rfl))
theorem Agree.trans {l : List Rf} {Γ Δ Θ : Mean} (h : Agree l Γ Δ) (k : Agree l Δ Θ) : Agree l Γ Θ := ⟨h.gl.trans k.gl, h.fuel.trans k.fuel, fun j m => (h.fn j m).trans (k.fn j m), fun j m => (h.hot j m).trans (k.hot j m), fun j m => (h.mt j m).trans (k.mt j m), fun j m => (h.nw j m).trans (k.nw j m)⟩
theorem Agree.symm {l : List Rf} {Γ Δ : Mean} (h : Agree l Γ Δ) : Agree l Δ Γ := ⟨h.gl.symm, h.fuel.symm, fun j m => (h.fn j m).symm, fun j m => (h.hot j m).symm, fun j m => (h.mt j m).symm, fun j m => (h.nw j m).symm⟩
theorem Agree.at {l : List Rf} {Γ Δ : Mean} (h : Agree l Γ Δ) {p : Rf} (hp : p ∈ l) : Γ.at p = Δ.at p := by
  obtain ⟨k, j⟩ := p
  unfold Mean.at
  split
  · rename_i e; cases e; exact h.fn _ hp
  · rename_i e; cases e; exact h.hot _ hp
  · rename_i e; cases e; exact h.mt _ hp
  · rename_i e; cases e; exact h.nw _ hp
  · rfl
theorem Df.run_congr {d : Df} {Γ Δ : Mean} (h : Agree d.b.refs Γ Δ) : d.run Γ = d.run Δ := by
  funext ds
  unfold Df.run
  rw [evS_congr d.sg d.b h]
noncomputable def build : List Df → Mean → Mean
  | [], Γ => Γ
  | d :: l, Γ => build l (Γ.put (d.k, d.j) (d.run Γ))
/-- each def reads only those before it; none stands twice; seen: those before, l: those to come -/
def okDfs : List Rf → List Df → Bool
  | _, [] => true
  | seen, d :: l => okRf (d.k, d.j) && (d.b.refs.all (fun p => seen.contains p) && (!(seen.contains (d.k, d.j)) && okDfs ((d.k, d.j) :: seen) l))
theorem build_ok : ∀ (l : List Df) (seen : List Rf) (Γ : Mean), okDfs seen l = true → Agree seen (build l Γ) Γ ∧ ∀ d ∈ l, (build l Γ).at (d.k, d.j) = d.run (build l Γ)
  | [], _, _, _ => ⟨⟨rfl, rfl, fun _ _ => rfl, fun _ _ => rfl, fun _ _ => rfl, fun _ _ => rfl⟩, fun _ h => by cases h⟩
  | d :: l, seen, Γ, h => by
    simp only [okDfs, Bool.and_eq_true, List.all_eq_true, Bool.not_eq_true', List.contains_iff_mem] at h
    obtain ⟨h1, h2, h3, h4⟩ := h
    have h3 : (d.k, d.j) ∉ seen := fun z => by rw [List.contains_iff_mem.mpr z] at h3; cases h3
    obtain ⟨A, E⟩ := build_ok l _ (Γ.put (d.k, d.j) (d.run Γ)) h4
    have A1 : Agree seen (build l (Γ.put (d.k, d.j) (d.run Γ))) Γ := (A.sub fun x m => List.mem_cons_of_mem _ m).trans (Mean.put_agree h3)
    refine ⟨A1, fun e he => ?_⟩
    rcases List.mem_cons.mp he with rfl | he
    · show (build l _).at _ = e.run (build l _)
      rw [A.at List.mem_cons_self, Mean.at_put h1]
      exact (Df.run_congr (A1.sub h2)).symm
    · exact E e he
/-- the meaning of a text -/
noncomputable def meanOf (l : List Df) (gl : Nat → D) (fuel : Nat → SS → Nat) : Mean := build l { fn := fun _ _ => .bad, hot := fun _ _ => .bad, gl := gl, mt := fun _ _ => .bad, nw := fun _ _ => .bad, fuel := fuel }
section
variable {l : List Df} {gl : Nat → D} {fuel : Nat → SS → Nat}
theorem meanOf_gl (h : okDfs [] l = true) : (meanOf l gl fuel).gl = gl := (build_ok l [] _ h).1.gl
theorem meanOf_fuel (h : okDfs [] l = true) : (meanOf l gl fuel).fuel = fuel := (build_ok l [] _ h).1.fuel
theorem meanOf_at (h : okDfs [] l = true) {d : Df} (m : d ∈ l) : (meanOf l gl fuel).at (d.k, d.j) = d.run (meanOf l gl fuel) := (build_ok l [] _ h).2 d m
end
theorem nw_of {Γ : Mean} {d : Df} {ds : List D} {o : Out} (hk : d.k = 4) (he : Γ.nw d.j ds = d.run Γ ds) (h : ∀ a, outI a d.c (evS d.sg Γ d.b (initI a d.c d.N ds)) = o) : Γ.nw d.j ds = o := by
  rw [he]
  unfold Df.run
  rw [if_pos hk, if_pos fun a => (h a).trans (h 0).symm, h 0]
theorem nw_mirr {Γ : Mean} {d : Df} {ds : List D} (hk : d.k = 4) (he : Γ.nw d.j ds = d.run Γ ds) (hb : Γ.nw d.j ds ≠ .bad) (a : Addr) : outI a d.c (evS d.sg Γ d.b (initI a d.c d.N ds)) = Γ.nw d.j ds := by
  rw [he] at hb ⊢
  unfold Df.run at hb ⊢
  rw [if_pos hk] at hb ⊢
  split
  · rename_i h; exact h a
  · rename_i h; rw [if_neg h] at hb; exact absurd rfl hb
end Ly
end
section
set_option Elab.async false
set_option linter.all false
set_option autoImplicit false
set_option maxRecDepth 100000
set_option maxHeartbeats 4000000
/-! MaM: texts by their signs, plain data and ==, loops by what stays true. -/
namespace Ly
open PySem PySem.Spec PyProof.Rows L2

/-! ### texts -/
/-- a text by its signs -/
def tx (l : List Nat) : Str := ⟨l.toArray⟩
@[simp] theorem tx_cps (l : List Nat) : (tx l).cps.toList = l := by simp [tx]
theorem tx_eta (s : Str) : tx s.cps.toList = s := by cases s; simp [tx]
theorem tx_of {s : Str} {l : List Nat} (h : s.cps.toList = l) : s = tx l := by rw [← h, tx_eta]
@[simp] theorem tx_inj {a b : List Nat} : tx a = tx b ↔ a = b := ⟨fun h => by simpa using congrArg (fun z : Str => z.cps.toList) h, fun h => h ▸ rfl⟩
@[simp] theorem tx_len (l : List Nat) : (tx l).length = l.length := by simp [tx, Str.length]
@[simp] theorem tx_app (a b : List Nat) : tx a ++ tx b = tx (a ++ b) := by
  show Str.append (tx a) (tx b) = _
  simp [tx, Str.append]
/-- all signs are Python's -/
def okT (l : List Nat) : Bool := l.all fun c => decide (c < 1114112)
theorem okT_str (l : List Nat) : PyData.strOk (tx l) = okT l := by
  unfold PyData.strOk okT tx
  rw [Bool.eq_iff_iff]
  simp [Array.all_eq_true, List.all_eq_true]
@[simp] theorem okT_nil : okT [] = true := by unfold okT; exact List.all_nil
@[simp] theorem okT_cons (c : Nat) (l : List Nat) : okT (c :: l) = (decide (c < 1114112) && okT l) := by unfold okT; exact List.all_cons
@[simp] theorem okT_app (a b : List Nat) : okT (a ++ b) = (okT a && okT b) := by simp [okT]

/-! ### plain data -/
mutual
/-- without truth values, at most n deep -/
def plD : Nat → D → Bool
  | _, .non => true
  | _, .int _ => true
  | _, .str x => PyData.strOk x
  | 0, .tup _ => false
  | n + 1, .tup xs => plDs n xs
  | 0, .lst _ => false
  | n + 1, .lst xs => plDs n xs
  | _, .bl _ => false
  | _, .frl _ => false
  | _, .dic _ _ => false
  | _, .obj _ _ _ => false
def plDs : Nat → List D → Bool
  | _, [] => true
  | n, x :: xs => plD n x && plDs n xs
end
theorem plDs_all (n : Nat) : ∀ xs : List D, plDs n xs = xs.all (plD n)
  | [] => by simp [plDs]
  | x :: xs => by simp [plDs, plDs_all n xs]
mutual
theorem plD_py : ∀ (n : Nat) (x : D), plD n x = true → ∃ p, toPy x = some p ∧ p.canLay0 = true ∧ p.depth ≤ n
  | n, .non, _ => ⟨_, rfl, rfl, Nat.zero_le _⟩
  | n, .int i, _ => ⟨_, rfl, rfl, Nat.zero_le _⟩
  | n, .str x, h => ⟨_, rfl, by simpa [plD, PyData.canLay0] using h, Nat.zero_le _⟩
  | 0, .tup xs, h => by simp [plD] at h
  | n + 1, .tup xs, h => by
    obtain ⟨ps, e, h1, h2⟩ := plDs_py n xs (by simpa [plD] using h)
    exact ⟨.tuple ps, by simp [toPy, e], by simpa [PyData.canLay0] using h1, by simpa [PyData.depth] using h2⟩
  | 0, .lst xs, h => by simp [plD] at h
  | n + 1, .lst xs, h => by
    obtain ⟨ps, e, h1, h2⟩ := plDs_py n xs (by simpa [plD] using h)
    exact ⟨.list ps, by simp [toPy, e], by simpa [PyData.canLay0] using h1, by simpa [PyData.depth] using h2⟩
  | _, .bl _, h => by simp [plD] at h
  | _, .frl _, h => by simp [plD] at h
  | _, .dic _ _, h => by simp [plD] at h
  | _, .obj _ _ _, h => by simp [plD] at h
theorem plDs_py : ∀ (n : Nat) (xs : List D), plDs n xs = true → ∃ ps, toPys xs = some ps ∧ PyData.canLayAll0 ps = true ∧ PyData.depthAll ps ≤ n
  | n, [], _ => ⟨[], rfl, rfl, Nat.zero_le _⟩
  | n, x :: xs, h => by
    simp only [plDs, Bool.and_eq_true] at h
    obtain ⟨p, e1, a1, b1⟩ := plD_py n x h.1
    obtain ⟨ps, e2, a2, b2⟩ := plDs_py n xs h.2
    exact ⟨p :: ps, by simp [toPys, e1, e2], by simp [PyData.canLayAll0, a1, a2], by simp [PyData.depthAll]; omega⟩
end
theorem eqv_non (m : Nat) (y : D) (p q : PyData) (hy : plD m y = true) (ep : toPy .non = some p) (eq : toPy y = some q) : (PyData.eqv p q = true ↔ D.non = y) := by
  cases ep
  cases y <;> simp [plD] at hy <;> simp [toPy] at eq
  case tup xs => obtain ⟨a, _, rfl⟩ := eq; simp [PyData.eqv]
  case lst xs => obtain ⟨a, _, rfl⟩ := eq; simp [PyData.eqv]
  all_goals (subst eq; simp [PyData.eqv])
theorem eqv_int (i : Int) (m : Nat) (y : D) (p q : PyData) (hy : plD m y = true) (ep : toPy (.int i) = some p) (eq : toPy y = some q) : (PyData.eqv p q = true ↔ D.int i = y) := by
  cases ep
  cases y <;> simp [plD] at hy <;> simp [toPy] at eq
  case tup xs => obtain ⟨a, _, rfl⟩ := eq; simp [PyData.eqv]
  case lst xs => obtain ⟨a, _, rfl⟩ := eq; simp [PyData.eqv]
  all_goals (subst eq; simp [PyData.eqv])
theorem eqv_str (z : Str) (m : Nat) (y : D) (p q : PyData) (hy : plD m y = true) (ep : toPy (.str z) = some p) (eq : toPy y = some q) : (PyData.eqv p q = true ↔ D.str z = y) := by
  cases ep
  cases y <;> simp [plD] at hy <;> simp [toPy] at eq
  case tup xs => obtain ⟨a, _, rfl⟩ := eq; simp [PyData.eqv]
  case lst xs => obtain ⟨a, _, rfl⟩ := eq; simp [PyData.eqv]
  all_goals (subst eq; simp [PyData.eqv])
theorem eqv_tup (xs : List D) (ps : List PyData) (m : Nat) (y : D) (q : PyData) (ih : ∀ m ys qs, plDs m ys = true → toPys ys = some qs → (PyData.eqvAll ps qs = true ↔ xs = ys)) (hy : plD m y = true) (eq : toPy y = some q) : (PyData.eqv (.tuple ps) q = true ↔ D.tup xs = y) := by
  cases y with
  | bl _ => simp [plD] at hy
  | frl _ => simp [plD] at hy
  | dic _ _ => simp [plD] at hy
  | obj _ _ _ => simp [plD] at hy
  | non => cases eq; simp [PyData.eqv]
  | int _ => cases eq; simp [PyData.eqv]
  | str _ => cases eq; simp [PyData.eqv]
  | lst ys =>
    obtain ⟨qs, _, rfl⟩ := Option.map_eq_some_iff.mp (show (toPys ys).map .list = some q from eq)
    simp [PyData.eqv]
  | tup ys =>
    obtain ⟨qs, e2, rfl⟩ := Option.map_eq_some_iff.mp (show (toPys ys).map .tuple = some q from eq)
    cases m with
    | zero => simp [plD] at hy
    | succ m =>
      have hy : plDs m ys = true := hy
      have := ih m ys qs hy e2
      constructor
      · intro h; rw [this.mp h]
      · intro h; cases h; exact this.mpr rfl
theorem eqv_lst (xs : List D) (ps : List PyData) (m : Nat) (y : D) (q : PyData) (ih : ∀ m ys qs, plDs m ys = true → toPys ys = some qs → (PyData.eqvAll ps qs = true ↔ xs = ys)) (hy : plD m y = true) (eq : toPy y = some q) : (PyData.eqv (.list ps) q = true ↔ D.lst xs = y) := by
  cases y with
  | bl _ => simp [plD] at hy
  | frl _ => simp [plD] at hy
  | dic _ _ => simp [plD] at hy
  | obj _ _ _ => simp [plD] at hy
  | non => cases eq; simp [PyData.eqv]
  | int _ => cases eq; simp [PyData.eqv]
  | str _ => cases eq; simp [PyData.eqv]
  | tup ys =>
    obtain ⟨qs, _, rfl⟩ := Option.map_eq_some_iff.mp (show (toPys ys).map .tuple = some q from eq)
    simp [PyData.eqv]
  | lst ys =>
    obtain ⟨qs, e2, rfl⟩ := Option.map_eq_some_iff.mp (show (toPys ys).map .list = some q from eq)
    cases m with
    | zero => simp [plD] at hy
    | succ m =>
      have hy : plDs m ys = true := hy
      have := ih m ys qs hy e2
      constructor
      · intro h; rw [this.mp h]
      · intro h; cases h; exact this.mpr rfl
mutual
theorem eqv_pl : ∀ (n m : Nat) (x y : D) (p q : PyData), plD n x = true → plD m y = true → toPy x = some p → toPy y = some q → (PyData.eqv p q = true ↔ x = y)
  | _, _, .bl _, _, _, _, hx, _, _, _ => by simp [plD] at hx
  | _, _, .frl _, _, _, _, hx, _, _, _ => by simp [plD] at hx
  | _, _, .dic _ _, _, _, _, hx, _, _, _ => by simp [plD] at hx
  | _, _, .obj _ _ _, _, _, _, hx, _, _, _ => by simp [plD] at hx
  | _, m, .non, y, p, q, _, hy, ep, eq => eqv_non m y p q hy ep eq
  | _, m, .int i, y, p, q, _, hy, ep, eq => eqv_int i m y p q hy ep eq
  | _, m, .str z, y, p, q, _, hy, ep, eq => eqv_str z m y p q hy ep eq
  | 0, _, .tup xs, _, _, _, hx, _, _, _ => by simp [plD] at hx
  | 0, _, .lst xs, _, _, _, hx, _, _, _ => by simp [plD] at hx
  | n + 1, m, .tup xs, y, p, q, hx, hy, ep, eq => by
    obtain ⟨ps, e1, rfl⟩ := Option.map_eq_some_iff.mp (show (toPys xs).map .tuple = some p from ep)
    exact eqv_tup xs ps m y q (fun m ys qs h1 h2 => eqvs_pl n m xs ys ps qs (by simpa [plD] using hx) h1 e1 h2) hy eq
  | n + 1, m, .lst xs, y, p, q, hx, hy, ep, eq => by
    obtain ⟨ps, e1, rfl⟩ := Option.map_eq_some_iff.mp (show (toPys xs).map .list = some p from ep)
    exact eqv_lst xs ps m y q (fun m ys qs h1 h2 => eqvs_pl n m xs ys ps qs (by simpa [plD] using hx) h1 e1 h2) hy eq
theorem eqvs_pl : ∀ (n m : Nat) (xs ys : List D) (ps qs : List PyData), plDs n xs = true → plDs m ys = true → toPys xs = some ps → toPys ys = some qs → (PyData.eqvAll ps qs = true ↔ xs = ys)
  | n, m, [], [], ps, qs, _, _, e1, e2 => by cases e1; cases e2; simp [PyData.eqvAll]
  | n, m, [], y :: ys, ps, qs, _, hy, e1, e2 => by
    cases e1
    simp only [plDs, Bool.and_eq_true] at hy
    obtain ⟨p, h1, _⟩ := plD_py m y hy.1
    obtain ⟨r, h2, _⟩ := plDs_py m ys hy.2
    simp [toPys, h1, h2] at e2
    subst e2
    simp [PyData.eqvAll]
  | n, m, x :: xs, [], ps, qs, hx, _, e1, e2 => by
    cases e2
    simp only [plDs, Bool.and_eq_true] at hx
    obtain ⟨p, h1, _⟩ := plD_py n x hx.1
    obtain ⟨r, h2, _⟩ := plDs_py n xs hx.2
    simp [toPys, h1, h2] at e1
    subst e1
    simp [PyData.eqvAll]
  | n, m, x :: xs, y :: ys, ps, qs, hx, hy, e1, e2 => by
    simp only [plDs, Bool.and_eq_true] at hx hy
    obtain ⟨p, h1, _⟩ := plD_py n x hx.1
    obtain ⟨r, h2, _⟩ := plDs_py n xs hx.2
    obtain ⟨p', h3, _⟩ := plD_py m y hy.1
    obtain ⟨r', h4, _⟩ := plDs_py m ys hy.2
    simp [toPys, h1, h2] at e1
    simp [toPys, h3, h4] at e2
    subst e1 e2
    simp only [PyData.eqvAll, Bool.and_eq_true, eqv_pl n m x y p p' hx.1 hy.1 h1 h3, eqvs_pl n m xs ys r r' hx.2 hy.2 h2 h4, List.cons.injEq]
end
theorem pl_shaped {n : Nat} {x : D} {p : PyData} (hn : n ≤ 64) (h : plD n x = true) (e : toPy x = some p) : SeqAt.shaped p = true := by
  obtain ⟨q, e', h1, h2⟩ := plD_py n x h
  rw [e] at e'
  cases e'
  unfold SeqAt.shaped
  rw [h1]
  simp
  omega
theorem deq_iff {n m : Nat} {x y : D} (hx : plD n x = true) (hy : plD m y = true) (hn : n ≤ 64) (hm : m ≤ 64) : ∃ b, deq x y = some b ∧ (b = true ↔ x = y) := by
  obtain ⟨p, e1, _⟩ := plD_py n x hx
  obtain ⟨q, e2, _⟩ := plD_py m y hy
  refine ⟨PyData.eqv p q, ?_, eqv_pl n m x y p q hx hy e1 e2⟩
  unfold deq
  rw [e1, e2]
  exact if_pos ⟨pl_shaped hn hx e1, pl_shaped hm hy e2⟩
theorem deq_same {n : Nat} {x : D} (hx : plD n x = true) (hn : n ≤ 64) : deq x x = some true := by
  obtain ⟨b, e, h⟩ := deq_iff hx hx hn hn
  rw [e, h.mpr rfl]
theorem deq_diff {n m : Nat} {x y : D} (hx : plD n x = true) (hy : plD m y = true) (hn : n ≤ 64) (hm : m ≤ 64) (ne : x ≠ y) : deq x y = some false := by
  obtain ⟨b, e, h⟩ := deq_iff hx hy hn hm
  rw [e]
  cases b with
  | false => rfl
  | true => exact absurd (h.mp rfl) ne
theorem deq_tx {a b : List Nat} (ha : okT a = true) (hb : okT b = true) : deq (.str (tx a)) (.str (tx b)) = some (decide (a = b)) := by
  obtain ⟨r, e, h⟩ := deq_iff (n := 0) (m := 0) (x := .str (tx a)) (y := .str (tx b)) (by simpa [plD, okT_str] using ha) (by simpa [plD, okT_str] using hb) (by decide) (by decide)
  rw [e]
  congr 1
  rw [Bool.eq_iff_iff, h]
  simp
theorem deq_int (i j : Int) : deq (.int i) (.int j) = some (decide (i = j)) := by
  obtain ⟨r, e, h⟩ := deq_iff (n := 0) (m := 0) (x := .int i) (y := .int j) (by simp [plD]) (by simp [plD]) (by decide) (by decide)
  rw [e]
  congr 1
  rw [Bool.eq_iff_iff, h]
  simp
theorem any_pl {n m : Nat} {x : D} {p : PyData} (hx : plD n x = true) (e1 : toPy x = some p) : ∀ (ys : List D) (qs : List PyData), plDs m ys = true → toPys ys = some qs → ((qs.any fun z => PyData.eqv z p) = true ↔ x ∈ ys)
  | [], qs, _, e2 => by cases e2; simp
  | y :: ys, qs, hy, e2 => by
    simp only [plDs, Bool.and_eq_true] at hy
    obtain ⟨p', h3, _⟩ := plD_py m y hy.1
    obtain ⟨r', h4, _⟩ := plDs_py m ys hy.2
    simp [toPys, h3, h4] at e2
    subst e2
    rw [List.any_cons, Bool.or_eq_true, any_pl hx e1 ys r' hy.2 h4, eqv_pl m n y x p' p hy.1 hx h3 e1, List.mem_cons]
    constructor
    · rintro (h | h)
      · exact .inl h.symm
      · exact .inr h
    · rintro (h | h)
      · exact .inl h.symm
      · exact .inr h
theorem din_iff {n m : Nat} {x : D} {ys : List D} (hx : plD n x = true) (hy : plDs m ys = true) (hn : n ≤ 64) (hm : m < 64) : ∃ b, din x (.lst ys) = some b ∧ (b = true ↔ x ∈ ys) := by
  obtain ⟨p, e1, _⟩ := plD_py n x hx
  obtain ⟨qs, e2, _⟩ := plDs_py m ys hy
  have hl : plD (m + 1) (.lst ys) = true := hy
  have e3 : toPy (.lst ys) = some (.list qs) := by simp [toPy, e2]
  refine ⟨qs.any fun z => PyData.eqv z p, ?_, any_pl hx e1 ys qs hy e2⟩
  unfold din
  rw [e1, e3]
  exact if_pos ⟨pl_shaped hn hx e1, pl_shaped (by omega) hl e3⟩

/-! ### loops -/
theorem loopS_inv {g : Tgt} {body : SS → RS} (I : List D → SS → Prop) (h : ∀ x xs S, I (x :: xs) S → ∃ S1 S2, g x S = some S1 ∧ (body S1 = .nx S2 ∨ body S1 = .ct S2) ∧ I xs S2) :
    ∀ (items : List D) (S : SS), I items S → ∃ S2, loopS g body items S = .nx S2 ∧ I [] S2
  | [], S, i => ⟨S, rfl, i⟩
  | x :: xs, S, i => by
    obtain ⟨S1, S2, h1, h2, h3⟩ := h x xs S i
    obtain ⟨S3, e, j⟩ := loopS_inv I h xs S2 h3
    refine ⟨S3, ?_, j⟩
    unfold loopS
    rcases h2 with h2 | h2 <;> simp only [h1, h2, e]
theorem restS_wipe (S : SS) : ∀ own : List Nat, restS S own (wipeS S own) = S
  | [] => rfl
  | v :: vs => by
    show restS S vs (((wipeS S vs).set v none).set v ((wipeS S vs)[v]?.join)) = S
    rw [List.set_set]
    have : (wipeS S vs).set v ((wipeS S vs)[v]?.join) = wipeS S vs := by
      by_cases hv : v < (wipeS S vs).length
      · rw [List.getElem?_eq_getElem hv, Option.join_some, List.set_getElem_self]
      · rw [List.set_eq_of_length_le (by omega)]
    rw [this, restS_wipe S vs]
/-- a comprehension that leaves the frame alone -/
theorem loopC_fm {own : List Nat} {g : Tgt} {cond : SS → RT} {elt : SS → RE} {f : D → Option D} {S : SS} : ∀ (items : List D) (acc : List D),
    (∀ x ∈ items, (∃ S1 S2, g x S = some S1 ∧ cond S1 = .ok false S2 ∧ f x = none ∧ wipeS S2 own = S) ∨ ∃ S1 S2 S3 S4 o w, g x S = some S1 ∧ cond S1 = .ok true S2 ∧ elt S2 = .ok o S3 ∧ o.keep S3 = some (w, S4) ∧ f x = some w.toD ∧ wipeS S4 own = S) →
    acc.length + items.length ≤ sizeLine → loopC own g cond elt items S acc = .ok (acc ++ items.filterMap f) S
  | [], acc, _, _ => by simp [loopC]
  | x :: xs, acc, h, hl => by
    have hl : acc.length + (xs.length + 1) ≤ sizeLine := hl
    rcases h x (List.mem_cons_self ..) with ⟨S1, S2, h1, h2, h3, h4⟩ | ⟨S1, S2, S3, S4, o, w, h1, h2, h3, h4, h5, h6⟩
    · unfold loopC
      simp only [h1, h2, h4]
      rw [loopC_fm xs acc (fun y hy => h y (List.mem_cons_of_mem _ hy)) (by omega), List.filterMap_cons_none h3]
    · unfold loopC
      simp only [h1, h2, h3, h4]
      rw [if_pos (by omega), h6, loopC_fm xs (acc ++ [w.toD]) (fun y hy => h y (List.mem_cons_of_mem _ hy)) (by simp; omega), List.filterMap_cons_some h5]
      simp
theorem mLc_fm {own : List Nat} {mi : SS → RIt} {g : Tgt} {cond : SS → RT} {elt : SS → RE} {S S1 : SS} {items : List D} (f : D → Option D) (hi : mi S = .ok items S1)
    (h : ∀ x ∈ items, (∃ T1 T2, g x (wipeS S1 own) = some T1 ∧ cond T1 = .ok false T2 ∧ f x = none ∧ wipeS T2 own = wipeS S1 own) ∨ ∃ T1 T2 T3 T4 o w, g x (wipeS S1 own) = some T1 ∧ cond T1 = .ok true T2 ∧ elt T2 = .ok o T3 ∧ o.keep T3 = some (w, T4) ∧ f x = some w.toD ∧ wipeS T4 own = wipeS S1 own)
    (hl : items.length ≤ sizeLine) : mLc own mi g cond elt S = .ok (.t (.l (items.filterMap f))) S1 := by
  unfold mLc
  rw [hi]
  show (match loopC own g cond elt items (wipeS S1 own) [] with | .ok acc S2 => RE.ok (.t (.l acc)) (restS S1 own S2) | .bad => .bad) = _
  rw [loopC_fm items [] h (by simpa using hl)]
  show RE.ok (.t (.l ([] ++ _))) (restS S1 own (wipeS S1 own)) = _
  rw [restS_wipe, List.nil_append]
theorem mLc_map {own : List Nat} {mi : SS → RIt} {g : Tgt} {elt : SS → RE} {S S1 : SS} {items : List D} (f : D → D) (hi : mi S = .ok items S1)
    (h : ∀ x ∈ items, ∃ T1 T3 T4 o w, g x (wipeS S1 own) = some T1 ∧ elt T1 = .ok o T3 ∧ o.keep T3 = some (w, T4) ∧ w.toD = f x ∧ wipeS T4 own = wipeS S1 own)
    (hl : items.length ≤ sizeLine) : mLc own mi g tTrue elt S = .ok (.t (.l (items.map f))) S1 := by
  rw [mLc_fm (fun x => some (f x)) hi (fun x hx => ?_) hl]
  · congr 3
    exact congrFun (List.filterMap_eq_map) items
  · obtain ⟨T1, T3, T4, o, w, h1, h2, h3, h4, h5⟩ := h x hx
    exact .inr ⟨T1, T1, T3, T4, o, w, h1, rfl, h2, h3, by rw [h4], h5⟩
end Ly
end
section
set_option Elab.async false
set_option linter.all false
set_option autoImplicit false
set_option maxRecDepth 100000
set_option maxHeartbeats 4000000
/-! MaN: the evaluator's steps, as rules for simp. -/
namespace Ly
open PySem PySem.Spec PyProof.Rows L2
section
variable {sg : Sig} {Γ : Mean} {S : SS}
/-! ### statements -/
@[simp] theorem evS_nil : evS sg Γ .nil S = .nx S := Eq.trans rfl rfl
@[simp] theorem evS_dead : evS sg Γ .dead S = .bad := Eq.trans rfl rfl
@[simp] theorem evS_pass : evS sg Γ .pass S = .nx S := Eq.trans rfl rfl
@[simp] theorem evS_brk : evS sg Γ .brk S = .bk S := Eq.trans rfl rfl
@[simp] theorem evS_cont : evS sg Γ .cont S = .ct S := Eq.trans rfl rfl
@[simp] theorem evS_retN : evS sg Γ .retN S = .rt (.d .non) := Eq.trans rfl rfl
@[simp] theorem evS_seq (a b : B) : evS sg Γ (.seq a b) S = match evS sg Γ a S with
  | .nx S1 => evS sg Γ b S1
  | .bk S1 => .bk S1
  | .ct S1 => .ct S1
  | .rt w => .rt w
  | .exc x S1 => .exc x S1
  | .bad => .bad := Eq.trans rfl rfl
@[simp] theorem evS_set (i : Nat) (x : Str) (e : C) : evS sg Γ (.set i x e) S = match (ev sg Γ e).e S with
  | .ok o S1 => (match o.keep S1 with | some (w, S2) => .nx (S2.set i (some w)) | none => .bad)
  | .exc x S1 => .exc x S1
  | .bad => .bad := Eq.trans rfl rfl
@[simp] theorem evS_ret (e : C) : evS sg Γ (.ret e) S = match (ev sg Γ e).e S with
  | .ok o S1 => (match o.keep S1 with | some (w, _) => .rt w | none => .bad)
  | .exc x S1 => .exc x S1
  | .bad => .bad := Eq.trans rfl rfl
@[simp] theorem evS_ex (e : C) : evS sg Γ (.ex e) S = match (ev sg Γ e).e S with
  | .ok _ S1 => .nx S1
  | .exc x S1 => .exc x S1
  | .bad => .bad := Eq.trans rfl rfl
@[simp] theorem evS_ife (t : C) (a b : B) : evS sg Γ (.ife t a b) S = match (ev sg Γ t).t S with
  | .ok true S1 => evS sg Γ a S1
  | .ok false S1 => evS sg Γ b S1
  | .exc x S1 => .exc x S1
  | .bad => .bad := Eq.trans rfl rfl
@[simp] theorem evS_asg (tg : Tg) (e : C) : evS sg Γ (.asg tg e) S = match (ev sg Γ e).e S with
  | .ok o S1 => (match o.keep S1 with
    | some (w, S2) => (match tg.g w.toD S2 with | some S3 => .nx S3 | none => .bad)
    | none => .bad)
  | .exc x S1 => .exc x S1
  | .bad => .bad := Eq.trans rfl rfl
@[simp] theorem evS_app (i : Nat) (x : Str) (e : C) : evS sg Γ (.app i x e) S = sApp i (ev sg Γ e).e S := Eq.trans rfl rfl
@[simp] theorem evS_each (it : C) (tg : Tg) (b : B) : evS sg Γ (.each it tg b) S = match (ev sg Γ it).it S with
  | .ok items S1 => loopS tg.g (evS sg Γ b) items S1
  | .exc x S1 => .exc x S1
  | .bad => .bad := Eq.trans rfl rfl
@[simp] theorem evS_fldS (c i : Nat) (x f : Str) (e : C) : evS sg Γ (.fldS c i x f e) S = match (ev sg Γ e).e S with
  | .ok o S1 => (match o.keep S1 with
    | some (w, S2) => (match S2[i]? with
      | some (some (.o a c' ns xs)) => if c' = c ∧ ns.length < 1000 then .nx (S2.set i (some (.o a c' (putN f ns) (putX f w.toD ns xs)))) else .bad
      | _ => .bad)
    | none => .bad)
  | .exc x S1 => .exc x S1
  | .bad => .bad := Eq.trans rfl rfl
@[simp] theorem evS_raise (c : Nat) (x f : Str) (l : C) : evS sg Γ (.raise c x f l) S = sRaise c f (ev sg Γ l).d S := Eq.trans rfl rfl
@[simp] theorem evS_tryS (i : Nat) (n : Str) (c : Nat) (b s : B) : evS sg Γ (.tryS i n c b s) S = sTry i (fun c' => subT sg.sub c' c) (evS sg Γ b) (evS sg Γ s) S := Eq.trans rfl rfl
/-! ### expressions -/
@[simp] theorem eve_var (i : Nat) (x : Str) : (ev sg Γ (.var i x)).e S = mVar i S := Eq.trans rfl rfl
@[simp] theorem eve_non : (ev sg Γ .non).e S = .ok (.t (.d .non)) S := Eq.trans rfl rfl
@[simp] theorem eve_bl (b : Bool) : (ev sg Γ (.bl b)).e S = .ok (.t (.d (.bl b))) S := Eq.trans rfl rfl
@[simp] theorem eve_int (i : Int) : (ev sg Γ (.int i)).e S = .ok (.t (.d (.int i))) S := Eq.trans rfl rfl
@[simp] theorem eve_str (s : Str) : (ev sg Γ (.str s)).e S = .ok (.t (.d (.str s))) S := Eq.trans rfl rfl
@[simp] theorem eve_glb (j : Nat) (x : Str) : (ev sg Γ (.glb j x)).e S = .ok (.t (.d (Γ.gl j))) S := Eq.trans rfl rfl
@[simp] theorem eve_bin (o : BO) (a b : C) : (ev sg Γ (.bin o a b)).e S = mOp2 (sB o) (ev sg Γ a).e (ev sg Γ b).e S := Eq.trans rfl rfl
@[simp] theorem eve_cmp (o : CO) (a b : C) : (ev sg Γ (.cmp o a b)).e S = mOp2 (sCW o) (ev sg Γ a).e (ev sg Γ b).e S := Eq.trans rfl rfl
@[simp] theorem eve_chain (o o' : CO) (a b c : C) : (ev sg Γ (.chain o o' a b c)).e S = mChain o o' (ev sg Γ a).e (ev sg Γ b).e (ev sg Γ c).e S := Eq.trans rfl rfl
@[simp] theorem eve_and (a b : C) : (ev sg Γ (.and a b)).e S = mAnd (ev sg Γ a).e (ev sg Γ b).e S := Eq.trans rfl rfl
@[simp] theorem eve_or (a b : C) : (ev sg Γ (.or a b)).e S = mOr (ev sg Γ a).e (ev sg Γ b).e S := Eq.trans rfl rfl
@[simp] theorem eve_not (a : C) : (ev sg Γ (.not a)).e S = mNot (ev sg Γ a).e S := Eq.trans rfl rfl
@[simp] theorem eve_ite (t a b : C) : (ev sg Γ (.ite t a b)).e S = match (ev sg Γ t).t S with
  | .ok true S1 => (ev sg Γ a).e S1
  | .ok false S1 => (ev sg Γ b).e S1
  | .exc x S1 => .exc x S1
  | .bad => .bad := Eq.trans rfl rfl
@[simp] theorem eve_bi (o : BI) (l : C) : (ev sg Γ (.bi o l)).e S = mOpL (sBI o) (ev sg Γ l).l S := Eq.trans rfl rfl
@[simp] theorem eve_bm (o : BM) (a l : C) : (ev sg Γ (.bm o a l)).e S = mBm (sBM o) (ev sg Γ a).e (ev sg Γ l).l S := Eq.trans rfl rfl
@[simp] theorem eve_idx (a b : C) : (ev sg Γ (.idx a b)).e S = mOp2 sIx (ev sg Γ a).e (ev sg Γ b).e S := Eq.trans rfl rfl
@[simp] theorem eve_sl (a lo hi : C) : (ev sg Γ (.sl a lo hi)).e S = mSl (ev sg Γ a).e (ev sg Γ lo).i (ev sg Γ hi).i S := Eq.trans rfl rfl
@[simp] theorem eve_no : (ev sg Γ .no).i S = .ok none S := Eq.trans rfl rfl
@[simp] theorem eve_so (a : C) : (ev sg Γ (.so a)).i S = mPart (ev sg Γ a).e S := Eq.trans rfl rfl
@[simp] theorem eve_tup (l : C) : (ev sg Γ (.tup l)).e S = mOpD sTup (ev sg Γ l).d S := Eq.trans rfl rfl
@[simp] theorem eve_lst (l : C) : (ev sg Γ (.lst l)).e S = mOpD sLst (ev sg Γ l).d S := Eq.trans rfl rfl
@[simp] theorem eve_dic0 : (ev sg Γ .dic0).e S = .ok (.t (.m [] [])) S := Eq.trans rfl rfl
@[simp] theorem eve_call (j : Nat) (x : Str) (n : Nat) (l : C) : (ev sg Γ (.call j x n l)).e S = mCall n (Γ.fn j) (ev sg Γ l).d S := Eq.trans rfl rfl
@[simp] theorem eve_hot (j : Nat) (x : Str) (n : Nat) (l : C) : (ev sg Γ (.hot j x n l)).e S = mCall n (Γ.hot j) (ev sg Γ l).d S := Eq.trans rfl rfl
@[simp] theorem eve_meth (j c : Nat) (x : Str) (n : Nat) (a l : C) : (ev sg Γ (.meth j c x n a l)).e S = mMeth c x n (Γ.mt j) (ev sg Γ a).e (ev sg Γ l).d S := Eq.trans rfl rfl
@[simp] theorem eve_new (j c : Nat) (x : Str) (n : Nat) (l : C) : (ev sg Γ (.new j c x n l)).e S = mNew c n (Γ.nw j) (ev sg Γ l).d S := Eq.trans rfl rfl
@[simp] theorem eve_newk (j c : Nat) (x y : Str) (a : C) : (ev sg Γ (.newk j c x y a)).e S = mNew c 1 (Γ.nw j) (dCons (ev sg Γ a).e dNil) S := Eq.trans rfl rfl
@[simp] theorem eve_ceq (c j : Nat) (neg : Bool) (a b : C) : (ev sg Γ (.ceq c j neg a b)).e S = mCeq c neg (Γ.mt j) (ev sg Γ a).e (ev sg Γ b).e S := Eq.trans rfl rfl
@[simp] theorem eve_olen (c j : Nat) (a : C) : (ev sg Γ (.olen c j a)).e S = mOlen c (Γ.mt j) (ev sg Γ a).e S := Eq.trans rfl rfl
@[simp] theorem eve_fld (c : Nat) (f : Str) (a : C) : (ev sg Γ (.fld c f a)).e S = mOp1 (sFldD c f) (ev sg Γ a).e S := Eq.trans rfl rfl
@[simp] theorem eve_std (i : Nat) (x : Str) (a b : C) : (ev sg Γ (.std i x a b)).e S = sStd i (ev sg Γ a).e (ev sg Γ b).e S := Eq.trans rfl rfl
@[simp] theorem eve_items (a : C) : (ev sg Γ (.items a)).e S = mItems (ev sg Γ a).e S := Eq.trans rfl rfl
@[simp] theorem eve_isi (t : IT) (a : C) : (ev sg Γ (.isi t a)).e S = mOp1 (sIsi t) (ev sg Γ a).e S := Eq.trans rfl rfl
@[simp] theorem eve_isE (i : Nat) (x : Str) (c : Nat) : (ev sg Γ (.isE i x c)).e S = mIsE i (fun c' => subT sg.sub c' c) S := Eq.trans rfl rfl
@[simp] theorem eve_eF (i : Nat) (x f : Str) : (ev sg Γ (.eF i x f)).e S = mEF i f (fun c => sg.xcs.contains (c, f)) S := Eq.trans rfl rfl
@[simp] theorem eve_itv (a : C) : (ev sg Γ (.itv a)).it S = mIter (ev sg Γ a).e S := Eq.trans rfl rfl
@[simp] theorem eve_rng1 (l : C) : (ev sg Γ (.rng1 l)).it S = mRng1 (ev sg Γ l).l S := Eq.trans rfl rfl
@[simp] theorem eve_num (a b : C) : (ev sg Γ (.num a b)).it S = mNum (ev sg Γ a).e (ev sg Γ b).e S := Eq.trans rfl rfl
@[simp] theorem eve_oit (c : Nat) (g : Str) (a : C) : (ev sg Γ (.oit c g a)).it S = mOit c g (ev sg Γ a).e S := Eq.trans rfl rfl
@[simp] theorem eve_nilL : (ev sg Γ .nil).l S = .ok [] S := Eq.trans rfl rfl
@[simp] theorem eve_nilD : (ev sg Γ .nil).d S = .ok [] S := Eq.trans rfl rfl
@[simp] theorem eve_consL (a b : C) : (ev sg Γ (.cons a b)).l S = mCons (ev sg Γ a).e (ev sg Γ b).l S := Eq.trans rfl rfl
@[simp] theorem eve_consD (a b : C) : (ev sg Γ (.cons a b)).d S = dCons (ev sg Γ a).e (ev sg Γ b).d S := Eq.trans rfl rfl
/-! ### tests -/
@[simp] theorem evt_var (i : Nat) (x : Str) : (ev sg Γ (.var i x)).t S = mTruth (ev sg Γ (.var i x)).e trD S := Eq.trans rfl rfl
@[simp] theorem evt_bl (b : Bool) : (ev sg Γ (.bl b)).t S = .ok b S := Eq.trans rfl rfl
@[simp] theorem evt_cmp (o : CO) (a b : C) : (ev sg Γ (.cmp o a b)).t S = mTruth (ev sg Γ (.cmp o a b)).e isBl S := Eq.trans rfl rfl
@[simp] theorem evt_chain (o o' : CO) (a b c : C) : (ev sg Γ (.chain o o' a b c)).t S = mTruth (ev sg Γ (.chain o o' a b c)).e isBl S := Eq.trans rfl rfl
@[simp] theorem evt_and (a b : C) : (ev sg Γ (.and a b)).t S = match (ev sg Γ a).t S with
  | .ok true S1 => (ev sg Γ b).t S1
  | .ok false S1 => .ok false S1
  | .exc x S1 => .exc x S1
  | .bad => .bad := Eq.trans rfl rfl
@[simp] theorem evt_or (a b : C) : (ev sg Γ (.or a b)).t S = match (ev sg Γ a).t S with
  | .ok false S1 => (ev sg Γ b).t S1
  | .ok true S1 => .ok true S1
  | .exc x S1 => .exc x S1
  | .bad => .bad := Eq.trans rfl rfl
@[simp] theorem evt_not (a : C) : (ev sg Γ (.not a)).t S = match (ev sg Γ a).t S with
  | .ok b S1 => .ok (!b) S1
  | .exc x S1 => .exc x S1
  | .bad => .bad := Eq.trans rfl rfl
@[simp] theorem evt_bi (o : BI) (l : C) : (ev sg Γ (.bi o l)).t S = mTruth (ev sg Γ (.bi o l)).e trD S := Eq.trans rfl rfl
@[simp] theorem evt_call (j : Nat) (x : Str) (n : Nat) (l : C) : (ev sg Γ (.call j x n l)).t S = mTruth (ev sg Γ (.call j x n l)).e trD S := Eq.trans rfl rfl
@[simp] theorem evt_hot (j : Nat) (x : Str) (n : Nat) (l : C) : (ev sg Γ (.hot j x n l)).t S = mTruth (ev sg Γ (.hot j x n l)).e trD S := Eq.trans rfl rfl
@[simp] theorem evt_isi (t : IT) (a : C) : (ev sg Γ (.isi t a)).t S = mTruth (ev sg Γ (.isi t a)).e trD S := Eq.trans rfl rfl
@[simp] theorem evt_isE (i : Nat) (x : Str) (c : Nat) : (ev sg Γ (.isE i x c)).t S = mTruth (ev sg Γ (.isE i x c)).e trD S := Eq.trans rfl rfl
@[simp] theorem evt_ceq (c j : Nat) (neg : Bool) (a b : C) : (ev sg Γ (.ceq c j neg a b)).t S = mTruth (ev sg Γ (.ceq c j neg a b)).e isBl S := Eq.trans rfl rfl
/-! ### the parts -/
@[simp] theorem mVar_u (i : Nat) : mVar i S = match S[i]? with
  | some (some (.ex _ _)) => .bad
  | some (some (.xv _ _ _)) => .bad
  | some (some _) => .ok (.s i) S
  | _ => .bad := Eq.trans rfl rfl
@[simp] theorem mOp1_u (f : D → Option W) (ma : SS → RE) : mOp1 f ma S = match ma S with
  | .ok o1 S1 => (match o1.get S1 with
    | some d => (match f d with | some w => .ok (.t w) S1 | none => .bad)
    | none => .bad)
  | .exc x S1 => .exc x S1
  | .bad => .bad := Eq.trans rfl rfl
@[simp] theorem mOp2_u (f : D → D → Option W) (ma mb : SS → RE) : mOp2 f ma mb S = match ma S with
  | .ok o1 S1 => (match mb S1 with
    | .ok o2 S2 => (match o1.get S2 with
      | some d1 => (match o2.get S2 with
        | some d2 => (match f d1 d2 with | some w => .ok (.t w) S2 | none => .bad)
        | none => .bad)
      | none => .bad)
    | .exc x S2 => .exc x S2
    | .bad => .bad)
  | .exc x S1 => .exc x S1
  | .bad => .bad := Eq.trans rfl rfl
@[simp] theorem mOpL_u (f : List D → Option W) (ml : SS → RL) : mOpL f ml S = match ml S with
  | .ok os S1 => (match gets S1 os with
    | some ds => (match f ds with | some w => .ok (.t w) S1 | none => .bad)
    | none => .bad)
  | .exc x S1 => .exc x S1
  | .bad => .bad := Eq.trans rfl rfl
@[simp] theorem mOpD_u (f : List D → Option W) (ml : SS → RD) : mOpD f ml S = match ml S with
  | .ok ds S1 => (match f ds with | some w => .ok (.t w) S1 | none => .bad)
  | .exc x S1 => .exc x S1
  | .bad => .bad := Eq.trans rfl rfl
@[simp] theorem at_zero {α : Type} (a : α) (l : List α) : (a :: l)[0]? = some a := Eq.trans rfl rfl
@[simp] theorem at_succ {α : Type} (a : α) (l : List α) (n : Nat) : (a :: l)[n + 1]? = l[n]? := Eq.trans rfl rfl
@[simp] theorem mCons_u (me : SS → RE) (ml : SS → RL) : mCons me ml S = match me S with
  | .ok o S1 => (match ml S1 with | .ok os S2 => .ok (o :: os) S2 | .exc x S2 => .exc x S2 | .bad => .bad)
  | .exc x S1 => .exc x S1
  | .bad => .bad := Eq.trans rfl rfl
@[simp] theorem dCons_u (me : SS → RE) (ml : SS → RD) : dCons me ml S = match me S with
  | .ok o S1 => (match o.keep S1 with
    | some (w, S2) => (match ml S2 with | .ok ds S3 => .ok (w.toD :: ds) S3 | .exc x S3 => .exc x S3 | .bad => .bad)
    | none => .bad)
  | .exc x S1 => .exc x S1
  | .bad => .bad := Eq.trans rfl rfl
@[simp] theorem dNil_u : dNil S = .ok [] S := Eq.trans rfl rfl
@[simp] theorem mCall_u (n : Nat) (m : List D → Out) (ml : SS → RD) : mCall n m ml S = match ml S with
  | .ok ds S1 => if ds.length = n then (match m ds with | .ret w => .ok (.t w) S1 | .exc x => .exc x S1 | .bad => .bad) else .bad
  | .exc x S1 => .exc x S1
  | .bad => .bad := Eq.trans rfl rfl
@[simp] theorem mNew_u (c n : Nat) (m : List D → Out) (ml : SS → RD) : mNew c n m ml S = match ml S with
  | .ok ds S1 => if ds.length = n then (match m ds with
      | .ret (.d (.obj c' ns xs)) => if c' = c then .ok (.t (.d (.obj c' ns xs))) S1 else .bad
      | .exc x => .exc x S1
      | _ => .bad) else .bad
  | .exc x S1 => .exc x S1
  | .bad => .bad := Eq.trans rfl rfl
@[simp] theorem mMeth_u (c : Nat) (x : Str) (n : Nat) (m : List D → Out) (mo : SS → RE) (ml : SS → RD) : mMeth c x n m mo ml S = match mo S with
  | .ok o S1 => (match o.keep S1 with
    | some (w, S2) => (match w.toD with
      | .obj c' ns xs => if c' = c ∧ ns.contains x = false then (match ml S2 with
          | .ok ds S3 => if ds.length + 1 = n then (match m (.obj c' ns xs :: ds) with | .ret w => .ok (.t w) S3 | .exc x => .exc x S3 | .bad => .bad) else .bad
          | .exc x S3 => .exc x S3
          | .bad => .bad) else .bad
      | _ => .bad)
    | none => .bad)
  | .exc x S1 => .exc x S1
  | .bad => .bad := Eq.trans rfl rfl
noncomputable def lenO (i : Int) (S : SS) : RE := @ite _ (0 ≤ i ∧ i < 2 ^ 63) (Classical.propDecidable _) (.ok (.t (.d (.int i))) S) .bad
@[simp] theorem lenO_ok (i : Int) (h1 : 0 ≤ i) (h2 : i < 9223372036854775808) : lenO i S = .ok (.t (.d (.int i))) S := if_pos ⟨h1, h2⟩
noncomputable def lenR (r : Out) (S : SS) : RE := match r with
  | .ret (.d (.int i)) => lenO i S
  | .exc x => .exc x S
  | _ => .bad
@[simp] theorem lenR_int (i : Int) : lenR (.ret (.d (.int i))) S = lenO i S := Eq.trans rfl rfl
@[simp] theorem mOlen_u (c : Nat) (m : List D → Out) (me : SS → RE) : mOlen c m me S = match me S with
  | .ok o S1 => (match o.keep S1 with
    | some (w, S2) => (match w.toD with
      | .obj c' ns xs => if c' = c then lenR (m [.obj c' ns xs]) S2 else .bad
      | _ => .bad)
    | none => .bad)
  | .exc x S1 => .exc x S1
  | .bad => .bad := by
  unfold mOlen dK
  cases me S with
  | ok o S1 =>
    dsimp only
    cases o.keep S1 with
    | none => rfl
    | some p =>
      obtain ⟨w, S2⟩ := p
      dsimp only
      cases w.toD <;> try rfl
      rename_i c' ns xs
      dsimp only
      split <;> try rfl
      cases m [.obj c' ns xs] <;> try rfl
      rename_i w2
      cases w2 <;> try rfl
      rename_i d
      cases d <;> try rfl
      rename_i i
      dsimp only [lenR]
      split <;> rename_i h
      · exact (if_pos h).symm
      · exact (if_neg h).symm
  | exc x S1 => rfl
  | bad => rfl
@[simp] theorem mCeq_u (c : Nat) (neg : Bool) (m : List D → Out) (ma mb : SS → RE) : mCeq c neg m ma mb S = match dCons ma (dCons mb dNil) S with
  | .ok ds S2 => (match ds with
    | [.obj c' ns xs, d2] => if c' = c then (if eqAsk c d2 = true then (match m [.obj c' ns xs, d2] with
        | .ret (.d (.bl b)) => .ok (.t (.d (.bl (b != neg)))) S2
        | .exc x => .exc x S2
        | _ => .bad) else .bad) else .bad
    | _ => .bad)
  | .exc x S2 => .exc x S2
  | .bad => .bad := Eq.trans rfl rfl
@[simp] theorem eqAsk_obj (c c2 : Nat) (ns : List Str) (xs : List D) : eqAsk c (.obj c2 ns xs) = decide (c2 = c) := Eq.trans rfl rfl
@[simp] theorem eqAsk_str (c : Nat) (x : Str) : eqAsk c (.str x) = true := Eq.trans rfl rfl
@[simp] theorem mOit_u (c : Nat) (g : Str) (me : SS → RE) : mOit c g me S = match me S with
  | .ok o S1 => (match o.keep S1 with
    | some (w, S2) => (match w.toD with
      | .obj c' ns xs => if c' = c then (match lookD g ns xs with | some (.tup ys) => .ok ys S2 | _ => .bad) else .bad
      | _ => .bad)
    | none => .bad)
  | .exc x S1 => .exc x S1
  | .bad => .bad := Eq.trans rfl rfl
@[simp] theorem mNum_u (me mk : SS → RE) : mNum me mk S = match me S with
  | .ok o S1 => (match o.keep S1 with
    | some (w, S2) => (match mk S2 with
      | .ok o2 S3 => (match o2.get S3 with
        | some (.int c) => if -(2 ^ 62) ≤ c ∧ c < 2 ^ 62 then (match w.toD with | .lst xs => .ok (numD c xs) S3 | .frl xs => .ok (numD c xs) S3 | _ => .bad) else .bad
        | _ => .bad)
      | .exc x S3 => .exc x S3
      | .bad => .bad)
    | none => .bad)
  | .exc x S1 => .exc x S1
  | .bad => .bad := Eq.trans rfl rfl
@[simp] theorem mIter_u (me : SS → RE) : mIter me S = match me S with
  | .ok o S1 => (match o.keep S1 with
    | some (w, S2) => (match itemsOf w.toD with | some xs => .ok xs S2 | none => .bad)
    | none => .bad)
  | .exc x S1 => .exc x S1
  | .bad => .bad := Eq.trans rfl rfl
@[simp] theorem itemsOf_lst (xs : List D) : itemsOf (.lst xs) = some xs := Eq.trans rfl rfl
@[simp] theorem itemsOf_tup (xs : List D) : itemsOf (.tup xs) = some xs := Eq.trans rfl rfl
@[simp] theorem itemsOf_frl (xs : List D) : itemsOf (.frl xs) = some xs := Eq.trans rfl rfl
@[simp] theorem itemsOf_str (z : Str) : itemsOf (.str z) = some (signs z) := Eq.trans rfl rfl
theorem signs_tx (l : List Nat) : signs (tx l) = l.map fun c => .str (tx [c]) := by simp [signs, tx]
/-- the numbers below j; its test is hidden from the kernel -/
noncomputable def rngO (j : Int) (S : SS) : RIt := @ite _ (-(2 ^ 62) ≤ j ∧ j < 2 ^ 62) (Classical.propDecidable _) (.ok (intsD 0 j.toNat) S) .bad
@[simp] theorem rngO_ok (j : Int) (h1 : -4611686018427387904 ≤ j) (h2 : j < 4611686018427387904) : rngO j S = .ok (intsD 0 j.toNat) S := if_pos ⟨h1, h2⟩
@[simp] theorem mRng1_u (ml : SS → RL) : mRng1 ml S = match ml S with
  | .ok os S1 => (match gets S1 os with
    | some [.int j] => rngO j S1
    | _ => .bad)
  | .exc x S1 => .exc x S1
  | .bad => .bad := by
  unfold mRng1
  cases ml S with
  | ok os S1 =>
    dsimp only
    generalize gets S1 os = z
    rcases z with _ | ⟨_ | ⟨d, _ | ⟨e, r⟩⟩⟩
    · rfl
    · rfl
    · cases d <;> try rfl
      rename_i j
      by_cases h : -(2 ^ 62) ≤ j ∧ j < 2 ^ 62
      · exact (if_pos h).trans (if_pos h).symm
      · exact (if_neg h).trans (if_neg h).symm
    · cases d <;> rfl
  | exc x S1 => rfl
  | bad => rfl
@[simp] theorem mTruth_u (me : SS → RE) (f : D → Option Bool) : mTruth me f S = match me S with
  | .ok o S1 => (match o.get S1 with
    | some d => (match f d with | some b => .ok b S1 | none => .bad)
    | none => .bad)
  | .exc x S1 => .exc x S1
  | .bad => .bad := Eq.trans rfl rfl
@[simp] theorem isBl_bl (b : Bool) : isBl (.bl b) = some b := Eq.trans rfl rfl
@[simp] theorem trD_bl (b : Bool) : trD (.bl b) = some b := Eq.trans rfl rfl
@[simp] theorem trD_int (i : Int) : trD (.int i) = some (i != 0) := Eq.trans rfl rfl
@[simp] theorem trD_lst (xs : List D) : trD (.lst xs) = some (!xs.isEmpty) := Eq.trans rfl rfl
@[simp] theorem trD_tup (xs : List D) : trD (.tup xs) = some (!xs.isEmpty) := Eq.trans rfl rfl
@[simp] theorem mAnd_u (a b : SS → RE) : mAnd a b S = match mTruth a isBl S with
  | .ok true S1 => b S1
  | .ok false S1 => .ok (.t (.d (.bl false))) S1
  | .exc x S1 => .exc x S1
  | .bad => .bad := Eq.trans rfl rfl
@[simp] theorem mOr_u (a b : SS → RE) : mOr a b S = match mTruth a isBl S with
  | .ok false S1 => b S1
  | .ok true S1 => .ok (.t (.d (.bl true))) S1
  | .exc x S1 => .exc x S1
  | .bad => .bad := Eq.trans rfl rfl
@[simp] theorem mNot_u (a : SS → RE) : mNot a S = match mTruth a isBl S with
  | .ok b S1 => .ok (.t (.d (.bl (!b)))) S1
  | .exc x S1 => .exc x S1
  | .bad => .bad := Eq.trans rfl rfl
@[simp] theorem mChain_u (o o' : CO) (ma mb mc : SS → RE) : mChain o o' ma mb mc S = match ma S with
  | .ok o1 S1 => (match mb S1 with
    | .ok o2 S2 => (match o1.get S2 with
      | some d1 => (match o2.get S2 with
        | some d2 => (match sC o d1 d2 with
          | some true => (match mc S2 with
            | .ok o3 S3 => (match o2.get S3 with
              | some d2 => (match o3.get S3 with
                | some d3 => (match sC o' d2 d3 with | some b => .ok (.t (.d (.bl b))) S3 | none => .bad)
                | none => .bad)
              | none => .bad)
            | .exc x S3 => .exc x S3
            | .bad => .bad)
          | some false => .ok (.t (.d (.bl false))) S2
          | none => .bad)
        | none => .bad)
      | none => .bad)
    | .exc x S2 => .exc x S2
    | .bad => .bad)
  | .exc x S1 => .exc x S1
  | .bad => .bad := Eq.trans rfl rfl
@[simp] theorem mBm_u (f : Str → List D → Option W) (mo : SS → RE) (ml : SS → RL) : mBm f mo ml S = match mo S with
  | .ok o S1 => (match o.get S1 with
    | some (.str z) => (match ml S1 with
      | .ok os S2 => (match gets S2 os with
        | some ds => (match f z ds with | some w => .ok (.t w) S2 | none => .bad)
        | none => .bad)
      | .exc x S2 => .exc x S2
      | .bad => .bad)
    | _ => .bad)
  | .exc x S1 => .exc x S1
  | .bad => .bad := Eq.trans rfl rfl
@[simp] theorem mPart_u (me : SS → RE) : mPart me S = match me S with
  | .ok o S1 => (match o.get S1 with | some (.int i) => .ok (some i) S1 | _ => .bad)
  | .exc x S1 => .exc x S1
  | .bad => .bad := Eq.trans rfl rfl
@[simp] theorem mSl_u (ma : SS → RE) (ml mh : SS → RI) : mSl ma ml mh S = match ma S with
  | .ok o S1 => (match ml S1 with
    | .ok lo S2 => (match mh S2 with
      | .ok hi S3 => (match o.get S3 with
        | some d => (match sSl d lo hi with | some w => .ok (.t w) S3 | none => .bad)
        | none => .bad)
      | .exc x S3 => .exc x S3
      | .bad => .bad)
    | .exc x S2 => .exc x S2
    | .bad => .bad)
  | .exc x S1 => .exc x S1
  | .bad => .bad := Eq.trans rfl rfl
@[simp] theorem sStd_u (i : Nat) (mk md : SS → RE) : sStd i mk md S = match S[i]? with
  | some (some (.m _ _)) => (match mk S with
    | .ok o S1 => (match o.get S1 with
      | some dk => (match keyD dk with
        | some k => (match md S1 with
          | .ok o2 S2 => (match o2.keep S2 with
            | some (w, S3) => (match S3[i]? with
              | some (some (.m ks xs)) => if ks.length < 16777216 then (match atK k ks xs with
                  | some d => .ok (.t (.d d)) S3
                  | none => if (ks.any fun a => decide (a = k)) = true then .bad else .ok (.t (.d w.toD)) (S3.set i (some (.m (ks ++ [k]) (xs ++ [w.toD]))))) else .bad
              | _ => .bad)
            | none => .bad)
          | .exc x S2 => .exc x S2
          | .bad => .bad)
        | none => .bad)
      | none => .bad)
    | .exc x S1 => .exc x S1
    | .bad => .bad)
  | _ => .bad := by rw [← sizeLine_eq]; rfl
@[simp] theorem mItems_u (me : SS → RE) : mItems me S = match me S with
  | .ok o S1 => (match o.get S1 with
    | some (.dic ks xs) => .ok (.t (.l (itemsD ks xs))) S1
    | _ => .bad)
  | .exc x S1 => .exc x S1
  | .bad => .bad := Eq.trans rfl rfl
@[simp] theorem sApp_u (i : Nat) (me : SS → RE) : sApp i me S = match S[i]? with
  | some (some (.l _)) => (match me S with
    | .ok o S1 => (match o.keep S1 with
      | some (w, S2) => (match S2[i]? with
        | some (some (.l xs)) => if xs.length < 16777216 then .nx (S2.set i (some (.l (xs ++ [w.toD])))) else .bad
        | _ => .bad)
      | none => .bad)
    | .exc x S1 => .exc x S1
    | .bad => .bad)
  | _ => .bad := by rw [← sizeLine_eq]; rfl
@[simp] theorem sRaise_u (c : Nat) (g : Str) (ml : SS → RD) : sRaise c g ml S = match ml S with
  | .ok ds S1 => (match ds with | [d] => if okMsgD d = true then .exc ⟨c, true, [g], [d]⟩ S1 else .bad | _ => .bad)
  | .exc x S1 => .exc x S1
  | .bad => .bad := Eq.trans rfl rfl
@[simp] theorem okMsgD_int (i : Int) : okMsgD (.int i) = decide (i.natAbs.log2 < 1920) := Eq.trans rfl rfl
@[simp] theorem mIsE_u (i : Nat) (tab : Nat → Option Bool) : mIsE i tab S = match S[i]? with
  | some (some (.xv c _ _)) => (match tab c with | some b => .ok (.t (.d (.bl b))) S | none => .bad)
  | _ => .bad := Eq.trans rfl rfl
@[simp] theorem mEF_u (i : Nat) (f : Str) (ok : Nat → Bool) : mEF i f ok S = match S[i]? with
  | some (some (.xv c ns xs)) => if ok c = true then (match lookD f ns xs with | some d => .ok (.t (.d d)) S | none => .bad) else .bad
  | _ => .bad := Eq.trans rfl rfl
@[simp] theorem get_t (w : W) : (Opd.t w).get S = w.dat := Eq.trans rfl rfl
@[simp] theorem get_s (i : Nat) : (Opd.s i).get S = match S[i]? with | some (some w) => w.dat | _ => none := Eq.trans rfl rfl
@[simp] theorem keep_s (i : Nat) : (Opd.s i).keep S = match S[i]? with
    | some (some (.d x)) => some (.d x, S)
    | some (some (.ex _ _)) => none
    | some (some (.xv _ _ _)) => none
    | some (some w) => some (.d w.toD, S.set i (some (.d w.toD)))
    | _ => none := Eq.trans rfl rfl
@[simp] theorem keep_td (x : D) : (Opd.t (.d x)).keep S = some (.d x, S) := Eq.trans rfl rfl
@[simp] theorem keep_tl (xs : List D) : (Opd.t (.l xs)).keep S = some (.l xs, S) := Eq.trans rfl rfl
@[simp] theorem keep_tm (ks : List Key) (xs : List D) : (Opd.t (.m ks xs)).keep S = some (.m ks xs, S) := Eq.trans rfl rfl
@[simp] theorem toD_d (x : D) : (W.d x).toD = x := Eq.trans rfl rfl
@[simp] theorem toD_l (xs : List D) : (W.l xs).toD = .lst xs := Eq.trans rfl rfl
@[simp] theorem toD_m (ks : List Key) (xs : List D) : (W.m ks xs).toD = .dic ks xs := Eq.trans rfl rfl
@[simp] theorem toD_o (a : Addr) (c : Nat) (ns : List Str) (xs : List D) : (W.o a c ns xs).toD = .obj c ns xs := Eq.trans rfl rfl
@[simp] theorem dat_d (x : D) : (W.d x).dat = some x := Eq.trans rfl rfl
@[simp] theorem dat_l (xs : List D) : (W.l xs).dat = some (.lst xs) := Eq.trans rfl rfl
@[simp] theorem dat_m (ks : List Key) (xs : List D) : (W.m ks xs).dat = some (.dic ks xs) := Eq.trans rfl rfl
@[simp] theorem dat_o (a : Addr) (c : Nat) (ns : List Str) (xs : List D) : (W.o a c ns xs).dat = some (.obj c ns xs) := Eq.trans rfl rfl
@[simp] theorem gets_nil : gets S [] = some [] := Eq.trans rfl rfl
@[simp] theorem gets_cons (o : Opd) (os : List Opd) : gets S (o :: os) = match o.get S, gets S os with | some d, some ds => some (d :: ds) | _, _ => none := Eq.trans rfl rfl
@[simp] theorem Tg_nm (i : Nat) (x : Str) (d : D) : (Tg.nm i x).g d S = some (S.set i (some (.d d))) := Eq.trans rfl rfl
@[simp] theorem Tg_tp (is : List (Nat × Str)) (ds : List D) : (Tg.tp is).g (.tup ds) S = if ds.length = (is.map (·.1)).length then some (setAll (is.map (·.1)) ds S) else none := Eq.trans rfl rfl
@[simp] theorem setAll_nil (ds : List D) : setAll [] ds S = S := by cases ds <;> rfl
@[simp] theorem setAll_cons (i : Nat) (is : List Nat) (d : D) (ds : List D) : setAll (i :: is) (d :: ds) S = setAll is ds (S.set i (some (.d d))) := Eq.trans rfl rfl
@[simp] theorem wipeS_nil : wipeS S [] = S := Eq.trans rfl rfl
@[simp] theorem wipeS_cons (v : Nat) (vs : List Nat) : wipeS S (v :: vs) = (wipeS S vs).set v none := Eq.trans rfl rfl
end
/-! ### operators -/
@[simp] theorem sB_add : sB .add = sAdd := Eq.trans rfl rfl
@[simp] theorem sB_sub : sB .sub = sSub := Eq.trans rfl rfl
@[simp] theorem sB_mul : sB .mul = sMul := Eq.trans rfl rfl
@[simp] theorem sB_fdiv : sB .fdiv = sFdiv := Eq.trans rfl rfl
@[simp] theorem sB_mod : sB .mod = sMod := Eq.trans rfl rfl
@[simp] theorem sB_pow : sB .pow = sPow := Eq.trans rfl rfl
@[simp] theorem sAdd_int (i j : Int) : sAdd (.int i) (.int j) = some (.d (.int (i + j))) := Eq.trans rfl rfl
@[simp] theorem sSub_int (i j : Int) : sSub (.int i) (.int j) = some (.d (.int (i - j))) := Eq.trans rfl rfl
@[simp] theorem sAdd_tx (a b : List Nat) (h : a.length + b.length ≤ 16777216) : sAdd (.str (tx a)) (.str (tx b)) = some (.d (.str (tx (a ++ b)))) := by
  show (if (tx a).length + (tx b).length ≤ sizeLine then some (W.d (.str (tx a ++ tx b))) else none) = _
  rw [if_pos (by rw [sizeLine_eq, tx_len, tx_len]; exact h), tx_app]
@[simp] theorem sAdd_lst (a b : List D) (h : a.length + b.length ≤ 16777216) : sAdd (.lst a) (.lst b) = some (.l (a ++ b)) := by
  show (if a.length + b.length ≤ sizeLine then some (W.l (a ++ b)) else none) = _
  rw [if_pos (by rw [sizeLine_eq]; exact h)]
@[simp] theorem sMod_int (i j : Int) (h : 0 < j) : sMod (.int i) (.int j) = some (.d (.int (i % j))) := if_pos h
@[simp] theorem sFdiv_int (i j : Int) (h : 0 < j) (k : j < 18446744073709551616) : sFdiv (.int i) (.int j) = some (.d (.int (i / j))) := by
  refine if_pos ⟨h, ?_⟩
  have h2 : j.natAbs.log2 < 64 := (Nat.log2_lt (by omega)).mpr (by omega)
  omega
@[simp] theorem sMul_int (i j : Int) (h : i.natAbs.log2 + j.natAbs.log2 < 1000000) : sMul (.int i) (.int j) = some (.d (.int (i * j))) := if_pos h
@[simp] theorem sPow_int (i j : Int) (h1 : 0 ≤ j) (h2 : j ≤ 1000000) (h3 : i.natAbs < 18446744073709551616) : sPow (.int i) (.int j) = some (.d (.int (i ^ j.toNat))) := if_pos ⟨h1, h2, by simpa using h3⟩
theorem log2_lt {n k : Nat} (hk : 0 < k) (h : n < 2 ^ k) : n.log2 < k := by
  by_cases hz : n = 0
  · subst hz; simpa using hk
  · exact (Nat.log2_lt hz).mpr h
@[simp] theorem sIsi_own_obj (c : Nat) (ns : List Str) (xs : List D) : sIsi (.own c) (.obj c ns xs) = some (.d (.bl true)) := if_pos rfl
@[simp] theorem sIsi_own_str (c : Nat) (x : Str) : sIsi (.own c) (.str x) = some (.d (.bl false)) := Eq.trans rfl rfl
@[simp] theorem sIsi_tup_tup (xs : List D) : sIsi .tup (.tup xs) = some (.d (.bl true)) := Eq.trans rfl rfl
@[simp] theorem sIsi_tup_int (i : Int) : sIsi .tup (.int i) = some (.d (.bl false)) := Eq.trans rfl rfl
@[simp] theorem sIsi_int_int (i : Int) : sIsi .int (.int i) = some (.d (.bl true)) := Eq.trans rfl rfl
@[simp] theorem sIsi_bl_int (i : Int) : sIsi .bl (.int i) = some (.d (.bl false)) := Eq.trans rfl rfl
@[simp] theorem sIsi_str_str (x : Str) : sIsi .str (.str x) = some (.d (.bl true)) := Eq.trans rfl rfl
@[simp] theorem sIsi_dic_dic (ks : List Key) (xs : List D) : sIsi .dic (.dic ks xs) = some (.d (.bl true)) := Eq.trans rfl rfl
@[simp] theorem sCW_u (o : CO) (a b : D) : sCW o a b = (sC o a b).map fun k => .d (.bl k) := Eq.trans rfl rfl
@[simp] theorem sC_lt : sC .lt = cLt := Eq.trans rfl rfl
@[simp] theorem sC_le : sC .le = cLe := Eq.trans rfl rfl
@[simp] theorem sC_gt (a b : D) : sC .gt a b = cLt b a := Eq.trans rfl rfl
@[simp] theorem sC_ge (a b : D) : sC .ge a b = cLe b a := Eq.trans rfl rfl
@[simp] theorem sC_eq : sC .eq = deq := Eq.trans rfl rfl
@[simp] theorem sC_ne (a b : D) : sC .ne a b = (deq a b).map not := Eq.trans rfl rfl
@[simp] theorem sC_is : sC .is = cIs := Eq.trans rfl rfl
@[simp] theorem sC_isnot (a b : D) : sC .isnot a b = (cIs a b).map not := Eq.trans rfl rfl
@[simp] theorem sC_in : sC .«in» = cIn := Eq.trans rfl rfl
@[simp] theorem sC_notin (a b : D) : sC .notin a b = (cIn a b).map not := Eq.trans rfl rfl
@[simp] theorem cLt_int (i j : Int) : cLt (.int i) (.int j) = some (decide (i < j)) := Eq.trans rfl rfl
@[simp] theorem cLe_int (i j : Int) : cLe (.int i) (.int j) = some (decide (i ≤ j)) := Eq.trans rfl rfl
@[simp] theorem cIs_non : cIs .non .non = some true := Eq.trans rfl rfl
@[simp] theorem cIs_tup (xs : List D) : cIs (.tup xs) .non = some false := Eq.trans rfl rfl
@[simp] theorem cIs_int (i : Int) : cIs (.int i) .non = some false := Eq.trans rfl rfl
@[simp] theorem cIs_str (x : Str) : cIs (.str x) .non = some false := Eq.trans rfl rfl
@[simp] theorem cIs_lst (xs : List D) : cIs (.lst xs) .non = some false := Eq.trans rfl rfl
@[simp] theorem cIn_str (i j : Str) : cIn (.str i) (.str j) = some (strIn i j) := Eq.trans rfl rfl
@[simp] theorem cIn_lst (a : D) (ys : List D) : cIn a (.lst ys) = din a (.lst ys) := by cases a <;> rfl
@[simp] theorem deq_int' (i j : Int) : deq (.int i) (.int j) = some (decide (i = j)) := deq_int i j
@[simp] theorem deq_tx' (a b : List Nat) (ha : okT a = true) (hb : okT b = true) : deq (.str (tx a)) (.str (tx b)) = some (decide (a = b)) := deq_tx ha hb
@[simp] theorem deq_bl (a b : Bool) : deq (.bl a) (.bl b) = some (a == b) := by
  show (if SeqAt.shaped (.bool a) = true ∧ SeqAt.shaped (.bool b) = true then some (PyData.eqv (.bool a) (.bool b)) else none) = _
  rw [if_pos ⟨by simp [SeqAt.shaped, PyData.canLay0, PyData.depth], by simp [SeqAt.shaped, PyData.canLay0, PyData.depth]⟩]
  simp [PyData.eqv]
@[simp] theorem sTup_ok (ds : List D) (h : ds.length ≤ 16777216) : sTup ds = some (.d (.tup ds)) := if_pos (by rw [sizeLine_eq]; exact h)
@[simp] theorem sLst_ok (ds : List D) (h : ds.length ≤ 16777216) : sLst ds = some (.l ds) := if_pos (by rw [sizeLine_eq]; exact h)
@[simp] theorem sIx_lst (xs : List D) (i : Int) : sIx (.lst xs) (.int i) = (atI xs i).map .d := Eq.trans rfl rfl
@[simp] theorem sIx_tup (xs : List D) (i : Int) : sIx (.tup xs) (.int i) = (atI xs i).map .d := Eq.trans rfl rfl
@[simp] theorem sIx_frl (xs : List D) (i : Int) : sIx (.frl xs) (.int i) = (atI xs i).map .d := Eq.trans rfl rfl
theorem atI_nat {α : Type} (xs : List α) (i : Nat) (h : i < xs.length) : atI xs (i : Int) = some xs[i] := by
  unfold atI ixN
  rw [if_pos (by omega), if_pos (by omega)]
  simp [h]
theorem atI_pos {α : Type} (xs : List α) (i : Int) (h0 : 0 ≤ i) (h : i.toNat < xs.length) : atI xs i = some xs[i.toNat] := by
  unfold atI ixN
  rw [if_pos h0, if_pos (by omega)]
  simp [h]
@[simp] theorem sIx_tx (l : List Nat) (i : Int) (h : l.length ≤ 16777216) : sIx (.str (tx l)) (.int i) = (atI l i).map fun c => .d (.str (tx [c])) := by
  show (if (tx l).length ≤ sizeLine then (atI (tx l).cps.toList i).map fun c => W.d (.str ⟨#[c]⟩) else none) = _
  rw [if_pos (by rw [sizeLine_eq, tx_len]; exact h), tx_cps]
  rfl
@[simp] theorem sSl_lst (xs : List D) (lo hi : Option Int) : sSl (.lst xs) lo hi = some (.l (cutD xs lo hi)) := Eq.trans rfl rfl
@[simp] theorem sSl_frl (xs : List D) (lo hi : Option Int) : sSl (.frl xs) lo hi = some (.l (cutD xs lo hi)) := Eq.trans rfl rfl
def cutL (l : List Nat) (lo hi : Option Int) : List Nat := (l.drop (HT.sIx l.length 0 lo)).take (HT.sIx l.length l.length hi - HT.sIx l.length 0 lo)
@[simp] theorem sSl_tx (l : List Nat) (lo hi : Option Int) (h : l.length ≤ 16777216) : sSl (.str (tx l)) lo hi = some (.d (.str (tx (cutL l lo hi)))) := by
  show (if (tx l).length ≤ sizeLine then some (W.d (.str (cutS (tx l) lo hi))) else none) = _
  rw [if_pos (by rw [sizeLine_eq, tx_len]; exact h)]
  simp only [cutS, cutL, tx_len, tx_cps]
  rfl
theorem cutL_to (l : List Nat) (n : Nat) : cutL l none (some (n : Int)) = l.take n := by
  unfold cutL
  rw [HT.sIx_none, HT.sIx_nat]
  simp
theorem cutL_from (l : List Nat) (n : Nat) : cutL l (some (n : Int)) none = l.drop n := by
  unfold cutL
  rw [HT.sIx_none, HT.sIx_nat, List.take_of_length_le (by simp)]
  by_cases h : n ≤ l.length
  · rw [Nat.min_eq_left h]
  · rw [Nat.min_eq_right (by omega), List.drop_of_length_le (Nat.le_refl _), List.drop_of_length_le (by omega)]
theorem cutD_to (l : List D) (n : Nat) : cutD l none (some (n : Int)) = l.take n := by
  unfold cutD
  rw [HT.sIx_none, HT.sIx_nat]
  simp
theorem cutD_from (l : List D) (n : Nat) : cutD l (some (n : Int)) none = l.drop n := by
  unfold cutD
  rw [HT.sIx_none, HT.sIx_nat, List.take_of_length_le (by simp)]
  by_cases h : n ≤ l.length
  · rw [Nat.min_eq_left h]
  · rw [Nat.min_eq_right (by omega), List.drop_of_length_le (Nat.le_refl _), List.drop_of_length_le (by omega)]
@[simp] theorem cutD_from1 (l : List D) (n : Nat) : cutD l (some ((n : Int) + 1)) none = l.drop (n + 1) := cutD_from l (n + 1)
@[simp] theorem cutD_to' (l : List D) (n : Nat) : cutD l none (some (n : Int)) = l.take n := cutD_to l n
theorem cutD_mid (l : List D) (n m : Nat) (h : n ≤ m) (h2 : m ≤ l.length) : cutD l (some (n : Int)) (some (m : Int)) = (l.drop n).take (m - n) := by
  unfold cutD
  rw [HT.sIx_nat, HT.sIx_nat, Nat.min_eq_left h2, Nat.min_eq_left (Nat.le_trans h h2)]
@[simp] theorem sBI_abs (i : Int) : sBI .abs [.int i] = some (.d (.int (if i < 0 then -i else i))) := Eq.trans rfl rfl
@[simp] theorem sBI_int (i : Int) : sBI .int [.int i] = some (.d (.int i)) := Eq.trans rfl rfl
@[simp] theorem sBI_len_tx (l : List Nat) (h : l.length ≤ 16777216) : sBI .len [.str (tx l)] = some (.d (.int l.length)) := by
  show (if (tx l).length ≤ sizeLine then some (W.d (.int (tx l).length)) else none) = _
  rw [if_pos (by rw [sizeLine_eq, tx_len]; exact h), tx_len]
@[simp] theorem sBI_len_lst (xs : List D) : sBI .len [.lst xs] = some (.d (.int xs.length)) := Eq.trans rfl rfl
@[simp] theorem sBI_len_tup (xs : List D) : sBI .len [.tup xs] = some (.d (.int xs.length)) := Eq.trans rfl rfl
@[simp] theorem sBI_len_frl (xs : List D) : sBI .len [.frl xs] = some (.d (.int xs.length)) := Eq.trans rfl rfl
@[simp] theorem sBI_list_lst (xs : List D) : sBI .list [.lst xs] = some (.l xs) := Eq.trans rfl rfl
@[simp] theorem sBI_list_tup (xs : List D) : sBI .list [.tup xs] = some (.l xs) := Eq.trans rfl rfl
@[simp] theorem sBI_list_frl (xs : List D) : sBI .list [.frl xs] = some (.l xs) := Eq.trans rfl rfl
@[simp] theorem sBI_tuple_lst (xs : List D) : sBI .tuple [.lst xs] = some (.d (.tup xs)) := Eq.trans rfl rfl
theorem blsD_of (l : List Bool) : blsD (l.map .bl) = some l := by
  induction l with
  | nil => rfl
  | cons b l ih => show (blsD (l.map .bl)).map (b :: ·) = _; rw [ih]; rfl
theorem sBI_all (l : List Bool) : sBI .all [.lst (l.map .bl)] = some (.d (.bl (l.all id))) := by
  show (blsD (l.map .bl)).map (fun bs => W.d (.bl (bs.all id))) = _
  rw [blsD_of]
  rfl
@[simp] theorem sBI_all_map {α : Type} (f : α → Bool) (l : List α) : sBI .all [.lst (l.map fun x => .bl (f x))] = some (.d (.bl (l.all f))) := by
  have h := sBI_all (l.map f)
  rw [List.map_map] at h
  exact h.trans (by simp [List.all_map])
@[simp] theorem sBI_all_comp {α : Type} (f : α → Bool) (l : List α) : sBI .all [.lst (l.map (D.bl ∘ f))] = some (.d (.bl (l.all f))) := sBI_all_map f l
@[simp] theorem sFldD_u (c c' : Nat) (f : Str) (ns : List Str) (xs : List D) : sFldD c f (.obj c' ns xs) = if c' = c then (lookD f ns xs).map .d else none := Eq.trans rfl rfl
@[simp] theorem lookD_u (f n : Str) (ns : List Str) (x : D) (xs : List D) : lookD f (n :: ns) (x :: xs) = if f = n then some x else lookD f ns xs := Eq.trans rfl rfl
@[simp] theorem putN_nil (f : Str) : putN f [] = [f] := Eq.trans rfl rfl
@[simp] theorem putN_cons (f n : Str) (ns : List Str) : putN f (n :: ns) = if n = f then f :: ns else n :: putN f ns := Eq.trans rfl rfl
@[simp] theorem putX_nil (f : Str) (d : D) (xs : List D) : putX f d [] xs = [d] := by cases xs <;> rfl
@[simp] theorem putX_cons (f n : Str) (ns : List Str) (d x : D) (xs : List D) : putX f d (n :: ns) (x :: xs) = if n = f then d :: xs else x :: putX f d ns xs := Eq.trans rfl rfl
@[simp] theorem keyD_int (i : Int) : keyD (.int i) = some (.inl i) := Eq.trans rfl rfl
@[simp] theorem keyD_str (x : Str) : keyD (.str x) = some (.inr x) := Eq.trans rfl rfl
theorem run_nx {sg : Sig} {Γ : Mean} {a b : B} {S S1 : SS} (h : evS sg Γ a S = .nx S1) : evS sg Γ (.seq a b) S = evS sg Γ b S1 := by rw [evS_seq, h]
theorem run_set {sg : Sig} {Γ : Mean} {i : Nat} {x : Str} {e : C} {b : B} {S S1 S2 : SS} {o : Opd} {w : W} (h : (ev sg Γ e).e S = .ok o S1) (k : o.keep S1 = some (w, S2)) : evS sg Γ (.seq (.set i x e) b) S = evS sg Γ b (S2.set i (some w)) := by rw [evS_seq, evS_set, h]; simp only [k]
@[simp] theorem sTry_u {S : SS} (i : Nat) (sub : Nat → Option Bool) (mb msu : SS → RS) : sTry i sub mb msu S = match mb S with
  | .exc x S1 => (match sub x.c with
    | some true => if (x.has || x.ns.isEmpty) = false then .bad else (match msu (S1.set i (some (.xv x.c x.ns x.xs))) with
      | .nx S2 => if noXvS (S2.set i none) = true then .nx (S2.set i none) else .bad
      | .bk S2 => if noXvS (S2.set i none) = true then .bk (S2.set i none) else .bad
      | .ct S2 => if noXvS (S2.set i none) = true then .ct (S2.set i none) else .bad
      | .rt w => if w.noXv = true then .rt w else .bad
      | _ => .bad)
    | some false => .exc x S1
    | none => .bad)
  | .nx S1 => .nx S1
  | .bk S1 => .bk S1
  | .ct S1 => .ct S1
  | .rt w => .rt w
  | .bad => .bad := by
  unfold sTry
  cases mb S <;> rfl
@[simp] theorem noXvS_nil : noXvS [] = true := by simp [noXvS]
@[simp] theorem noXvS_none (S : SS) : noXvS (none :: S) = noXvS S := by simp [noXvS]
@[simp] theorem noXvS_some (w : W) (S : SS) : noXvS (some w :: S) = (w.noXv && noXvS S) := by simp [noXvS]
@[simp] theorem noXv_d (x : D) : (W.d x).noXv = true := by rfl
@[simp] theorem noXv_l (x : List D) : (W.l x).noXv = true := by rfl
@[simp] theorem noXv_m (k : List Key) (x : List D) : (W.m k x).noXv = true := by rfl
/-- this run raises x -/
def RS.raises (r : RS) (x : Exn) : Prop := match r with | .exc y _ => y = x | _ => False
@[simp] theorem raises_exc (x y : Exn) (S : SS) : (RS.exc y S).raises x ↔ y = x := Iff.rfl
theorem RS.raises.get {r : RS} {x : Exn} (h : r.raises x) : ∃ S, r = .exc x S := by
  cases r <;> first | exact h.elim | skip
  cases (show _ = x from h)
  exact ⟨_, rfl⟩
/-- this run goes on, P of the frame -/
def RS.goes (r : RS) (P : SS → Prop) : Prop := match r with | .nx S => P S | _ => False
@[simp] theorem goes_nx (S : SS) (P : SS → Prop) : (RS.nx S).goes P ↔ P S := Iff.rfl
theorem RS.goes.get {r : RS} {P : SS → Prop} (h : r.goes P) : ∃ S, r = .nx S ∧ P S := by
  cases r <;> first | exact h.elim | skip
  exact ⟨_, rfl, h⟩
theorem intsD_eq (n : Nat) : intsD 0 n = (List.range n).map fun i : Nat => D.int (i : Int) := by
  unfold intsD
  exact List.map_congr_left fun i _ => by rw [Int.zero_add]
/-- a for over items of a type -/
theorem loopS_all {α : Type} {g : Tgt} {body : SS → RS} (enc : α → D) (I : SS → Prop) : ∀ (xs : List α), (∀ x ∈ xs, ∀ S, I S → ∃ S1, g (enc x) S = some S1 ∧ (body S1).goes I) → ∀ S, I S → (loopS g body (xs.map enc) S).goes I
  | [], _, S, i => i
  | x :: xs, h, S, i => by
    obtain ⟨S1, h1, h2⟩ := h x List.mem_cons_self S i
    obtain ⟨S2, h3, h4⟩ := h2.get
    have := loopS_all enc I xs (fun y hy => h y (List.mem_cons_of_mem _ hy)) S2 h4
    simp only [List.map_cons, loopS, h1, h3]
    exact this
theorem loopS_rng {g : Tgt} {body : SS → RS} (n : Nat) (I : SS → Prop) (h : ∀ i : Nat, i < n → ∀ S, I S → ∃ S1, g (.int i) S = some S1 ∧ (body S1).goes I) (S : SS) (i : I S) : (loopS g body (intsD 0 n) S).goes I := by
  rw [intsD_eq]
  exact loopS_all (fun i : Nat => D.int (i : Int)) I (List.range n) (fun x hx => h x (List.mem_range.mp hx)) S i
/-! ### comprehensions -/
section
variable {sg : Sig} {Γ : Mean} {S S1 : SS} {own : List (Str × Nat)} {tg : Tg} {it cond elt : C} {items : List D}
theorem ev_lc0 {it cond elt : C} (hv : it.vi = none) : (ev sg Γ (.lc own tg it cond elt)).e S = mLc (own.map (·.2)) (ev sg Γ it).it tg.g (ev sg Γ cond).t (ev sg Γ elt).e S := by
  show mLcG (own.map (·.2)) it.vi (ev sg Γ it).it tg.g (ev sg Γ cond).t (ev sg Γ elt).e S = _
  rw [hv]
  rfl
theorem lc_map (f : D → D) (hi : (ev sg Γ it).it S = .ok items S1)
    (h : ∀ x ∈ items, ∃ T1 T3 T4 o w, tg.g x (wipeS S1 (own.map (·.2))) = some T1 ∧ (ev sg Γ elt).e T1 = .ok o T3 ∧ o.keep T3 = some (w, T4) ∧ w.toD = f x ∧ wipeS T4 (own.map (·.2)) = wipeS S1 (own.map (·.2)))
    (hl : items.length ≤ 16777216) (hv : it.vi = none := by rfl) : (ev sg Γ (.lc own tg it .yes elt)).e S = .ok (.t (.l (items.map f))) S1 := by
  rw [ev_lc0 hv]
  exact mLc_map f hi h (by rw [sizeLine_eq]; exact hl)
/-- over typed items -/
theorem lc_T {α : Type} (xs : List α) (enc out : α → D) (hi : (ev sg Γ it).it S = .ok (xs.map enc) S1)
    (h : ∀ x ∈ xs, ∃ T1 T3 T4 o w, tg.g (enc x) (wipeS S1 (own.map Prod.snd)) = some T1 ∧ (ev sg Γ elt).e T1 = .ok o T3 ∧ o.keep T3 = some (w, T4) ∧ w.toD = out x ∧ wipeS T4 (own.map Prod.snd) = wipeS S1 (own.map Prod.snd))
    (hl : xs.length ≤ 16777216) (hv : it.vi = none := by rfl) : (ev sg Γ (.lc own tg it .yes elt)).e S = .ok (.t (.l (xs.map out))) S1 := by
  have key : ∀ (xs : List α) (acc : List D), (∀ x ∈ xs, ∃ T1 T3 T4 o w, tg.g (enc x) (wipeS S1 (own.map Prod.snd)) = some T1 ∧ (ev sg Γ elt).e T1 = .ok o T3 ∧ o.keep T3 = some (w, T4) ∧ w.toD = out x ∧ wipeS T4 (own.map Prod.snd) = wipeS S1 (own.map Prod.snd)) →
      acc.length + xs.length ≤ sizeLine → loopC (own.map Prod.snd) tg.g tTrue (ev sg Γ elt).e (xs.map enc) (wipeS S1 (own.map Prod.snd)) acc = .ok (acc ++ xs.map out) (wipeS S1 (own.map Prod.snd)) := by
    intro xs
    induction xs with
    | nil => intro acc _ _; simp [loopC]
    | cons x xs ih =>
      intro acc h hl
      have hl : acc.length + (xs.length + 1) ≤ sizeLine := hl
      obtain ⟨T1, T3, T4, o, w, h1, h2, h3, h4, h5⟩ := h x List.mem_cons_self
      rw [List.map_cons]
      unfold loopC
      simp only [h1, tTrue, h2, h3]
      rw [if_pos (by omega), h5, h4]
      refine (ih (acc ++ [out x]) (fun y hy => h y (List.mem_cons_of_mem _ hy)) (by simp; omega)).trans ?_
      simp
  rw [ev_lc0 hv]
  show mLc (own.map Prod.snd) (ev sg Γ it).it tg.g tTrue (ev sg Γ elt).e S = _
  unfold mLc
  rw [hi]
  show (match loopC (own.map Prod.snd) tg.g tTrue (ev sg Γ elt).e (xs.map enc) (wipeS S1 (own.map Prod.snd)) [] with | .ok acc S2 => RE.ok (.t (.l acc)) (restS S1 (own.map Prod.snd) S2) | .bad => .bad) = _
  rw [key xs [] h (by rw [sizeLine_eq]; simpa using hl)]
  show RE.ok (.t (.l ([] ++ _))) (restS S1 (own.map Prod.snd) (wipeS S1 (own.map Prod.snd))) = _
  rw [restS_wipe, List.nil_append]
/-- over typed items, the frame within I -/
theorem lc_I {α : Type} (xs : List α) (enc out : α → D) (I : SS → Prop) (hi : (ev sg Γ it).it S = .ok (xs.map enc) S1) (h0 : I (wipeS S1 (own.map Prod.snd)))
    (h : ∀ x ∈ xs, ∀ F, I F → ∃ T1 T3 T4 o w, tg.g (enc x) F = some T1 ∧ (ev sg Γ elt).e T1 = .ok o T3 ∧ o.keep T3 = some (w, T4) ∧ w.toD = out x ∧ I (wipeS T4 (own.map Prod.snd)))
    (hl : xs.length ≤ 16777216) (hv : it.vi = none := by rfl) : ∃ F, I F ∧ (ev sg Γ (.lc own tg it .yes elt)).e S = .ok (.t (.l (xs.map out))) (restS S1 (own.map Prod.snd) F) := by
  have key : ∀ (xs : List α) (acc : List D) (F : SS), I F → (∀ x ∈ xs, ∀ F, I F → ∃ T1 T3 T4 o w, tg.g (enc x) F = some T1 ∧ (ev sg Γ elt).e T1 = .ok o T3 ∧ o.keep T3 = some (w, T4) ∧ w.toD = out x ∧ I (wipeS T4 (own.map Prod.snd))) →
      acc.length + xs.length ≤ sizeLine → ∃ F', I F' ∧ loopC (own.map Prod.snd) tg.g tTrue (ev sg Γ elt).e (xs.map enc) F acc = .ok (acc ++ xs.map out) F' := by
    intro xs
    induction xs with
    | nil => intro acc F hF _ _; exact ⟨F, hF, by simp [loopC]⟩
    | cons x xs ih =>
      intro acc F hF h hl
      have hl : acc.length + (xs.length + 1) ≤ sizeLine := hl
      obtain ⟨T1, T3, T4, o, w, h1, h2, h3, h4, h5⟩ := h x List.mem_cons_self F hF
      obtain ⟨F', hF', e⟩ := ih (acc ++ [out x]) (wipeS T4 (own.map Prod.snd)) h5 (fun y hy => h y (List.mem_cons_of_mem _ hy)) (by simp; omega)
      refine ⟨F', hF', ?_⟩
      rw [List.map_cons]
      unfold loopC
      simp only [h1, tTrue, h2, h3]
      rw [if_pos (by omega), h4]
      refine e.trans ?_
      simp
  obtain ⟨F', hF', e⟩ := key xs [] _ h0 h (by rw [sizeLine_eq]; simpa using hl)
  refine ⟨F', hF', ?_⟩
  rw [ev_lc0 hv]
  show mLc (own.map Prod.snd) (ev sg Γ it).it tg.g tTrue (ev sg Γ elt).e S = _
  unfold mLc
  rw [hi]
  show (match loopC (own.map Prod.snd) tg.g tTrue (ev sg Γ elt).e (xs.map enc) (wipeS S1 (own.map Prod.snd)) [] with | .ok acc S2 => RE.ok (.t (.l acc)) (restS S1 (own.map Prod.snd) S2) | .bad => .bad) = _
  rw [e]
  rfl
/-- over typed items of an own list, which stays own -/
theorem lc_V {α : Type} {i : Nat} {x : Str} (xs : List α) (enc out : α → D) (hi : S[i]? = some (some (.l (xs.map enc)))) (hn : (own.map Prod.snd).contains i = false)
    (h : ∀ x ∈ xs, ∃ T1 T3 T4 o w, tg.g (enc x) (wipeS (S.set i none) (own.map Prod.snd)) = some T1 ∧ (ev sg Γ elt).e T1 = .ok o T3 ∧ o.keep T3 = some (w, T4) ∧ w.toD = out x ∧ wipeS T4 (own.map Prod.snd) = wipeS (S.set i none) (own.map Prod.snd))
    (hl : xs.length ≤ 16777216) : (ev sg Γ (.lc own tg (.itw i x) .yes elt)).e S = .ok (.t (.l (xs.map out))) S := by
  have key : ∀ (xs : List α) (acc : List D), (∀ x ∈ xs, ∃ T1 T3 T4 o w, tg.g (enc x) (wipeS (S.set i none) (own.map Prod.snd)) = some T1 ∧ (ev sg Γ elt).e T1 = .ok o T3 ∧ o.keep T3 = some (w, T4) ∧ w.toD = out x ∧ wipeS T4 (own.map Prod.snd) = wipeS (S.set i none) (own.map Prod.snd)) →
      acc.length + xs.length ≤ sizeLine → loopC (own.map Prod.snd) tg.g tTrue (ev sg Γ elt).e (xs.map enc) (wipeS (S.set i none) (own.map Prod.snd)) acc = .ok (acc ++ xs.map out) (wipeS (S.set i none) (own.map Prod.snd)) := by
    intro xs
    induction xs with
    | nil => intro acc _ _; simp [loopC]
    | cons x xs ih =>
      intro acc h hl
      have hl : acc.length + (xs.length + 1) ≤ sizeLine := hl
      obtain ⟨T1, T3, T4, o, w, h1, h2, h3, h4, h5⟩ := h x List.mem_cons_self
      rw [List.map_cons]
      unfold loopC
      simp only [h1, tTrue, h2, h3]
      rw [if_pos (by omega), h5, h4]
      refine (ih (acc ++ [out x]) (fun y hy => h y (List.mem_cons_of_mem _ hy)) (by simp; omega)).trans ?_
      simp
  show mLcG (own.map Prod.snd) (some i) (ev sg Γ (.itw i x)).it tg.g tTrue (ev sg Γ elt).e S = _
  unfold mLcG
  dsimp only
  rw [hi]
  dsimp only
  rw [hn, if_neg (by decide), key xs [] h (by rw [sizeLine_eq]; simpa using hl)]
  dsimp only
  rw [restS_wipe, List.nil_append, List.set_set]
  have e : S.set i (some (.l (xs.map enc))) = S := by
    apply List.ext_getElem?
    intro j
    by_cases hj : j = i
    · subst hj
      rw [hi, List.getElem?_set_self (List.getElem?_eq_some_iff.mp hi).1]
    · rw [List.getElem?_set_ne (Ne.symm hj)]
  rw [e]
theorem lc_fm (f : D → Option D) (hi : (ev sg Γ it).it S = .ok items S1)
    (h : ∀ x ∈ items, (∃ T1 T2, tg.g x (wipeS S1 (own.map (·.2))) = some T1 ∧ (ev sg Γ cond).t T1 = .ok false T2 ∧ f x = none ∧ wipeS T2 (own.map (·.2)) = wipeS S1 (own.map (·.2))) ∨ ∃ T1 T2 T3 T4 o w, tg.g x (wipeS S1 (own.map (·.2))) = some T1 ∧ (ev sg Γ cond).t T1 = .ok true T2 ∧ (ev sg Γ elt).e T2 = .ok o T3 ∧ o.keep T3 = some (w, T4) ∧ f x = some w.toD ∧ wipeS T4 (own.map (·.2)) = wipeS S1 (own.map (·.2)))
    (hl : items.length ≤ 16777216) (hv : it.vi = none := by rfl) : (ev sg Γ (.lc own tg it cond elt)).e S = .ok (.t (.l (items.filterMap f))) S1 := by
  rw [ev_lc0 hv]
  exact mLc_fm f hi h (by rw [sizeLine_eq]; exact hl)
end
end Ly
end
section
set_option Elab.async false
set_option linter.all false
set_option maxRecDepth 100000
set_option maxHeartbeats 0
/-! Na: the head of k17. -/
namespace N17
open PySem PySem.Spec PyProof.Rows L2 Ly
abbrev W0 : PySem.W.OpenLaw := PySem.Challenge.rw_ledinto_k17_identity_texts
def top (i : Nat) : Stmt := PySem.Challenge.pw_ledinto_k17_identity_texts.main.body.getD i (.Pass ⟨0, 0, 0, 0⟩)
def mth (i j : Nat) : Stmt := match top i with
  | .ClassDef _ _ _ b _ _ _ _ _ _ _ => b.getD j (.Pass ⟨0, 0, 0, 0⟩)
  | _ => .Pass ⟨0, 0, 0, 0⟩
def dd (i : Nat) (x : Str) : DefM := ⟨(x, none), x, top i, false⟩
def dm (i j : Nat) (c x q : Str) (s : Bool := false) : DefM := ⟨(c, some x), q, mth i j, s⟩
def ds : List DefM := [dm 4 0 "BadIdentities" "__init__" "BadIdentities.__init__" true, dd 8 "is_word", dd 13 "parsed_side", dd 14 "parsed_identity", dd 15 "side_text",
  dm 16 0 "Identities" "__init__" "Identities.__init__", dm 16 1 "Identities" "__len__" "Identities.__len__", dm 16 2 "Identities" "__iter__" "Identities.__iter__", dm 16 3 "Identities" "__eq__" "Identities.__eq__", dm 16 4 "Identities" "text" "Identities.text",
  dd 18 "_law_digits", dd 19 "_law_plain", dd 20 "_law_symbols", dd 21 "_law_equation", dd 22 "_law_side", dd 23 "_law_line", dd 24 "_law_pairs", dd 25 "_law_read_held", dd 26 "_law_unequal_held", dd 27 "_law_error", dd 28 "_law_spoilt", dd 29 "_law_spoils_held", dd 30 "_law_hundred_held", dd 31 "law"]
def names : List Str := ["LedError", "BadWeb", "BadFormula", "BadIdentities", "BadGadget", "LETTERS", "is_word", "MOST_LINES", "MOST_SYMBOL", "MOST_LETTERS", "parsed_side", "parsed_identity", "side_text", "Identities", "_law_digits", "_law_plain", "_law_symbols", "_law_equation", "_law_side", "_law_line", "_law_pairs", "_law_read_held", "_law_unequal_held", "_law_error", "_law_spoilt", "_law_spoils_held", "_law_hundred_held"]
def clss : List Str := ["LedError", "BadWeb", "BadFormula", "BadIdentities", "BadGadget", "Identities"]
def defs : List Str := ["is_word", "parsed_side", "parsed_identity", "side_text", "_law_digits", "_law_plain", "_law_symbols", "_law_equation", "_law_side", "_law_line", "_law_pairs", "_law_read_held", "_law_unequal_held", "_law_error", "_law_spoilt", "_law_spoils_held", "_law_hundred_held", "law"]
def fs : List MF := (clss ++ defs).map .glo ++ bltNs.map .free ++ [.str "LETTERS" "abcdefghijklmnopqrstuvwxyz", .int "MOST_LINES" 100, .int "MOST_SYMBOL" 4, .int "MOST_LETTERS" 8,
  .cls "Identities", .inst "Identities", .noat "Identities" "equations", .noat "Identities" "symbols", .meth "Identities" "text", .mkr "Identities", .eq "Identities", .len "Identities", .iter "Identities",
  .exc "BadIdentities", .xin "BadIdentities", .noat "BadIdentities" "line", .sub "BadIdentities" "LedError" true, .sub "BadIdentities" "BadIdentities" true, .sub "BadIdentities" "BadWeb" false, .sub "BadIdentities" "BadGadget" false, .sub "BadIdentities" "BadFormula" false]
abbrev R : PySem.W.OpenRow := PySem.W.OpenLaw.row W0
def fl : Str := W0.prog.main.file
abbrev hk : PySem.W.Hook := hookM 6 fl fs ds
def ob (s : PySem.W.SharedT) : AlM := obsM fl fs ds (frM (HandSHeadRun.getT s) 6)
theorem ob_eq (s : PySem.W.SharedT) : ob s = hk.obs s.abs := obsM_eq (HandSHeadRun.getT_eq s)
theorem run (w : World) : HandSHeadRun.RunEq R (PySem.W.view R.prog [31]) hk ob 4000 names w := by
  intro os
  kernel_rfl
end N17
end
section
set_option Elab.async false
set_option linter.all false
set_option maxRecDepth 100000
set_option maxHeartbeats 4000000
/-! Nb: k17's defs as core terms (printed by genNb.py), looked at. -/
namespace N17
open PySem PySem.Spec PyProof.Rows L2 Ly

def N_is_word : List Str := ["word", "most", "letter"]
def p_is_word : List Str := ["word", "most"]
def c_is_word_1 : C := (.lc [("letter", 2)] (.nm 2 "letter") (.itv (.var 0 "word")) .yes (.cmp .«in» (.var 2 "letter") (.glb 0 "LETTERS")))
def b_is_word : B := (.seq (.ret (.and (.chain .le .le (.int 1) (.bi .len (.cons (.var 0 "word") .nil)) (.var 1 "most")) (.bi .all (.cons c_is_word_1 .nil)))) .nil)
def N_parsed_side : List Str := ["text", "symbol", "space", "letters"]
def p_parsed_side : List Str := ["text"]
def b_parsed_side : B := (.seq (.asg (.tp [(1, "symbol"), (2, "space"), (3, "letters")]) (.bm .partition (.var 0 "text") (.cons (.str " ") .nil))) (.seq (.ife (.not (.call 0 "is_word" 2 (.cons (.var 1 "symbol") (.cons (.glb 2 "MOST_SYMBOL") .nil)))) (.seq (.ret .non) .nil) .nil) (.seq (.ife (.and (.cmp .ne (.var 2 "space") (.str "")) (.not (.call 0 "is_word" 2 (.cons (.var 3 "letters") (.cons (.glb 3 "MOST_LETTERS") .nil))))) (.seq (.ret .non) .nil) .nil) (.seq (.ret (.tup (.cons (.var 1 "symbol") (.cons (.var 3 "letters") .nil)))) .nil))))
def N_parsed_identity : List Str := ["line", "sides", "left", "right"]
def p_parsed_identity : List Str := ["line"]
def b_parsed_identity : B := (.seq (.set 1 "sides" (.bm .split (.var 0 "line") (.cons (.str " = ") .nil))) (.seq (.ife (.cmp .ne (.bi .len (.cons (.var 1 "sides") .nil)) (.int 2)) (.seq (.ret .non) .nil) .nil) (.seq (.set 2 "left" (.call 1 "parsed_side" 1 (.cons (.idx (.var 1 "sides") (.int 0)) .nil))) (.seq (.set 3 "right" (.call 1 "parsed_side" 1 (.cons (.idx (.var 1 "sides") (.int 1)) .nil))) (.seq (.ife (.or (.cmp .is (.var 2 "left") .non) (.cmp .is (.var 3 "right") .non)) (.seq (.ret .non) .nil) .nil) (.seq (.ret (.tup (.cons (.idx (.var 2 "left") (.int 0)) (.cons (.idx (.var 2 "left") (.int 1)) (.cons (.idx (.var 3 "right") (.int 0)) (.cons (.idx (.var 3 "right") (.int 1)) .nil)))))) .nil))))))
def N_side_text : List Str := ["symbol", "letters"]
def p_side_text : List Str := ["symbol", "letters"]
def b_side_text : B := (.seq (.ife (.cmp .eq (.var 1 "letters") (.str "")) (.seq (.ret (.var 0 "symbol")) .nil) .nil) (.seq (.ret (.bin .add (.bin .add (.var 0 "symbol") (.str " ")) (.var 1 "letters"))) .nil))
def N_Identities_init : List Str := ["self", "given", "lines", "equations", "symbols", "number", "line", "equation", "symbol", "letters"]
def p_Identities_init : List Str := ["self", "given"]
def l_Identities_init_1 : B := (.seq (.ife (.cmp .ne (.std 4 "symbols" (.var 8 "symbol") (.bi .len (.cons (.var 9 "letters") .nil))) (.bi .len (.cons (.var 9 "letters") .nil))) (.seq (.raise 3 "BadIdentities" "line" (.cons (.var 5 "number") .nil)) .nil) .nil) .nil)
def l_Identities_init_2 : B := (.seq (.set 7 "equation" (.ite (.cmp .le (.var 5 "number") (.glb 1 "MOST_LINES")) (.call 2 "parsed_identity" 1 (.cons (.var 6 "line") .nil)) .non)) (.seq (.ife (.cmp .is (.var 7 "equation") .non) (.seq (.raise 3 "BadIdentities" "line" (.cons (.var 5 "number") .nil)) .nil) .nil) (.seq (.each (.itv (.tup (.cons (.sl (.var 7 "equation") .no (.so (.int 2))) (.cons (.sl (.var 7 "equation") (.so (.int 2)) .no) .nil)))) (.tp [(8, "symbol"), (9, "letters")]) l_Identities_init_1) (.seq (.app 3 "equations" (.var 7 "equation")) .nil))))
def b_Identities_init : B := (.seq (.set 2 "lines" (.ite (.cmp .ne (.var 1 "given") (.str "")) (.bm .split (.var 1 "given") (.cons (.str "\n") .nil)) (.lst .nil))) (.seq (.set 3 "equations" (.lst .nil)) (.seq (.set 4 "symbols" .dic0) (.seq (.each (.num (.var 2 "lines") (.int 1)) (.tp [(5, "number"), (6, "line")]) l_Identities_init_2) (.seq (.fldS 5 0 "self" "equations" (.bi .tuple (.cons (.var 3 "equations") .nil))) (.seq (.fldS 5 0 "self" "symbols" (.var 4 "symbols")) .nil))))))
def N_Identities_len : List Str := ["self"]
def p_Identities_len : List Str := ["self"]
def b_Identities_len : B := (.seq (.ret (.bi .len (.cons (.fld 5 "equations" (.var 0 "self")) .nil))) .nil)
def N_Identities_eq : List Str := ["self", "other"]
def p_Identities_eq : List Str := ["self", "other"]
def b_Identities_eq : B := (.seq (.ret (.and (.isi (.own 5) (.var 1 "other")) (.cmp .eq (.fld 5 "equations" (.var 0 "self")) (.fld 5 "equations" (.var 1 "other"))))) .nil)
def N_Identities_text : List Str := ["self", "lines", "symbol", "letters", "other", "others"]
def p_Identities_text : List Str := ["self"]
def l_Identities_text_1 : B := (.seq (.app 1 "lines" (.bin .add (.bin .add (.call 3 "side_text" 2 (.cons (.var 2 "symbol") (.cons (.var 3 "letters") .nil))) (.str " = ")) (.call 3 "side_text" 2 (.cons (.var 4 "other") (.cons (.var 5 "others") .nil))))) .nil)
def b_Identities_text : B := (.seq (.set 1 "lines" (.lst .nil)) (.seq (.each (.itv (.fld 5 "equations" (.var 0 "self"))) (.tp [(2, "symbol"), (3, "letters"), (4, "other"), (5, "others")]) l_Identities_text_1) (.seq (.ret (.bm .join (.str "\n") (.cons (.var 1 "lines") .nil))) .nil)))
def N_law_digits : List Str := ["cells", "k", "base", "many", "rest", "digits", "turn"]
def p_law_digits : List Str := ["cells", "k", "base", "many"]
def l_law_digits_1 : B := (.seq (.app 5 "digits" (.bin .mod (.bi .int (.cons (.var 4 "rest") .nil)) (.var 2 "base"))) (.seq (.set 4 "rest" (.bin .fdiv (.var 4 "rest") (.var 2 "base"))) .nil))
def b_law_digits : B := (.seq (.set 4 "rest" (.ite (.cmp .lt (.var 1 "k") (.bi .len (.cons (.var 0 "cells") .nil))) (.bi .abs (.cons (.bi .int (.cons (.idx (.var 0 "cells") (.var 1 "k")) .nil)) .nil)) (.bin .add (.bin .mul (.int 7) (.var 1 "k")) (.int 1)))) (.seq (.ife (.cmp .lt (.var 4 "rest") (.bin .pow (.int 10) (.int 18))) (.seq (.set 4 "rest" (.bin .mul (.bin .add (.var 4 "rest") (.int 1)) (.int 27182818284590452353602874713526624977))) (.seq (.set 4 "rest" (.bin .mod (.bi .int (.cons (.var 4 "rest") .nil)) (.bin .add (.bin .pow (.int 10) (.int 40)) (.int 121)))) (.seq (.set 4 "rest" (.bin .mod (.bi .int (.cons (.bin .mul (.var 4 "rest") (.var 4 "rest")) .nil)) (.bin .add (.bin .pow (.int 10) (.int 39)) (.int 3)))) .nil))) .nil) (.seq (.set 5 "digits" (.lst .nil)) (.seq (.each (.rng1 (.cons (.var 3 "many") .nil)) (.nm 6 "turn") l_law_digits_1) (.seq (.ret (.var 5 "digits")) .nil)))))
def N_law_plain : List Str := ["told", "x"]
def p_law_plain : List Str := ["told"]
def b_law_plain : B := (.seq (.ife (.isi .tup (.var 0 "told")) (.seq .dead .nil) .nil) (.seq (.ret (.and (.isi .int (.var 0 "told")) (.not (.isi .bl (.var 0 "told"))))) .nil))
def N_law_symbols : List Str := ["cells", "letters", "arities", "symbols", "number", "rest", "word", "at", "name", "arity", "names", "x"]
def p_law_symbols : List Str := ["cells"]
def c_law_symbols_1 : C := (.lc [("name", 8), ("arity", 9)] (.tp [(8, "name"), (9, "arity")]) (.itw 3 "symbols") .yes (.var 8 "name"))
def c_law_symbols_2 : C := (.lc [("x", 11)] (.nm 11 "x") (.itv (.var 1 "letters")) (.cmp .notin (.var 11 "x") (.var 10 "names")) (.var 11 "x"))
def c_law_symbols_3 : C := (.lc [("name", 8), ("arity", 9)] (.tp [(8, "name"), (9, "arity")]) (.itw 3 "symbols") .yes (.var 8 "name"))
def l_law_symbols_1 : B := (.seq (.set 6 "word" (.bin .add (.var 6 "word") (.idx (.var 1 "letters") (.bin .mod (.bi .int (.cons (.var 5 "rest") .nil)) (.int 26))))) (.seq (.set 5 "rest" (.bin .fdiv (.var 5 "rest") (.int 26))) .nil))
def l_law_symbols_2 : B := (.seq (.set 5 "rest" (.bin .fdiv (.var 4 "number") (.int 24))) (.seq (.set 6 "word" (.str "")) (.seq (.each (.rng1 (.cons (.bin .add (.int 1) (.bin .mod (.bi .int (.cons (.var 4 "number") .nil)) (.int 4))) .nil)) (.nm 7 "at") l_law_symbols_1) (.seq (.ife (.cmp .«in» (.var 6 "word") c_law_symbols_1) (.seq (.set 10 "names" c_law_symbols_3) (.seq (.set 6 "word" (.idx c_law_symbols_2 (.int 0))) .nil)) .nil) (.seq (.app 3 "symbols" (.tup (.cons (.var 6 "word") (.cons (.idx (.var 2 "arities") (.bi .len (.cons (.var 3 "symbols") .nil))) .nil)))) .nil)))))
def b_law_symbols : B := (.seq (.set 1 "letters" (.str "abcdefghijklmnopqrstuvwxyz")) (.seq (.set 2 "arities" (.call 4 "_law_digits" 4 (.cons (.var 0 "cells") (.cons (.int 1) (.cons (.int 9) (.cons (.int 5) .nil)))))) (.seq (.set 3 "symbols" (.lst .nil)) (.seq (.each (.itv (.call 4 "_law_digits" 4 (.cons (.var 0 "cells") (.cons (.int 0) (.cons (.int 10967424) (.cons (.int 5) .nil)))))) (.nm 4 "number") l_law_symbols_2) (.seq (.ret (.var 3 "symbols")) .nil)))))
def N_law_equation : List Str := ["cells", "k", "symbols", "letters", "digits", "x", "span", "left", "right", "first", "second"]
def p_law_equation : List Str := ["cells", "k", "symbols"]
def c_law_equation_1 : C := (.lc [("x", 5)] (.nm 5 "x") (.itv (.sl (.var 4 "digits") (.so (.int 10)) (.so (.bin .add (.int 10) (.idx (.var 8 "right") (.int 1)))))) .yes (.idx (.var 3 "letters") (.bin .mod (.var 5 "x") (.var 6 "span"))))
def c_law_equation_2 : C := (.lc [("x", 5)] (.nm 5 "x") (.itv (.sl (.var 4 "digits") (.so (.int 2)) (.so (.bin .add (.int 2) (.idx (.var 7 "left") (.int 1)))))) .yes (.idx (.var 3 "letters") (.bin .mod (.var 5 "x") (.var 6 "span"))))
def c_law_equation_3 : C := (.lc [("x", 5)] (.nm 5 "x") (.itv (.call 4 "_law_digits" 4 (.cons (.var 0 "cells") (.cons (.var 1 "k") (.cons (.int 26) (.cons (.int 20) .nil)))))) .yes (.bi .int (.cons (.var 5 "x") .nil)))
def b_law_equation : B := (.seq (.set 3 "letters" (.str "abcdefghijklmnopqrstuvwxyz")) (.seq (.set 4 "digits" c_law_equation_3) (.seq (.set 6 "span" (.idx (.lst (.cons (.int 26) (.cons (.int 2) (.cons (.int 3) (.cons (.int 26) .nil))))) (.bin .mod (.idx (.var 4 "digits") (.int 18)) (.int 4)))) (.seq (.set 7 "left" (.idx (.var 2 "symbols") (.bin .mod (.idx (.var 4 "digits") (.int 0)) (.bi .len (.cons (.var 2 "symbols") .nil))))) (.seq (.set 8 "right" (.idx (.var 2 "symbols") (.bin .mod (.idx (.var 4 "digits") (.int 1)) (.bi .len (.cons (.var 2 "symbols") .nil))))) (.seq (.set 9 "first" (.bm .join (.str "") (.cons c_law_equation_2 .nil))) (.seq (.set 10 "second" (.bm .join (.str "") (.cons c_law_equation_1 .nil))) (.seq (.ret (.tup (.cons (.idx (.var 7 "left") (.int 0)) (.cons (.var 9 "first") (.cons (.idx (.var 8 "right") (.int 0)) (.cons (.var 10 "second") .nil)))))) .nil))))))))
def N_law_side : List Str := ["symbol", "letters"]
def p_law_side : List Str := ["symbol", "letters"]
def b_law_side : B := (.seq (.ife (.cmp .eq (.var 1 "letters") (.str "")) (.seq (.ret (.var 0 "symbol")) .nil) .nil) (.seq (.ret (.bin .add (.bin .add (.var 0 "symbol") (.str " ")) (.var 1 "letters"))) .nil))
def N_law_line : List Str := ["equation", "left"]
def p_law_line : List Str := ["equation"]
def b_law_line : B := (.seq (.set 1 "left" (.call 8 "_law_side" 2 (.cons (.idx (.var 0 "equation") (.int 0)) (.cons (.idx (.var 0 "equation") (.int 1)) .nil)))) (.seq (.ret (.bin .add (.bin .add (.var 1 "left") (.str " = ")) (.call 8 "_law_side" 2 (.cons (.idx (.var 0 "equation") (.int 2)) (.cons (.idx (.var 0 "equation") (.int 3)) .nil))))) .nil))
def N_law_pairs : List Str := ["equations", "pairs", "one", "pair"]
def p_law_pairs : List Str := ["equations"]
def l_law_pairs_1 : B := (.seq (.ife (.cmp .notin (.var 3 "pair") (.var 1 "pairs")) (.seq (.app 1 "pairs" (.var 3 "pair")) .nil) .nil) .nil)
def l_law_pairs_2 : B := (.seq (.each (.itv (.lst (.cons (.tup (.cons (.idx (.var 2 "one") (.int 0)) (.cons (.bi .len (.cons (.idx (.var 2 "one") (.int 1)) .nil)) .nil))) (.cons (.tup (.cons (.idx (.var 2 "one") (.int 2)) (.cons (.bi .len (.cons (.idx (.var 2 "one") (.int 3)) .nil)) .nil))) .nil)))) (.nm 3 "pair") l_law_pairs_1) .nil)
def b_law_pairs : B := (.seq (.set 1 "pairs" (.lst .nil)) (.seq (.each (.itv (.var 0 "equations")) (.nm 2 "one") l_law_pairs_2) (.seq (.ret (.var 1 "pairs")) .nil)))
def N_law_read_held : List Str := ["equations", "text", "part", "told", "other", "seen", "one", "found", "x", "pairs", "name"]
def p_law_read_held : List Str := ["equations"]
def c_law_read_held_1 : C := (.lc [("name", 10), ("x", 8)] (.tp [(10, "name"), (8, "x")]) (.itv (.var 9 "pairs")) .yes (.call 5 "_law_plain" 1 (.cons (.var 8 "x") .nil)))
def c_law_read_held_2 : C := (.lc [("x", 8)] (.nm 8 "x") (.itv (.var 6 "one")) .yes (.isi .str (.var 8 "x")))
def l_law_read_held_1 : B := (.seq (.ife (.not (.isi .tup (.var 6 "one"))) (.seq (.ret (.bl false)) .nil) .nil) (.seq (.ife (.not (.bi .all (.cons c_law_read_held_2 .nil))) (.seq (.ret (.bl false)) .nil) .nil) .nil))
def l_law_read_held_2 : B := (.seq (.ife (.cmp .ne (.var 7 "found") (.var 0 "equations")) (.seq (.ret (.bl false)) .nil) .nil) (.seq (.each (.itv (.var 7 "found")) (.nm 6 "one") l_law_read_held_1) .nil))
def l_law_read_held_3 : B := (.seq (.app 5 "seen" (.var 6 "one")) (.seq (.ife (.cmp .gt (.bi .len (.cons (.var 5 "seen") .nil)) (.int 200)) (.seq (.ret (.bl false)) .nil) .nil) .nil))
def c_law_read_held_3 : C := (.lc [("part", 2)] (.nm 2 "part") (.itv (.var 0 "equations")) .yes (.call 9 "_law_line" 1 (.cons (.var 2 "part") .nil)))
def b_law_read_held : B := (.seq (.set 1 "text" (.bm .join (.str "\n") (.cons c_law_read_held_3 .nil))) (.seq (.set 3 "told" (.new 0 5 "Identities" 1 (.cons (.var 1 "text") .nil))) (.seq (.set 4 "other" (.newk 0 5 "Identities" "given" (.var 1 "text"))) (.seq (.set 5 "seen" (.lst .nil)) (.seq (.each (.oit 5 "equations" (.var 3 "told")) (.nm 6 "one") l_law_read_held_3) (.seq (.ife (.or (.not (.isi .tup (.fld 5 "equations" (.var 3 "told")))) (.cmp .ne (.olen 5 0 (.var 3 "told")) (.bi .len (.cons (.var 0 "equations") .nil)))) (.seq (.ret (.bl false)) .nil) .nil) (.seq (.each (.itv (.lst (.cons (.bi .list (.cons (.fld 5 "equations" (.var 3 "told")) .nil)) (.cons (.var 5 "seen") .nil)))) (.nm 7 "found") l_law_read_held_2) (.seq (.ife (.or (.not (.isi .dic (.fld 5 "symbols" (.var 3 "told")))) (.not (.isi .str (.meth 2 5 "text" 1 (.var 3 "told") .nil)))) (.seq (.ret (.bl false)) .nil) .nil) (.seq (.set 9 "pairs" (.items (.fld 5 "symbols" (.var 3 "told")))) (.seq (.ife (.not (.bi .all (.cons c_law_read_held_1 .nil))) (.seq (.ret (.bl false)) .nil) .nil) (.seq (.ife (.cmp .ne (.var 9 "pairs") (.call 10 "_law_pairs" 1 (.cons (.var 0 "equations") .nil))) (.seq (.ret (.bl false)) .nil) .nil) (.seq (.ife (.or (.cmp .ne (.meth 2 5 "text" 1 (.var 3 "told") .nil) (.var 1 "text")) (.or (.ceq 5 1 false (.var 3 "told") (.var 1 "text")) (.not (.ceq 5 1 true (.var 3 "told") (.var 1 "text"))))) (.seq (.ret (.bl false)) .nil) .nil) (.seq (.ret (.and (.ceq 5 1 false (.var 3 "told") (.var 4 "other")) (.and (.not (.ceq 5 1 true (.var 3 "told") (.var 4 "other"))) (.cmp .eq (.meth 2 5 "text" 1 (.var 4 "other") .nil) (.var 1 "text"))))) .nil)))))))))))))
def N_law_unequal_held : List Str := ["equations", "at", "one", "text", "part", "others", "turned", "told", "given", "other", "same"]
def p_law_unequal_held : List Str := ["equations", "at"]
def l_law_unequal_held_1 : B := (.seq (.set 9 "other" (.new 0 5 "Identities" 1 (.cons (.var 8 "given") .nil))) (.seq (.set 10 "same" (.ceq 5 1 false (.var 7 "told") (.var 9 "other"))) (.seq (.ife (.or (.cmp .ne (.var 10 "same") (.cmp .eq (.var 8 "given") (.var 3 "text"))) (.cmp .eq (.ceq 5 1 true (.var 7 "told") (.var 9 "other")) (.var 10 "same"))) (.seq (.ret (.bl false)) .nil) .nil) .nil)))
def c_law_unequal_held_1 : C := (.lc [("part", 4)] (.nm 4 "part") (.itv (.var 6 "turned")) .yes (.call 9 "_law_line" 1 (.cons (.var 4 "part") .nil)))
def c_law_unequal_held_2 : C := (.lc [("part", 4)] (.nm 4 "part") (.itv (.var 0 "equations")) .yes (.call 9 "_law_line" 1 (.cons (.var 4 "part") .nil)))
def b_law_unequal_held : B := (.seq (.set 2 "one" (.idx (.var 0 "equations") (.var 1 "at"))) (.seq (.set 3 "text" (.bm .join (.str "\n") (.cons c_law_unequal_held_2 .nil))) (.seq (.set 5 "others" (.lst (.cons (.bin .add (.bin .add (.var 3 "text") (.str "\n")) (.call 9 "_law_line" 1 (.cons (.var 2 "one") .nil))) (.cons (.bin .add (.bin .add (.call 9 "_law_line" 1 (.cons (.var 2 "one") .nil)) (.str "\n")) (.var 3 "text")) .nil)))) (.seq (.set 6 "turned" (.lst (.cons (.tup (.cons (.idx (.var 2 "one") (.int 2)) (.cons (.idx (.var 2 "one") (.int 3)) (.cons (.idx (.var 2 "one") (.int 0)) (.cons (.idx (.var 2 "one") (.int 1)) .nil))))) .nil))) (.seq (.set 6 "turned" (.bin .add (.bin .add (.sl (.var 0 "equations") .no (.so (.var 1 "at"))) (.var 6 "turned")) (.sl (.var 0 "equations") (.so (.bin .add (.var 1 "at") (.int 1))) .no))) (.seq (.app 5 "others" (.bm .join (.str "\n") (.cons c_law_unequal_held_1 .nil))) (.seq (.set 7 "told" (.new 0 5 "Identities" 1 (.cons (.var 3 "text") .nil))) (.seq (.each (.itv (.var 5 "others")) (.nm 8 "given") l_law_unequal_held_1) (.seq (.ret (.bl true)) .nil)))))))))
def N_law_error : List Str := ["given", "told", "e"]
def p_law_error : List Str := ["given"]
def b_law_error : B := (.seq (.set 1 "told" (.lst .nil)) (.seq (.tryS 2 "e" 0 (.seq (.ex (.new 0 5 "Identities" 1 (.cons (.var 0 "given") .nil))) .nil) (.seq (.ife (.and (.isE 2 "e" 3) (.hot 0 "_law_plain" 1 (.cons (.eF 2 "e" "line") .nil))) (.seq (.app 1 "told" (.tup (.cons (.str "BadIdentities") (.cons (.eF 2 "e" "line") .nil)))) .nil) .nil) (.seq (.ife (.isE 2 "e" 1) (.seq .dead .nil) .nil) (.seq (.ife (.isE 2 "e" 4) (.seq .dead .nil) .nil) (.seq (.ife (.isE 2 "e" 2) (.seq .dead .nil) .nil) .nil))))) (.seq (.ret (.var 1 "told")) .nil)))
def N_law_spoilt : List Str := ["equation", "left", "right", "word", "whole", "told"]
def p_law_spoilt : List Str := ["equation"]
def b_law_spoilt : B := (.seq (.set 1 "left" (.call 8 "_law_side" 2 (.cons (.idx (.var 0 "equation") (.int 0)) (.cons (.idx (.var 0 "equation") (.int 1)) .nil)))) (.seq (.set 2 "right" (.call 8 "_law_side" 2 (.cons (.idx (.var 0 "equation") (.int 2)) (.cons (.idx (.var 0 "equation") (.int 3)) .nil)))) (.seq (.set 3 "word" (.idx (.var 0 "equation") (.int 0))) (.seq (.set 4 "whole" (.bin .add (.bin .add (.var 1 "left") (.str " = ")) (.var 2 "right"))) (.seq (.set 5 "told" (.lst (.cons (.str "") (.cons (.str " ") (.cons (.str "=") (.cons (.str " = ") (.cons (.var 1 "left") (.cons (.bin .add (.var 1 "left") (.str " = ")) (.cons (.bin .add (.str " = ") (.var 2 "right")) .nil))))))))) (.seq (.set 5 "told" (.bin .add (.var 5 "told") (.lst (.cons (.bin .add (.str " ") (.var 4 "whole")) (.cons (.bin .add (.var 4 "whole") (.str " ")) (.cons (.bin .add (.var 4 "whole") (.str ";")) .nil)))))) (.seq (.set 5 "told" (.bin .add (.var 5 "told") (.lst (.cons (.bin .add (.var 4 "whole") (.str ",")) (.cons (.bin .add (.var 4 "whole") (.str ".")) .nil))))) (.seq (.set 5 "told" (.bin .add (.var 5 "told") (.lst (.cons (.bin .add (.bin .add (.var 1 "left") (.str "  = ")) (.var 2 "right")) (.cons (.bin .add (.bin .add (.var 1 "left") (.str " =  ")) (.var 2 "right")) .nil))))) (.seq (.set 5 "told" (.bin .add (.var 5 "told") (.lst (.cons (.bin .add (.bin .add (.var 1 "left") (.str " =")) (.var 2 "right")) (.cons (.bin .add (.bin .add (.var 1 "left") (.str "= ")) (.var 2 "right")) .nil))))) (.seq (.set 5 "told" (.bin .add (.var 5 "told") (.lst (.cons (.bin .add (.bin .add (.var 1 "left") (.str "=")) (.var 2 "right")) (.cons (.bin .add (.bin .add (.var 1 "left") (.str " == ")) (.var 2 "right")) .nil))))) (.seq (.set 5 "told" (.bin .add (.var 5 "told") (.lst (.cons (.bin .add (.bin .add (.var 4 "whole") (.str " = ")) (.var 2 "right")) (.cons (.bin .add (.var 4 "whole") (.str " x y")) (.cons (.bin .add (.str "1") (.var 4 "whole")) .nil)))))) (.seq (.set 5 "told" (.bin .add (.var 5 "told") (.lst (.cons (.bin .add (.bin .add (.bin .add (.bm .upper (.idx (.var 1 "left") (.int 0)) .nil) (.sl (.var 1 "left") (.so (.int 1)) .no)) (.str " = ")) (.var 2 "right")) .nil)))) (.seq (.set 5 "told" (.bin .add (.var 5 "told") (.lst (.cons (.bin .add (.bin .add (.bin .add (.var 1 "left") (.str " = ")) (.sl (.var 2 "right") .no (.so (.int (-1))))) (.str "X")) (.cons (.bin .add (.str "_") (.var 4 "whole")) .nil))))) (.seq (.set 5 "told" (.bin .add (.var 5 "told") (.lst (.cons (.bin .add (.bin .add (.sl (.bin .add (.var 3 "word") (.str "abcde")) .no (.so (.int 5))) (.str " = ")) (.var 2 "right")) .nil)))) (.seq (.set 5 "told" (.bin .add (.var 5 "told") (.lst (.cons (.bin .add (.bin .add (.bin .add (.var 1 "left") (.str " = ")) (.sl (.bin .add (.var 3 "word") (.str "abcde")) .no (.so (.int 5)))) (.str " x")) .nil)))) (.seq (.set 5 "told" (.bin .add (.var 5 "told") (.lst (.cons (.bin .add (.bin .add (.var 3 "word") (.str " abcdefghi = ")) (.var 2 "right")) .nil)))) (.seq (.set 5 "told" (.bin .add (.var 5 "told") (.lst (.cons (.bin .add (.bin .add (.bin .add (.bin .add (.var 1 "left") (.str " = ")) (.idx (.var 0 "equation") (.int 2))) (.str " ")) (.bin .mul (.str "a") (.int 9))) .nil)))) (.seq (.set 5 "told" (.bin .add (.var 5 "told") (.lst (.cons (.bin .add (.bin .add (.var 3 "word") (.str " x1 = ")) (.var 2 "right")) (.cons (.bin .add (.bin .add (.var 3 "word") (.str "  xy = ")) (.var 2 "right")) .nil))))) (.seq (.set 5 "told" (.bin .add (.var 5 "told") (.lst (.cons (.bin .add (.bin .add (.var 3 "word") (.str " xy z = ")) (.var 2 "right")) (.cons (.bin .add (.bin .add (.var 3 "word") (.str " x-y = ")) (.var 2 "right")) .nil))))) (.seq (.ret (.bin .add (.var 5 "told") (.lst (.cons (.bin .add (.bin .add (.var 3 "word") (.str " (x) = ")) (.var 2 "right")) (.cons (.bin .add (.var 3 "word") (.str " = ")) .nil))))) .nil))))))))))))))))))))
def N_law_spoils_held : List Str := ["equations", "at", "number", "lines", "one", "first", "spoils", "many", "other", "turn", "given", "due"]
def p_law_spoils_held : List Str := ["equations", "at", "number"]
def l_law_spoils_held_1 : B := (.seq (.set 10 "given" (.bin .add (.bin .add (.sl (.var 3 "lines") .no (.so (.var 1 "at"))) (.lst (.cons (.idx (.var 6 "spoils") (.var 9 "turn")) .nil))) (.sl (.var 3 "lines") (.so (.bin .add (.var 1 "at") (.int 1))) .no))) (.seq (.ife (.cmp .eq (.bin .mod (.bi .int (.cons (.bin .add (.var 2 "number") (.var 9 "turn")) .nil)) (.int 2)) (.int 1)) (.seq (.set 10 "given" (.bin .add (.var 10 "given") (.lst (.cons (.str "") (.cons (.str "A = b") (.cons (.idx (.var 6 "spoils") (.var 9 "turn")) .nil)))))) .nil) .nil) (.seq (.ife (.cmp .eq (.var 10 "given") (.lst (.cons (.str "") .nil))) (.seq (.set 10 "given" (.lst (.cons (.str "") (.cons (.idx (.var 3 "lines") (.int 0)) .nil)))) .nil) .nil) (.seq (.set 11 "due" (.bin .add (.var 1 "at") (.int 1))) (.seq (.ife (.cmp .eq (.sl (.idx (.var 6 "spoils") (.var 9 "turn")) .no (.so (.bin .add (.bi .len (.cons (.idx (.var 3 "lines") (.var 1 "at")) .nil)) (.int 1)))) (.bin .add (.idx (.var 3 "lines") (.var 1 "at")) (.str "\n"))) (.seq (.set 11 "due" (.bin .add (.var 1 "at") (.int 2))) .nil) .nil) (.seq (.ife (.cmp .ne (.call 13 "_law_error" 1 (.cons (.bm .join (.str "\n") (.cons (.var 10 "given") .nil)) .nil)) (.lst (.cons (.tup (.cons (.str "BadIdentities") (.cons (.var 11 "due") .nil))) .nil))) (.seq (.ret (.bl false)) .nil) .nil) .nil))))))
def c_law_spoils_held_1 : C := (.lc [("one", 4)] (.nm 4 "one") (.itv (.var 0 "equations")) .yes (.call 9 "_law_line" 1 (.cons (.var 4 "one") .nil)))
def b_law_spoils_held : B := (.seq (.set 3 "lines" c_law_spoils_held_1) (.seq (.set 5 "first" (.idx (.var 0 "equations") (.int 0))) (.seq (.set 6 "spoils" (.call 14 "_law_spoilt" 1 (.cons (.idx (.var 0 "equations") (.var 1 "at")) .nil))) (.seq (.set 7 "many" (.bin .add (.int 1) (.bi .len (.cons (.idx (.var 5 "first") (.int 1)) .nil)))) (.seq (.set 8 "other" (.call 8 "_law_side" 2 (.cons (.idx (.var 5 "first") (.int 0)) (.cons (.sl (.str "abcdefgh") .no (.so (.bin .mod (.bi .int (.cons (.var 7 "many") .nil)) (.int 9)))) .nil)))) (.seq (.ife (.cmp .gt (.var 1 "at") (.int 0)) (.seq (.app 6 "spoils" (.bin .add (.bin .add (.var 8 "other") (.str " = ")) (.var 8 "other"))) (.seq (.set 6 "spoils" (.bin .add (.var 6 "spoils") (.lst (.cons (.bin .add (.str "c = ") (.var 8 "other")) (.cons (.bin .add (.bin .add (.idx (.var 3 "lines") (.var 1 "at")) (.str "\n")) (.var 8 "other")) .nil))))) .nil)) .nil) (.seq (.app 6 "spoils" (.bin .add (.bin .add (.call 8 "_law_side" 2 (.cons (.idx (.var 5 "first") (.int 0)) (.cons (.idx (.var 5 "first") (.int 1)) .nil))) (.str " = ")) (.var 8 "other"))) (.seq (.each (.rng1 (.cons (.bi .len (.cons (.var 6 "spoils") .nil)) .nil)) (.nm 9 "turn") l_law_spoils_held_1) (.seq (.ret (.bl true)) .nil)))))))))
def N_law_hundred_held : List Str := ["equations", "at", "many", "whole", "k", "lines", "one", "text", "given"]
def p_law_hundred_held : List Str := ["equations", "at"]
def l_law_hundred_held_1 : B := (.seq (.ife (.cmp .ne (.call 13 "_law_error" 1 (.cons (.var 8 "given") .nil)) (.lst (.cons (.tup (.cons (.str "BadIdentities") (.cons (.int 101) .nil))) .nil))) (.seq (.ret (.bl false)) .nil) .nil) .nil)
def c_law_hundred_held_1 : C := (.lc [("one", 6)] (.nm 6 "one") (.itv (.bin .add (.var 3 "whole") (.sl (.var 0 "equations") .no (.so (.int 1))))) .yes (.call 9 "_law_line" 1 (.cons (.var 6 "one") .nil)))
def c_law_hundred_held_2 : C := (.lc [("k", 4)] (.nm 4 "k") (.rng1 (.cons (.int 100) .nil)) .yes (.idx (.var 0 "equations") (.bin .mod (.bi .int (.cons (.var 4 "k") .nil)) (.var 2 "many"))))
def b_law_hundred_held : B := (.seq (.set 2 "many" (.bi .len (.cons (.var 0 "equations") .nil))) (.seq (.set 3 "whole" c_law_hundred_held_2) (.seq (.set 5 "lines" c_law_hundred_held_1) (.seq (.ife (.not (.call 11 "_law_read_held" 1 (.cons (.var 3 "whole") .nil))) (.seq (.ret (.bl false)) .nil) .nil) (.seq (.set 7 "text" (.bm .join (.str "\n") (.cons (.sl (.var 5 "lines") .no (.so (.int 100))) .nil))) (.seq (.each (.itv (.lst (.cons (.bin .add (.var 7 "text") (.str "\n")) (.cons (.bm .join (.str "\n") (.cons (.var 5 "lines") .nil)) (.cons (.bin .add (.var 7 "text") (.str "\nA = b\nA = b")) .nil))))) (.nm 8 "given") l_law_hundred_held_1) (.seq (.set 8 "given" (.bm .join (.str "\n") (.cons (.bin .add (.bin .add (.sl (.var 5 "lines") .no (.so (.var 1 "at"))) (.lst (.cons (.str "a = b c d") .nil))) (.sl (.var 5 "lines") (.so (.bin .add (.var 1 "at") (.int 1))) .no)) .nil))) (.seq (.ret (.cmp .eq (.call 13 "_law_error" 1 (.cons (.var 8 "given") .nil)) (.lst (.cons (.tup (.cons (.str "BadIdentities") (.cons (.bin .add (.var 1 "at") (.int 1)) .nil))) .nil)))) .nil))))))))
def N_law : List Str := ["script", "cells", "digits", "x", "symbols", "many", "equations", "k", "at", "told", "some", "text", "one", "shares", "given", "due"]
def p_law : List Str := ["script"]
def l_law_1 : B := (.seq (.ife (.cmp .ne (.call 13 "_law_error" 1 (.cons (.var 14 "given") .nil)) (.lst (.cons (.tup (.cons (.str "BadIdentities") (.cons (.var 15 "due") .nil))) .nil))) (.seq (.ret (.bl false)) .nil) .nil) .nil)
def c_law_1 : C := (.lc [("one", 12)] (.nm 12 "one") (.itv (.var 6 "equations")) .yes (.call 9 "_law_line" 1 (.cons (.var 12 "one") .nil)))
def l_law_2 : B := (.seq (.ife (.not (.call 11 "_law_read_held" 1 (.cons (.var 10 "some") .nil))) (.seq (.ret (.bl false)) .nil) .nil) .nil)
def c_law_2 : C := (.lc [("k", 7)] (.nm 7 "k") (.rng1 (.cons (.var 5 "many") .nil)) .yes (.call 7 "_law_equation" 3 (.cons (.var 1 "cells") (.cons (.bin .add (.int 3) (.var 7 "k")) (.cons (.var 4 "symbols") .nil)))))
def c_law_3 : C := (.lc [("x", 3)] (.nm 3 "x") (.itv (.call 4 "_law_digits" 4 (.cons (.var 1 "cells") (.cons (.int 2) (.cons (.int 24) (.cons (.int 8) .nil)))))) .yes (.bi .int (.cons (.var 3 "x") .nil)))
def b_law : B := (.seq (.set 1 "cells" (.bi .list (.cons (.sl (.var 0 "script") .no (.so (.int 63))) .nil))) (.seq (.set 2 "digits" c_law_3) (.seq (.set 4 "symbols" (.sl (.call 6 "_law_symbols" 1 (.cons (.var 1 "cells") .nil)) .no (.so (.bin .add (.int 1) (.bin .mod (.idx (.var 2 "digits") (.int 3)) (.int 5)))))) (.seq (.set 5 "many" (.bin .add (.int 1) (.bin .mod (.idx (.var 2 "digits") (.int 0)) (.int 8)))) (.seq (.ife (.cmp .eq (.bin .mod (.idx (.var 2 "digits") (.int 1)) (.int 8)) (.int 0)) (.seq (.set 5 "many" (.bin .add (.int 9) (.bin .mod (.bin .add (.bin .mul (.idx (.var 2 "digits") (.int 0)) (.int 24)) (.idx (.var 2 "digits") (.int 2))) (.int 52)))) .nil) .nil) (.seq (.set 6 "equations" c_law_2) (.seq (.set 8 "at" (.bin .mod (.bin .add (.bin .mul (.idx (.var 2 "digits") (.int 4)) (.int 24)) (.idx (.var 2 "digits") (.int 5))) (.var 5 "many"))) (.seq (.set 9 "told" (.lst (.cons (.tup (.cons (.str "abcd") (.cons (.str "abcdefgh") (.cons (.str "c") (.cons (.str "") .nil))))) (.cons (.tup (.cons (.str "c") (.cons (.str "") (.cons (.str "abcd") (.cons (.str "hhhhhhhh") .nil))))) .nil)))) (.seq (.each (.itv (.lst (.cons (.var 6 "equations") (.cons (.lst .nil) (.cons (.bin .add (.var 9 "told") (.lst (.cons (.tup (.cons (.str "e") (.cons (.str "") (.cons (.str "c") (.cons (.str "") .nil))))) .nil))) .nil))))) (.nm 10 "some") l_law_2) (.seq (.ife (.not (.call 12 "_law_unequal_held" 2 (.cons (.var 6 "equations") (.cons (.var 8 "at") .nil)))) (.seq (.ret (.bl false)) .nil) .nil) (.seq (.set 11 "text" (.bm .join (.str "\n") (.cons c_law_1 .nil))) (.seq (.set 13 "shares" (.lst (.cons (.tup (.cons (.str "\n") (.cons (.int 1) .nil))) (.cons (.tup (.cons (.bin .add (.var 11 "text") (.str "\n")) (.cons (.bin .add (.var 5 "many") (.int 1)) .nil))) (.cons (.tup (.cons (.bin .add (.str "\n") (.var 11 "text")) (.cons (.int 1) .nil))) .nil))))) (.seq (.each (.itv (.bin .add (.var 13 "shares") (.lst (.cons (.tup (.cons (.bin .add (.bin .add (.var 11 "text") (.str "\n\n")) (.var 11 "text")) (.cons (.bin .add (.var 5 "many") (.int 1)) .nil))) .nil)))) (.tp [(14, "given"), (15, "due")]) l_law_1) (.seq (.ife (.not (.call 15 "_law_spoils_held" 3 (.cons (.var 6 "equations") (.cons (.var 8 "at") (.cons (.idx (.var 2 "digits") (.int 6)) .nil))))) (.seq (.ret (.bl false)) .nil) .nil) (.seq (.ret (.call 16 "_law_hundred_held" 2 (.cons (.var 6 "equations") (.cons (.bin .mod (.bin .add (.bin .mul (.idx (.var 2 "digits") (.int 6)) (.int 24)) (.idx (.var 2 "digits") (.int 7))) (.int 101)) .nil)))) .nil)))))))))))))))

def s0 : Sig := { gls := [(0, "LETTERS"), (1, "MOST_LINES"), (2, "MOST_SYMBOL"), (3, "MOST_LETTERS")], cnm := clss, inst := [5], fls := [(5, "equations"), (5, "symbols")], nwk := [(0, 5, "given")], sub := [(3, 0, true), (3, 3, true), (3, 1, false), (3, 4, false), (3, 2, false)] }
def s1 : Sig := { s0 with xcs := (3, "line") :: s0.xcs }
theorem c_is_word : defC s1 N_is_word p_is_word (top 8) b_is_word = true := by kernel_rfl
def s2 : Sig := { s1 with fns := (0, "is_word", 2) :: s1.fns }
theorem c_parsed_side : defC s2 N_parsed_side p_parsed_side (top 13) b_parsed_side = true := by kernel_rfl
def s3 : Sig := { s2 with fns := (1, "parsed_side", 1) :: s2.fns }
theorem c_parsed_identity : defC s3 N_parsed_identity p_parsed_identity (top 14) b_parsed_identity = true := by kernel_rfl
def s4 : Sig := { s3 with fns := (2, "parsed_identity", 1) :: s3.fns }
theorem c_side_text : defC s4 N_side_text p_side_text (top 15) b_side_text = true := by kernel_rfl
def s5 : Sig := { s4 with fns := (3, "side_text", 2) :: s4.fns }
theorem c_init : defC s5 N_Identities_init p_Identities_init (mth 16 0) b_Identities_init = true := by kernel_rfl
def s6 : Sig := { s5 with nws := (0, 5, 1) :: s5.nws }
theorem c_len : defC s6 N_Identities_len p_Identities_len (mth 16 1) b_Identities_len = true := by kernel_rfl
def s7 : Sig := { s6 with lens := (5, 0) :: s6.lens }
def s8 : Sig := { s7 with its := (5, "equations") :: s7.its }
theorem c_eq : defC s8 N_Identities_eq p_Identities_eq (mth 16 3) b_Identities_eq = true := by kernel_rfl
def s9 : Sig := { s8 with eqs := (5, 1) :: s8.eqs }
theorem c_text : defC s9 N_Identities_text p_Identities_text (mth 16 4) b_Identities_text = true := by kernel_rfl
def s10 : Sig := { s9 with mts := (2, 5, "text", 1) :: s9.mts }
theorem c_digits : defC s10 N_law_digits p_law_digits (top 18) b_law_digits = true := by kernel_rfl
def s11 : Sig := { s10 with fns := (4, "_law_digits", 4) :: s10.fns }
theorem c_plainH : hotC s11 N_law_plain p_law_plain (top 19) b_law_plain = true := by kernel_rfl
def s12 : Sig := { s11 with hots := (0, "_law_plain", 1) :: s11.hots }
theorem c_plain : defC s12 N_law_plain p_law_plain (top 19) b_law_plain = true := by kernel_rfl
def s13 : Sig := { s12 with fns := (5, "_law_plain", 1) :: s12.fns }
theorem c_symbols : defC s13 N_law_symbols p_law_symbols (top 20) b_law_symbols = true := by kernel_rfl
def s14 : Sig := { s13 with fns := (6, "_law_symbols", 1) :: s13.fns }
theorem c_equation : defC s14 N_law_equation p_law_equation (top 21) b_law_equation = true := by kernel_rfl
def s15 : Sig := { s14 with fns := (7, "_law_equation", 3) :: s14.fns }
theorem c_side : defC s15 N_law_side p_law_side (top 22) b_law_side = true := by kernel_rfl
def s16 : Sig := { s15 with fns := (8, "_law_side", 2) :: s15.fns }
theorem c_line : defC s16 N_law_line p_law_line (top 23) b_law_line = true := by kernel_rfl
def s17 : Sig := { s16 with fns := (9, "_law_line", 1) :: s16.fns }
theorem c_pairs : defC s17 N_law_pairs p_law_pairs (top 24) b_law_pairs = true := by kernel_rfl
def s18 : Sig := { s17 with fns := (10, "_law_pairs", 1) :: s17.fns }
theorem c_read_held : defC s18 N_law_read_held p_law_read_held (top 25) b_law_read_held = true := by kernel_rfl
def s19 : Sig := { s18 with fns := (11, "_law_read_held", 1) :: s18.fns }
theorem c_unequal_held : defC s19 N_law_unequal_held p_law_unequal_held (top 26) b_law_unequal_held = true := by kernel_rfl
def s20 : Sig := { s19 with fns := (12, "_law_unequal_held", 2) :: s19.fns }
theorem c_error : defC s20 N_law_error p_law_error (top 27) b_law_error = true := by kernel_rfl
def s21 : Sig := { s20 with fns := (13, "_law_error", 1) :: s20.fns }
theorem c_spoilt : defC s21 N_law_spoilt p_law_spoilt (top 28) b_law_spoilt = true := by kernel_rfl
def s22 : Sig := { s21 with fns := (14, "_law_spoilt", 1) :: s21.fns }
theorem c_spoils_held : defC s22 N_law_spoils_held p_law_spoils_held (top 29) b_law_spoils_held = true := by kernel_rfl
def s23 : Sig := { s22 with fns := (15, "_law_spoils_held", 3) :: s22.fns }
theorem c_hundred_held : defC s23 N_law_hundred_held p_law_hundred_held (top 30) b_law_hundred_held = true := by kernel_rfl
def s24 : Sig := { s23 with fns := (16, "_law_hundred_held", 2) :: s23.fns }
theorem c_law : defC s24 N_law p_law (top 31) b_law = true := by kernel_rfl
theorem c_iter : iterC "self" "equations" (mth 16 2) = true := by kernel_rfl
theorem c_xin : xinC "self" "line" "line" (mth 4 0) = true := by kernel_rfl
end N17
end
section
set_option Elab.async false
set_option linter.all false
set_option autoImplicit false
set_option maxRecDepth 100000
set_option maxHeartbeats 4000000
/-! Nc: k17's walk, joined: the law stands if the mirrors say what the core says (printed by genNc.py). -/
namespace N17
open PySem PySem.Spec PyProof.Rows L2 Ly
/-- what the mirrors must say -/
structure Math (Γ : Mean) : Prop where
  g0 : Γ.gl 0 = .str "abcdefghijklmnopqrstuvwxyz"
  g1 : Γ.gl 1 = .int 100
  g2 : Γ.gl 2 = .int 4
  g3 : Γ.gl 3 = .int 8
  init : ∀ a xs, xs.length = 1 → Γ.nw 0 xs ≠ .bad → outI a 5 (evS s5 Γ b_Identities_init (initI a 5 N_Identities_init.length xs)) = Γ.nw 0 xs
  len : Mirr s6 Γ N_Identities_len.length 1 b_Identities_len (Γ.mt 0)
  eq : Mirr s8 Γ N_Identities_eq.length 2 b_Identities_eq (Γ.mt 1)
  text : Mirr s9 Γ N_Identities_text.length 1 b_Identities_text (Γ.mt 2)
  plainH : Mirr s11 Γ N_law_plain.length 1 b_law_plain (Γ.hot 0)
  law : ∀ ns : List Int, ns.length ≤ 63 → outOf (evS s24 Γ b_law (initS N_law.length [.frl (ns.map D.int)])) = .ret (.d (.bl true))
  is_word : Mirr s1 Γ N_is_word.length 2 b_is_word (Γ.fn 0)
  parsed_side : Mirr s2 Γ N_parsed_side.length 1 b_parsed_side (Γ.fn 1)
  parsed_identity : Mirr s3 Γ N_parsed_identity.length 1 b_parsed_identity (Γ.fn 2)
  side_text : Mirr s4 Γ N_side_text.length 2 b_side_text (Γ.fn 3)
  digits : Mirr s10 Γ N_law_digits.length 4 b_law_digits (Γ.fn 4)
  plain : Mirr s12 Γ N_law_plain.length 1 b_law_plain (Γ.fn 5)
  symbols : Mirr s13 Γ N_law_symbols.length 1 b_law_symbols (Γ.fn 6)
  equation : Mirr s14 Γ N_law_equation.length 3 b_law_equation (Γ.fn 7)
  side : Mirr s15 Γ N_law_side.length 2 b_law_side (Γ.fn 8)
  line : Mirr s16 Γ N_law_line.length 1 b_law_line (Γ.fn 9)
  pairs : Mirr s17 Γ N_law_pairs.length 1 b_law_pairs (Γ.fn 10)
  read_held : Mirr s18 Γ N_law_read_held.length 1 b_law_read_held (Γ.fn 11)
  unequal_held : Mirr s19 Γ N_law_unequal_held.length 2 b_law_unequal_held (Γ.fn 12)
  error : Mirr s20 Γ N_law_error.length 1 b_law_error (Γ.fn 13)
  spoilt : Mirr s21 Γ N_law_spoilt.length 1 b_law_spoilt (Γ.fn 14)
  spoils_held : Mirr s22 Γ N_law_spoils_held.length 3 b_law_spoils_held (Γ.fn 15)
  hundred_held : Mirr s23 Γ N_law_hundred_held.length 2 b_law_hundred_held (Γ.fn 16)
section
variable {K : PySem.W.Frag} {h : Heap} {mg : Str → Option Value}
abbrev fK (K : PySem.W.Frag) : Nat → Addr := fun c => He.ga K (clss.getD c "")
theorem fK_ok {c : Nat} {x : Str} (e : clss[c]? = some x) : fK K c = He.ga K x := by
  show He.ga K (clss.getD c "") = _
  rw [List.getD_eq_getElem?_getD, e]
  rfl
theorem glo_at (X : K.In h) (G : h.Ns mainGlobals mg) (c : obsM fl fs ds K = valM ds) (i : Nat) {x : Str} (e : (clss ++ defs)[i]? = some x) : mg x = some (.ref (He.ga K x)) :=
  glo_ok X G (fact_of c (List.mem_append_left _ (List.mem_append_left _ (List.mem_map_of_mem (List.mem_of_getElem? e)))))
abbrev more : List MF := [.str "LETTERS" "abcdefghijklmnopqrstuvwxyz", .int "MOST_LINES" 100, .int "MOST_SYMBOL" 4, .int "MOST_LETTERS" 8,
  .cls "Identities", .inst "Identities", .noat "Identities" "equations", .noat "Identities" "symbols", .meth "Identities" "text", .mkr "Identities", .eq "Identities", .len "Identities", .iter "Identities",
  .exc "BadIdentities", .xin "BadIdentities", .noat "BadIdentities" "line", .sub "BadIdentities" "LedError" true, .sub "BadIdentities" "BadIdentities" true, .sub "BadIdentities" "BadWeb" false, .sub "BadIdentities" "BadGadget" false, .sub "BadIdentities" "BadFormula" false]
theorem more_at (c : obsM fl fs ds K = valM ds) (i : Nat) {f : MF} (e : more[i]? = some f) : f.ok K = true := fact_of c (List.mem_append_right _ (List.mem_of_getElem? e))
theorem fun_at (c : obsM fl fs ds K = valM ds) (i : Nat) {d : DefM} (e : ds[i]? = some d) (hs : d.sup = false) : ∃ fd, Fun K d.name d.qual d.st (He.fAd K d.at_) fd :=
  DefM.fun hs (def_of c (List.mem_of_getElem? e)).1 (def_of c (List.mem_of_getElem? e)).2
theorem walk (Γ : Mean) (M : Math Γ) (w : World) (X : K.In h) (G : h.Ns mainGlobals mg) (c : obsM fl fs ds K = valM ds) : ∃ fd : FuncData, (∀ (s : Shared) (u : Value), BindsTo s fd ⟨[u], []⟩ [("script", u)]) ∧
    ∀ base : Heap, FnOk W0.prog w K mg base (L2N.CX W0.prog w) 50 (He.ga K "law") fd ["script"] (spD K ⟨fK K, none, none, 0⟩ 1 fun xs => outOf (evS s24 Γ b_law (initS N_law.length xs))) := by
  have kp : ∀ x, PySem.W.keepIn K (.ref x) = PySem.W.keepIn K (.ref x) := fun _ => rfl
  have inK := X
  obtain ⟨d_is_word, F_is_word⟩ := fun_at c 1 rfl rfl
  have B_is_word := fun_binds (ps := p_is_word) F_is_word (fun _ _ _ _ _ _ us hl => match us, hl with | [_, _], _ => rfl)
  obtain ⟨d_parsed_side, F_parsed_side⟩ := fun_at c 2 rfl rfl
  have B_parsed_side := fun_binds (ps := p_parsed_side) F_parsed_side (fun _ _ _ _ _ _ us hl => match us, hl with | [_], _ => rfl)
  obtain ⟨d_parsed_identity, F_parsed_identity⟩ := fun_at c 3 rfl rfl
  have B_parsed_identity := fun_binds (ps := p_parsed_identity) F_parsed_identity (fun _ _ _ _ _ _ us hl => match us, hl with | [_], _ => rfl)
  obtain ⟨d_side_text, F_side_text⟩ := fun_at c 4 rfl rfl
  have B_side_text := fun_binds (ps := p_side_text) F_side_text (fun _ _ _ _ _ _ us hl => match us, hl with | [_, _], _ => rfl)
  obtain ⟨d_init, F_init⟩ := fun_at c 5 rfl rfl
  have B_init := fun_binds (ps := p_Identities_init) F_init (fun _ _ _ _ _ _ us hl => match us, hl with | [_, _], _ => rfl)
  obtain ⟨d_len, F_len⟩ := fun_at c 6 rfl rfl
  have B_len := fun_binds (ps := p_Identities_len) F_len (fun _ _ _ _ _ _ us hl => match us, hl with | [_], _ => rfl)
  obtain ⟨d_iter, F_iter⟩ := fun_at c 7 rfl rfl
  have B_iter := fun_binds (ps := ["self"]) F_iter (fun _ _ _ _ _ _ us hl => match us, hl with | [_], _ => rfl)
  obtain ⟨d_eq, F_eq⟩ := fun_at c 8 rfl rfl
  have B_eq := fun_binds (ps := p_Identities_eq) F_eq (fun _ _ _ _ _ _ us hl => match us, hl with | [_, _], _ => rfl)
  obtain ⟨d_text, F_text⟩ := fun_at c 9 rfl rfl
  have B_text := fun_binds (ps := p_Identities_text) F_text (fun _ _ _ _ _ _ us hl => match us, hl with | [_], _ => rfl)
  obtain ⟨d_digits, F_digits⟩ := fun_at c 10 rfl rfl
  have B_digits := fun_binds (ps := p_law_digits) F_digits (fun _ _ _ _ _ _ us hl => match us, hl with | [_, _, _, _], _ => rfl)
  obtain ⟨d_plainH, F_plainH⟩ := fun_at c 11 rfl rfl
  have B_plainH := fun_binds (ps := p_law_plain) F_plainH (fun _ _ _ _ _ _ us hl => match us, hl with | [_], _ => rfl)
  obtain ⟨d_symbols, F_symbols⟩ := fun_at c 12 rfl rfl
  have B_symbols := fun_binds (ps := p_law_symbols) F_symbols (fun _ _ _ _ _ _ us hl => match us, hl with | [_], _ => rfl)
  obtain ⟨d_equation, F_equation⟩ := fun_at c 13 rfl rfl
  have B_equation := fun_binds (ps := p_law_equation) F_equation (fun _ _ _ _ _ _ us hl => match us, hl with | [_, _, _], _ => rfl)
  obtain ⟨d_side, F_side⟩ := fun_at c 14 rfl rfl
  have B_side := fun_binds (ps := p_law_side) F_side (fun _ _ _ _ _ _ us hl => match us, hl with | [_, _], _ => rfl)
  obtain ⟨d_line, F_line⟩ := fun_at c 15 rfl rfl
  have B_line := fun_binds (ps := p_law_line) F_line (fun _ _ _ _ _ _ us hl => match us, hl with | [_], _ => rfl)
  obtain ⟨d_pairs, F_pairs⟩ := fun_at c 16 rfl rfl
  have B_pairs := fun_binds (ps := p_law_pairs) F_pairs (fun _ _ _ _ _ _ us hl => match us, hl with | [_], _ => rfl)
  obtain ⟨d_read_held, F_read_held⟩ := fun_at c 17 rfl rfl
  have B_read_held := fun_binds (ps := p_law_read_held) F_read_held (fun _ _ _ _ _ _ us hl => match us, hl with | [_], _ => rfl)
  obtain ⟨d_unequal_held, F_unequal_held⟩ := fun_at c 18 rfl rfl
  have B_unequal_held := fun_binds (ps := p_law_unequal_held) F_unequal_held (fun _ _ _ _ _ _ us hl => match us, hl with | [_, _], _ => rfl)
  obtain ⟨d_error, F_error⟩ := fun_at c 19 rfl rfl
  have B_error := fun_binds (ps := p_law_error) F_error (fun _ _ _ _ _ _ us hl => match us, hl with | [_], _ => rfl)
  obtain ⟨d_spoilt, F_spoilt⟩ := fun_at c 20 rfl rfl
  have B_spoilt := fun_binds (ps := p_law_spoilt) F_spoilt (fun _ _ _ _ _ _ us hl => match us, hl with | [_], _ => rfl)
  obtain ⟨d_spoils_held, F_spoils_held⟩ := fun_at c 21 rfl rfl
  have B_spoils_held := fun_binds (ps := p_law_spoils_held) F_spoils_held (fun _ _ _ _ _ _ us hl => match us, hl with | [_, _, _], _ => rfl)
  obtain ⟨d_hundred_held, F_hundred_held⟩ := fun_at c 22 rfl rfl
  have B_hundred_held := fun_binds (ps := p_law_hundred_held) F_hundred_held (fun _ _ _ _ _ _ us hl => match us, hl with | [_, _], _ => rfl)
  obtain ⟨d_law, F_law⟩ := fun_at c 23 rfl rfl
  have B_law := fun_binds (ps := p_law) F_law (fun _ _ _ _ _ _ us hl => match us, hl with | [_], _ => rfl)
  refine ⟨d_law, fun s u => B_law.2 s [u] rfl, fun base => ?_⟩
  have A0 : Facts s0 Γ (fK K) 0 W0.prog w K mg base := by
    refine facts0 s0 X G clss (fun c x e => fK_ok e) rfl rfl rfl rfl rfl rfl rfl rfl (fun x hx => fact_of c (List.mem_append_left _ (List.mem_append_right _ (List.mem_map_of_mem hx)))) (fun j x hm => ?_) (fun x hx => ?_) (fun j hj => ?_) (fun j g hm => ?_) fun j i b hs => ?_
    · simp only [s0, List.mem_cons, Prod.mk.injEq, List.not_mem_nil, or_false] at hm
      rcases hm with ⟨rfl, rfl⟩ | ⟨rfl, rfl⟩ | ⟨rfl, rfl⟩ | ⟨rfl, rfl⟩
      · obtain ⟨t, e⟩ := He.str_ok X G (more_at c 0 rfl)
        exact ⟨_, .str "abcdefghijklmnopqrstuvwxyz", e, ⟨t, rfl⟩, fun _ => by rw [M.g0]; rfl⟩
      · obtain ⟨t, e⟩ := He.int_ok X G (more_at c 1 rfl)
        exact ⟨_, .int 100, e, ⟨t, rfl⟩, fun _ => by rw [M.g1]; rfl⟩
      · obtain ⟨t, e⟩ := He.int_ok X G (more_at c 2 rfl)
        exact ⟨_, .int 4, e, ⟨t, rfl⟩, fun _ => by rw [M.g2]; rfl⟩
      · obtain ⟨t, e⟩ := He.int_ok X G (more_at c 3 rfl)
        exact ⟨_, .int 8, e, ⟨t, rfl⟩, fun _ => by rw [M.g3]; rfl⟩
    · exact fact_of c (List.mem_append_left _ (List.mem_append_left _ (List.mem_map_of_mem (List.mem_append_left _ hx))))
    · simp only [s0, List.mem_singleton] at hj
      subst hj
      exact ⟨"Identities", rfl, more_at c 4 rfl, more_at c 5 rfl⟩
    · simp only [s0, List.mem_cons, Prod.mk.injEq, List.not_mem_nil, or_false] at hm
      rcases hm with ⟨rfl, rfl⟩ | ⟨rfl, rfl⟩
      · exact ⟨"Identities", rfl, more_at c 4 rfl, more_at c 6 rfl⟩
      · exact ⟨"Identities", rfl, more_at c 4 rfl, more_at c 7 rfl⟩
    · have hm := subT_mem hs
      simp only [s0, List.mem_cons, Prod.mk.injEq, List.not_mem_nil, or_false] at hm
      rcases hm with ⟨rfl, rfl, rfl⟩ | ⟨rfl, rfl, rfl⟩ | ⟨rfl, rfl, rfl⟩ | ⟨rfl, rfl, rfl⟩ | ⟨rfl, rfl, rfl⟩
      · exact ⟨"BadIdentities", "LedError", rfl, rfl, more_at c 13 rfl, more_at c 16 rfl⟩
      · exact ⟨"BadIdentities", "BadIdentities", rfl, rfl, more_at c 13 rfl, more_at c 17 rfl⟩
      · exact ⟨"BadIdentities", "BadWeb", rfl, rfl, more_at c 13 rfl, more_at c 18 rfl⟩
      · exact ⟨"BadIdentities", "BadGadget", rfl, rfl, more_at c 13 rfl, more_at c 19 rfl⟩
      · exact ⟨"BadIdentities", "BadFormula", rfl, rfl, more_at c 13 rfl, more_at c 20 rfl⟩
  have A1 : Facts s1 Γ (fK K) 2 W0.prog w K mg base := by
    have ex := more_at c 13 rfl
    have xi := more_at c 14 rfl
    obtain ⟨fd, Fx⟩ := DefM.xin (P := W0.prog) X G (d := dm 4 0 "BadIdentities" "__init__" "BadIdentities.__init__" true) rfl rfl (def_of c (List.mem_of_getElem? (i := 0) rfl)).1 (def_of c (List.mem_of_getElem? (i := 0) rfl)).2 ex xi (by kernel_rfl)
    obtain ⟨o1, o2, o3⟩ := exc_ok ex
    have no := He.eqO_ok (more_at c 15 rfl)
    simp only [MF.ok, Bool.and_eq_true, decide_eq_true_eq] at xi
    obtain ⟨oc, od, kV, doc, pm, an, cda, ct, osl, cc, efd, rest⟩ := Fx.fn
    subst efd
    refine (A0.mono (k := 2) (by omega)).addXc 3 "line" ⟨o2, no, o1, _, _, ["self", "line"], He.eqO_ok xi.1, xi.2.1, .all fun us hl => match us, hl with | [_, _], _ => rfl, (xin_ok (k := 1) Fx c_xin no)⟩
  have A2 : Facts s2 Γ (fK K) 4 W0.prog w K mg base := (A1.mono (k := 4) (by omega)).addFn 0 "is_word" 2 ⟨_, d_is_word, p_is_word, glo_at X G c 6 rfl, F_is_word.kp, B_is_word.1, def_ok A1 F_is_word c_is_word rfl M.is_word⟩
  have A3 : Facts s3 Γ (fK K) 6 W0.prog w K mg base := (A2.mono (k := 6) (by omega)).addFn 1 "parsed_side" 1 ⟨_, d_parsed_side, p_parsed_side, glo_at X G c 7 rfl, F_parsed_side.kp, B_parsed_side.1, def_ok A2 F_parsed_side c_parsed_side rfl M.parsed_side⟩
  have A4 : Facts s4 Γ (fK K) 8 W0.prog w K mg base := (A3.mono (k := 8) (by omega)).addFn 2 "parsed_identity" 1 ⟨_, d_parsed_identity, p_parsed_identity, glo_at X G c 8 rfl, F_parsed_identity.kp, B_parsed_identity.1, def_ok A3 F_parsed_identity c_parsed_identity rfl M.parsed_identity⟩
  have A5 : Facts s5 Γ (fK K) 10 W0.prog w K mg base := (A4.mono (k := 10) (by omega)).addFn 3 "side_text" 2 ⟨_, d_side_text, p_side_text, glo_at X G c 9 rfl, F_side_text.kp, B_side_text.1, def_ok A4 F_side_text c_side_text rfl M.side_text⟩
  have A6 : Facts s6 Γ (fK K) 12 W0.prog w K mg base := by
    refine (A5.mono (k := 12) (by omega)).addNw 0 5 1 ⟨_, d_init, p_Identities_init, He.mkr_ok (more_at c 9 rfl), B_init.1, init_ok A5 F_init c_init rfl M.init, fun y hy s2 u0 u _ => ?_⟩
    have hy : (0, 5, y) ∈ [((0 : Nat), (5 : Nat), ("given" : Str))] := hy
    simp only [List.mem_singleton, Prod.mk.injEq, true_and] at hy
    subst hy
    obtain ⟨oc, od, kV, doc, pm, an, cdv, ct, osl, efd, _⟩ := F_init.ex
    subst efd
    exact .of_eq (by rfl)
  have A7 : Facts s7 Γ (fK K) 14 W0.prog w K mg base := (A6.mono (k := 14) (by omega)).addLen 5 0 ⟨_, d_len, _, len_ok (more_at c 11 rfl), B_len.1, def_ok A6 F_len c_len rfl M.len⟩
  have A8 : Facts s8 Γ (fK K) 16 W0.prog w K mg base := (A7.mono (k := 16) (by omega)).addIt 5 "equations" ⟨_, d_iter, ["self"], iterF_ok (more_at c 12 rfl), B_iter.1, FnAt.mono (iter_ok (k := 0) F_iter c_iter (He.cls_ok (more_at c 4 rfl)) (He.eqO_ok (more_at c 6 rfl)) (A0.blt _ (by decide +kernel))) (by omega)⟩
  have A9 : Facts s9 Γ (fK K) 18 W0.prog w K mg base := (A8.mono (k := 18) (by omega)).addEq 5 1 ⟨_, d_eq, _, eqF_ok (more_at c 10 rfl), B_eq.1, def_ok A8 F_eq c_eq rfl M.eq⟩
  have A10 : Facts s10 Γ (fK K) 20 W0.prog w K mg base := (A9.mono (k := 20) (by omega)).addMt 2 5 "text" 1 ⟨He.cls_ok (more_at c 4 rfl), _, d_text, _, He.meth_ok (more_at c 8 rfl), B_text.1, def_ok A9 F_text c_text rfl M.text⟩
  have A11 : Facts s11 Γ (fK K) 22 W0.prog w K mg base := (A10.mono (k := 22) (by omega)).addFn 4 "_law_digits" 4 ⟨_, d_digits, p_law_digits, glo_at X G c 10 rfl, F_digits.kp, B_digits.1, def_ok A10 F_digits c_digits rfl M.digits⟩
  have A12 : Facts s12 Γ (fK K) 24 W0.prog w K mg base := (A11.mono (k := 24) (by omega)).addHot 0 "_law_plain" 1 ⟨_, d_plainH, p_law_plain, glo_at X G c 11 rfl, F_plainH.kp, B_plainH.1, fun xa xd xc => hot_ok A11 F_plainH c_plainH rfl M.plainH xa xd xc⟩
  have A13 : Facts s13 Γ (fK K) 26 W0.prog w K mg base := (A12.mono (k := 26) (by omega)).addFn 5 "_law_plain" 1 ⟨_, d_plainH, p_law_plain, glo_at X G c 11 rfl, F_plainH.kp, B_plainH.1, def_ok A12 F_plainH c_plain rfl M.plain⟩
  have A14 : Facts s14 Γ (fK K) 28 W0.prog w K mg base := (A13.mono (k := 28) (by omega)).addFn 6 "_law_symbols" 1 ⟨_, d_symbols, p_law_symbols, glo_at X G c 12 rfl, F_symbols.kp, B_symbols.1, def_ok A13 F_symbols c_symbols rfl M.symbols⟩
  have A15 : Facts s15 Γ (fK K) 30 W0.prog w K mg base := (A14.mono (k := 30) (by omega)).addFn 7 "_law_equation" 3 ⟨_, d_equation, p_law_equation, glo_at X G c 13 rfl, F_equation.kp, B_equation.1, def_ok A14 F_equation c_equation rfl M.equation⟩
  have A16 : Facts s16 Γ (fK K) 32 W0.prog w K mg base := (A15.mono (k := 32) (by omega)).addFn 8 "_law_side" 2 ⟨_, d_side, p_law_side, glo_at X G c 14 rfl, F_side.kp, B_side.1, def_ok A15 F_side c_side rfl M.side⟩
  have A17 : Facts s17 Γ (fK K) 34 W0.prog w K mg base := (A16.mono (k := 34) (by omega)).addFn 9 "_law_line" 1 ⟨_, d_line, p_law_line, glo_at X G c 15 rfl, F_line.kp, B_line.1, def_ok A16 F_line c_line rfl M.line⟩
  have A18 : Facts s18 Γ (fK K) 36 W0.prog w K mg base := (A17.mono (k := 36) (by omega)).addFn 10 "_law_pairs" 1 ⟨_, d_pairs, p_law_pairs, glo_at X G c 16 rfl, F_pairs.kp, B_pairs.1, def_ok A17 F_pairs c_pairs rfl M.pairs⟩
  have A19 : Facts s19 Γ (fK K) 38 W0.prog w K mg base := (A18.mono (k := 38) (by omega)).addFn 11 "_law_read_held" 1 ⟨_, d_read_held, p_law_read_held, glo_at X G c 17 rfl, F_read_held.kp, B_read_held.1, def_ok A18 F_read_held c_read_held rfl M.read_held⟩
  have A20 : Facts s20 Γ (fK K) 40 W0.prog w K mg base := (A19.mono (k := 40) (by omega)).addFn 12 "_law_unequal_held" 2 ⟨_, d_unequal_held, p_law_unequal_held, glo_at X G c 18 rfl, F_unequal_held.kp, B_unequal_held.1, def_ok A19 F_unequal_held c_unequal_held rfl M.unequal_held⟩
  have A21 : Facts s21 Γ (fK K) 42 W0.prog w K mg base := (A20.mono (k := 42) (by omega)).addFn 13 "_law_error" 1 ⟨_, d_error, p_law_error, glo_at X G c 19 rfl, F_error.kp, B_error.1, def_ok A20 F_error c_error rfl M.error⟩
  have A22 : Facts s22 Γ (fK K) 44 W0.prog w K mg base := (A21.mono (k := 44) (by omega)).addFn 14 "_law_spoilt" 1 ⟨_, d_spoilt, p_law_spoilt, glo_at X G c 20 rfl, F_spoilt.kp, B_spoilt.1, def_ok A21 F_spoilt c_spoilt rfl M.spoilt⟩
  have A23 : Facts s23 Γ (fK K) 46 W0.prog w K mg base := (A22.mono (k := 46) (by omega)).addFn 15 "_law_spoils_held" 3 ⟨_, d_spoils_held, p_law_spoils_held, glo_at X G c 21 rfl, F_spoils_held.kp, B_spoils_held.1, def_ok A22 F_spoils_held c_spoils_held rfl M.spoils_held⟩
  have A24 : Facts s24 Γ (fK K) 48 W0.prog w K mg base := (A23.mono (k := 48) (by omega)).addFn 16 "_law_hundred_held" 2 ⟨_, d_hundred_held, p_law_hundred_held, glo_at X G c 22 rfl, F_hundred_held.kp, B_hundred_held.1, def_ok A23 F_hundred_held c_hundred_held rfl M.hundred_held⟩
  exact (def_ok A24 F_law c_law rfl fun xs hl hne => rfl).mono (by omega)
end
end N17
open PySem PySem.W PySem.Calls PyProof.Rows
theorem N17.holds (Γ : Ly.Mean) (M : N17.Math Γ) : PySem.Challenge.rw_ledinto_k17_identity_texts.Holds := by
  w_on; o_law
  refine HandSHeadRun.head_any (r := N17.R) (q := view N17.R.prog [31]) (H := N17.hk) (ob := N17.ob) (M := 4000) (loose := N17.names) (d := HandSHeadRun.topDef N17.R.prog 31) (kwd := []) N17.ob_eq (by kernel_rfl) (fun s => by kernel_rfl) N17.run
    (by kernel_rfl) (by kernel_rfl) (by kernel_rfl) (by rfl) (by first | assumption | decide +kernel) (by decide +kernel) ⟨rfl, rfl, rfl, rfl, rfl, by decide +kernel⟩ ?hw ?hc
  case hw => w_witness2
  case hc =>
    refine Ly.end_of (l := N17.W0) (n := 63) (k := 50) (x := "script") rfl (by decide) (by kernel_rfl) ⟨rfl, by decide, by decide⟩ fun w mg g h Y G hm => ?_
    obtain ⟨K, KX, c⟩ := Y
    have hl : mg ("law" : PySem.Str) = some (.ref g) := by
      have e : (HandSHeadRun.topDef N17.R.prog 31).name = ("law" : PySem.Str) := by kernel_rfl
      rw [← e]
      exact hm
    obtain ⟨fd, hb, hF⟩ := N17.walk Γ M w KX G c
    have e := hl.symm.trans (N17.glo_at KX G c 23 rfl)
    cases e
    exact ⟨K, fd, N17.fK K, _, KX, hb, M.law, fun base _ _ => hF base⟩
end
section
set_option Elab.async false
set_option linter.all false
set_option autoImplicit false
set_option maxRecDepth 100000
set_option maxHeartbeats 4000000
/-! Nd: k17's plain law, the small defs. -/
namespace N17
open PySem PySem.Spec PyProof.Rows L2 Ly

/-- data comparison of two texts -/
theorem shp_str {a : Str} (h : PyData.strOk a = true) : SeqAt.shaped (.str a) = true := by
  simp [SeqAt.shaped, PyData.canLay0, PyData.depth, h]
theorem deq_str {a b : Str} (ha : PyData.strOk a = true) (hb : PyData.strOk b = true) : deq (.str a) (.str b) = some (decide (a = b)) := by
  show (if SeqAt.shaped (.str a) = true ∧ SeqAt.shaped (.str b) = true then some (PyData.eqv (.str a) (.str b)) else none) = _
  rw [if_pos ⟨shp_str ha, shp_str hb⟩]
  show some (a == b) = _
  congr 1
def sideS (a b : Str) : Str := if b = "" then a else a ++ " " ++ b
def mSide : List D → Out
  | [.str a, .str b] => if PyData.strOk b = true ∧ a.length + b.length ≤ 10000000 then .ret (.d (.str (sideS a b))) else .bad
  | _ => .bad
theorem ok_nil : PyData.strOk "" = true := by decide +kernel
theorem m_side (Γ : Mean) (sg : Sig) : Mirr sg Γ N_side_text.length 2 b_side_text mSide := by
  intro xs hl hb
  match xs, hl with
  | [x, y], _ =>
    unfold mSide at hb ⊢
    split at hb
    · rename_i a b e
      cases e
      split at hb
      · rename_i hz
        obtain ⟨ho, hz⟩ := hz
        have hd := deq_str ho ok_nil
        simp only [ho, hz, and_self, if_true]
        have z1 : a.length + (" " : Str).length ≤ sizeLine := by
          rw [sizeLine_eq, show (" " : Str).length = 1 by decide +kernel]; omega
        have z2 : (a ++ " " : Str).length + b.length ≤ sizeLine := by
          rw [Str.length_append, sizeLine_eq, show (" " : Str).length = 1 by decide +kernel]; omega
        unfold sideS
        by_cases h : b = ""
        · subst h
          simp [b_side_text, N_side_text, evS, ev, sSeq, sIf, mTruth, mOp2, mVar, mCst, initS, RE.bind, Opd.get, sCW, sC, hd, W.dat, W.toD, isBl, sRet, Opd.keep, outOf, sNop]
        · simp [b_side_text, N_side_text, evS, ev, sSeq, sIf, mTruth, mOp2, mVar, mCst, initS, RE.bind, Opd.get, sCW, sC, hd, W.dat, W.toD, isBl, sRet, Opd.keep, outOf, sNop, sB, sAdd, h, z1, z2]
      · exact absurd rfl hb
    · exact absurd rfl hb
end N17
end
section
set_option Elab.async false
set_option linter.all false
set_option autoImplicit false
set_option maxRecDepth 100000
set_option maxHeartbeats 4000000
/-! Ne: splitting texts, on code lists. -/
namespace N17
open PySem PySem.Builtin PySem.Builtin.Str PySem.StrLaws

/-- the places that a search finds among l, n found so far, free from f -/
def gOcc (s y : Str) (hi lim : Nat) : List Nat → Nat → Nat → List Nat
  | [], _, _ => []
  | i :: l, n, f => if ((n < lim ∧ f ≤ i) ∧ i + y.length ≤ hi) ∧ subAt s y i = true then i :: gOcc s y hi lim l (n + 1) (i + y.length) else gOcc s y hi lim l n f
theorem occ_g (s y : Str) (hi lim : Nat) : ∀ (l : List Nat) (st : Array Nat × Nat), (forIn l st (occBody s y hi lim)).run.fst.toList = st.fst.toList ++ gOcc s y hi lim l st.fst.size st.snd
  | [], st => by simp [gOcc]
  | i :: l, st => by
    rw [List.forIn_cons]
    unfold occBody gOcc
    split
    · refine (occ_g s y hi lim l _).trans ?_
      simp
    · exact occ_g s y hi lim l _
theorem occ_all (x y : Str) (lim : Nat) : occurrences x y 0 x.length lim = gOcc x y x.length lim (List.range' 0 (x.length + 1)) 0 0 := by
  rw [occ_eq, occ_g]
  simp
/-- the same without the limit -/
def pOcc (s y : Str) (hi : Nat) : List Nat → Nat → List Nat
  | [], _ => []
  | i :: l, f => if (f ≤ i ∧ i + y.length ≤ hi) ∧ subAt s y i = true then i :: pOcc s y hi l (i + y.length) else pOcc s y hi l f
theorem gOcc_lim (s y : Str) (hi lim : Nat) : ∀ (l : List Nat) (n f : Nat), n + l.length ≤ lim → gOcc s y hi lim l n f = pOcc s y hi l f
  | [], _, _, _ => rfl
  | i :: l, n, f, h => by
    have h : n + (l.length + 1) ≤ lim := h
    unfold gOcc pOcc
    by_cases c : (f ≤ i ∧ i + y.length ≤ hi) ∧ subAt s y i = true
    · rw [if_pos ⟨⟨⟨by omega, c.1.1⟩, c.1.2⟩, c.2⟩, if_pos c, gOcc_lim s y hi lim l (n + 1) _ (by omega)]
    · rw [if_neg fun z => c ⟨⟨z.1.1.2, z.1.2⟩, z.2⟩, if_neg c, gOcc_lim s y hi lim l n _ (by omega)]
theorem gOcc_full (s y : Str) (hi lim : Nat) : ∀ (l : List Nat) (n f : Nat), lim ≤ n → gOcc s y hi lim l n f = []
  | [], _, _, _ => rfl
  | i :: l, n, f, h => by
    unfold gOcc
    rw [if_neg fun z => absurd z.1.1.1 (by omega)]
    exact gOcc_full s y hi lim l n f h
theorem gOcc_one (s y : Str) (hi : Nat) : ∀ (l : List Nat) (f : Nat), gOcc s y hi 1 l 0 f = (pOcc s y hi l f).take 1
  | [], _ => rfl
  | i :: l, f => by
    unfold gOcc pOcc
    by_cases c : (f ≤ i ∧ i + y.length ≤ hi) ∧ subAt s y i = true
    · rw [if_pos ⟨⟨⟨by omega, c.1.1⟩, c.1.2⟩, c.2⟩, if_pos c, gOcc_full s y hi 1 l 1 _ (by omega)]
      rfl
    · rw [if_neg fun z => c ⟨⟨z.1.1.2, z.1.2⟩, z.2⟩, if_neg c, gOcc_one s y hi l f]
/-- the split by structure: k codes of a separator are still to be passed -/
def consH (c : Nat) : List (List Nat) → List (List Nat)
  | p :: r => (c :: p) :: r
  | [] => [[c]]
def addH (a : List Nat) : List (List Nat) → List (List Nat)
  | p :: r => (a ++ p) :: r
  | [] => [a]
def sG (y : List Nat) : Nat → List Nat → List (List Nat)
  | _, [] => [[]]
  | k + 1, _ :: t => sG y k t
  | 0, c :: t => if (c :: t).take y.length = y then [] :: sG y (y.length - 1) t else consH c (sG y 0 t)
theorem addH_nil : ∀ z, z ≠ [] → addH [] z = z
  | [], h => absurd rfl h
  | p :: r, _ => rfl
theorem sG_ne (y : List Nat) : ∀ (k : Nat) (x : List Nat), sG y k x ≠ []
  | _, [] => by unfold sG; simp
  | k + 1, _ :: t => by unfold sG; exact sG_ne y k t
  | 0, c :: t => by
    unfold sG
    split
    · simp
    · cases sG y 0 t <;> simp [consH]
theorem addH_cons (a : List Nat) (c : Nat) : ∀ z, z ≠ [] → addH (a ++ [c]) z = addH a (consH c z)
  | [], h => absurd rfl h
  | p :: r, _ => by simp [addH, consH]
abbrev tl (l : List Str) : List (List Nat) := l.map fun z => z.cps.toList
theorem parts_sG (x y : Str) (hy : 0 < y.length) : ∀ (m i : Nat), i + m = x.length →
    (∀ a f, f ≤ i → a ≤ i → tl (partsFrom x y.length a (pOcc x y x.length (List.range' i (m + 1)) f)) = addH ((x.cps.toList.drop a).take (i - a)) (sG y.cps.toList 0 (x.cps.toList.drop i))) ∧
    (∀ f, i < f → f ≤ x.length → tl (partsFrom x y.length f (pOcc x y x.length (List.range' i (m + 1)) f)) = sG y.cps.toList (f - i) (x.cps.toList.drop i))
  | 0, i, hi => by
    have hx : x.cps.toList.length = x.length := by simp [Str.length]
    have hd : x.cps.toList.drop i = [] := List.drop_eq_nil_of_le (by omega)
    refine ⟨fun a f hf ha => ?_, fun f h1 h2 => absurd h1 (by omega)⟩
    have e : pOcc x y x.length (List.range' i 1) f = [] := by
      show pOcc x y x.length [i] f = []
      unfold pOcc
      rw [if_neg fun z => absurd z.1.2 (by omega)]
      rfl
    rw [e, hd]
    simp only [partsFrom, sG, addH, tl, List.map_cons, List.map_nil, List.append_nil]
    rw [strSub_toList]
    congr 2
    omega
  | m + 1, i, hi => by
    have hx : x.cps.toList.length = x.length := by simp [Str.length]
    have hyl : y.cps.toList.length = y.length := by simp [Str.length]
    obtain ⟨h1, h2⟩ := parts_sG x y hy m (i + 1) (by omega)
    have hi' : i < x.cps.toList.length := by omega
    have hd : x.cps.toList.drop i = x.cps.toList[i] :: x.cps.toList.drop (i + 1) := List.drop_eq_getElem_cons hi'
    have hr : List.range' i (m + 1 + 1) = i :: List.range' (i + 1) (m + 1) := List.range'_succ ..
    refine ⟨fun a f hf ha => ?_, fun f hf1 hf2 => ?_⟩
    · rw [hr]
      unfold pOcc
      by_cases c : (x.cps.toList.drop i).take y.length = y.cps.toList
      · have hw : i + y.length ≤ x.length := by
          have := congrArg List.length c
          rw [List.length_take, List.length_drop] at this
          omega
        have hs : subAt x y i = true := by rw [subAt_eq, beq_iff_eq]; exact c
        rw [if_pos ⟨⟨hf, hw⟩, hs⟩]
        have e : sG y.cps.toList 0 (x.cps.toList.drop i) = [] :: sG y.cps.toList (y.length - 1) (x.cps.toList.drop (i + 1)) := by
          rw [hd] at c ⊢
          rw [sG, hyl, if_pos c]
        rw [e]
        show (strSub x a i).cps.toList :: tl (partsFrom x y.length (i + y.length) _) = _
        rw [strSub_toList]
        show _ = ((x.cps.toList.drop a).take (i - a) ++ []) :: _
        rw [List.append_nil]
        congr 1
        by_cases w1 : y.length = 1
        · rw [w1] at h1 ⊢
          rw [h1 (i + 1) (i + 1) (Nat.le_refl _) (Nat.le_refl _)]
          simp only [Nat.sub_self, List.take_zero]
          exact addH_nil _ (sG_ne _ _ _)
        · rw [h2 (i + y.length) (by omega) hw]
          congr 1
          omega
      · have hs : ¬ ((f ≤ i ∧ i + y.length ≤ x.length) ∧ subAt x y i = true) := fun z => c (by have := z.2; rw [subAt_eq, beq_iff_eq] at this; exact this)
        rw [if_neg hs, h1 a f (by omega) (by omega)]
        have e : sG y.cps.toList 0 (x.cps.toList.drop i) = consH x.cps.toList[i] (sG y.cps.toList 0 (x.cps.toList.drop (i + 1))) := by
          rw [hd] at c ⊢
          rw [sG, hyl, if_neg c]
        rw [e, ← addH_cons _ _ _ (sG_ne _ _ _)]
        congr 1
        rw [show i + 1 - a = (i - a) + 1 by omega, List.take_succ, List.getElem?_drop, show a + (i - a) = i by omega, List.getElem?_eq_getElem hi']
        rfl
    · rw [hr]
      unfold pOcc
      rw [if_neg fun z => absurd z.1.1 (by omega)]
      have e : sG y.cps.toList (f - i) (x.cps.toList.drop i) = sG y.cps.toList (f - (i + 1)) (x.cps.toList.drop (i + 1)) := by
        rw [hd, show f - i = (f - (i + 1)) + 1 by omega, sG]
      rw [e]
      by_cases w1 : f = i + 1
      · subst w1
        rw [h1 (i + 1) (i + 1) (Nat.le_refl _) (Nat.le_refl _)]
        simp only [Nat.sub_self, List.take_zero]
        exact addH_nil _ (sG_ne _ _ _)
      · exact h2 f (by omega) hf2
theorem pOcc_short {x y : Str} (h : x.length < y.length) : ∀ (l : List Nat) (f : Nat), pOcc x y x.length l f = []
  | [], _ => rfl
  | i :: l, f => by
    unfold pOcc
    rw [if_neg fun z => absurd z.1.2 (by omega)]
    exact pOcc_short h l f
theorem occ_p (x y : Str) : occurrences x y 0 x.length (x.length + 1) = pOcc x y x.length (List.range' 0 (x.length + 1)) 0 := by
  rw [occ_all, gOcc_lim _ _ _ _ _ _ _ (by simp)]
theorem all_sG (x y : Str) (hy : 0 < y.length) : tl (partsFrom x y.length 0 (pOcc x y x.length (List.range' 0 (x.length + 1)) 0)) = sG y.cps.toList 0 x.cps.toList := by
  rw [(parts_sG x y hy x.length 0 (by omega)).1 0 0 (Nat.le_refl _) (Nat.le_refl _)]
  exact addH_nil _ (sG_ne _ _ _)
/-- what split gives, on code lists -/
theorem split_sG (x y : Str) (hy : 0 < y.length) (hk : decide (strKind x < strKind y) = false) : tl (Txt.split x y) = sG y.cps.toList 0 x.cps.toList := by
  rw [← all_sG x y hy]
  unfold Txt.split
  rw [occ_p, hk, Bool.or_false]
  have one : tl (partsFrom x y.length 0 []) = tl [x] := by
    show [(strSub x 0 x.length).cps.toList] = [x.cps.toList]
    rw [sub_whole]
  split
  · rename_i h
    rw [pOcc_short (by simpa using h), one]
  · split
    · rename_i h
      rw [List.isEmpty_iff] at h
      rw [h, one]
    · rw [partsBetween_eq]
/-- before the first sign c, and behind it -/
def pre1 (c : Nat) : List Nat → List Nat
  | [] => []
  | d :: t => if d = c then [] else d :: pre1 c t
def suf1 (c : Nat) : List Nat → List Nat
  | [] => []
  | d :: t => if d = c then t else suf1 c t
def fidx (c : Nat) : List Nat → Option Nat
  | [] => none
  | d :: t => if d = c then some 0 else (fidx c t).map (· + 1)
theorem fidx_some {c : Nat} : ∀ {l : List Nat} {k : Nat}, fidx c l = some k → l.take k = pre1 c l ∧ l.drop (k + 1) = suf1 c l ∧ c ∈ l
  | [], k, h => by cases h
  | d :: t, k, h => by
    unfold fidx at h
    unfold pre1 suf1
    by_cases e : d = c
    · rw [if_pos e] at h
      cases h
      rw [if_pos e, if_pos e]
      exact ⟨rfl, rfl, by rw [e]; exact List.mem_cons_self ..⟩
    · rw [if_neg e] at h
      obtain ⟨j, hj, rfl⟩ := Option.map_eq_some_iff.mp h
      obtain ⟨a, b, m⟩ := fidx_some hj
      rw [if_neg e, if_neg e]
      exact ⟨by rw [List.take_succ_cons, a], by rw [List.drop_succ_cons, b], List.mem_cons_of_mem _ m⟩
theorem fidx_none {c : Nat} : ∀ {l : List Nat}, fidx c l = none → c ∉ l
  | [], _ => by simp
  | d :: t, h => by
    unfold fidx at h
    by_cases e : d = c
    · rw [if_pos e] at h; cases h
    · rw [if_neg e] at h
      have := fidx_none (Option.map_eq_none_iff.mp h)
      simp only [List.mem_cons, not_or]
      exact ⟨fun z => e z.symm, this⟩
theorem pOcc_head {x y : Str} {c : Nat} (hy : y.cps.toList = [c]) : ∀ (m i f : Nat), i + m = x.length → f ≤ i → (pOcc x y x.length (List.range' i (m + 1)) f).head? = (fidx c (x.cps.toList.drop i)).map (i + ·)
  | 0, i, f, hi, hf => by
    have hl : y.length = 1 := by rw [show y.length = y.cps.toList.length by simp [Str.length], hy]; rfl
    have hx : x.cps.toList.length = x.length := by simp [Str.length]
    rw [List.drop_eq_nil_of_le (by omega)]
    show (pOcc x y x.length [i] f).head? = none
    unfold pOcc
    rw [if_neg fun z : (f ≤ i ∧ i + y.length ≤ x.length) ∧ subAt x y i = true => absurd z.1.2 (by omega)]
    rfl
  | m + 1, i, f, hi, hf => by
    have hl : y.length = 1 := by rw [show y.length = y.cps.toList.length by simp [Str.length], hy]; rfl
    have hx : x.cps.toList.length = x.length := by simp [Str.length]
    have hi' : i < x.cps.toList.length := by omega
    have hd : x.cps.toList.drop i = x.cps.toList[i] :: x.cps.toList.drop (i + 1) := List.drop_eq_getElem_cons hi'
    rw [List.range'_succ]
    unfold pOcc
    have sc : subAt x y i = true ↔ x.cps.toList[i] = c := by
      rw [subAt_eq, hl, hy, hd, beq_iff_eq]
      simp
    rw [hd]
    unfold fidx
    by_cases e : x.cps.toList[i] = c
    · rw [if_pos ⟨⟨hf, by omega⟩, sc.mpr e⟩, if_pos e]
      rfl
    · rw [if_neg fun z => e (sc.mp z.2), if_neg e, pOcc_head hy m (i + 1) f (by omega) (by omega), Option.map_map]
      congr 1
      funext k
      simp only [Function.comp]
      omega
/-- what partition at one sign gives, on code lists -/
theorem part_1 (x y : Str) (c : Nat) (hy : y.cps.toList = [c]) :
    (Txt.partition x y).1.cps.toList = pre1 c x.cps.toList ∧ (Txt.partition x y).2.1.cps.toList = (if c ∈ x.cps.toList then [c] else []) ∧ (Txt.partition x y).2.2.cps.toList = suf1 c x.cps.toList := by
  have hl : y.length = 1 := by rw [show y.length = y.cps.toList.length by simp [Str.length], hy]; rfl
  have hx : x.cps.toList.length = x.length := by simp [Str.length]
  have hh := pOcc_head (x := x) hy x.length 0 0 (Nat.zero_add _) (Nat.le_refl _)
  rw [List.drop_zero] at hh
  unfold Txt.partition
  rw [occ_all, gOcc_one]
  cases e : pOcc x y x.length (List.range' 0 (x.length + 1)) 0 with
  | nil =>
    rw [e] at hh
    have hn : fidx c x.cps.toList = none := by
      cases q : fidx c x.cps.toList with
      | none => rfl
      | some k => rw [q] at hh; cases hh
    have nm := fidx_none hn
    rw [if_neg nm]
    refine ⟨?_, rfl, ?_⟩
    · show x.cps.toList = _
      have : ∀ l : List Nat, c ∉ l → pre1 c l = l := fun l => by
        induction l with
        | nil => intro _; rfl
        | cons d t ih =>
          intro h
          simp only [List.mem_cons, not_or] at h
          unfold pre1
          rw [if_neg fun z => h.1 z.symm, ih h.2]
      exact (this _ nm).symm
    · show [] = _
      have : ∀ l : List Nat, c ∉ l → suf1 c l = [] := fun l => by
        induction l with
        | nil => intro _; rfl
        | cons d t ih =>
          intro h
          simp only [List.mem_cons, not_or] at h
          unfold suf1
          rw [if_neg fun z => h.1 z.symm, ih h.2]
      exact (this _ nm).symm
  | cons i r =>
    rw [e] at hh
    obtain ⟨k, hk, ek⟩ := Option.map_eq_some_iff.mp hh.symm
    have ek : k = i := by simpa using ek
    subst ek
    obtain ⟨a, b, m⟩ := fidx_some hk
    rw [if_pos m]
    refine ⟨?_, hy, ?_⟩
    · show (strSub x 0 k).cps.toList = _
      rw [strSub_toList, List.drop_zero, Nat.sub_zero, a]
    · show (strSub x (k + y.length) x.length).cps.toList = _
      rw [strSub_toList, hl, b, List.take_of_length_le]
      have : (x.cps.toList.drop (k + 1)).length = x.length - (k + 1) := by rw [List.length_drop, hx]
      rw [← b, this]
      omega
end N17
end
section
set_option Elab.async false
set_option linter.all false
set_option autoImplicit false
set_option maxRecDepth 100000
set_option maxHeartbeats 4000000
/-! Nf: the parser on code lists; it looks at shapes only. -/
namespace N17

def isL (c : Nat) : Bool := Nat.ble 97 c && Nat.ble c 122
def isW (n : Nat) (w : List Nat) : Bool := Nat.ble 1 w.length && (Nat.ble w.length n && w.all isL)
def pSide (t : List Nat) : Option (List Nat × List Nat) := if isW 4 (pre1 32 t) = true then (if t.contains 32 = true ∧ isW 8 (suf1 32 t) = false then none else some (pre1 32 t, suf1 32 t)) else none
def pTwo : List (List Nat) → Option ((List Nat × List Nat) × (List Nat × List Nat))
  | [a, b] => (pSide a).bind fun p => (pSide b).map fun q => (p, q)
  | _ => none
def pLine (t : List Nat) : Option ((List Nat × List Nat) × (List Nat × List Nat)) := pTwo (sG [32, 61, 32] 0 t)
/-- a small letter as a, a capital as A -/
def sh (c : Nat) : Nat := if isL c = true then 97 else if 65 ≤ c ∧ c ≤ 90 then 65 else c
theorem sh_iff {c s : Nat} (h : s = 32 ∨ s = 61) : sh c = s ↔ c = s := by
  unfold sh isL
  rcases h with rfl | rfl <;> (split <;> rename_i z) <;> simp only [Bool.and_eq_true, Nat.ble_eq] at z <;> (try split) <;> omega
theorem sh_L (c : Nat) : isL (sh c) = isL c := by
  unfold sh
  split
  · rename_i h; rw [h]; rfl
  · rename_i h
    split
    · rename_i h2
      have : isL c = false := by simpa using h
      rw [this]; rfl
    · rfl
theorem pre1_map (t : List Nat) : pre1 32 (t.map sh) = (pre1 32 t).map sh := by
  induction t with
  | nil => rfl
  | cons d t ih =>
    rw [List.map_cons, pre1, pre1]
    by_cases e : d = 32
    · rw [if_pos ((sh_iff (.inl rfl)).mpr e), if_pos e]; rfl
    · rw [if_neg fun z => e ((sh_iff (.inl rfl)).mp z), if_neg e, ih]; rfl
theorem suf1_map (t : List Nat) : suf1 32 (t.map sh) = (suf1 32 t).map sh := by
  induction t with
  | nil => rfl
  | cons d t ih =>
    rw [List.map_cons, suf1, suf1]
    by_cases e : d = 32
    · rw [if_pos ((sh_iff (.inl rfl)).mpr e), if_pos e]
    · rw [if_neg fun z => e ((sh_iff (.inl rfl)).mp z), if_neg e, ih]
theorem isW_map (n : Nat) (w : List Nat) : isW n (w.map sh) = isW n w := by
  unfold isW
  rw [List.length_map, List.all_map]
  congr 3
  funext c
  exact sh_L c
theorem mem_map32 (t : List Nat) : (t.map sh).contains 32 = t.contains 32 := by
  induction t with
  | nil => rfl
  | cons d t ih =>
    rw [List.map_cons, List.contains_cons, List.contains_cons, ih]
    congr 1
    by_cases e : d = 32
    · subst e; rfl
    · have e2 : sh d ≠ 32 := fun z => e ((sh_iff (.inl rfl)).mp z)
      have a : (32 == sh d) = false := by simpa using fun z => e2 (Eq.symm z)
      have b : (32 == d) = false := by simpa using fun z => e (Eq.symm z)
      rw [a, b]
theorem pSide_map (t : List Nat) : pSide (t.map sh) = (pSide t).map fun p => (p.1.map sh, p.2.map sh) := by
  unfold pSide
  rw [pre1_map, suf1_map, isW_map, isW_map, mem_map32]
  split
  · split <;> rfl
  · rfl
theorem take_map_eq {y : List Nat} (hy : ∀ s ∈ y, s = 32 ∨ s = 61) : ∀ (l : List Nat), ((l.map sh).take y.length = y ↔ l.take y.length = y) := by
  induction y with
  | nil => intro l; simp
  | cons s y ih =>
    intro l
    cases l with
    | nil => simp
    | cons d t =>
      have h1 := sh_iff (c := d) (hy s (List.mem_cons_self ..))
      have h2 := ih (fun z hz => hy z (List.mem_cons_of_mem _ hz)) t
      simp only [List.map_cons, List.length_cons, List.take_succ_cons, List.cons.injEq, h1, h2]
theorem sG_map {y : List Nat} (hy : ∀ s ∈ y, s = 32 ∨ s = 61) : ∀ (k : Nat) (x : List Nat), sG y k (x.map sh) = (sG y k x).map (List.map sh)
  | _, [] => by simp [sG]
  | k + 1, _ :: t => by
    rw [List.map_cons, sG, sG]
    exact sG_map hy k t
  | 0, c :: t => by
    have h := take_map_eq hy (c :: t)
    rw [List.map_cons] at h ⊢
    rw [sG, sG]
    by_cases e : (c :: t).take y.length = y
    · rw [if_pos (h.mpr e), if_pos e, sG_map hy _ t]; rfl
    · rw [if_neg fun z => e (h.mp z), if_neg e, sG_map hy 0 t]
      cases q : sG y 0 t with
      | nil => rfl
      | cons p r => rfl
theorem pTwo_map : ∀ z : List (List Nat), (pTwo (z.map (List.map sh))).isNone = (pTwo z).isNone
  | [] => rfl
  | [_] => rfl
  | [a, b] => by
    show ((pSide (a.map sh)).bind fun p => (pSide (b.map sh)).map fun q => (p, q)).isNone = ((pSide a).bind fun p => (pSide b).map fun q => (p, q)).isNone
    rw [pSide_map, pSide_map]
    cases pSide a <;> cases pSide b <;> rfl
  | _ :: _ :: _ :: _ => rfl
theorem pLine_map (t : List Nat) : (pLine (t.map sh)).isNone = (pLine t).isNone := by
  unfold pLine
  rw [sG_map (by decide)]
  exact pTwo_map _
end N17
end
section
set_option Elab.async false
set_option linter.all false
set_option autoImplicit false
set_option maxRecDepth 100000
set_option maxHeartbeats 4000000
/-! Ng: the spoilt lines of stand-in equations are none. -/
namespace N17

def cs (s : String) : List Nat := s.toList.map Char.toNat
def sideL (w p : List Nat) : List Nat := match p with | [] => w | _ => w ++ 32 :: p
def upL (c : Nat) : Nat := if isL c = true then c - 32 else c
def spoiltL (w p v q : List Nat) : List (List Nat) :=
  let l := sideL w p
  let r := sideL v q
  let e := cs " = "
  let z := l ++ e ++ r
  let f := (w ++ cs "abcde").take 5
  [[], cs " ", cs "=", e, l, l ++ e, e ++ r, cs " " ++ z, z ++ cs " ", z ++ cs ";", z ++ cs ",", z ++ cs ".", l ++ cs "  = " ++ r, l ++ cs " =  " ++ r, l ++ cs " =" ++ r, l ++ cs "= " ++ r, l ++ cs "=" ++ r, l ++ cs " == " ++ r,
   z ++ e ++ r, z ++ cs " x y", cs "1" ++ z, l.take 1 |>.map upL |>.append (l.drop 1 ++ e ++ r), l ++ e ++ r.dropLast ++ cs "X", cs "_" ++ z, f ++ e ++ r, l ++ e ++ f ++ cs " x", w ++ cs " abcdefghi = " ++ r,
   l ++ e ++ v ++ cs " " ++ cs "aaaaaaaaa", w ++ cs " x1 = " ++ r, w ++ cs "  xy = " ++ r, w ++ cs " xy z = " ++ r, w ++ cs " x-y = " ++ r, w ++ cs " (x) = " ++ r, w ++ e]
def as (n : Nat) : List Nat := List.replicate n 97
theorem stand_ins : ((List.range 4).all fun a => (List.range 9).all fun b => (List.range 4).all fun c => (List.range 9).all fun d => (spoiltL (as (a + 1)) (as b) (as (c + 1)) (as d)).all fun z => (pLine z).isNone) = true := by
  decide +kernel
end N17
end
section
set_option Elab.async false
set_option linter.all false
set_option autoImplicit false
set_option maxRecDepth 100000
set_option maxHeartbeats 4000000
/-! Nh: no spoilt line of a well formed equation parses. -/
namespace N17

theorem map_as : ∀ {w : List Nat}, w.all isL = true → w.map sh = as w.length
  | [], _ => rfl
  | c :: t, h => by
    rw [List.all_cons, Bool.and_eq_true] at h
    rw [List.map_cons, map_as h.2]
    show sh c :: _ = 97 :: _
    unfold sh
    rw [if_pos h.1]
    rfl
theorem as_L (n : Nat) : (as n).all isL = true := by
  simp [as, isL]
theorem map_as2 {w : List Nat} (h : w.all isL = true) : w.map sh = (as w.length).map sh := by
  rw [map_as h, map_as (as_L _)]
  simp [as]
theorem side_map {w p w' p' : List Nat} (hw : w.map sh = w'.map sh) (hp : p.map sh = p'.map sh) : (sideL w p).map sh = (sideL w' p').map sh := by
  cases p with
  | nil => cases p' with
    | nil => exact hw
    | cons a b => cases hp
  | cons a b => cases p' with
    | nil => cases hp
    | cons a' b' =>
      show (w ++ 32 :: a :: b).map sh = (w' ++ 32 :: a' :: b').map sh
      rw [List.map_append, List.map_append, hw]
      show _ ++ sh 32 :: (a :: b).map sh = _ ++ sh 32 :: (a' :: b').map sh
      rw [hp]
theorem up_map : ∀ {l l' : List Nat}, l.map sh = l'.map sh → (∀ c ∈ l.take 1, isL c = true) → (∀ c ∈ l'.take 1, isL c = true) → ((l.take 1).map upL).map sh = ((l'.take 1).map upL).map sh
  | [], [], _, _, _ => rfl
  | [], _ :: _, h, _, _ => by cases h
  | _ :: _, [], h, _, _ => by cases h
  | c :: t, d :: u, h, hc, hd => by
    have a := hc c (by simp)
    have b := hd d (by simp)
    have k : ∀ c, isL c = true → sh (upL c) = 65 := fun c h => by
      unfold upL
      rw [if_pos h]
      unfold isL at h
      simp only [Bool.and_eq_true, Nat.ble_eq] at h
      unfold sh isL
      rw [if_neg (by simp only [Bool.and_eq_true, Nat.ble_eq]; omega), if_pos (by omega)]
    simp [k _ a, k _ b]
theorem spoilt_map {w p v q w' p' v' q' : List Nat} (hw : w.map sh = w'.map sh) (hp : p.map sh = p'.map sh) (hv : v.map sh = v'.map sh) (hq : q.map sh = q'.map sh)
    (h1 : ∀ c ∈ (sideL w p).take 1, isL c = true) (h2 : ∀ c ∈ (sideL w' p').take 1, isL c = true) : (spoiltL w p v q).map (List.map sh) = (spoiltL w' p' v' q').map (List.map sh) := by
  have hl := side_map hw hp
  have hr := side_map hv hq
  have hu := up_map hl h1 h2
  have hf : ((w ++ cs "abcde").take 5).map sh = ((w' ++ cs "abcde").take 5).map sh := by rw [List.map_take, List.map_take, List.map_append, List.map_append, hw]
  have hd : ((sideL w p).drop 1).map sh = ((sideL w' p').drop 1).map sh := by rw [List.map_drop, List.map_drop, hl]
  have hb : (sideL v q).dropLast.map sh = (sideL v' q').dropLast.map sh := by rw [List.map_dropLast, List.map_dropLast, hr]
  unfold spoiltL
  simp only [List.map_cons, List.map_nil, List.map_append, List.append_eq, hw, hv, hl, hr, hu, hf, hd, hb]
theorem isW_all {n : Nat} {w : List Nat} (h : isW n w = true) : w.all isL = true ∧ 1 ≤ w.length ∧ w.length ≤ n := by
  unfold isW at h
  simp only [Bool.and_eq_true, Nat.ble_eq] at h
  exact ⟨h.2.2, h.1, h.2.1⟩
theorem side_take {w p : List Nat} (h : w.all isL = true) (h1 : 1 ≤ w.length) : ∀ c ∈ (sideL w p).take 1, isL c = true := by
  cases w with
  | nil => simp at h1
  | cons a t =>
    rw [List.all_cons, Bool.and_eq_true] at h
    intro c hc
    have e : (sideL (a :: t) p).take 1 = [a] := by cases p <;> rfl
    rw [e, List.mem_singleton] at hc
    rw [hc]
    exact h.1
/-- no spoilt line of a well formed equation is the line of an identity -/
theorem spoilt_bad {w p v q : List Nat} (hw : isW 4 w = true) (hp : p.all isL = true) (hp8 : p.length ≤ 8) (hv : isW 4 v = true) (hq : q.all isL = true) (hq8 : q.length ≤ 8) : ∀ z ∈ spoiltL w p v q, pLine z = none := by
  intro z hz
  obtain ⟨w1, w2, w3⟩ := isW_all hw
  obtain ⟨v1, v2, v3⟩ := isW_all hv
  have e := spoilt_map (map_as2 w1) (map_as2 hp) (map_as2 v1) (map_as2 hq) (side_take w1 w2) (side_take (as_L w.length) (by simp [as]; omega))
  have hm : z.map sh ∈ (spoiltL (as w.length) (as p.length) (as v.length) (as q.length)).map (List.map sh) := by rw [← e]; exact List.mem_map_of_mem hz
  obtain ⟨z', hz', ez⟩ := List.mem_map.mp hm
  have s := stand_ins
  rw [List.all_eq_true] at s
  have s := s (w.length - 1) (List.mem_range.mpr (by omega))
  rw [List.all_eq_true] at s
  have s := s p.length (List.mem_range.mpr (by omega))
  rw [List.all_eq_true] at s
  have s := s (v.length - 1) (List.mem_range.mpr (by omega))
  rw [List.all_eq_true] at s
  have s := s q.length (List.mem_range.mpr (by omega))
  rw [Nat.sub_add_cancel w2, Nat.sub_add_cancel v2, List.all_eq_true] at s
  have b := s z' hz'
  rw [← pLine_map, ez, pLine_map] at b
  exact Option.isNone_iff_eq_none.mp b
end N17
end
section
set_option Elab.async false
set_option linter.all false
set_option autoImplicit false
set_option maxRecDepth 100000
set_option maxHeartbeats 4000000
/-! Ni: a well formed equation's line parses to it. -/
namespace N17

abbrev eqy : List Nat := [32, 61, 32]
theorem L_ne {c : Nat} (h : isL c = true) : c ≠ 32 ∧ c ≠ 61 := by
  unfold isL at h
  simp only [Bool.and_eq_true, Nat.ble_eq] at h
  omega
theorem addH_ne {a : List Nat} : ∀ {z : List (List Nat)}, addH a z ≠ []
  | [] => by simp [addH]
  | _ :: _ => by simp [addH]
theorem sG_word : ∀ {w : List Nat} (b : List Nat), w.all isL = true → sG eqy 0 (w ++ b) = addH w (sG eqy 0 b)
  | [], b, _ => (addH_nil _ (sG_ne _ _ _)).symm
  | c :: t, b, h => by
    rw [List.all_cons, Bool.and_eq_true] at h
    rw [List.cons_append, sG, if_neg ?_, sG_word b h.2]
    · cases q : sG eqy 0 b with
      | nil => rfl
      | cons p r => rfl
    · intro z
      simp only [List.length_cons, List.take_succ_cons, List.cons.injEq] at z
      exact (L_ne h.1).1 z.1
theorem sG_gap {c : Nat} {t : List Nat} (h : isL c = true) : sG eqy 0 (32 :: c :: t) = consH 32 (sG eqy 0 (c :: t)) := by
  rw [sG, if_neg ?_]
  intro z
  simp only [List.length_cons, List.take_succ_cons, List.cons.injEq] at z
  exact (L_ne h).2 z.2.1
theorem sG_side {w p : List Nat} (b : List Nat) (hw : w.all isL = true) (hp : p.all isL = true) : sG eqy 0 (sideL w p ++ b) = addH (sideL w p) (sG eqy 0 b) := by
  cases p with
  | nil => exact sG_word b hw
  | cons a t =>
    have ha := hp
    rw [List.all_cons, Bool.and_eq_true] at ha
    show sG eqy 0 ((w ++ 32 :: a :: t) ++ b) = addH (w ++ 32 :: a :: t) _
    rw [List.append_assoc, sG_word _ hw, List.cons_append, List.cons_append, sG_gap ha.1, ← List.cons_append, sG_word b hp]
    cases q : sG eqy 0 b with
    | nil => simp [addH, consH]
    | cons p r => simp [addH, consH]
theorem sG_eq (r : List Nat) : sG eqy 0 (32 :: 61 :: 32 :: r) = [] :: sG eqy 0 r := by
  rw [sG, if_pos (by rfl)]
  cases r <;> simp [sG]
def lineL (w p v q : List Nat) : List Nat := sideL w p ++ (32 :: 61 :: 32 :: sideL v q)
theorem split_line {w p v q : List Nat} (hw : w.all isL = true) (hp : p.all isL = true) (hv : v.all isL = true) (hq : q.all isL = true) : sG eqy 0 (lineL w p v q) = [sideL w p, sideL v q] := by
  unfold lineL
  rw [sG_side _ hw hp, sG_eq]
  have := sG_side [] hv hq
  rw [List.append_nil] at this
  rw [this]
  simp [addH, sG]
theorem pre1_word : ∀ {w : List Nat} (b : List Nat), w.all isL = true → pre1 32 (w ++ 32 :: b) = w ∧ suf1 32 (w ++ 32 :: b) = b
  | [], b, _ => by simp [pre1, suf1]
  | c :: t, b, h => by
    rw [List.all_cons, Bool.and_eq_true] at h
    obtain ⟨i1, i2⟩ := pre1_word b h.2
    rw [List.cons_append, pre1, suf1, if_neg (L_ne h.1).1, if_neg (L_ne h.1).1, i1, i2]
    exact ⟨rfl, rfl⟩
theorem pre1_all : ∀ {w : List Nat}, w.all isL = true → pre1 32 w = w ∧ suf1 32 w = [] ∧ w.contains 32 = false
  | [], _ => ⟨rfl, rfl, rfl⟩
  | c :: t, h => by
    rw [List.all_cons, Bool.and_eq_true] at h
    obtain ⟨i1, i2, i3⟩ := pre1_all h.2
    rw [pre1, suf1, if_neg (L_ne h.1).1, if_neg (L_ne h.1).1, i1, i2, List.contains_cons, i3]
    refine ⟨rfl, rfl, ?_⟩
    have : (32 == c) = false := by simpa using fun z => (L_ne h.1).1 (Eq.symm z)
    rw [this]; rfl
theorem pSide_ok {w p : List Nat} (hw : isW 4 w = true) (hp : p.all isL = true) (h8 : p.length ≤ 8) : pSide (sideL w p) = some (w, p) := by
  obtain ⟨w1, w2, w3⟩ := isW_all hw
  unfold pSide
  cases p with
  | nil =>
    obtain ⟨a, b, c⟩ := pre1_all w1
    show (if isW 4 (pre1 32 w) = true then (if w.contains 32 = true ∧ isW 8 (suf1 32 w) = false then none else some (pre1 32 w, suf1 32 w)) else none) = _
    rw [a, b, c, if_pos hw, if_neg (by simp)]
  | cons d t =>
    obtain ⟨a, b⟩ := pre1_word (w := w) (d :: t) w1
    show (if isW 4 (pre1 32 (w ++ 32 :: d :: t)) = true then (if (w ++ 32 :: d :: t).contains 32 = true ∧ isW 8 (suf1 32 (w ++ 32 :: d :: t)) = false then none else some (pre1 32 (w ++ 32 :: d :: t), suf1 32 (w ++ 32 :: d :: t))) else none) = _
    have h : isW 8 (d :: t) = true := by
      unfold isW
      simp only [Bool.and_eq_true, Nat.ble_eq]
      exact ⟨by simp, h8, hp⟩
    rw [a, b, if_pos hw, if_neg (by rw [h]; simp)]
theorem pLine_ok {w p v q : List Nat} (hw : isW 4 w = true) (hp : p.all isL = true) (hp8 : p.length ≤ 8) (hv : isW 4 v = true) (hq : q.all isL = true) (hq8 : q.length ≤ 8) : pLine (lineL w p v q) = some ((w, p), (v, q)) := by
  unfold pLine
  rw [split_line (isW_all hw).1 hp (isW_all hv).1 hq]
  show ((pSide (sideL w p)).bind fun a => (pSide (sideL v q)).map fun b => (a, b)) = _
  rw [pSide_ok hw hp hp8, pSide_ok hv hq hq8]
  rfl
end N17
end
section
set_option Elab.async false
set_option linter.all false
set_option autoImplicit false
set_option maxRecDepth 100000
set_option maxHeartbeats 4000000
/-! Nj: joined lines split in their lines. -/
namespace N17

def joinL : List (List Nat) → List Nat
  | [] => []
  | [x] => x
  | x :: y :: r => x ++ 10 :: joinL (y :: r)
theorem sG_last : ∀ {x : List Nat}, 10 ∉ x → sG [10] 0 x = [x]
  | [], _ => rfl
  | c :: t, h => by
    simp only [List.mem_cons, not_or] at h
    rw [sG, if_neg ?_, sG_last h.2]
    · rfl
    · intro z
      simp only [List.length_cons, List.length_nil, List.take_succ_cons, List.take_zero, List.cons.injEq, and_true] at z
      exact h.1 z.symm
theorem sG_nl : ∀ {x : List Nat} (b : List Nat), 10 ∉ x → sG [10] 0 (x ++ 10 :: b) = x :: sG [10] 0 b
  | [], b, _ => by
    rw [List.nil_append, sG, if_pos (by rfl)]
    rfl
  | c :: t, b, h => by
    simp only [List.mem_cons, not_or] at h
    rw [List.cons_append, sG, if_neg ?_, sG_nl b h.2]
    · rfl
    · intro z
      simp only [List.length_cons, List.length_nil, List.take_succ_cons, List.take_zero, List.cons.injEq, and_true] at z
      exact h.1 z.symm
theorem sG_join : ∀ {ls : List (List Nat)}, ls ≠ [] → (∀ x ∈ ls, 10 ∉ x) → sG [10] 0 (joinL ls) = ls
  | [], h, _ => absurd rfl h
  | [x], _, h => sG_last (h x (List.mem_singleton.mpr rfl))
  | x :: y :: r, _, h => by
    show sG [10] 0 (x ++ 10 :: joinL (y :: r)) = _
    rw [sG_nl _ (h x (List.mem_cons_self ..)), sG_join (by simp) fun z hz => h z (List.mem_cons_of_mem _ hz)]
open PySem in
theorem join_L (nl : Str) (hn : nl.cps.toList = [10]) : ∀ ls : List Str, (Str.join nl ls).cps.toList = joinL (ls.map fun z => z.cps.toList)
  | [] => rfl
  | [x] => rfl
  | x :: y :: r => by
    show (x ++ nl ++ Str.join nl (y :: r)).cps.toList = x.cps.toList ++ 10 :: joinL ((y :: r).map fun z => z.cps.toList)
    rw [← join_L nl hn (y :: r), Str.cps_append, Str.cps_append, Array.toList_append, Array.toList_append, hn]
    simp
end N17
end
section
set_option Elab.async false
set_option linter.all false
set_option autoImplicit false
set_option maxRecDepth 100000
set_option maxHeartbeats 4000000
/-! Nk: a sign in a text. -/
namespace N17
open PySem PySem.StrLaws
theorem strIn_1 (c : Nat) (j : Str) : Ly.strIn ⟨#[c]⟩ j = (fidx c j.cps.toList).isSome := by
  unfold Ly.strIn
  rw [occ_all, gOcc_one]
  have hh := pOcc_head (x := j) (y := ⟨#[c]⟩) (c := c) rfl j.length 0 0 (Nat.zero_add _) (Nat.le_refl _)
  rw [List.drop_zero] at hh
  cases e : pOcc j ⟨#[c]⟩ j.length (List.range' 0 (j.length + 1)) 0 with
  | nil =>
    rw [e] at hh
    cases q : fidx c j.cps.toList with
    | none => rfl
    | some k => rw [q] at hh; cases hh
  | cons a r =>
    rw [e] at hh
    cases q : fidx c j.cps.toList with
    | none => rw [q] at hh; cases hh
    | some k => rfl
theorem fidx_mem (c : Nat) : ∀ l : List Nat, (fidx c l).isSome = decide (c ∈ l)
  | [] => by simp [fidx]
  | d :: t => by
    unfold fidx
    by_cases e : d = c
    · rw [if_pos e]; simp [e]
    · rw [if_neg e, Option.isSome_map, fidx_mem c t]
      have : c ≠ d := fun z => e z.symm
      simp [this]
theorem letters_L : ("abcdefghijklmnopqrstuvwxyz" : Str).cps.toList = List.range' 97 26 := by decide +kernel
theorem strIn_L (c : Nat) : Ly.strIn ⟨#[c]⟩ "abcdefghijklmnopqrstuvwxyz" = isL c := by
  rw [strIn_1, letters_L, fidx_mem]
  unfold isL
  rw [Bool.eq_iff_iff]
  simp only [decide_eq_true_eq, List.mem_range'_1, Bool.and_eq_true, Nat.ble_eq]
  omega
end N17
end
section
set_option Elab.async false
set_option linter.all false
set_option autoImplicit false
set_option maxRecDepth 100000
set_option maxHeartbeats 4000000
/-! Oa: k17: the meaning of the text (printed by genNo.py). -/
namespace N17
open PySem PySem.Spec PyProof.Rows L2 Ly

def dfs : List Df := [⟨0, 0, s1, N_is_word.length, b_is_word, 0⟩, ⟨0, 1, s2, N_parsed_side.length, b_parsed_side, 0⟩, ⟨0, 2, s3, N_parsed_identity.length, b_parsed_identity, 0⟩, ⟨0, 3, s4, N_side_text.length, b_side_text, 0⟩, ⟨4, 0, s5, N_Identities_init.length, b_Identities_init, 5⟩, ⟨3, 0, s6, N_Identities_len.length, b_Identities_len, 0⟩, ⟨3, 1, s8, N_Identities_eq.length, b_Identities_eq, 0⟩, ⟨3, 2, s9, N_Identities_text.length, b_Identities_text, 0⟩, ⟨0, 4, s10, N_law_digits.length, b_law_digits, 0⟩, ⟨1, 0, s11, N_law_plain.length, b_law_plain, 0⟩, ⟨0, 5, s12, N_law_plain.length, b_law_plain, 0⟩, ⟨0, 6, s13, N_law_symbols.length, b_law_symbols, 0⟩, ⟨0, 7, s14, N_law_equation.length, b_law_equation, 0⟩, ⟨0, 8, s15, N_law_side.length, b_law_side, 0⟩, ⟨0, 9, s16, N_law_line.length, b_law_line, 0⟩, ⟨0, 10, s17, N_law_pairs.length, b_law_pairs, 0⟩, ⟨0, 11, s18, N_law_read_held.length, b_law_read_held, 0⟩, ⟨0, 12, s19, N_law_unequal_held.length, b_law_unequal_held, 0⟩, ⟨0, 13, s20, N_law_error.length, b_law_error, 0⟩, ⟨0, 14, s21, N_law_spoilt.length, b_law_spoilt, 0⟩, ⟨0, 15, s22, N_law_spoils_held.length, b_law_spoils_held, 0⟩, ⟨0, 16, s23, N_law_hundred_held.length, b_law_hundred_held, 0⟩]
def glF : Nat → D | 0 => .str "abcdefghijklmnopqrstuvwxyz" | 1 => .int 100 | 2 => .int 4 | _ => .int 8
theorem okd : okDfs [] dfs = true := by kernel_rfl
noncomputable def Γ : Mean := meanOf dfs glF (fun _ _ => 0)
theorem gl_eq : Γ.gl = glF := meanOf_gl okd
theorem e_is_word (ds : List D) : Γ.fn 0 ds = outOf (evS s1 Γ b_is_word (initS N_is_word.length ds)) := congrFun (meanOf_at okd (d := ⟨0, 0, s1, N_is_word.length, b_is_word, 0⟩) (List.mem_of_getElem? (i := 0) rfl)) ds
theorem e_parsed_side (ds : List D) : Γ.fn 1 ds = outOf (evS s2 Γ b_parsed_side (initS N_parsed_side.length ds)) := congrFun (meanOf_at okd (d := ⟨0, 1, s2, N_parsed_side.length, b_parsed_side, 0⟩) (List.mem_of_getElem? (i := 1) rfl)) ds
theorem e_parsed_identity (ds : List D) : Γ.fn 2 ds = outOf (evS s3 Γ b_parsed_identity (initS N_parsed_identity.length ds)) := congrFun (meanOf_at okd (d := ⟨0, 2, s3, N_parsed_identity.length, b_parsed_identity, 0⟩) (List.mem_of_getElem? (i := 2) rfl)) ds
theorem e_side_text (ds : List D) : Γ.fn 3 ds = outOf (evS s4 Γ b_side_text (initS N_side_text.length ds)) := congrFun (meanOf_at okd (d := ⟨0, 3, s4, N_side_text.length, b_side_text, 0⟩) (List.mem_of_getElem? (i := 3) rfl)) ds
theorem e_init (ds : List D) : Γ.nw 0 ds = Df.run ⟨4, 0, s5, N_Identities_init.length, b_Identities_init, 5⟩ Γ ds := congrFun (meanOf_at okd (d := ⟨4, 0, s5, N_Identities_init.length, b_Identities_init, 5⟩) (List.mem_of_getElem? (i := 4) rfl)) ds
theorem m_init {ds : List D} {o : Out} (h : ∀ a, outI a 5 (evS s5 Γ b_Identities_init (initI a 5 N_Identities_init.length ds)) = o) : Γ.nw 0 ds = o := nw_of (d := ⟨4, 0, s5, N_Identities_init.length, b_Identities_init, 5⟩) rfl (e_init ds) h
theorem e_len (ds : List D) : Γ.mt 0 ds = outOf (evS s6 Γ b_Identities_len (initS N_Identities_len.length ds)) := congrFun (meanOf_at okd (d := ⟨3, 0, s6, N_Identities_len.length, b_Identities_len, 0⟩) (List.mem_of_getElem? (i := 5) rfl)) ds
theorem e_eq (ds : List D) : Γ.mt 1 ds = outOf (evS s8 Γ b_Identities_eq (initS N_Identities_eq.length ds)) := congrFun (meanOf_at okd (d := ⟨3, 1, s8, N_Identities_eq.length, b_Identities_eq, 0⟩) (List.mem_of_getElem? (i := 6) rfl)) ds
theorem e_text (ds : List D) : Γ.mt 2 ds = outOf (evS s9 Γ b_Identities_text (initS N_Identities_text.length ds)) := congrFun (meanOf_at okd (d := ⟨3, 2, s9, N_Identities_text.length, b_Identities_text, 0⟩) (List.mem_of_getElem? (i := 7) rfl)) ds
theorem e_digits (ds : List D) : Γ.fn 4 ds = outOf (evS s10 Γ b_law_digits (initS N_law_digits.length ds)) := congrFun (meanOf_at okd (d := ⟨0, 4, s10, N_law_digits.length, b_law_digits, 0⟩) (List.mem_of_getElem? (i := 8) rfl)) ds
theorem e_plainH (ds : List D) : Γ.hot 0 ds = outOf (evS s11 Γ b_law_plain (initS N_law_plain.length ds)) := congrFun (meanOf_at okd (d := ⟨1, 0, s11, N_law_plain.length, b_law_plain, 0⟩) (List.mem_of_getElem? (i := 9) rfl)) ds
theorem e_plain (ds : List D) : Γ.fn 5 ds = outOf (evS s12 Γ b_law_plain (initS N_law_plain.length ds)) := congrFun (meanOf_at okd (d := ⟨0, 5, s12, N_law_plain.length, b_law_plain, 0⟩) (List.mem_of_getElem? (i := 10) rfl)) ds
theorem e_symbols (ds : List D) : Γ.fn 6 ds = outOf (evS s13 Γ b_law_symbols (initS N_law_symbols.length ds)) := congrFun (meanOf_at okd (d := ⟨0, 6, s13, N_law_symbols.length, b_law_symbols, 0⟩) (List.mem_of_getElem? (i := 11) rfl)) ds
theorem e_equation (ds : List D) : Γ.fn 7 ds = outOf (evS s14 Γ b_law_equation (initS N_law_equation.length ds)) := congrFun (meanOf_at okd (d := ⟨0, 7, s14, N_law_equation.length, b_law_equation, 0⟩) (List.mem_of_getElem? (i := 12) rfl)) ds
theorem e_side (ds : List D) : Γ.fn 8 ds = outOf (evS s15 Γ b_law_side (initS N_law_side.length ds)) := congrFun (meanOf_at okd (d := ⟨0, 8, s15, N_law_side.length, b_law_side, 0⟩) (List.mem_of_getElem? (i := 13) rfl)) ds
theorem e_line (ds : List D) : Γ.fn 9 ds = outOf (evS s16 Γ b_law_line (initS N_law_line.length ds)) := congrFun (meanOf_at okd (d := ⟨0, 9, s16, N_law_line.length, b_law_line, 0⟩) (List.mem_of_getElem? (i := 14) rfl)) ds
theorem e_pairs (ds : List D) : Γ.fn 10 ds = outOf (evS s17 Γ b_law_pairs (initS N_law_pairs.length ds)) := congrFun (meanOf_at okd (d := ⟨0, 10, s17, N_law_pairs.length, b_law_pairs, 0⟩) (List.mem_of_getElem? (i := 15) rfl)) ds
theorem e_read_held (ds : List D) : Γ.fn 11 ds = outOf (evS s18 Γ b_law_read_held (initS N_law_read_held.length ds)) := congrFun (meanOf_at okd (d := ⟨0, 11, s18, N_law_read_held.length, b_law_read_held, 0⟩) (List.mem_of_getElem? (i := 16) rfl)) ds
theorem e_unequal_held (ds : List D) : Γ.fn 12 ds = outOf (evS s19 Γ b_law_unequal_held (initS N_law_unequal_held.length ds)) := congrFun (meanOf_at okd (d := ⟨0, 12, s19, N_law_unequal_held.length, b_law_unequal_held, 0⟩) (List.mem_of_getElem? (i := 17) rfl)) ds
theorem e_error (ds : List D) : Γ.fn 13 ds = outOf (evS s20 Γ b_law_error (initS N_law_error.length ds)) := congrFun (meanOf_at okd (d := ⟨0, 13, s20, N_law_error.length, b_law_error, 0⟩) (List.mem_of_getElem? (i := 18) rfl)) ds
theorem e_spoilt (ds : List D) : Γ.fn 14 ds = outOf (evS s21 Γ b_law_spoilt (initS N_law_spoilt.length ds)) := congrFun (meanOf_at okd (d := ⟨0, 14, s21, N_law_spoilt.length, b_law_spoilt, 0⟩) (List.mem_of_getElem? (i := 19) rfl)) ds
theorem e_spoils_held (ds : List D) : Γ.fn 15 ds = outOf (evS s22 Γ b_law_spoils_held (initS N_law_spoils_held.length ds)) := congrFun (meanOf_at okd (d := ⟨0, 15, s22, N_law_spoils_held.length, b_law_spoils_held, 0⟩) (List.mem_of_getElem? (i := 20) rfl)) ds
theorem e_hundred_held (ds : List D) : Γ.fn 16 ds = outOf (evS s23 Γ b_law_hundred_held (initS N_law_hundred_held.length ds)) := congrFun (meanOf_at okd (d := ⟨0, 16, s23, N_law_hundred_held.length, b_law_hundred_held, 0⟩) (List.mem_of_getElem? (i := 21) rfl)) ds
theorem math (hlaw : ∀ ns : List Int, ns.length ≤ 63 → outOf (evS s24 Γ b_law (initS N_law.length [.frl (ns.map D.int)])) = .ret (.d (.bl true))) : Math Γ where
  g0 := by rw [gl_eq]; rfl
  g1 := by rw [gl_eq]; rfl
  g2 := by rw [gl_eq]; rfl
  g3 := by rw [gl_eq]; rfl
  law := hlaw
  is_word := fun ds _ _ => (e_is_word ds).symm
  parsed_side := fun ds _ _ => (e_parsed_side ds).symm
  parsed_identity := fun ds _ _ => (e_parsed_identity ds).symm
  side_text := fun ds _ _ => (e_side_text ds).symm
  init := fun a xs _ hb => nw_mirr (d := ⟨4, 0, s5, N_Identities_init.length, b_Identities_init, 5⟩) rfl (e_init xs) hb a
  len := fun ds _ _ => (e_len ds).symm
  eq := fun ds _ _ => (e_eq ds).symm
  text := fun ds _ _ => (e_text ds).symm
  digits := fun ds _ _ => (e_digits ds).symm
  plainH := fun ds _ _ => (e_plainH ds).symm
  plain := fun ds _ _ => (e_plain ds).symm
  symbols := fun ds _ _ => (e_symbols ds).symm
  equation := fun ds _ _ => (e_equation ds).symm
  side := fun ds _ _ => (e_side ds).symm
  line := fun ds _ _ => (e_line ds).symm
  pairs := fun ds _ _ => (e_pairs ds).symm
  read_held := fun ds _ _ => (e_read_held ds).symm
  unequal_held := fun ds _ _ => (e_unequal_held ds).symm
  error := fun ds _ _ => (e_error ds).symm
  spoilt := fun ds _ _ => (e_spoilt ds).symm
  spoils_held := fun ds _ _ => (e_spoils_held ds).symm
  hundred_held := fun ds _ _ => (e_hundred_held ds).symm
end N17
end
section
set_option Elab.async false
set_option linter.all false
set_option autoImplicit false
set_option maxRecDepth 100000
set_option maxHeartbeats 4000000
/-! Ob: k17: the texts of the law by their signs; is_word. -/
namespace N17
open PySem PySem.Spec PyProof.Rows L2 Ly
@[simp] theorem k_0 : (" " : Str) = tx ([32]) := by decide +kernel
@[simp] theorem k_1 : ("" : Str) = tx ([]) := by decide +kernel
@[simp] theorem k_2 : (" = " : Str) = tx ([32, 61, 32]) := by decide +kernel
@[simp] theorem k_3 : ("line" : Str) = tx ([108, 105, 110, 101]) := by decide +kernel
@[simp] theorem k_4 : ("\n" : Str) = tx ([10]) := by decide +kernel
@[simp] theorem k_5 : ("equations" : Str) = tx ([101, 113, 117, 97, 116, 105, 111, 110, 115]) := by decide +kernel
@[simp] theorem k_6 : ("symbols" : Str) = tx ([115, 121, 109, 98, 111, 108, 115]) := by decide +kernel
@[simp] theorem k_7 : ("abcdefghijklmnopqrstuvwxyz" : Str) = tx (List.range' 97 26) := by decide +kernel
@[simp] theorem k_8 : ("text" : Str) = tx ([116, 101, 120, 116]) := by decide +kernel
@[simp] theorem k_9 : ("BadIdentities" : Str) = tx ([66, 97, 100, 73, 100, 101, 110, 116, 105, 116, 105, 101, 115]) := by decide +kernel
@[simp] theorem k_10 : ("=" : Str) = tx ([61]) := by decide +kernel
@[simp] theorem k_11 : (";" : Str) = tx ([59]) := by decide +kernel
@[simp] theorem k_12 : ("," : Str) = tx ([44]) := by decide +kernel
@[simp] theorem k_13 : ("." : Str) = tx ([46]) := by decide +kernel
@[simp] theorem k_14 : ("  = " : Str) = tx ([32, 32, 61, 32]) := by decide +kernel
@[simp] theorem k_15 : (" =  " : Str) = tx ([32, 61, 32, 32]) := by decide +kernel
@[simp] theorem k_16 : (" =" : Str) = tx ([32, 61]) := by decide +kernel
@[simp] theorem k_17 : ("= " : Str) = tx ([61, 32]) := by decide +kernel
@[simp] theorem k_18 : (" == " : Str) = tx ([32, 61, 61, 32]) := by decide +kernel
@[simp] theorem k_19 : (" x y" : Str) = tx ([32, 120, 32, 121]) := by decide +kernel
@[simp] theorem k_20 : ("1" : Str) = tx ([49]) := by decide +kernel
@[simp] theorem k_21 : ("X" : Str) = tx ([88]) := by decide +kernel
@[simp] theorem k_22 : ("_" : Str) = tx ([95]) := by decide +kernel
@[simp] theorem k_23 : ("abcde" : Str) = tx ([97, 98, 99, 100, 101]) := by decide +kernel
@[simp] theorem k_24 : (" x" : Str) = tx ([32, 120]) := by decide +kernel
@[simp] theorem k_25 : (" abcdefghi = " : Str) = tx ([32, 97, 98, 99, 100, 101, 102, 103, 104, 105, 32, 61, 32]) := by decide +kernel
@[simp] theorem k_26 : ("a" : Str) = tx ([97]) := by decide +kernel
@[simp] theorem k_27 : (" x1 = " : Str) = tx ([32, 120, 49, 32, 61, 32]) := by decide +kernel
@[simp] theorem k_28 : ("  xy = " : Str) = tx ([32, 32, 120, 121, 32, 61, 32]) := by decide +kernel
@[simp] theorem k_29 : (" xy z = " : Str) = tx ([32, 120, 121, 32, 122, 32, 61, 32]) := by decide +kernel
@[simp] theorem k_30 : (" x-y = " : Str) = tx ([32, 120, 45, 121, 32, 61, 32]) := by decide +kernel
@[simp] theorem k_31 : (" (x) = " : Str) = tx ([32, 40, 120, 41, 32, 61, 32]) := by decide +kernel
@[simp] theorem k_32 : ("A = b" : Str) = tx ([65, 32, 61, 32, 98]) := by decide +kernel
@[simp] theorem k_33 : ("abcdefgh" : Str) = tx ([97, 98, 99, 100, 101, 102, 103, 104]) := by decide +kernel
@[simp] theorem k_34 : ("c = " : Str) = tx ([99, 32, 61, 32]) := by decide +kernel
@[simp] theorem k_35 : ("\nA = b\nA = b" : Str) = tx ([10, 65, 32, 61, 32, 98, 10, 65, 32, 61, 32, 98]) := by decide +kernel
@[simp] theorem k_36 : ("a = b c d" : Str) = tx ([97, 32, 61, 32, 98, 32, 99, 32, 100]) := by decide +kernel
@[simp] theorem k_37 : ("abcd" : Str) = tx ([97, 98, 99, 100]) := by decide +kernel
@[simp] theorem k_38 : ("c" : Str) = tx ([99]) := by decide +kernel
@[simp] theorem k_39 : ("hhhhhhhh" : Str) = tx ([104, 104, 104, 104, 104, 104, 104, 104]) := by decide +kernel
@[simp] theorem k_40 : ("e" : Str) = tx ([101]) := by decide +kernel
@[simp] theorem k_41 : ("\n\n" : Str) = tx ([10, 10]) := by decide +kernel
@[simp] theorem g_0 : Γ.gl 0 = .str (tx (List.range' 97 26)) := by rw [gl_eq]; show D.str _ = _; rw [k_7]
@[simp] theorem g_1 : Γ.gl 1 = .int 100 := by rw [gl_eq]; rfl
@[simp] theorem g_2 : Γ.gl 2 = .int 4 := by rw [gl_eq]; rfl
@[simp] theorem g_3 : Γ.gl 3 = .int 8 := by rw [gl_eq]; rfl
@[simp] theorem strIn_L' (c : Nat) : strIn (tx [c]) (tx (List.range' 97 26)) = isL c := by rw [← k_7]; exact strIn_L c
def inL : D → D | .str z => .bl (strIn z (tx (List.range' 97 26))) | _ => .non
theorem c_word (w : List Nat) (x1 x2 : Option W) (hw : w.length ≤ 16777216) : (ev s1 Γ c_is_word_1).e [some (.d (.str (tx w))), x1, x2] = .ok (.t (.l (w.map fun c => .bl (isL c)))) [some (.d (.str (tx w))), x1, x2] := by
  unfold c_is_word_1
  refine (lc_map (items := signs (tx w)) (S1 := [some (.d (.str (tx w))), x1, x2]) inL (by simp) (fun x hx => ?_) (by rw [signs_tx, List.length_map]; exact hw)).trans ?_
  · rw [signs_tx] at hx
    obtain ⟨c, _, rfl⟩ := List.mem_map.mp hx
    exact ⟨_, [some (.d (.str (tx w))), x1, some (.d (.str (tx [c])))], _, .t (.d (.bl (isL c))), _, rfl, by simp, rfl, by simp [inL], rfl⟩
  · rw [signs_tx]
    simp [inL]
theorem f_is_word {w : List Nat} {n : Int} (h1 : w.length ≤ 10000000) (h2 : 0 ≤ n) : Γ.fn 0 [.str (tx w), .int n] = .ret (.d (.bl (isW n.toNat w))) := by
  rw [e_is_word]
  have h3 : w.length ≤ 16777216 := by omega
  have hn : Nat.ble w.length n.toNat = decide ((w.length : Int) ≤ n) := by
    rw [Bool.eq_iff_iff, Nat.ble_eq, decide_eq_true_eq]; omega
  have h0 : Nat.ble 1 w.length = decide ((1 : Int) ≤ w.length) := by
    rw [Bool.eq_iff_iff, Nat.ble_eq, decide_eq_true_eq]; omega
  unfold isW
  rw [hn, h0]
  by_cases c1 : (1 : Int) ≤ (w.length : Int) <;> by_cases c2 : (w.length : Int) ≤ n <;> simp (disch := first | omega | (simp; done) | fail) [b_is_word, N_is_word, initS, outOf, c_word, c1, c2]
end N17
end
section
set_option Elab.async false
set_option linter.all false
set_option autoImplicit false
set_option maxRecDepth 100000
set_option maxHeartbeats 4000000
/-! Oc: k17: the parser's and the printer's parts. -/
namespace N17
open PySem PySem.Spec PyProof.Rows L2 Ly
theorem kind_ok (x y : Str) (h : Builtin.Str.strKind y = 1) : decide (Builtin.Str.strKind x < Builtin.Str.strKind y) = false := by
  rw [h, decide_eq_false_iff_not]
  unfold Builtin.Str.strKind
  split
  · omega
  · split <;> omega
theorem map_tx {l : List Str} {m : List (List Nat)} (h : (l.map fun z => z.cps.toList) = m) : l = m.map tx := by
  rw [← h, List.map_map]
  conv => lhs; rw [← List.map_id l]
  exact List.map_congr_left fun z _ => (tx_eta z).symm
open N17 in
theorem split_tx (t y : List Nat) (hy : 0 < y.length) (hk : Builtin.Str.strKind (tx y) = 1) (h : t.length ≤ 10000000) : sBM .split (tx t) [.str (tx y)] = some (.l ((sG y 0 t).map fun p => .str (tx p))) := by
  have e : sG y 0 t = sG (tx y).cps.toList 0 (tx t).cps.toList := by rw [tx_cps, tx_cps]
  have hs := map_tx (split_sG (tx t) (tx y) (by rw [tx_len]; exact hy) (kind_ok _ _ hk))
  show (if ((tx y).length == 0) = false ∧ (tx t).length + 2 ≤ sizeLine then some (W.l ((Txt.split (tx t) (tx y)).map .str)) else none) = _
  rw [if_pos ?_, hs, ← e, List.map_map]
  · rfl
  · rw [tx_len, tx_len, sizeLine_eq]
    refine ⟨?_, by omega⟩
    rw [beq_eq_false_iff_ne]
    omega
@[simp] theorem split_eq (t : List Nat) (h : t.length ≤ 10000000) : sBM .split (tx t) [.str (tx [32, 61, 32])] = some (.l ((sG [32, 61, 32] 0 t).map fun p => .str (tx p))) := split_tx t _ (by decide) (by decide +kernel) h
@[simp] theorem split_nl (t : List Nat) (h : t.length ≤ 10000000) : sBM .split (tx t) [.str (tx [10])] = some (.l ((sG [10] 0 t).map fun p => .str (tx p))) := split_tx t _ (by decide) (by decide +kernel) h
@[simp] theorem part_sp (t : List Nat) (h : t.length ≤ 10000000) : sBM .partition (tx t) [.str (tx [32])] = some (.d (.tup [.str (tx (pre1 32 t)), .str (tx (if 32 ∈ t then [32] else [])), .str (tx (suf1 32 t))])) := by
  obtain ⟨h1, h2, h3⟩ := part_1 (tx t) (tx [32]) 32 (by rw [tx_cps])
  rw [tx_cps] at h1 h2 h3
  show (if ((tx [32]).length == 0) = false ∧ (tx t).length ≤ sizeLine then some (W.d (.tup [.str (Txt.partition (tx t) (tx [32])).1, .str (Txt.partition (tx t) (tx [32])).2.1, .str (Txt.partition (tx t) (tx [32])).2.2])) else none) = _
  rw [if_pos ⟨by decide, by rw [tx_len, sizeLine_eq]; omega⟩, tx_of h1, tx_of h2, tx_of h3]
theorem pre1_len (t : List Nat) : (pre1 32 t).length ≤ t.length := by
  induction t with
  | nil => exact Nat.le_refl _
  | cons d t ih =>
    unfold pre1
    split
    · simp
    · simp; omega
theorem suf1_len (t : List Nat) : (suf1 32 t).length ≤ t.length := by
  induction t with
  | nil => exact Nat.le_refl _
  | cons d t ih =>
    unfold suf1
    split
    · simp
    · simp; omega
def sideD : Option (List Nat × List Nat) → D
  | none => .non
  | some (w, p) => .tup [.str (tx w), .str (tx p)]
theorem f_parsed_side {t : List Nat} (h : t.length ≤ 10000000) : Γ.fn 1 [.str (tx t)] = .ret (.d (sideD (pSide t))) := by
  rw [e_parsed_side]
  have h1 := pre1_len t
  have h2 := suf1_len t
  have a1 := f_is_word (w := pre1 32 t) (n := 4) (by omega) (by omega)
  have a2 := f_is_word (w := suf1 32 t) (n := 8) (by omega) (by omega)
  have i4 : (4 : Int).toNat = 4 := rfl
  have i8 : (8 : Int).toNat = 8 := rfl
  unfold pSide
  by_cases c : 32 ∈ t <;> cases b1 : isW 4 (pre1 32 t) <;> cases b2 : isW 8 (suf1 32 t) <;>
    simp (disch := first | omega | (simp; done) | fail) [b_parsed_side, N_parsed_side, initS, outOf, a1, a2, c, b1, b2, i4, i8, h, sideD]
theorem f_side_text {w p : List Nat} (hp : okT p = true) (h : w.length + p.length ≤ 10000000) : Γ.fn 3 [.str (tx w), .str (tx p)] = .ret (.d (.str (tx (sideL w p)))) := by
  rw [e_side_text]
  cases p with
  | nil => simp (disch := first | omega | (simp; done) | fail) [b_side_text, N_side_text, initS, outOf, sideL]
  | cons c q =>
    have h1 : w.length + 1 ≤ 16777216 := by simp at h; omega
    have h2 : w.length + 1 + (q.length + 1) ≤ 16777216 := by simp at h; omega
    have hp' : c < 1114112 ∧ okT q = true := by simpa using hp
    simp (disch := first | omega | (simp; omega) | (simp [hp']; done) | fail) [b_side_text, N_side_text, initS, outOf, sideL, h1, h2]
theorem f_law_side {w p : List Nat} (hp : okT p = true) (h : w.length + p.length ≤ 10000000) : Γ.fn 8 [.str (tx w), .str (tx p)] = .ret (.d (.str (tx (sideL w p)))) := by
  rw [e_side]
  cases p with
  | nil => simp (disch := first | omega | (simp; done) | fail) [b_law_side, N_law_side, initS, outOf, sideL]
  | cons c q =>
    have h1 : w.length + 1 ≤ 16777216 := by simp at h; omega
    have h2 : w.length + 1 + (q.length + 1) ≤ 16777216 := by simp at h; omega
    have hp' : c < 1114112 ∧ okT q = true := by simpa using hp
    simp (disch := first | omega | (simp; omega) | (simp [hp']; done) | fail) [b_law_side, N_law_side, initS, outOf, sideL, h1, h2]
end N17
end
section
set_option Elab.async false
set_option linter.all false
set_option autoImplicit false
set_option maxRecDepth 100000
set_option maxHeartbeats 4000000
/-! Od: k17: parsed_identity, Identities(..). -/
namespace N17
open PySem PySem.Spec PyProof.Rows L2 Ly
abbrev Eqn := (List Nat × List Nat) × (List Nat × List Nat)
def eqD (e : Eqn) : D := .tup [.str (tx e.1.1), .str (tx e.1.2), .str (tx e.2.1), .str (tx e.2.2)]
def optD : Option Eqn → D
  | none => .non
  | some e => eqD e
theorem sG_len (y : List Nat) : ∀ (k : Nat) (x : List Nat), (∀ p ∈ sG y k x, p.length ≤ x.length) ∧ (sG y k x).length ≤ x.length + 1
  | _, [] => by unfold sG; simp
  | k + 1, _ :: t => by
    unfold sG
    obtain ⟨h1, h2⟩ := sG_len y k t
    exact ⟨fun p hp => Nat.le_succ_of_le (h1 p hp), by simp; omega⟩
  | 0, c :: t => by
    unfold sG
    split
    · obtain ⟨h1, h2⟩ := sG_len y (y.length - 1) t
      refine ⟨fun p hp => ?_, by simp; omega⟩
      rcases List.mem_cons.mp hp with rfl | hp
      · simp
      · exact Nat.le_succ_of_le (h1 p hp)
    · obtain ⟨h1, h2⟩ := sG_len y 0 t
      cases e : sG y 0 t with
      | nil => exact absurd e (sG_ne _ _ _)
      | cons q r =>
        rw [e] at h1 h2
        refine ⟨fun p hp => ?_, by simp [consH] at h2 ⊢; omega⟩
        rcases List.mem_cons.mp hp with rfl | hp
        · have := h1 q List.mem_cons_self; simp; omega
        · exact Nat.le_succ_of_le (h1 p (List.mem_cons_of_mem _ hp))
theorem f_parsed_identity {t : List Nat} (h : t.length ≤ 1000000) : Γ.fn 2 [.str (tx t)] = .ret (.d (optD (pLine t))) := by
  rw [e_parsed_identity]
  unfold pLine
  have hl := (sG_len [32, 61, 32] 0 t).1
  have hs := split_eq t (by omega)
  generalize sG [32, 61, 32] 0 t = z at hl hs ⊢
  match z, hl, hs with
  | [], hl, hs => simp (disch := first | omega | (simp; done) | fail) [b_parsed_identity, N_parsed_identity, initS, outOf, hs, pTwo, optD]
  | [a], hl, hs => simp (disch := first | omega | (simp; done) | fail) [b_parsed_identity, N_parsed_identity, initS, outOf, hs, pTwo, optD]
  | a :: b :: c :: d, hl, hs =>
    have : ¬ ((d.length : Int) + 1 + 1 + 1 = 2) := by omega
    simp (disch := first | omega | (simp; done) | fail) [b_parsed_identity, N_parsed_identity, initS, outOf, hs, pTwo, optD, this]
  | [a, b], hl, hs =>
    have ha : a.length ≤ 10000000 := Nat.le_trans (hl a (by simp)) (by omega)
    have hb : b.length ≤ 10000000 := Nat.le_trans (hl b (by simp)) (by omega)
    have fa := f_parsed_side ha
    have fb := f_parsed_side hb
    have i0 : ∀ x y : D, atI [x, y] 0 = some x := fun _ _ => rfl
    have i1 : ∀ x y : D, atI [x, y] 1 = some y := fun _ _ => rfl
    unfold pTwo
    cases ea : pSide a with
    | none =>
      rw [ea] at fa
      simp (disch := first | omega | (simp; done) | fail) [b_parsed_identity, N_parsed_identity, initS, outOf, hs, optD, fa, fb, i0, i1, sideD, ea]
    | some p =>
      rw [ea] at fa
      obtain ⟨p1, p2⟩ := p
      cases eb : pSide b with
      | none =>
        rw [eb] at fb
        simp (disch := first | omega | (simp; done) | fail) [b_parsed_identity, N_parsed_identity, initS, outOf, hs, optD, fa, fb, i0, i1, sideD, ea, eb]
      | some q =>
        rw [eb] at fb
        obtain ⟨q1, q2⟩ := q
        simp (disch := first | omega | (simp; done) | fail) [b_parsed_identity, N_parsed_identity, initS, outOf, hs, optD, fa, fb, i0, i1, sideD, eqD, ea, eb]

/-! ### Identities(given) -/
abbrev Syms := List (List Nat × Nat)
def addS (sy : Syms) (w : List Nat) (n : Nat) : Option Syms := match sy.lookup w with
  | some m => if m = n then some sy else none
  | none => some (sy ++ [(w, n)])
def addE (sy : Syms) (e : Eqn) : Option Syms := (addS sy e.1.1 e.1.2.length).bind fun s => addS s e.2.1 e.2.2.length
def readL : Nat → List Eqn → Syms → List (List Nat) → Except Nat (List Eqn × Syms)
  | _, es, sy, [] => .ok (es, sy)
  | n, es, sy, l :: ls => match (if n ≤ 100 then pLine l else none) with
    | none => .error n
    | some e => match addE sy e with
      | none => .error n
      | some sy' => readL (n + 1) (es ++ [e]) sy' ls
def linesOf (t : List Nat) : List (List Nat) := if t = [] then [] else sG [10] 0 t
def readT (t : List Nat) : Except Nat (List Eqn × Syms) := readL 1 [] [] (linesOf t)
def ksD (sy : Syms) : List Key := sy.map fun p => .inr (tx p.1)
def vsD (sy : Syms) : List D := sy.map fun p => .int p.2
def objD (es : List Eqn) (sy : Syms) : D := .obj 5 ["equations", "symbols"] [.tup (es.map eqD), .dic (ksD sy) (vsD sy)]
def xBad (n : Nat) : Exn := ⟨3, true, ["line"], [.int n]⟩
theorem atK_sy (w : List Nat) : ∀ sy : Syms, atK (.inr (tx w)) (ksD sy) (vsD sy) = (sy.lookup w).map fun n => .int n
  | [] => rfl
  | (v, n) :: sy => by
    have ih := atK_sy w sy
    show (if (Sum.inr (tx v) : Key) = .inr (tx w) then some (D.int n) else atK (.inr (tx w)) (ksD sy) (vsD sy)) = _
    rw [List.lookup_cons, ih]
    by_cases h : w = v
    · subst h; simp
    · have h2 : ¬ v = w := fun z => h z.symm
      have h3 : (w == v) = false := by simpa using h
      simp [h2, h3]
theorem any_sy (w : List Nat) : ∀ sy : Syms, sy.lookup w = none → ((ksD sy).any fun a => decide (a = .inr (tx w))) = false
  | [], _ => rfl
  | (v, n) :: sy, h => by
    rw [List.lookup_cons] at h
    by_cases e : w = v
    · subst e; simp at h
    · have h3 : (w == v) = false := by simpa using e
      rw [h3] at h
      have e2 : ¬ v = w := fun z => e z.symm
      have ih := any_sy w sy h
      show (decide ((Sum.inr (tx v) : Key) = .inr (tx w)) || (ksD sy).any fun a => decide (a = .inr (tx w))) = false
      rw [ih]
      simp [e2]
theorem in1 (n : Nat) (sy : Syms) (w p : List Nat) (x0 x1 x2 x3 x5 x6 x7 x8 x9 : Option W) (h1 : sy.length ≤ 1000) (h2 : p.length ≤ 10000000) (hn : n ≤ 100000000) :
    evS s5 Γ l_Identities_init_1 [x0, x1, x2, x3, some (.m (ksD sy) (vsD sy)), some (.d (.int n)), x6, x7, some (.d (.str (tx w))), some (.d (.str (tx p)))] = (match addS sy w p.length with
      | some sy' => RS.nx [x0, x1, x2, x3, some (.m (ksD sy') (vsD sy')), some (.d (.int n)), x6, x7, some (.d (.str (tx w))), some (.d (.str (tx p)))]
      | none => .exc (xBad n) [x0, x1, x2, x3, some (.m (ksD sy) (vsD sy)), some (.d (.int n)), x6, x7, some (.d (.str (tx w))), some (.d (.str (tx p)))]) := by
  have hk : (ksD sy).length < 16777216 := by simp [ksD]; omega
  have hlog : n.log2 < 1920 := by
    by_cases hz : n = 0
    · subst hz; decide +kernel
    · have : n.log2 < 64 := (Nat.log2_lt hz).mpr (by omega)
      omega
  unfold addS l_Identities_init_1
  cases e : sy.lookup w with
  | some m =>
    have ha : atK (.inr (tx w)) (ksD sy) (vsD sy) = some (.int m) := by rw [atK_sy, e]; rfl
    by_cases c : m = p.length
    · have c' : (m : Int) = (p.length : Int) := by rw [c]
      simp (disch := first | omega | (simp; done) | fail) [hk, ha, c, c']
    · have c' : ¬ (m : Int) = (p.length : Int) := by omega
      simp (disch := first | omega | (simp; done) | fail) [hk, ha, c, c', hlog, xBad]
  | none =>
    have ha : atK (.inr (tx w)) (ksD sy) (vsD sy) = none := by rw [atK_sy, e]; rfl
    have hb := any_sy w sy e
    have k1 : ksD (sy ++ [(w, p.length)]) = ksD sy ++ [.inr (tx w)] := by simp [ksD]
    have k2 : vsD (sy ++ [(w, p.length)]) = vsD sy ++ [.int p.length] := by simp [vsD]
    simp (disch := first | omega | (simp; done) | fail) [hk, ha, hb, k1, k2]
end N17
end
section
set_option Elab.async false
set_option linter.all false
set_option autoImplicit false
set_option maxRecDepth 100000
set_option maxHeartbeats 4000000
/-! Oe: k17: Identities(given). -/
namespace N17
open PySem PySem.Spec PyProof.Rows L2 Ly
theorem sl_l2 (a b c d : D) : sSl (.tup [a, b, c, d]) none (some 2) = some (.d (.tup [a, b])) := rfl
theorem sl_r2 (a b c d : D) : sSl (.tup [a, b, c, d]) (some 2) none = some (.d (.tup [c, d])) := rfl
theorem addS_len {sy sy' : Syms} {w : List Nat} {n : Nat} (h : addS sy w n = some sy') : sy'.length ≤ sy.length + 1 := by
  unfold addS at h
  split at h
  · split at h
    · cases h; omega
    · cases h
  · cases h; simp
theorem addE_len {sy sy' : Syms} {e : Eqn} (h : addE sy e = some sy') : sy'.length ≤ sy.length + 2 := by
  unfold addE at h
  cases h1 : addS sy e.1.1 e.1.2.length with
  | none => rw [h1] at h; cases h
  | some s =>
    rw [h1] at h
    have h2 := addS_len h1
    have h3 := addS_len (show addS s e.2.1 e.2.2.length = some sy' from h)
    omega
/-- the parser's answer is short -/
theorem pSide_len {t : List Nat} {p : List Nat × List Nat} (h : pSide t = some p) : p.1.length ≤ t.length ∧ p.2.length ≤ t.length := by
  unfold pSide at h
  split at h
  · split at h
    · cases h
    · cases h
      exact ⟨pre1_len t, suf1_len t⟩
  · cases h
theorem pLine_len {t : List Nat} {e : Eqn} (h : pLine t = some e) : e.1.2.length ≤ t.length ∧ e.2.2.length ≤ t.length := by
  unfold pLine at h
  have hl := (sG_len [32, 61, 32] 0 t).1
  generalize sG [32, 61, 32] 0 t = z at hl h
  match z, hl, h with
  | [], _, h => cases h
  | [_], _, h => cases h
  | _ :: _ :: _ :: _, _, h => cases h
  | [a, b], hl, h =>
    have h : ((pSide a).bind fun p => (pSide b).map fun q => (p, q)) = some e := h
    cases ea : pSide a with
    | none => rw [ea] at h; cases h
    | some p =>
      cases eb : pSide b with
      | none => rw [ea, eb] at h; cases h
      | some q =>
        rw [ea, eb] at h
        cases h
        exact ⟨Nat.le_trans (pSide_len ea).2 (hl a (by simp)), Nat.le_trans (pSide_len eb).2 (hl b (by simp))⟩
theorem in2 (n : Nat) (es : List Eqn) (sy : Syms) (l : List Nat) (a : Addr) (x1 x2 x5 x6 x7 x8 x9 : Option W) (hl : l.length ≤ 1000000) (hn : es.length + 1 = n) (hs : sy.length ≤ 2 * es.length) (hb : n ≤ 100000000) :
    match (if n ≤ 100 then pLine l else none) with
    | none => (evS s5 Γ l_Identities_init_2 [some (.o a 5 [] []), x1, x2, some (.l (es.map eqD)), some (.m (ksD sy) (vsD sy)), some (.d (.int n)), some (.d (.str (tx l))), x7, x8, x9]).raises (xBad n)
    | some e => match addE sy e with
      | none => (evS s5 Γ l_Identities_init_2 [some (.o a 5 [] []), x1, x2, some (.l (es.map eqD)), some (.m (ksD sy) (vsD sy)), some (.d (.int n)), some (.d (.str (tx l))), x7, x8, x9]).raises (xBad n)
      | some sy' => (evS s5 Γ l_Identities_init_2 [some (.o a 5 [] []), x1, x2, some (.l (es.map eqD)), some (.m (ksD sy) (vsD sy)), some (.d (.int n)), some (.d (.str (tx l))), x7, x8, x9]).goes fun S => ∃ y7 y8 y9, S = [some (.o a 5 [] []), x1, x2, some (.l ((es ++ [e]).map eqD)), some (.m (ksD sy') (vsD sy')), some (.d (.int n)), some (.d (.str (tx l))), y7, y8, y9] := by
  have hlog : n.log2 < 1920 := by
    by_cases hz : n = 0
    · subst hz; decide +kernel
    · have : n.log2 < 64 := (Nat.log2_lt hz).mpr (by omega)
      omega
  by_cases c : n ≤ 100
  · rw [if_pos c]
    have c' : (n : Int) ≤ 100 := by omega
    have hf := f_parsed_identity hl
    have hes : es.length < 16777216 := by omega
    cases e : pLine l with
    | none =>
      rw [e] at hf
      unfold l_Identities_init_2
      simp (disch := first | omega | (simp; done) | fail) [c', hf, optD, hlog, xBad]
    | some q =>
      rw [e] at hf
      obtain ⟨p1, p2⟩ := pLine_len e
      have g1 := fun x7 => in1 n sy q.1.1 q.1.2 (some (.o a 5 [] [])) x1 x2 (some (.l (es.map eqD))) (some (.d (.int n))) (some (.d (.str (tx l)))) x7 x8 x9 (by omega) (by omega) hb
      dsimp only
      unfold addE
      cases e1 : addS sy q.1.1 q.1.2.length with
      | none =>
        rw [e1] at g1
        unfold l_Identities_init_2
        simp (disch := first | omega | (simp; done) | fail) [c', hf, optD, eqD, hlog, sl_l2, sl_r2, loopS, g1]
      | some s1 =>
        rw [e1] at g1
        have q1 := addS_len e1
        have g2 := fun x7 => in1 n s1 q.2.1 q.2.2 (some (.o a 5 [] [])) x1 x2 (some (.l (es.map eqD))) (some (.d (.int n))) (some (.d (.str (tx l)))) x7 x8 x9 (by omega) (by omega) hb
        dsimp only [Option.bind]
        cases e2 : addS s1 q.2.1 q.2.2.length with
        | none =>
          rw [e2] at g2
          unfold l_Identities_init_2
          simp (disch := first | omega | (simp; done) | fail) [c', hf, optD, eqD, hlog, sl_l2, sl_r2, loopS, g1, g2]
        | some s2 =>
          rw [e2] at g2
          unfold l_Identities_init_2
          simp (disch := first | omega | (simp; done) | fail) [c', hf, optD, eqD, hlog, sl_l2, sl_r2, loopS, g1, g2, hes]
  · rw [if_neg c]
    have c' : ¬ (n : Int) ≤ 100 := by omega
    unfold l_Identities_init_2
    simp (disch := first | omega | (simp; done) | fail) [c', hlog, xBad]
theorem in3 (a : Addr) (x1 x2 : Option W) : ∀ (ls : List (List Nat)) (n : Nat) (es : List Eqn) (sy : Syms) (x5 x6 x7 x8 x9 : Option W), (∀ l ∈ ls, l.length ≤ 1000000) → es.length + 1 = n → sy.length ≤ 2 * es.length → n + ls.length ≤ 100000000 →
    match readL n es sy ls with
    | .ok (es', sy') => (loopS (Tg.tp [(5, "number"), (6, "line")]).g (evS s5 Γ l_Identities_init_2) (numD n (ls.map fun l => .str (tx l))) [some (.o a 5 [] []), x1, x2, some (.l (es.map eqD)), some (.m (ksD sy) (vsD sy)), x5, x6, x7, x8, x9]).goes fun S => ∃ y5 y6 y7 y8 y9, S = [some (.o a 5 [] []), x1, x2, some (.l (es'.map eqD)), some (.m (ksD sy') (vsD sy')), y5, y6, y7, y8, y9]
    | .error k => (loopS (Tg.tp [(5, "number"), (6, "line")]).g (evS s5 Γ l_Identities_init_2) (numD n (ls.map fun l => .str (tx l))) [some (.o a 5 [] []), x1, x2, some (.l (es.map eqD)), some (.m (ksD sy) (vsD sy)), x5, x6, x7, x8, x9]).raises (xBad k)
  | [], n, es, sy, x5, x6, x7, x8, x9, _, _, _, _ => by
    simp [readL, loopS, numD]
  | l :: ls, n, es, sy, x5, x6, x7, x8, x9, hl, hn, hs, hb => by
    have hb : n + (ls.length + 1) ≤ 100000000 := hb
    have h := in2 n es sy l a x1 x2 x5 x6 x7 x8 x9 (hl l List.mem_cons_self) hn hs (by omega)
    unfold readL
    simp only [List.map_cons, numD, loopS]
    have hg : (Tg.tp [(5, "number"), (6, "line")]).g (D.tup [.int n, .str (tx l)]) [some (.o a 5 [] []), x1, x2, some (.l (es.map eqD)), some (.m (ksD sy) (vsD sy)), x5, x6, x7, x8, x9] = some [some (.o a 5 [] []), x1, x2, some (.l (es.map eqD)), some (.m (ksD sy) (vsD sy)), some (.d (.int n)), some (.d (.str (tx l))), x7, x8, x9] := rfl
    rw [hg]
    cases e : (if n ≤ 100 then pLine l else none) with
    | none =>
      rw [e] at h
      obtain ⟨S, h⟩ := h.get
      simp [h]
    | some q =>
      rw [e] at h
      dsimp only at h ⊢
      cases e2 : addE sy q with
      | none =>
        rw [e2] at h
        obtain ⟨S, h⟩ := h.get
        simp [h]
      | some sy' =>
        rw [e2] at h
        obtain ⟨S, h, y7, y8, y9, rfl⟩ := h.get
        simp only [h]
        have h3 := addE_len e2
        have := in3 a x1 x2 ls (n + 1) (es ++ [q]) sy' (some (.d (.int n))) (some (.d (.str (tx l)))) y7 y8 y9 (fun z hz => hl z (List.mem_cons_of_mem _ hz)) (by simp; omega) (by simp; omega) (by omega)
        exact this
theorem f_init {t : List Nat} (ht : okT t = true) (h : t.length ≤ 1000000) : Γ.nw 0 [.str (tx t)] = match readT t with
    | .ok (es, sy) => .ret (.d (objD es sy))
    | .error k => .exc (xBad k) := by
  refine m_init fun a => ?_
  have hl := sG_len [10] 0 t
  have h3 := fun x2 => in3 a (some (.d (.str (tx t)))) x2 (linesOf t) 1 [] [] none none none none none (fun l m => by
    unfold linesOf at m
    split at m
    · cases m
    · exact Nat.le_trans (hl.1 l m) h) rfl (by simp) (by
    unfold linesOf
    split
    · simp
    · have := hl.2; omega)
  unfold readT
  have e0 : (initI a 5 N_Identities_init.length [.str (tx t)]) = [some (.o a 5 [] []), some (.d (.str (tx t))), none, none, none, none, none, none, none, none] := rfl
  rw [e0]
  have h2 : ∀ x, (if t = [] then ([] : List D) else (sG [10] 0 t).map fun p => .str (tx p)) = x → (linesOf t).map (fun l => D.str (tx l)) = x := by
    intro x e
    rw [← e]
    unfold linesOf
    split <;> rfl
  have hn := split_nl t (by omega)
  by_cases c : t = []
  · subst c
    have h3 := h3 (some (.d (.lst [])))
    have e1 : linesOf [] = [] := rfl
    rw [e1] at h3 ⊢
    simp only [readL] at h3 ⊢
    simp [loopS, numD] at h3
    simp (disch := first | omega | (simp; done) | fail) [b_Identities_init, outI, objD, loopS, numD]
    exact ⟨rfl, rfl⟩
  · have e1 : linesOf t = sG [10] 0 t := if_neg c
    rw [e1] at h3 ⊢
    have h3 := h3 (some (.d (.lst ((sG [10] 0 t).map fun p => .str (tx p)))))
    cases e : readL 1 [] [] (sG [10] 0 t) with
    | error k =>
      rw [e] at h3
      obtain ⟨S, h3⟩ := h3.get
      simp [show ksD [] = [] from rfl, show vsD [] = [] from rfl] at h3
      simp (disch := first | omega | (simp; done) | assumption | fail) [b_Identities_init, outI, hn, c, h3]
    | ok r =>
      obtain ⟨es, sy⟩ := r
      rw [e] at h3
      obtain ⟨S, h3, y5, y6, y7, y8, y9, rfl⟩ := h3.get
      simp [show ksD [] = [] from rfl, show vsD [] = [] from rfl] at h3
      simp (disch := first | omega | (simp; done) | assumption | fail) [b_Identities_init, outI, hn, c, h3, objD]
end N17
end
section
set_option Elab.async false
set_option linter.all false
set_option autoImplicit false
set_option maxRecDepth 100000
set_option maxHeartbeats 4000000
/-! Of: k17: digits, len, ==, lines, texts. -/
namespace N17
open PySem PySem.Spec PyProof.Rows L2 Ly
theorem f_plain (i : Int) : Γ.fn 5 [.int i] = .ret (.d (.bl true)) := by
  rw [e_plain]
  simp [b_law_plain, N_law_plain, initS, outOf]
theorem f_plainH (i : Int) : Γ.hot 0 [.int i] = .ret (.d (.bl true)) := by
  rw [e_plainH]
  simp [b_law_plain, N_law_plain, initS, outOf]
theorem dig1 (base : Int) (hb : 0 < base) (hb2 : base < 1000000000) (x0 x1 x3 x6 : Option W) (r : Int) (ds : List Int) (hd : ds.length ≤ 1000) :
    evS s10 Γ l_law_digits_1 [x0, x1, some (.d (.int base)), x3, some (.d (.int r)), some (.l (ds.map .int)), x6] = .nx [x0, x1, some (.d (.int base)), x3, some (.d (.int (r / base))), some (.l ((ds ++ [r % base]).map .int)), x6] := by
  have h1 : ds.length < 16777216 := by omega
  unfold l_law_digits_1
  simp (disch := first | omega | (simp; done) | assumption | fail) [h1]
theorem dig2 (base : Int) (hb : 0 < base) (hb2 : base < 1000000000) (x0 x1 x3 x6 : Option W) (r : Int) (n : Nat) (hn : n ≤ 1000) :
    (loopS (Tg.nm 6 "turn").g (evS s10 Γ l_law_digits_1) (intsD 0 n) [x0, x1, some (.d (.int base)), x3, some (.d (.int r)), some (.l []), x6]).goes fun S => ∃ (ds : List Int) (r y6 : Option W), S = [x0, x1, some (.d (.int base)), x3, r, some (.l (ds.map .int)), y6] ∧ ds.length = n ∧ ∀ d ∈ ds, 0 ≤ d ∧ d < base := by
  obtain ⟨S, h1, ds, r', y6, h2, h3, h4⟩ := loopS_inv (g := (Tg.nm 6 "turn").g) (body := evS s10 Γ l_law_digits_1) (fun xs S => ∃ (ds : List Int) (r : Int) (y6 : Option W), S = [x0, x1, some (.d (.int base)), x3, some (.d (.int r)), some (.l (ds.map .int)), y6] ∧ ds.length + xs.length = n ∧ ∀ d ∈ ds, 0 ≤ d ∧ d < base)
    (fun x xs S ⟨ds, r, y6, e, hl, hd⟩ => ⟨[x0, x1, some (.d (.int base)), x3, some (.d (.int r)), some (.l (ds.map .int)), some (.d x)], _, by rw [e]; rfl, .inl (dig1 base hb hb2 x0 x1 x3 _ r ds (by simp at hl; omega)), ds ++ [r % base], r / base, some (.d x), rfl, by simp at hl ⊢; omega, fun d hm => by
      rcases List.mem_append.mp hm with hm | hm
      · exact hd d hm
      · rw [List.mem_singleton.mp hm]
        exact ⟨Int.emod_nonneg _ (by omega), Int.emod_lt_of_pos _ hb⟩⟩)
    (intsD 0 n) [x0, x1, some (.d (.int base)), x3, some (.d (.int r)), some (.l []), x6] ⟨[], r, x6, rfl, by simp [intsD], fun d hm => by cases hm⟩
  rw [h1]
  exact ⟨ds, _, y6, h2, by simpa using h3, h4⟩
theorem dig3 (r : Int) (hr : 0 ≤ r) (y0 y1 y2 y3 y5 y6 : Option W) : (evS s10 Γ (.ife (.cmp .lt (.var 4 "rest") (.bin .pow (.int 10) (.int 18))) (.seq (.set 4 "rest" (.bin .mul (.bin .add (.var 4 "rest") (.int 1)) (.int 27182818284590452353602874713526624977))) (.seq (.set 4 "rest" (.bin .mod (.bi .int (.cons (.var 4 "rest") .nil)) (.bin .add (.bin .pow (.int 10) (.int 40)) (.int 121)))) (.seq (.set 4 "rest" (.bin .mod (.bi .int (.cons (.bin .mul (.var 4 "rest") (.var 4 "rest")) .nil)) (.bin .add (.bin .pow (.int 10) (.int 39)) (.int 3)))) .nil))) .nil) [y0, y1, y2, y3, some (.d (.int r)), y5, y6]).goes fun S => ∃ r2 : Int, S = [y0, y1, y2, y3, some (.d (.int r2)), y5, y6] := by
  by_cases hc : r < 1000000000000000000
  · have g1 : (r + 1).natAbs.log2 + (Int.natAbs 27182818284590452353602874713526624977).log2 < 1000000 := by
      have h2 : (r + 1).natAbs.log2 < 200 := log2_lt (by decide) (by omega)
      have h3 : (Int.natAbs 27182818284590452353602874713526624977).log2 < 200 := log2_lt (by decide) (by decide)
      omega
    have g2 : ((r + 1) * 27182818284590452353602874713526624977 % 10000000000000000000000000000000000000121).natAbs.log2 + ((r + 1) * 27182818284590452353602874713526624977 % 10000000000000000000000000000000000000121).natAbs.log2 < 1000000 := by
      have h2 : ((r + 1) * 27182818284590452353602874713526624977 % 10000000000000000000000000000000000000121).natAbs.log2 < 200 := log2_lt (by decide) (by omega)
      omega
    have g1' := sMul_int _ _ g1
    have g2' := sMul_int _ _ g2
    simp [hc, g1', g2']
  · simp [hc]
theorem dig4 (ns : List Int) (k : Nat) (hk : k ≤ 1000) (y2 y3 y4 y5 y6 : Option W) : ∃ r : Int, 0 ≤ r ∧ (ev s10 Γ (.ite (.cmp .lt (.var 1 "k") (.bi .len (.cons (.var 0 "cells") .nil))) (.bi .abs (.cons (.bi .int (.cons (.idx (.var 0 "cells") (.var 1 "k")) .nil)) .nil)) (.bin .add (.bin .mul (.int 7) (.var 1 "k")) (.int 1)))).e [some (.d (.lst (ns.map .int))), some (.d (.int k)), y2, y3, y4, y5, y6] = .ok (.t (.d (.int r))) [some (.d (.lst (ns.map .int))), some (.d (.int k)), y2, y3, y4, y5, y6] := by
  by_cases hc : (k : Int) < (ns.length : Int)
  · have hk2 : k < ns.length := by omega
    have hx : atI (ns.map D.int) (k : Int) = some (.int ns[k]) := by
      rw [atI_nat _ _ (by simpa using hk2)]
      simp
    refine ⟨if ns[k] < 0 then -ns[k] else ns[k], by split <;> omega, ?_⟩
    simp [hk2, hx]
  · have hk2 : ¬ k < ns.length := by omega
    refine ⟨7 * k + 1, by omega, ?_⟩
    have hm : (Int.natAbs 7).log2 + (Int.natAbs (k : Int)).log2 < 1000000 := by
      have h2 : (Int.natAbs (k : Int)).log2 < 64 := log2_lt (by decide) (by simp; omega)
      have h3 : (Int.natAbs 7).log2 < 64 := log2_lt (by decide) (by decide)
      omega
    have hm2 : sMul (.int 7) (.int (k : Int)) = some (.d (.int (7 * k))) := sMul_int 7 k hm
    simp [hk2, hm2]
theorem f_digits (ns : List Int) (k : Nat) (base : Int) (n : Nat) (hb : 0 < base) (hb2 : base < 1000000000) (hn : n ≤ 1000) (hk : k ≤ 1000) :
    ∃ ds : List Int, Γ.fn 4 [.lst (ns.map .int), .int k, .int base, .int n] = .ret (.d (.lst (ds.map .int))) ∧ ds.length = n ∧ ∀ d ∈ ds, 0 ≤ d ∧ d < base := by
  obtain ⟨r, hr, h1⟩ := dig4 ns k hk (some (.d (.int base))) (some (.d (.int n))) none none none
  obtain ⟨_, h2, r2, rfl⟩ := (dig3 r hr (some (.d (.lst (ns.map .int)))) (some (.d (.int k))) (some (.d (.int base))) (some (.d (.int n))) none none).get
  obtain ⟨_, h3, ds, r3, y6, rfl, h5, h6⟩ := (dig2 base hb hb2 (some (.d (.lst (ns.map .int)))) (some (.d (.int k))) (some (.d (.int n))) none r2 n hn).get
  refine ⟨ds, ?_, h5, h6⟩
  rw [e_digits]
  have e0 : initS N_law_digits.length [.lst (ns.map .int), .int k, .int base, .int n] = [some (.d (.lst (ns.map .int))), some (.d (.int k)), some (.d (.int base)), some (.d (.int n)), none, none, none] := rfl
  rw [e0]
  have hn2 : -4611686018427387904 ≤ (n : Int) ∧ (n : Int) < 4611686018427387904 := by omega
  unfold b_law_digits
  rw [run_set h1 rfl]
  simp only [List.set_cons_succ, List.set_cons_zero]
  rw [run_nx h2]
  rw [run_set (o := .t (.l [])) (w := .l []) rfl rfl]
  simp only [List.set_cons_succ, List.set_cons_zero]
  rw [evS_seq, evS_each, eve_rng1, mRng1_u]
  simp only [eve_consL, eve_nilL, mCons_u, eve_var, mVar_u, at_succ, at_zero, gets_cons, gets_nil, get_s, dat_d]
  rw [rngO_ok _ (by omega) (by omega), Int.toNat_natCast]
  simp only [h3]
  simp [outOf]
end N17
end
section
set_option Elab.async false
set_option linter.all false
set_option autoImplicit false
set_option maxRecDepth 100000
set_option maxHeartbeats 4000000
/-! Og: k17: len, ==, text, lines, pairs. -/
namespace N17
open PySem PySem.Spec PyProof.Rows L2 Ly
/-- a well formed equation -/
structure WF (e : Eqn) : Prop where
  w : isW 4 e.1.1 = true
  p : e.1.2.all isL = true
  p8 : e.1.2.length ≤ 8
  v : isW 4 e.2.1 = true
  q : e.2.2.all isL = true
  q8 : e.2.2.length ≤ 8
theorem okT_L {l : List Nat} (h : l.all isL = true) : okT l = true := by
  unfold okT
  rw [List.all_eq_true] at h ⊢
  intro c hc
  have := h c hc
  unfold isL at this
  simp only [Bool.and_eq_true, Nat.ble_eq] at this
  rw [decide_eq_true_eq]
  omega
theorem okT_W {n : Nat} {l : List Nat} (h : isW n l = true) : okT l = true := okT_L (isW_all h).1
def lineE (e : Eqn) : List Nat := lineL e.1.1 e.1.2 e.2.1 e.2.2
theorem sideL_len (w p : List Nat) : (sideL w p).length ≤ w.length + p.length + 1 := by
  unfold sideL
  cases p <;> simp; omega
theorem lineE_len {e : Eqn} (h : WF e) : (lineE e).length ≤ 100 := by
  have h1 := (isW_all h.w).2.2
  have h2 := (isW_all h.v).2.2
  have h3 := sideL_len e.1.1 e.1.2
  have h4 := sideL_len e.2.1 e.2.2
  have h5 := h.p8
  have h6 := h.q8
  unfold lineE lineL
  simp
  omega
theorem okT_side {w p : List Nat} (hw : okT w = true) (hp : okT p = true) : okT (sideL w p) = true := by
  unfold sideL
  cases p with
  | nil => exact hw
  | cons c q =>
    simp only [okT_cons, Bool.and_eq_true] at hp
    simp [hw, hp]
theorem okT_line {e : Eqn} (h : WF e) : okT (lineE e) = true := by
  unfold lineE lineL
  simp [okT_side (okT_W h.w) (okT_L h.p), okT_side (okT_W h.v) (okT_L h.q)]
theorem eqD_pl {e : Eqn} (h : WF e) : plD 1 (eqD e) = true := by
  simp [eqD, plD, plDs, okT_str, okT_W h.w, okT_L h.p, okT_W h.v, okT_L h.q]
theorem eqDs_pl {es : List Eqn} (h : ∀ e ∈ es, WF e) : plDs 1 (es.map eqD) = true := by
  rw [plDs_all, List.all_eq_true]
  intro d hd
  obtain ⟨e, he, rfl⟩ := List.mem_map.mp hd
  exact eqD_pl (h e he)
theorem eqD_inj {a b : Eqn} (h : eqD a = eqD b) : a = b := by
  obtain ⟨⟨a1, a2⟩, a3, a4⟩ := a
  obtain ⟨⟨b1, b2⟩, b3, b4⟩ := b
  simpa [eqD, and_assoc] using h
theorem map_inj {α β : Type} {f : α → β} (hf : ∀ a b, f a = f b → a = b) : ∀ {l m : List α}, l.map f = m.map f → l = m
  | [], [], _ => rfl
  | [], _ :: _, h => by cases h
  | _ :: _, [], h => by cases h
  | a :: l, b :: m, h => by
    simp only [List.map_cons, List.cons.injEq] at h
    rw [hf a b h.1, map_inj hf h.2]
theorem deq_eqs {es fs : List Eqn} (h : ∀ e ∈ es, WF e) (k : ∀ e ∈ fs, WF e) : deq (.tup (es.map eqD)) (.tup (fs.map eqD)) = some (decide (es = fs)) := by
  obtain ⟨b, e, hb⟩ := deq_iff (n := 2) (m := 2) (x := .tup (es.map eqD)) (y := .tup (fs.map eqD)) (eqDs_pl h) (eqDs_pl k) (by decide) (by decide)
  rw [e]
  congr 1
  rw [Bool.eq_iff_iff, hb, decide_eq_true_eq]
  constructor
  · intro z; exact map_inj (fun _ _ => eqD_inj) (by simpa using z)
  · intro z; rw [z]
theorem deq_leqs {es fs : List Eqn} (h : ∀ e ∈ es, WF e) (k : ∀ e ∈ fs, WF e) : deq (.lst (es.map eqD)) (.lst (fs.map eqD)) = some (decide (es = fs)) := by
  obtain ⟨b, e, hb⟩ := deq_iff (n := 2) (m := 2) (x := .lst (es.map eqD)) (y := .lst (fs.map eqD)) (eqDs_pl h) (eqDs_pl k) (by decide) (by decide)
  rw [e]
  congr 1
  rw [Bool.eq_iff_iff, hb, decide_eq_true_eq]
  constructor
  · intro z; exact map_inj (fun _ _ => eqD_inj) (by simpa using z)
  · intro z; rw [z]
theorem f_len (es : List Eqn) (sy : Syms) : Γ.mt 0 [objD es sy] = .ret (.d (.int es.length)) := by
  rw [e_len]
  simp [b_Identities_len, N_Identities_len, initS, outOf, objD]
theorem f_eq {es fs : List Eqn} {sy sz : Syms} (h : ∀ e ∈ es, WF e) (k : ∀ e ∈ fs, WF e) : Γ.mt 1 [objD es sy, objD fs sz] = .ret (.d (.bl (decide (es = fs)))) := by
  rw [e_eq]
  have := deq_eqs h k
  simp [b_Identities_eq, N_Identities_eq, initS, outOf, objD, this]
theorem f_eqs {es : List Eqn} {sy : Syms} (x : Str) : Γ.mt 1 [objD es sy, .str x] = .ret (.d (.bl false)) := by
  rw [e_eq]
  simp [b_Identities_eq, N_Identities_eq, initS, outOf, objD]
/-! ### joined lines -/
theorem strsD_map (ls : List (List Nat)) : strsD (ls.map fun l => .str (tx l)) = some (ls.map tx) := by
  induction ls with
  | nil => rfl
  | cons l ls ih => show (strsD (ls.map fun l => .str (tx l))).map (tx l :: ·) = _; rw [ih]; rfl
theorem join_nl {ls : List (List Nat)} (h : ∀ l ∈ ls, l.length ≤ 1000) (hl : ls.length ≤ 1000) : sBM .join (tx [10]) [.lst (ls.map fun l => .str (tx l))] = some (.d (.str (tx (joinL ls)))) := by
  have hs : ∀ ls : List (List Nat), (∀ l ∈ ls, l.length ≤ 1000) → ((ls.map tx).map Str.length).sum ≤ ls.length * 1000 := by
    intro ls
    induction ls with
    | nil => intro _; simp
    | cons l ls ih =>
      intro h
      have h1 := ih fun z hz => h z (List.mem_cons_of_mem _ hz)
      have h2 := h l List.mem_cons_self
      simp only [List.map_cons, List.sum_cons, tx_len, List.length_cons]
      omega
  have h1 := hs ls h
  show (match strsD (ls.map fun l => .str (tx l)) with
    | some ys => if (ys.map Str.length).sum + ys.length * (tx [10]).length ≤ 16777216 then some (W.d (.str (Txt.join (tx [10]) ys))) else none
    | none => none) = _
  rw [strsD_map]
  dsimp only
  rw [if_pos]
  · congr 3
    show Builtin.Str.glued _ _ = _
    rw [StrLaws.glued_eq_join]
    refine tx_of ?_
    rw [join_L _ (tx_cps _), List.map_map]
    congr 1
    conv => rhs; rw [← List.map_id ls]
    exact List.map_congr_left fun l _ => tx_cps l
  · rw [tx_len]
    simp only [List.length_map, List.length_cons, List.length_nil]
    omega
theorem join_0 {ls : List (List Nat)} (h : ∀ l ∈ ls, l.length ≤ 1000) (hl : ls.length ≤ 1000) : sBM .join (tx []) [.lst (ls.map fun l => .str (tx l))] = some (.d (.str (tx ls.flatten))) := by
  have hs : ∀ ls : List (List Nat), (∀ l ∈ ls, l.length ≤ 1000) → ((ls.map tx).map Str.length).sum ≤ ls.length * 1000 := by
    intro ls
    induction ls with
    | nil => intro _; simp
    | cons l ls ih =>
      intro h
      have h1 := ih fun z hz => h z (List.mem_cons_of_mem _ hz)
      have h2 := h l List.mem_cons_self
      simp only [List.map_cons, List.sum_cons, tx_len, List.length_cons]
      omega
  have h1 := hs ls h
  have hj : ∀ ls : List (List Nat), (Str.join (tx []) (ls.map tx)).cps.toList = ls.flatten := by
    intro ls
    induction ls with
    | nil => rfl
    | cons l ls ih =>
      cases ls with
      | nil => simp [Str.join]
      | cons m r =>
        show (tx l ++ tx [] ++ Str.join (tx []) ((m :: r).map tx)).cps.toList = _
        rw [Str.cps_append, Str.cps_append, Array.toList_append, Array.toList_append, ih]
        simp
  show (match strsD (ls.map fun l => .str (tx l)) with
    | some ys => if (ys.map Str.length).sum + ys.length * (tx []).length ≤ 16777216 then some (W.d (.str (Txt.join (tx []) ys))) else none
    | none => none) = _
  rw [strsD_map]
  dsimp only
  rw [if_pos]
  · congr 3
    show Builtin.Str.glued _ _ = _
    rw [StrLaws.glued_eq_join]
    exact tx_of (hj ls)
  · rw [tx_len]
    simp only [List.length_map, List.length_nil]
    omega
theorem f_line {e : Eqn} (h : WF e) : Γ.fn 9 [eqD e] = .ret (.d (.str (tx (lineE e)))) := by
  rw [e_line]
  have h1 := (isW_all h.w).2.2
  have h2 := (isW_all h.v).2.2
  have h5 := h.p8
  have h6 := h.q8
  have a1 := f_law_side (okT_L h.p) (w := e.1.1) (by omega)
  have a2 := f_law_side (okT_L h.q) (w := e.2.1) (by omega)
  have b1 := sideL_len e.1.1 e.1.2
  have b2 := sideL_len e.2.1 e.2.2
  have i0 : ∀ x y z u : D, atI [x, y, z, u] 0 = some x := fun _ _ _ _ => rfl
  have i1 : ∀ x y z u : D, atI [x, y, z, u] 1 = some y := fun _ _ _ _ => rfl
  have i2 : ∀ x y z u : D, atI [x, y, z, u] 2 = some z := fun _ _ _ _ => rfl
  have i3 : ∀ x y z u : D, atI [x, y, z, u] 3 = some u := fun _ _ _ _ => rfl
  have c1 : (sideL e.1.1 e.1.2).length + 3 ≤ 16777216 := by omega
  have c2 : (sideL e.1.1 e.1.2).length + (3 + (sideL e.2.1 e.2.2).length) ≤ 16777216 := by omega
  have c3 : (sideL e.1.1 e.1.2).length + 3 + (sideL e.2.1 e.2.2).length ≤ 16777216 := by omega
  simp (disch := first | omega | (simp; done) | (simp; omega) | fail) [b_law_line, N_law_line, initS, outOf, eqD, a1, a2, i0, i1, i2, i3, lineE, lineL, c1, c2, c3]
theorem tex1 {e : Eqn} (h : WF e) (x0 x2 x3 x4 x5 : Option W) (ls : List D) (hl : ls.length ≤ 1000) :
    ∃ S, (Tg.tp [(2, "symbol"), (3, "letters"), (4, "other"), (5, "others")]).g (eqD e) [x0, some (.l ls), x2, x3, x4, x5] = some S ∧ (evS s9 Γ l_Identities_text_1 S).goes fun S2 => ∃ y2 y3 y4 y5, S2 = [x0, some (.l (ls ++ [.str (tx (lineE e))])), y2, y3, y4, y5] := by
  have h1 := (isW_all h.w).2.2
  have h2 := (isW_all h.v).2.2
  have h5 := h.p8
  have h6 := h.q8
  have a1 := f_side_text (okT_L h.p) (w := e.1.1) (by omega)
  have a2 := f_side_text (okT_L h.q) (w := e.2.1) (by omega)
  have b1 := sideL_len e.1.1 e.1.2
  have b2 := sideL_len e.2.1 e.2.2
  have c1 : (sideL e.1.1 e.1.2).length + 3 ≤ 16777216 := by omega
  have c2 : (sideL e.1.1 e.1.2).length + (3 + (sideL e.2.1 e.2.2).length) ≤ 16777216 := by omega
  have c3 : (sideL e.1.1 e.1.2).length + 3 + (sideL e.2.1 e.2.2).length ≤ 16777216 := by omega
  have hs : ls.length < 16777216 := by omega
  refine ⟨_, rfl, ?_⟩
  unfold l_Identities_text_1
  simp (disch := first | omega | (simp; done) | (simp; omega) | fail) [eqD, setAll, a1, a2, lineE, lineL, c1, c2, c3, hs]
theorem f_text {es : List Eqn} {sy : Syms} (h : ∀ e ∈ es, WF e) (hl : es.length ≤ 1000) : Γ.mt 2 [objD es sy] = .ret (.d (.str (tx (joinL (es.map lineE))))) := by
  rw [e_text]
  have e0 : initS N_Identities_text.length [objD es sy] = [some (.d (objD es sy)), none, none, none, none, none] := rfl
  rw [e0]
  obtain ⟨_, h1, fs, ls, y2, y3, y4, y5, rfl, h2, h3, h4⟩ := loopS_inv (g := (Tg.tp [(2, "symbol"), (3, "letters"), (4, "other"), (5, "others")]).g) (body := evS s9 Γ l_Identities_text_1)
    (fun xs S => ∃ (fs : List Eqn) (ls : List D) (y2 y3 y4 y5 : Option W), S = [some (.d (objD es sy)), some (.l ls), y2, y3, y4, y5] ∧ xs = fs.map eqD ∧ (ls ++ fs.map fun e => .str (tx (lineE e))) = (es.map fun e => .str (tx (lineE e))) ∧ ∀ e ∈ fs, WF e)
    (fun x xs S ⟨fs, ls, y2, y3, y4, y5, hS, hx, hls, hw⟩ => by
      cases fs with
      | nil => cases hx
      | cons e fs =>
        simp only [List.map_cons, List.cons.injEq] at hx
        obtain ⟨rfl, rfl⟩ := hx
        have hlen := congrArg List.length hls
        simp at hlen
        obtain ⟨S1, g1, g2⟩ := tex1 (hw e List.mem_cons_self) (some (.d (objD es sy))) y2 y3 y4 y5 ls (by omega)
        obtain ⟨S2, g3, z2, z3, z4, z5, rfl⟩ := g2.get
        rw [hS]
        refine ⟨S1, _, g1, .inl g3, fs, ls ++ [.str (tx (lineE e))], z2, z3, z4, z5, rfl, rfl, ?_, fun z hz => hw z (List.mem_cons_of_mem _ hz)⟩
        rw [← hls]; simp)
    (es.map eqD) [some (.d (objD es sy)), some (.l []), none, none, none, none] ⟨es, [], none, none, none, none, rfl, rfl, by simp, h⟩
  have h2 : fs = [] := by simpa using h2.symm
  subst h2
  simp only [List.map_nil, List.append_nil] at h3
  subst h3
  have hj := join_nl (ls := es.map lineE) (fun l hm => by
    obtain ⟨e, he, rfl⟩ := List.mem_map.mp hm
    have := lineE_len (h e he); omega) (by simpa using hl)
  rw [List.map_map] at hj
  have hj : sBM .join (tx [10]) [.lst (es.map fun e => .str (tx (lineE e)))] = _ := hj
  simp only [objD] at h1 ⊢
  simp at h1
  simp [b_Identities_text, outOf, h1, hj]
end N17
end
section
set_option Elab.async false
set_option linter.all false
set_option autoImplicit false
set_option maxRecDepth 100000
set_option maxHeartbeats 4000000
/-! Oh: k17: pairs, reading written lines, errors told. -/
namespace N17
open PySem PySem.Spec PyProof.Rows L2 Ly
/-! ### pairs -/
def pairD (p : List Nat × Nat) : D := .tup [.str (tx p.1), .int p.2]
def addP (ps : Syms) (p : List Nat × Nat) : Syms := if p ∈ ps then ps else ps ++ [p]
def addPE (ps : Syms) (e : Eqn) : Syms := addP (addP ps (e.1.1, e.1.2.length)) (e.2.1, e.2.2.length)
def pairsL (es : List Eqn) : Syms := es.foldl addPE []
theorem pairD_inj {a b : List Nat × Nat} (h : pairD a = pairD b) : a = b := by
  obtain ⟨a1, a2⟩ := a
  obtain ⟨b1, b2⟩ := b
  simp [pairD] at h
  have h2 : a2 = b2 := by omega
  rw [h.1, h2]
theorem pairD_pl {p : List Nat × Nat} (h : okT p.1 = true) : plD 1 (pairD p) = true := by
  simp [pairD, plD, plDs, okT_str, h]
theorem pairDs_pl {ps : Syms} (h : ∀ p ∈ ps, okT p.1 = true) : plDs 1 (ps.map pairD) = true := by
  rw [plDs_all, List.all_eq_true]
  intro d hd
  obtain ⟨e, he, rfl⟩ := List.mem_map.mp hd
  exact pairD_pl (h e he)
theorem din_pairs {ps : Syms} {p : List Nat × Nat} (h : ∀ p ∈ ps, okT p.1 = true) (hp : okT p.1 = true) : din (pairD p) (.lst (ps.map pairD)) = some (decide (p ∈ ps)) := by
  obtain ⟨b, e, hb⟩ := din_iff (pairD_pl hp) (pairDs_pl h) (by decide) (by decide)
  rw [e]
  congr 1
  rw [Bool.eq_iff_iff, hb, decide_eq_true_eq, List.mem_map]
  constructor
  · rintro ⟨q, hq, e⟩; rw [← pairD_inj e]; exact hq
  · intro z; exact ⟨p, z, rfl⟩
theorem addP_ok {ps : Syms} {p : List Nat × Nat} (h : ∀ p ∈ ps, okT p.1 = true) (hp : okT p.1 = true) : ∀ q ∈ addP ps p, okT q.1 = true := by
  unfold addP
  split
  · exact h
  · intro q hq
    rcases List.mem_append.mp hq with hq | hq
    · exact h q hq
    · rw [List.mem_singleton.mp hq]; exact hp
theorem addP_len (ps : Syms) (p : List Nat × Nat) : (addP ps p).length ≤ ps.length + 1 := by
  unfold addP
  split
  · omega
  · simp
theorem pr1 {ps : Syms} {p : List Nat × Nat} (h : ∀ p ∈ ps, okT p.1 = true) (hp : okT p.1 = true) (hl : ps.length ≤ 100000) (x0 x2 : Option W) :
    evS s17 Γ l_law_pairs_1 [x0, some (.l (ps.map pairD)), x2, some (.d (pairD p))] = .nx [x0, some (.l ((addP ps p).map pairD)), x2, some (.d (pairD p))] := by
  have hd := din_pairs h hp
  have hs : ps.length < 16777216 := by omega
  unfold l_law_pairs_1 addP
  by_cases c : p ∈ ps <;> simp [hd, c, hs]
theorem pr2 {ps : Syms} {e : Eqn} (h : ∀ p ∈ ps, okT p.1 = true) (he : WF e) (hl : ps.length ≤ 50000) (x0 x3 : Option W) :
    evS s17 Γ l_law_pairs_2 [x0, some (.l (ps.map pairD)), some (.d (eqD e)), x3] = .nx [x0, some (.l ((addPE ps e).map pairD)), some (.d (eqD e)), some (.d (pairD (e.2.1, e.2.2.length)))] := by
  have h5 := he.p8
  have h6 := he.q8
  have p1 := pr1 (p := (e.1.1, e.1.2.length)) h (okT_W he.w) (by omega) x0 (some (.d (eqD e)))
  have l1 := addP_len ps (e.1.1, e.1.2.length)
  have p2 := pr1 (ps := addP ps (e.1.1, e.1.2.length)) (p := (e.2.1, e.2.2.length)) (addP_ok h (okT_W he.w)) (okT_W he.v) (by omega) x0 (some (.d (eqD e)))
  have i0 : ∀ x y z u : D, atI [x, y, z, u] 0 = some x := fun _ _ _ _ => rfl
  have i1 : ∀ x y z u : D, atI [x, y, z, u] 1 = some y := fun _ _ _ _ => rfl
  have i2 : ∀ x y z u : D, atI [x, y, z, u] 2 = some z := fun _ _ _ _ => rfl
  have i3 : ∀ x y z u : D, atI [x, y, z, u] 3 = some u := fun _ _ _ _ => rfl
  simp only [pairD, eqD] at p1 p2 ⊢
  unfold l_law_pairs_2 addPE
  simp (disch := first | omega | (simp; done) | fail) [i0, i1, i2, i3, loopS, p1, p2]
theorem addPE_ok {ps : Syms} {e : Eqn} (h : ∀ p ∈ ps, okT p.1 = true) (he : WF e) : ∀ q ∈ addPE ps e, okT q.1 = true := addP_ok (addP_ok h (okT_W he.w)) (okT_W he.v)
theorem addPE_len (ps : Syms) (e : Eqn) : (addPE ps e).length ≤ ps.length + 2 := by
  have h1 := addP_len ps (e.1.1, e.1.2.length)
  have h2 := addP_len (addP ps (e.1.1, e.1.2.length)) (e.2.1, e.2.2.length)
  unfold addPE
  omega
theorem pr3 (x0 : Option W) : ∀ (es : List Eqn) (ps : Syms) (x2 x3 : Option W), (∀ e ∈ es, WF e) → (∀ p ∈ ps, okT p.1 = true) → ps.length + 2 * es.length ≤ 50000 →
    (loopS (Tg.nm 2 "one").g (evS s17 Γ l_law_pairs_2) (es.map eqD) [x0, some (.l (ps.map pairD)), x2, x3]).goes fun S => ∃ y2 y3, S = [x0, some (.l ((es.foldl addPE ps).map pairD)), y2, y3]
  | [], ps, x2, x3, _, _, _ => ⟨x2, x3, rfl⟩
  | e :: es, ps, x2, x3, hw, hp, hl => by
    have hl : ps.length + 2 * (es.length + 1) ≤ 50000 := hl
    have h1 := pr2 hp (hw e List.mem_cons_self) (by omega) x0 x3
    have h2 := addPE_len ps e
    have := pr3 x0 es (addPE ps e) (some (.d (eqD e))) (some (.d (pairD (e.2.1, e.2.2.length)))) (fun z hz => hw z (List.mem_cons_of_mem _ hz)) (addPE_ok hp (hw e List.mem_cons_self)) (by omega)
    simp only [List.map_cons, loopS, Tg_nm, List.set_cons_succ, List.set_cons_zero, h1]
    exact this
theorem f_pairs {es : List Eqn} (hw : ∀ e ∈ es, WF e) (hl : es.length ≤ 1000) : Γ.fn 10 [.lst (es.map eqD)] = .ret (.d (.lst ((pairsL es).map pairD))) := by
  rw [e_pairs]
  obtain ⟨_, h, y2, y3, rfl⟩ := (pr3 (some (.d (.lst (es.map eqD)))) es [] none none hw (fun _ h => by cases h) (by simp; omega)).get
  simp at h
  simp [b_law_pairs, N_law_pairs, initS, outOf, h, pairsL]
/-! ### reading written lines -/
/-- each name has one arity -/
def Cons (ar : List Nat → Nat) (es : List Eqn) : Prop := ∀ e ∈ es, e.1.2.length = ar e.1.1 ∧ e.2.2.length = ar e.2.1
def Good (ar : List Nat → Nat) (sy : Syms) : Prop := ∀ p ∈ sy, p.2 = ar p.1
theorem look_good {ar : List Nat → Nat} : ∀ {sy : Syms} {w : List Nat}, Good ar sy → sy.lookup w = if (w, ar w) ∈ sy then some (ar w) else none
  | [], w, _ => by simp
  | (v, n) :: sy, w, h => by
    have hv : n = ar v := h (v, n) List.mem_cons_self
    have ih := look_good (sy := sy) (w := w) fun p hp => h p (List.mem_cons_of_mem _ hp)
    rw [List.lookup_cons]
    by_cases c : w = v
    · subst c
      simp [hv]
    · have h3 : (w == v) = false := by simpa using c
      rw [h3]
      simp [ih, c]
theorem addS_good {ar : List Nat → Nat} {sy : Syms} {w : List Nat} (h : Good ar sy) : addS sy w (ar w) = some (addP sy (w, ar w)) := by
  unfold addS addP
  rw [look_good h]
  by_cases c : (w, ar w) ∈ sy <;> simp [c]
theorem addP_good {ar : List Nat → Nat} {sy : Syms} {w : List Nat} (h : Good ar sy) : Good ar (addP sy (w, ar w)) := by
  unfold addP
  split
  · exact h
  · intro p hp
    rcases List.mem_append.mp hp with hp | hp
    · exact h p hp
    · rw [List.mem_singleton.mp hp]
theorem addE_good {ar : List Nat → Nat} {sy : Syms} {e : Eqn} (h : Good ar sy) (he : e.1.2.length = ar e.1.1 ∧ e.2.2.length = ar e.2.1) : addE sy e = some (addPE sy e) ∧ Good ar (addPE sy e) := by
  unfold addE addPE
  rw [he.1, he.2, addS_good h]
  exact ⟨addS_good (addP_good h), addP_good (addP_good h)⟩
theorem pLine_wf {e : Eqn} (h : WF e) : pLine (lineE e) = some e := pLine_ok h.w h.p h.p8 h.v h.q h.q8
theorem readL_app {ar : List Nat → Nat} : ∀ (fs : List Eqn) (n : Nat) (es : List Eqn) (sy : Syms) (rest : List (List Nat)), (∀ e ∈ fs, WF e) → Cons ar fs → Good ar sy → n + fs.length ≤ 101 →
    readL n es sy (fs.map lineE ++ rest) = readL (n + fs.length) (es ++ fs) (fs.foldl addPE sy) rest
  | [], n, es, sy, rest, _, _, _, _ => by simp
  | f :: fs, n, es, sy, rest, hw, hc, hg, hn => by
    have hn : n + (fs.length + 1) ≤ 101 := hn
    obtain ⟨h1, h2⟩ := addE_good hg (hc f List.mem_cons_self)
    rw [List.map_cons, List.cons_append, readL, if_pos (by omega), pLine_wf (hw f List.mem_cons_self)]
    dsimp only
    rw [h1]
    dsimp only
    rw [readL_app fs (n + 1) (es ++ [f]) (addPE sy f) rest (fun z hz => hw z (List.mem_cons_of_mem _ hz)) (fun z hz => hc z (List.mem_cons_of_mem _ hz)) h2 (by omega)]
    congr 1
    · simp; omega
    · simp
theorem good_nil {ar : List Nat → Nat} : Good ar [] := fun _ h => by cases h
theorem good_fold {ar : List Nat → Nat} : ∀ {fs : List Eqn} {sy : Syms}, Cons ar fs → Good ar sy → Good ar (fs.foldl addPE sy)
  | [], _, _, h => h
  | f :: fs, sy, hc, h => good_fold (fs := fs) (fun z hz => hc z (List.mem_cons_of_mem _ hz)) (addE_good h (hc f List.mem_cons_self)).2
/-- no line holds a newline -/
theorem nl_L {l : List Nat} (h : l.all isL = true) : 10 ∉ l := by
  intro z
  have := List.all_eq_true.mp h 10 z
  exact absurd this (by decide)
theorem nl_side {w p : List Nat} (hw : w.all isL = true) (hp : p.all isL = true) : 10 ∉ sideL w p := by
  unfold sideL
  cases p with
  | nil => exact nl_L hw
  | cons c q =>
    intro z
    rcases List.mem_append.mp z with z | z
    · exact nl_L hw z
    · rcases List.mem_cons.mp z with z | z
      · cases z
      · exact nl_L hp z
theorem nl_line {e : Eqn} (h : WF e) : 10 ∉ lineE e := by
  unfold lineE lineL
  intro z
  rcases List.mem_append.mp z with z | z
  · exact nl_side (isW_all h.w).1 h.p z
  · simp only [List.mem_cons] at z
    rcases z with z | z | z | z
    · cases z
    · cases z
    · cases z
    · exact nl_side (isW_all h.v).1 h.q z
theorem joinL_ne : ∀ {ls : List (List Nat)}, ls ≠ [] → ls ≠ [[]] → joinL ls ≠ []
  | [], h, _ => absurd rfl h
  | [x], _, h => by
    intro z
    exact h (by rw [show x = [] from z])
  | x :: y :: r, _, _ => by
    show x ++ 10 :: joinL (y :: r) ≠ []
    simp
theorem linesOf_join {ls : List (List Nat)} (h : ls ≠ [[]]) (hn : ∀ l ∈ ls, 10 ∉ l) : linesOf (joinL ls) = ls := by
  unfold linesOf
  by_cases c : ls = []
  · subst c; rfl
  · rw [if_neg (joinL_ne c h), sG_join c hn]
/-! ### errors told -/
theorem sub20 (j : Nat) (b : Bool) (h : subT s20.sub 3 j = some b) : subT s20.sub 3 j = some b := h
theorem f_error {t : List Nat} {k : Nat} (ht : okT t = true) (hl : t.length ≤ 1000000) (h : readT t = .error k) : Γ.fn 13 [.str (tx t)] = .ret (.d (.lst [.tup [.str "BadIdentities", .int k]])) := by
  rw [e_error]
  have h1 := f_init ht hl
  rw [h] at h1
  have c0 : subT s20.sub 3 0 = some true := rfl
  have c1 : subT s20.sub 3 1 = some false := rfl
  have c2 : subT s20.sub 3 2 = some false := rfl
  have c3 : subT s20.sub 3 3 = some true := rfl
  have c4 : subT s20.sub 3 4 = some false := rfl
  have c5 : (3, tx ([108, 105, 110, 101])) ∈ s20.xcs := by rw [← List.contains_iff_mem, ← k_3]; rfl
  have c6 := f_plainH k
  have c7 : 0 < 16777216 := by omega
  simp (disch := first | omega | (simp; done) | fail) [b_law_error, N_law_error, initS, outOf, h1, xBad, c0, c1, c2, c3, c4, c5, c6, c7]
end N17
end
section
set_option Elab.async false
set_option linter.all false
set_option autoImplicit false
set_option maxRecDepth 100000
set_option maxHeartbeats 4000000
/-! Oi: k17: read_held. -/
namespace N17
open PySem PySem.Spec PyProof.Rows L2 Ly
def textE (es : List Eqn) : List Nat := joinL (es.map lineE)
theorem okT_join : ∀ {ls : List (List Nat)}, (∀ l ∈ ls, okT l = true) → okT (joinL ls) = true
  | [], _ => okT_nil
  | [x], h => h x List.mem_cons_self
  | x :: y :: r, h => by
    have h1 := h x List.mem_cons_self
    have h2 := okT_join (ls := y :: r) fun z hz => h z (List.mem_cons_of_mem _ hz)
    show okT (x ++ 10 :: joinL (y :: r)) = true
    simp [h1, h2]
theorem joinL_len : ∀ {ls : List (List Nat)}, (∀ l ∈ ls, l.length ≤ 1000) → (joinL ls).length ≤ 1001 * ls.length
  | [], _ => Nat.zero_le _
  | [x], h => by have := h x List.mem_cons_self; show x.length ≤ _; simp; omega
  | x :: y :: r, h => by
    have h1 := h x List.mem_cons_self
    have h2 := joinL_len (ls := y :: r) fun z hz => h z (List.mem_cons_of_mem _ hz)
    show (x ++ 10 :: joinL (y :: r)).length ≤ _
    simp at h2 ⊢
    omega
theorem okT_lines {es : List Eqn} (h : ∀ e ∈ es, WF e) : ∀ l ∈ es.map lineE, okT l = true := by
  intro l hl
  obtain ⟨e, he, rfl⟩ := List.mem_map.mp hl
  exact okT_line (h e he)
theorem len_lines {es : List Eqn} (h : ∀ e ∈ es, WF e) : ∀ l ∈ es.map lineE, l.length ≤ 1000 := by
  intro l hl
  obtain ⟨e, he, rfl⟩ := List.mem_map.mp hl
  have := lineE_len (h e he)
  omega
theorem nl_lines {es : List Eqn} (h : ∀ e ∈ es, WF e) : ∀ l ∈ es.map lineE, 10 ∉ l := by
  intro l hl
  obtain ⟨e, he, rfl⟩ := List.mem_map.mp hl
  exact nl_line (h e he)
theorem ne_lineE (e : Eqn) : lineE e ≠ [] := by
  unfold lineE lineL
  simp
theorem ne_lines (es : List Eqn) : es.map lineE ≠ [[]] := by
  intro h
  cases es with
  | nil => cases h
  | cons e es =>
    simp only [List.map_cons, List.cons.injEq] at h
    exact ne_lineE e h.1
theorem read_text {ar : List Nat → Nat} {es : List Eqn} (hw : ∀ e ∈ es, WF e) (hc : Cons ar es) (hl : es.length ≤ 100) : readT (textE es) = .ok (es, pairsL es) := by
  unfold readT textE
  rw [linesOf_join (ne_lines es) (nl_lines hw)]
  have := readL_app (ar := ar) es 1 [] [] [] hw hc good_nil (by omega)
  rw [List.append_nil] at this
  rw [this]
  rfl
theorem f_new {ar : List Nat → Nat} {es : List Eqn} (hw : ∀ e ∈ es, WF e) (hc : Cons ar es) (hl : es.length ≤ 100) : Γ.nw 0 [.str (tx (textE es))] = .ret (.d (objD es (pairsL es))) := by
  have h := f_init (t := textE es) (okT_join (okT_lines hw)) (by have := joinL_len (len_lines hw); simp at this; unfold textE; omega)
  rw [read_text hw hc hl] at h
  exact h
theorem itemsD_sy : ∀ sy : Syms, itemsD (ksD sy) (vsD sy) = sy.map pairD
  | [] => rfl
  | p :: sy => by
    show D.tup [.str (tx p.1), .int p.2] :: itemsD (ksD sy) (vsD sy) = _
    rw [itemsD_sy sy]
    rfl
theorem pairs_ok {es : List Eqn} (hw : ∀ e ∈ es, WF e) : ∀ p ∈ pairsL es, okT p.1 = true := by
  have key : ∀ (es : List Eqn) (ps : Syms), (∀ e ∈ es, WF e) → (∀ p ∈ ps, okT p.1 = true) → ∀ p ∈ es.foldl addPE ps, okT p.1 = true := by
    intro es
    induction es with
    | nil => intro ps _ h; exact h
    | cons e es ih => intro ps hw h; exact ih _ (fun z hz => hw z (List.mem_cons_of_mem _ hz)) (addPE_ok h (hw e List.mem_cons_self))
  exact key es [] hw fun p h => by cases h
theorem pairs_len (es : List Eqn) : (pairsL es).length ≤ 2 * es.length := by
  have key : ∀ (es : List Eqn) (ps : Syms), (es.foldl addPE ps).length ≤ ps.length + 2 * es.length := by
    intro es
    induction es with
    | nil => intro ps; simp
    | cons e es ih =>
      intro ps
      have h1 := ih (addPE ps e)
      have h2 := addPE_len ps e
      simp only [List.foldl_cons, List.length_cons]
      omega
  have := key es []
  unfold pairsL
  simpa using this
/-! ### the parts of read_held -/
theorem rhc3 {es : List Eqn} (hw : ∀ e ∈ es, WF e) (hl : es.length ≤ 1000) (x1 x2 x3 x4 x5 x6 x7 x8 x9 x10 : Option W) :
    (ev s18 Γ c_law_read_held_3).e [some (.d (.lst (es.map eqD))), x1, x2, x3, x4, x5, x6, x7, x8, x9, x10] = .ok (.t (.l ((es.map lineE).map fun l => .str (tx l)))) [some (.d (.lst (es.map eqD))), x1, x2, x3, x4, x5, x6, x7, x8, x9, x10] := by
  unfold c_law_read_held_3
  refine (lc_T es eqD (fun e => .str (tx (lineE e))) (S1 := [some (.d (.lst (es.map eqD))), x1, x2, x3, x4, x5, x6, x7, x8, x9, x10]) (by simp) (fun e he => ?_) (by omega)).trans (by simp)
  have h1 := f_line (hw e he)
  exact ⟨_, [some (.d (.lst (es.map eqD))), x1, some (.d (eqD e)), x3, x4, x5, x6, x7, x8, x9, x10], _, .t (.d (.str (tx (lineE e)))), _, rfl, by simp [h1], rfl, rfl, rfl⟩
theorem rhc2 (e : Eqn) (x0 x1 x2 x3 x4 x5 x7 x8 x9 x10 : Option W) :
    (ev s18 Γ c_law_read_held_2).e [x0, x1, x2, x3, x4, x5, some (.d (eqD e)), x7, x8, x9, x10] = .ok (.t (.l [.bl true, .bl true, .bl true, .bl true])) [x0, x1, x2, x3, x4, x5, some (.d (eqD e)), x7, x8, x9, x10] := by
  unfold c_law_read_held_2
  refine (lc_T [e.1.1, e.1.2, e.2.1, e.2.2] (fun l => D.str (tx l)) (fun _ => .bl true) (S1 := [x0, x1, x2, x3, x4, x5, some (.d (eqD e)), x7, x8, x9, x10]) (by simp [eqD]) (fun l hl => ?_) (by simp)).trans (by simp)
  exact ⟨_, [x0, x1, x2, x3, x4, x5, some (.d (eqD e)), x7, some (.d (.str (tx l))), x9, x10], _, .t (.d (.bl true)), _, rfl, by simp, rfl, rfl, rfl⟩
theorem rhc1 (sy : Syms) (hl : sy.length ≤ 1000) (x0 x1 x2 x3 x4 x5 x6 x7 x8 x10 : Option W) :
    (ev s18 Γ c_law_read_held_1).e [x0, x1, x2, x3, x4, x5, x6, x7, x8, some (.l (sy.map pairD)), x10] = .ok (.t (.l (sy.map fun _ => .bl true))) [x0, x1, x2, x3, x4, x5, x6, x7, x8, some (.d (.lst (sy.map pairD))), x10] := by
  unfold c_law_read_held_1
  refine (lc_T sy pairD (fun _ => .bl true) (S1 := [x0, x1, x2, x3, x4, x5, x6, x7, x8, some (.d (.lst (sy.map pairD))), x10]) (by simp) (fun p hp => ?_) (by omega)).trans (by simp)
  have h1 := f_plain p.2
  exact ⟨_, [x0, x1, x2, x3, x4, x5, x6, x7, some (.d (.int p.2)), some (.d (.lst (sy.map pairD))), some (.d (.str (tx p.1)))], _, .t (.d (.bl true)), _, rfl, by simp [h1], rfl, rfl, rfl⟩
theorem rh1 (e : Eqn) (x0 x1 x2 x3 x4 x5 x7 x8 x9 x10 : Option W) : evS s18 Γ l_law_read_held_1 [x0, x1, x2, x3, x4, x5, some (.d (eqD e)), x7, x8, x9, x10] = .nx [x0, x1, x2, x3, x4, x5, some (.d (eqD e)), x7, x8, x9, x10] := by
  have h := rhc2 e x0 x1 x2 x3 x4 x5 x7 x8 x9 x10
  have hb : sBI .all [.lst [.bl true, .bl true, .bl true, .bl true]] = some (.d (.bl true)) := rfl
  simp only [eqD] at h ⊢
  simp [l_law_read_held_1, h, hb]
theorem rh2 {es : List Eqn} (hw : ∀ e ∈ es, WF e) (x1 x2 x3 x4 x5 x6 x8 x9 x10 : Option W) :
    (evS s18 Γ l_law_read_held_2 [some (.d (.lst (es.map eqD))), x1, x2, x3, x4, x5, x6, some (.d (.lst (es.map eqD))), x8, x9, x10]).goes fun S => ∃ y6, S = [some (.d (.lst (es.map eqD))), x1, x2, x3, x4, x5, y6, some (.d (.lst (es.map eqD))), x8, x9, x10] := by
  have hd := deq_leqs hw hw
  have hlp : ∀ (fs : List Eqn) (x6 : Option W), (loopS (Tg.nm 6 "one").g (evS s18 Γ l_law_read_held_1) (fs.map eqD) [some (.d (.lst (es.map eqD))), x1, x2, x3, x4, x5, x6, some (.d (.lst (es.map eqD))), x8, x9, x10]).goes fun S => ∃ y6, S = [some (.d (.lst (es.map eqD))), x1, x2, x3, x4, x5, y6, some (.d (.lst (es.map eqD))), x8, x9, x10] := by
    intro fs
    induction fs with
    | nil => intro x6; exact ⟨x6, rfl⟩
    | cons f fs ih =>
      intro x6
      simp only [List.map_cons, loopS, Tg_nm, List.set_cons_succ, List.set_cons_zero, rh1]
      exact ih _
  obtain ⟨_, h, y6, rfl⟩ := (hlp es x6).get
  simp [l_law_read_held_2, hd, h]
theorem rh3 {es : List Eqn} (hl : es.length ≤ 100) (x0 x1 x2 x3 x4 x7 x8 x9 x10 : Option W) : ∀ (fs gs : List Eqn) (x6 : Option W), gs ++ fs = es →
    (loopS (Tg.nm 6 "one").g (evS s18 Γ l_law_read_held_3) (fs.map eqD) [x0, x1, x2, x3, x4, some (.l (gs.map eqD)), x6, x7, x8, x9, x10]).goes fun S => ∃ y6, S = [x0, x1, x2, x3, x4, some (.l (es.map eqD)), y6, x7, x8, x9, x10]
  | [], gs, x6, h => by
    rw [List.append_nil] at h
    subst h
    exact ⟨x6, rfl⟩
  | f :: fs, gs, x6, h => by
    have hlen := congrArg List.length h
    simp at hlen
    have h1 : gs.length < 16777216 := by omega
    have h2 : ¬ (200 < (gs.length : Int) + 1) := by omega
    have hb : evS s18 Γ l_law_read_held_3 [x0, x1, x2, x3, x4, some (.l (gs.map eqD)), some (.d (eqD f)), x7, x8, x9, x10] = .nx [x0, x1, x2, x3, x4, some (.l ((gs ++ [f]).map eqD)), some (.d (eqD f)), x7, x8, x9, x10] := by
      simp [l_law_read_held_3, h1, h2]
    simp only [List.map_cons, loopS, Tg_nm, List.set_cons_succ, List.set_cons_zero, hb]
    exact rh3 hl x0 x1 x2 x3 x4 x7 x8 x9 x10 fs (gs ++ [f]) _ (by simpa using h)
theorem f_read_held {ar : List Nat → Nat} {es : List Eqn} (hw : ∀ e ∈ es, WF e) (hc : Cons ar es) (hl : es.length ≤ 100) : Γ.fn 11 [.lst (es.map eqD)] = .ret (.d (.bl true)) := by
  rw [e_read_held]
  have e0 : initS N_law_read_held.length [.lst (es.map eqD)] = [some (.d (.lst (es.map eqD))), none, none, none, none, none, none, none, none, none, none] := rfl
  rw [e0]
  have hT := okT_join (okT_lines hw)
  have g1 := rhc3 hw (by omega) none none none none none none none none none none
  have hj := join_nl (len_lines hw) (by simp; omega)
  have hn := f_new hw hc hl
  unfold textE at hn
  have hlen := f_len es (pairsL es)
  have htx := f_text (sy := pairsL es) hw (by omega)
  have heq := f_eq (sy := pairsL es) (sz := pairsL es) hw hw
  have heqs := f_eqs (es := es) (sy := pairsL es) (tx (joinL (es.map lineE)))
  have hpr := f_pairs hw (by omega)
  have hdp : deq (.lst ((pairsL es).map pairD)) (.lst ((pairsL es).map pairD)) = some true := deq_same (n := 2) (pairDs_pl (pairs_ok hw)) (by decide)
  have hpl := pairs_len es
  have hit := itemsD_sy (pairsL es)
  generalize pairsL es = sy at hn hlen htx heq heqs hpr hdp hpl hit ⊢
  have hl3 : (es.length : Int) < 9223372036854775808 := by omega
  simp only [objD] at hn hlen htx heq heqs
  simp at hn hlen htx heq heqs g1 hj
  obtain ⟨S, h3, y6, e3⟩ := (rh3 hl (some (.d (.lst (es.map eqD)))) (some (.d (.str (tx (joinL (es.map lineE)))))) none (some (.d (objD es sy))) (some (.d (objD es sy))) none none none none es [] none rfl).get
  subst e3
  have h2 := fun x3 x4 x5 x6 => rh2 hw (some (.d (.str (tx (joinL (es.map lineE)))))) none x3 x4 x5 x6 none none none
  have h4 := fun x3 x4 x5 x6 => rhc1 sy (by omega) (some (.d (.lst (es.map eqD)))) (some (.d (.str (tx (joinL (es.map lineE)))))) none x3 x4 x5 x6 (some (.d (.lst (es.map eqD)))) none none
  simp only [objD] at h3 h2 h4
  simp at h3
  -- the two lists found
  have h5 : ∀ x3 x4 x5 x6 x7, (loopS (Tg.nm 7 "found").g (evS s18 Γ l_law_read_held_2) [.lst (es.map eqD), .lst (es.map eqD)] [some (.d (.lst (es.map eqD))), some (.d (.str (tx (joinL (es.map lineE))))), none, x3, x4, x5, x6, x7, none, none, none]).goes fun S => ∃ y6, S = [some (.d (.lst (es.map eqD))), some (.d (.str (tx (joinL (es.map lineE))))), none, x3, x4, x5, y6, some (.d (.lst (es.map eqD))), none, none, none] := by
    intro x3 x4 x5 x6 x7
    obtain ⟨_, a1, z6, rfl⟩ := (h2 x3 x4 x5 x6).get
    obtain ⟨_, a2, z7, rfl⟩ := (h2 x3 x4 x5 z6).get
    simp only [loopS, Tg_nm, List.set_cons_succ, List.set_cons_zero, a1, a2]
    exact ⟨z7, rfl⟩
  obtain ⟨S, h6, z6, e6⟩ := (h5 (some (.d (objD es sy))) (some (.d (objD es sy))) (some (.d (.lst (es.map eqD)))) y6 none).get
  subst e6
  simp only [objD] at h6
  simp at h6
  have ha : (sy.all fun _ => true) = true := by simp
  unfold b_law_read_held
  simp (disch := first | omega | (simp; done) | assumption | fail) [g1, hj, hn, hlen, htx, heq, heqs, hpr, hdp, hit, h3, h6, h4, hl3, hT, ha, outOf]
end N17
end
section
set_option Elab.async false
set_option linter.all false
set_option autoImplicit false
set_option maxRecDepth 100000
set_option maxHeartbeats 4000000
/-! Oj: k17: unequal_held. -/
namespace N17
open PySem PySem.Spec PyProof.Rows L2 Ly
theorem text_inj {ar : List Nat → Nat} {es fs : List Eqn} (hw : ∀ e ∈ es, WF e) (hc : Cons ar es) (hl : es.length ≤ 100) (hw2 : ∀ e ∈ fs, WF e) (hc2 : Cons ar fs) (hl2 : fs.length ≤ 100) : textE fs = textE es ↔ es = fs := by
  constructor
  · intro h
    have h1 := read_text hw hc hl
    rw [← h, read_text hw2 hc2 hl2] at h1
    cases h1
    rfl
  · intro h; rw [h]
theorem swapC {ar : List Nat → Nat} {e : Eqn} (h : WF e) : WF (e.2, e.1) := ⟨h.v, h.q, h.q8, h.w, h.p, h.p8⟩
theorem joinL_snoc : ∀ {ls : List (List Nat)} (x : List Nat), ls ≠ [] → joinL (ls ++ [x]) = joinL ls ++ 10 :: x
  | [], _, h => absurd rfl h
  | [y], x, _ => rfl
  | y :: z :: r, x, _ => by
    show y ++ 10 :: joinL ((z :: r) ++ [x]) = (y ++ 10 :: joinL (z :: r)) ++ 10 :: x
    rw [joinL_snoc x (by simp)]
    simp
theorem joinL_cons {ls : List (List Nat)} (x : List Nat) (h : ls ≠ []) : joinL (x :: ls) = x ++ 10 :: joinL ls := by
  cases ls with
  | nil => exact absurd rfl h
  | cons y r => rfl
theorem uh1 {ar : List Nat → Nat} {es fs : List Eqn} (hw : ∀ e ∈ es, WF e) (hc : Cons ar es) (hl : es.length ≤ 100) (hw2 : ∀ e ∈ fs, WF e) (hc2 : Cons ar fs) (hl2 : fs.length ≤ 100) (x0 x1 x2 x4 x5 x6 x9 x10 : Option W) :
    (evS s19 Γ l_law_unequal_held_1 [x0, x1, x2, some (.d (.str (tx (textE es)))), x4, x5, x6, some (.d (objD es (pairsL es))), some (.d (.str (tx (textE fs)))), x9, x10]).goes fun S => ∃ y8 y9 y10, S = [x0, x1, x2, some (.d (.str (tx (textE es)))), x4, x5, x6, some (.d (objD es (pairsL es))), y8, y9, y10] := by
  have hT : okT (textE es) = true := okT_join (okT_lines hw)
  have hT2 : okT (textE fs) = true := okT_join (okT_lines hw2)
  have hn := f_new hw2 hc2 hl2
  have heq := f_eq (sy := pairsL es) (sz := pairsL fs) hw hw2
  have hi := text_inj hw hc hl hw2 hc2 hl2
  generalize pairsL es = sy at heq ⊢
  generalize pairsL fs = sz at hn heq
  simp only [objD] at hn heq ⊢
  simp at hn heq
  by_cases c : es = fs
  · have c2 := hi.mpr c
    subst c
    simp [l_law_unequal_held_1, hn, heq, hT]
  · have c2 : ¬ textE fs = textE es := fun z => c (hi.mp z)
    have c3 : decide (es = fs) = false := by simpa using c
    rw [c3] at heq
    simp [l_law_unequal_held_1, hn, heq, hT, hT2, c2]
theorem uhc2 {es : List Eqn} (hw : ∀ e ∈ es, WF e) (hl : es.length ≤ 1000) (x1 x2 x3 x4 x5 x6 x7 x8 x9 x10 : Option W) :
    (ev s19 Γ c_law_unequal_held_2).e [some (.d (.lst (es.map eqD))), x1, x2, x3, x4, x5, x6, x7, x8, x9, x10] = .ok (.t (.l ((es.map lineE).map fun l => .str (tx l)))) [some (.d (.lst (es.map eqD))), x1, x2, x3, x4, x5, x6, x7, x8, x9, x10] := by
  unfold c_law_unequal_held_2
  refine (lc_T es eqD (fun e => .str (tx (lineE e))) (S1 := [some (.d (.lst (es.map eqD))), x1, x2, x3, x4, x5, x6, x7, x8, x9, x10]) (by simp) (fun e he => ?_) (by omega)).trans (by simp)
  have h1 := f_line (hw e he)
  exact ⟨_, [some (.d (.lst (es.map eqD))), x1, x2, x3, some (.d (eqD e)), x5, x6, x7, x8, x9, x10], _, .t (.d (.str (tx (lineE e)))), _, rfl, by simp [h1], rfl, rfl, rfl⟩
theorem uhc1 {es : List Eqn} (hw : ∀ e ∈ es, WF e) (hl : es.length ≤ 1000) (x0 x1 x2 x3 x4 x5 x7 x8 x9 x10 : Option W) :
    (ev s19 Γ c_law_unequal_held_1).e [x0, x1, x2, x3, x4, x5, some (.l (es.map eqD)), x7, x8, x9, x10] = .ok (.t (.l ((es.map lineE).map fun l => .str (tx l)))) [x0, x1, x2, x3, x4, x5, some (.d (.lst (es.map eqD))), x7, x8, x9, x10] := by
  unfold c_law_unequal_held_1
  refine (lc_T es eqD (fun e => .str (tx (lineE e))) (S1 := [x0, x1, x2, x3, x4, x5, some (.d (.lst (es.map eqD))), x7, x8, x9, x10]) (by simp) (fun e he => ?_) (by omega)).trans (by simp)
  have h1 := f_line (hw e he)
  exact ⟨_, [x0, x1, x2, x3, some (.d (eqD e)), x5, some (.d (.lst (es.map eqD))), x7, x8, x9, x10], _, .t (.d (.str (tx (lineE e)))), _, rfl, by simp [h1], rfl, rfl, rfl⟩
theorem cons_mem {ar : List Nat → Nat} {es fs : List Eqn} (h : Cons ar es) (k : ∀ f ∈ fs, f ∈ es) : Cons ar fs := fun f hf => h f (k f hf)
theorem f_unequal_held {ar : List Nat → Nat} {es : List Eqn} (hw : ∀ e ∈ es, WF e) (hc : Cons ar es) (hl : es.length ≤ 99) {k : Nat} (hk : k < es.length) : Γ.fn 12 [.lst (es.map eqD), .int k] = .ret (.d (.bl true)) := by
  rw [e_unequal_held]
  have e0 : initS N_law_unequal_held.length [.lst (es.map eqD), .int k] = [some (.d (.lst (es.map eqD))), some (.d (.int k)), none, none, none, none, none, none, none, none, none] := rfl
  rw [e0]
  obtain ⟨e, he⟩ : ∃ e, e = es[k] := ⟨_, rfl⟩
  have hm : e ∈ es := by rw [he]; exact List.getElem_mem hk
  have hne : es ≠ [] := by intro z; rw [z] at hk; cases hk
  -- the three others
  have wA : ∀ f ∈ es ++ [e], WF f := fun f hf => by
    rcases List.mem_append.mp hf with hf | hf
    · exact hw f hf
    · rw [List.mem_singleton.mp hf]; exact hw e hm
  have cA : Cons ar (es ++ [e]) := fun f hf => by
    rcases List.mem_append.mp hf with hf | hf
    · exact hc f hf
    · rw [List.mem_singleton.mp hf]; exact hc e hm
  have wB : ∀ f ∈ e :: es, WF f := fun f hf => by
    rcases List.mem_cons.mp hf with hf | hf
    · rw [hf]; exact hw e hm
    · exact hw f hf
  have cB : Cons ar (e :: es) := fun f hf => by
    rcases List.mem_cons.mp hf with hf | hf
    · rw [hf]; exact hc e hm
    · exact hc f hf
  obtain ⟨fs, hfs⟩ : ∃ fs : List Eqn, fs = es.take k ++ [(e.2, e.1)] ++ es.drop (k + 1) := ⟨_, rfl⟩
  have wC : ∀ f ∈ fs, WF f := fun f hf => by
    rw [hfs] at hf
    rcases List.mem_append.mp hf with hf | hf
    · rcases List.mem_append.mp hf with hf | hf
      · exact hw f (List.mem_of_mem_take hf)
      · rw [List.mem_singleton.mp hf]; exact swapC (ar := ar) (hw e hm)
    · exact hw f (List.mem_of_mem_drop hf)
  have cC : Cons ar fs := fun f hf => by
    rw [hfs] at hf
    rcases List.mem_append.mp hf with hf | hf
    · rcases List.mem_append.mp hf with hf | hf
      · exact hc f (List.mem_of_mem_take hf)
      · rw [List.mem_singleton.mp hf]; exact ⟨(hc e hm).2, (hc e hm).1⟩
    · exact hc f (List.mem_of_mem_drop hf)
  have lC : fs.length ≤ 100 := by
    rw [hfs]; simp; omega
  have tA : textE (es ++ [e]) = textE es ++ 10 :: lineE e := by
    unfold textE
    rw [List.map_append, List.map_singleton, joinL_snoc _ (by simpa using hne)]
  have tB : textE (e :: es) = lineE e ++ 10 :: textE es := by
    unfold textE
    rw [List.map_cons, joinL_cons _ (by simpa using hne)]
  have hT : okT (textE es) = true := okT_join (okT_lines hw)
  have g1 := fun x2 => uhc2 hw (by omega) (some (.d (.int k))) x2 none none none none none none none none
  have hj := join_nl (len_lines hw) (by simp; omega)
  have hjC := join_nl (len_lines wC) (by simp; omega)
  have hn := f_new hw hc (by omega)
  have hx : atI (es.map eqD) (k : Int) = some (eqD e) := by
    rw [atI_nat _ _ (by simpa using hk), he]
    simp
  have hline := f_line (hw e hm)
  have lT : (textE es).length ≤ 1001 * es.length := by
    have := joinL_len (len_lines hw)
    simpa [textE] using this
  have lL := lineE_len (hw e hm)
  have sq : ∀ x3 x4 x5 x7 x8 x9 x10 x0, (ev s19 Γ c_law_unequal_held_1).e [x0, some (.d (.int k)), some (.d (eqD e)), x3, x4, x5, some (.l (fs.map eqD)), x7, x8, x9, x10] = .ok (.t (.l ((fs.map lineE).map fun l => .str (tx l)))) [x0, some (.d (.int k)), some (.d (eqD e)), x3, x4, x5, some (.d (.lst (fs.map eqD))), x7, x8, x9, x10] := fun x3 x4 x5 x7 x8 x9 x10 x0 => uhc1 wC (by omega) _ _ _ _ _ _ _ _ _ _
  have hfD : (es.map eqD).take k ++ [.tup [.str (tx e.2.1), .str (tx e.2.2), .str (tx e.1.1), .str (tx e.1.2)]] ++ (es.map eqD).drop (k + 1) = fs.map eqD := by
    rw [hfs]; simp [eqD, List.map_take, List.map_drop]
  have i0 : ∀ x y z u : D, atI [x, y, z, u] 0 = some x := fun _ _ _ _ => rfl
  have i1 : ∀ x y z u : D, atI [x, y, z, u] 1 = some y := fun _ _ _ _ => rfl
  have i2 : ∀ x y z u : D, atI [x, y, z, u] 2 = some z := fun _ _ _ _ => rfl
  have i3 : ∀ x y z u : D, atI [x, y, z, u] 3 = some u := fun _ _ _ _ => rfl
  -- the loop
  have uA := fun x0 x1 x2 x4 x5 x6 x9 x10 => uh1 hw hc (by omega) wA cA (by simp; omega) x0 x1 x2 x4 x5 x6 x9 x10
  have uB := fun x0 x1 x2 x4 x5 x6 x9 x10 => uh1 hw hc (by omega) wB cB (by simp; omega) x0 x1 x2 x4 x5 x6 x9 x10
  have uC := fun x0 x1 x2 x4 x5 x6 x9 x10 => uh1 hw hc (by omega) wC cC lC x0 x1 x2 x4 x5 x6 x9 x10
  have hlp : ∀ x0 x1 x2 x4 x5 x6, (loopS (Tg.nm 8 "given").g (evS s19 Γ l_law_unequal_held_1) [.str (tx (textE es ++ 10 :: lineE e)), .str (tx (lineE e ++ 10 :: textE es)), .str (tx (textE fs))] [x0, x1, x2, some (.d (.str (tx (textE es)))), x4, x5, x6, some (.d (objD es (pairsL es))), none, none, none]).goes fun S => True := by
    intro x0 x1 x2 x4 x5 x6
    rw [tA] at uA
    rw [tB] at uB
    obtain ⟨_, a1, y8, y9, y10, rfl⟩ := (uA x0 x1 x2 x4 x5 x6 none none).get
    obtain ⟨_, a2, z8, z9, z10, rfl⟩ := (uB x0 x1 x2 x4 x5 x6 y9 y10).get
    obtain ⟨_, a3, u8, u9, u10, rfl⟩ := (uC x0 x1 x2 x4 x5 x6 z9 z10).get
    simp only [loopS, Tg_nm, List.set_cons_succ, List.set_cons_zero, a1, a2, a3]
    trivial
  obtain ⟨S9, hF, _⟩ := (hlp (some (.d (.lst (es.map eqD)))) (some (.d (.int k))) (some (.d (eqD e))) none (some (.d (.lst [.str (tx (textE es ++ 10 :: lineE e)), .str (tx (lineE e ++ 10 :: textE es)), .str (tx (textE fs))]))) (some (.d (.lst (fs.map eqD))))).get
  generalize pairsL es = sy at hn hF
  have uT : textE es = joinL (es.map lineE) := rfl
  have uF : textE fs = joinL (fs.map lineE) := rfl
  rw [← uT] at hj
  rw [← uF] at hjC
  simp only [objD] at hn hF
  simp at hn g1 hj hjC hF sq
  simp only [eqD] at hx hline sq hF
  have l1 : (textE es).length + 1 + (lineE e).length ≤ 16777216 := by omega
  have l2 : (lineE e).length + 1 + (textE es).length ≤ 16777216 := by omega
  have l3 : (textE es).length + (1 + (lineE e).length) ≤ 16777216 := by omega
  simp only [List.append_assoc] at hfD
  simp at hfD
  unfold b_law_unequal_held
  simp (disch := first | omega | (simp; omega) | (simp; done) | assumption | fail) [g1, hj, hjC, hn, hx, hline, sq, hfD, hF, i0, i1, i2, i3, hT, outOf]
end N17
end
section
set_option Elab.async false
set_option linter.all false
set_option autoImplicit false
set_option maxRecDepth 100000
set_option maxHeartbeats 4000000
/-! Ok: k17: spoilt lines. -/
namespace N17
open PySem PySem.Spec PyProof.Rows L2 Ly
theorem cs_0 : cs " = " = [32, 61, 32] := by decide +kernel
theorem cs_1 : cs "abcde" = [97, 98, 99, 100, 101] := by decide +kernel
theorem cs_2 : cs " " = [32] := by decide +kernel
theorem cs_3 : cs "=" = [61] := by decide +kernel
theorem cs_4 : cs ";" = [59] := by decide +kernel
theorem cs_5 : cs "," = [44] := by decide +kernel
theorem cs_6 : cs "." = [46] := by decide +kernel
theorem cs_7 : cs "  = " = [32, 32, 61, 32] := by decide +kernel
theorem cs_8 : cs " =  " = [32, 61, 32, 32] := by decide +kernel
theorem cs_9 : cs " =" = [32, 61] := by decide +kernel
theorem cs_10 : cs "= " = [61, 32] := by decide +kernel
theorem cs_11 : cs " == " = [32, 61, 61, 32] := by decide +kernel
theorem cs_12 : cs " x y" = [32, 120, 32, 121] := by decide +kernel
theorem cs_13 : cs "1" = [49] := by decide +kernel
theorem cs_14 : cs "X" = [88] := by decide +kernel
theorem cs_15 : cs "_" = [95] := by decide +kernel
theorem cs_16 : cs " x" = [32, 120] := by decide +kernel
theorem cs_17 : cs " abcdefghi = " = [32, 97, 98, 99, 100, 101, 102, 103, 104, 105, 32, 61, 32] := by decide +kernel
theorem cs_18 : cs "aaaaaaaaa" = [97, 97, 97, 97, 97, 97, 97, 97, 97] := by decide +kernel
theorem cs_19 : cs " x1 = " = [32, 120, 49, 32, 61, 32] := by decide +kernel
theorem cs_20 : cs "  xy = " = [32, 32, 120, 121, 32, 61, 32] := by decide +kernel
theorem cs_21 : cs " xy z = " = [32, 120, 121, 32, 122, 32, 61, 32] := by decide +kernel
theorem cs_22 : cs " x-y = " = [32, 120, 45, 121, 32, 61, 32] := by decide +kernel
theorem cs_23 : cs " (x) = " = [32, 40, 120, 41, 32, 61, 32] := by decide +kernel
theorem up_all : ((List.range' 97 26).all fun c => decide (Txt.upper (tx [c]) = tx [c - 32])) = true := by decide +kernel
theorem up_one {c : Nat} (h : isL c = true) : Txt.upper (tx [c]) = tx [upL c] := by
  have h2 := h
  unfold isL at h2
  simp only [Bool.and_eq_true, Nat.ble_eq] at h2
  have := List.all_eq_true.mp up_all c (List.mem_range'_1.mpr (by omega))
  unfold upL
  rw [h, if_pos rfl]
  exact of_decide_eq_true this
theorem sBM_up {c : Nat} (h : isL c = true) : sBM .upper (tx [c]) [] = some (.d (.str (tx [upL c]))) := by
  show (if (tx [c]).length ≤ 5592405 then some (W.d (.str (Txt.upper (tx [c])))) else none) = _
  rw [if_pos (by rw [tx_len]; exact (by decide : 1 ≤ 5592405)), up_one h]
theorem cutL_1 (c : Nat) (l : List Nat) : cutL (c :: l) (some 1) none = l := cutL_from (c :: l) 1
theorem cutL_m1 (l : List Nat) : cutL l none (some (-1)) = l.dropLast := by
  unfold cutL
  rw [HT.sIx_none, List.drop_zero, Nat.sub_zero]
  have h : HT.sIx l.length l.length (some (-1)) = l.length - 1 := by
    show (if (-1 : Int) < 0 then ((-1 : Int) + (l.length : Int)).toNat else min (-1 : Int).toNat l.length) = _
    rw [if_pos (by decide)]
    omega
  rw [h, List.dropLast_eq_take]
theorem cutL_5 (l : List Nat) : cutL l none (some 5) = l.take 5 := cutL_to l 5
theorem mul_a9 : sMul (.str (tx [97])) (.int 9) = some (.d (.str (tx [97, 97, 97, 97, 97, 97, 97, 97, 97]))) := by
  have h : Txt.mul (tx [97]) 9 = tx [97, 97, 97, 97, 97, 97, 97, 97, 97] := by decide +kernel
  show (if (tx [97]).length ≤ 4096 ∧ (0 : Int) ≤ 9 ∧ (9 : Int) ≤ 4096 then some (W.d (.str (Txt.mul (tx [97]) 9))) else none) = _
  rw [if_pos ⟨by rw [tx_len]; decide, by decide, by decide⟩, h]
theorem side_cons {w : List Nat} (p : List Nat) (h : isW 4 w = true) : ∃ c l, sideL w p = c :: l ∧ isL c = true := by
  obtain ⟨h1, h2, h3⟩ := isW_all h
  cases w with
  | nil => simp at h2
  | cons c w =>
    rw [List.all_cons, Bool.and_eq_true] at h1
    cases p with
    | nil => exact ⟨c, w, rfl, h1.1⟩
    | cons a q => exact ⟨c, w ++ 32 :: a :: q, rfl, h1.1⟩
theorem f_spoilt {e : Eqn} (he : WF e) : Γ.fn 14 [eqD e] = .ret (.l ((spoiltL e.1.1 e.1.2 e.2.1 e.2.2).map fun l => .str (tx l))) := by
  rw [e_spoilt]
  have h1 := (isW_all he.w).2.2
  have h2 := (isW_all he.v).2.2
  have h5 := he.p8
  have h6 := he.q8
  have a1 := f_law_side (okT_L he.p) (w := e.1.1) (by omega)
  have a2 := f_law_side (okT_L he.q) (w := e.2.1) (by omega)
  have b1 := sideL_len e.1.1 e.1.2
  have b2 := sideL_len e.2.1 e.2.2
  obtain ⟨c, l, hl, hc⟩ := side_cons e.1.2 he.w
  have i0 : ∀ x y z u : D, atI [x, y, z, u] 0 = some x := fun _ _ _ _ => rfl
  have i1 : ∀ x y z u : D, atI [x, y, z, u] 1 = some y := fun _ _ _ _ => rfl
  have i2 : ∀ x y z u : D, atI [x, y, z, u] 2 = some z := fun _ _ _ _ => rfl
  have i3 : ∀ x y z u : D, atI [x, y, z, u] 3 = some u := fun _ _ _ _ => rfl
  have j0 : ∀ (x : Nat) (y : List Nat), atI (x :: y) 0 = some x := fun x y => by
    have := atI_nat (x :: y) 0 (by simp)
    simpa using this
  have hu := sBM_up hc
  have e0 : initS N_law_spoilt.length [eqD e] = [some (.d (eqD e)), none, none, none, none, none] := rfl
  rw [e0]
  unfold spoiltL
  rw [hl] at a1 b1 ⊢
  generalize hr : sideL e.2.1 e.2.2 = r at a2 b2 ⊢
  have lw : e.1.1.length ≤ 4 := h1
  have lv : e.2.1.length ≤ 4 := h2
  have ll : l.length ≤ 12 := by simp at b1; omega
  have lr : r.length ≤ 13 := by omega
  simp only [eqD]
  unfold b_law_spoilt
  simp (disch := first | omega | (simp; done) | (simp; omega) | fail) [a1, a2, i0, i1, i2, i3, j0, hu, cutL_1, cutL_m1, cutL_5, mul_a9, outOf, cs_0, cs_1, cs_2, cs_3, cs_4, cs_5, cs_6, cs_7, cs_8, cs_9, cs_10, cs_11, cs_12, cs_13, cs_14, cs_15, cs_16, cs_17, cs_18, cs_19, cs_20, cs_21, cs_22, cs_23]
end N17
end
section
set_option Elab.async false
set_option linter.all false
set_option autoImplicit false
set_option maxRecDepth 100000
set_option maxHeartbeats 4000000
/-! Ol: k17: spoils_held. -/
namespace N17
open PySem PySem.Spec PyProof.Rows L2 Ly
abbrev sD : List Nat → D := fun l => .str (tx l)
theorem sD_inj {a b : List Nat} (h : sD a = sD b) : a = b := by simpa [sD] using h
theorem strs_pl {ls : List (List Nat)} (h : ∀ l ∈ ls, okT l = true) : plDs 0 (ls.map sD) = true := by
  rw [plDs_all, List.all_eq_true]
  intro d hd
  obtain ⟨l, hl, rfl⟩ := List.mem_map.mp hd
  simp [sD, plD, okT_str, h l hl]
theorem deq_strs {ls ms : List (List Nat)} (h : ∀ l ∈ ls, okT l = true) (k : ∀ l ∈ ms, okT l = true) : deq (.lst (ls.map sD)) (.lst (ms.map sD)) = some (decide (ls = ms)) := by
  obtain ⟨b, e, hb⟩ := deq_iff (n := 1) (m := 1) (x := .lst (ls.map sD)) (y := .lst (ms.map sD)) (strs_pl h) (strs_pl k) (by decide) (by decide)
  rw [e]
  congr 1
  rw [Bool.eq_iff_iff, hb, decide_eq_true_eq]
  constructor
  · intro z; exact map_inj (fun _ _ => sD_inj) (by simpa using z)
  · intro z; rw [z]
abbrev eBad (n : Nat) : D := .lst [.tup [.str "BadIdentities", .int n]]
theorem eBad_pl (n : Nat) : plD 2 (eBad n) = true := by
  simp [eBad, plD, plDs, okT_str]
theorem deq_eBad (n : Nat) : deq (eBad n) (eBad n) = some true := deq_same (eBad_pl n) (by decide)
/-- the error that a list of lines gives -/
theorem f_err_lines {G : List (List Nat)} {k : Nat} (ok : ∀ l ∈ G, okT l = true) (len : ∀ l ∈ G, l.length ≤ 1000) (hl : G.length ≤ 500) (h : readT (joinL G) = .error k) :
    Γ.fn 13 [.str (tx (joinL G))] = .ret (.d (eBad k)) := by
  have := joinL_len len
  exact f_error (okT_join ok) (by omega) h
abbrev ab : List Nat := [65, 32, 61, 32, 98]
theorem sh1 (Ls Z : List (List Nat)) (k t : Nat) (nu : Int) (hk : k < Ls.length) (ht : t < Z.length) (lL : Ls.length ≤ 100) (okL : ∀ l ∈ Ls, okT l = true) (okZ : okT Z[t] = true) (lenL : ∀ l ∈ Ls, l.length ≤ 900) (lenZ : (Z[t]).length ≤ 1000)
    (hG : ∀ G, (G = Ls.take k ++ Z[t] :: Ls.drop (k + 1) ∨ G = (Ls.take k ++ Z[t] :: Ls.drop (k + 1)) ++ [[], ab, Z[t]]) → readT (joinL (if G = [[]] then [[], Ls[0]] else G)) = .error (if Z[t].take (Ls[k].length + 1) = Ls[k] ++ [10] then k + 2 else k + 1))
    (x0 x4 x5 x7 x8 x10 x11 : Option W) :
    (evS s22 Γ l_law_spoils_held_1 [x0, some (.d (.int k)), some (.d (.int nu)), some (.l (Ls.map sD)), x4, x5, some (.l (Z.map sD)), x7, x8, some (.d (.int t)), x10, x11]).goes fun S => ∃ y10 y11, S = [x0, some (.d (.int k)), some (.d (.int nu)), some (.l (Ls.map sD)), x4, x5, some (.l (Z.map sD)), x7, x8, some (.d (.int t)), y10, y11] := by
  obtain ⟨z, hz⟩ : ∃ z, z = Z[t] := ⟨_, rfl⟩
  rw [← hz] at okZ lenZ hG
  obtain ⟨a, ha⟩ : ∃ a, a = Ls[k] := ⟨_, rfl⟩
  rw [← ha] at hG
  obtain ⟨b, hb⟩ : ∃ b, b = Ls[0] := ⟨_, rfl⟩
  rw [← hb] at hG
  have ma : a ∈ Ls := by rw [ha]; exact List.getElem_mem _
  have mb : b ∈ Ls := by rw [hb]; exact List.getElem_mem _
  have xz : atI (Z.map sD) (t : Int) = some (sD z) := by rw [atI_nat _ _ (by simpa using ht), hz]; simp
  have xa : atI (Ls.map sD) (k : Int) = some (sD a) := by rw [atI_nat _ _ (by simpa using hk), ha]; simp
  have xb : atI (Ls.map sD) (0 : Int) = some (sD b) := by
    have := atI_nat (Ls.map sD) 0 (by simp; omega)
    rw [show ((0 : Nat) : Int) = 0 from rfl] at this
    rw [this, hb]; simp
  have la := lenL a ma
  have lb := lenL b mb
  obtain ⟨G0, hG0⟩ : ∃ G0, G0 = Ls.take k ++ z :: Ls.drop (k + 1) := ⟨_, rfl⟩
  obtain ⟨G1, hG1⟩ : ∃ G1, G1 = G0 ++ [[], ab, z] := ⟨_, rfl⟩
  have e0 : (Ls.map sD).take k ++ sD z :: (Ls.map sD).drop (k + 1) = G0.map sD := by rw [hG0]; simp [List.map_take, List.map_drop]
  have e1 : G0.map sD ++ [.str (tx []), .str (tx ab), sD z] = G1.map sD := by rw [hG1]; simp [sD]
  have e2 : ([sD [], sD b] : List D) = [[], b].map sD := rfl
  have ok0 : ∀ l ∈ G0, okT l = true := fun l hl => by
    rw [hG0] at hl
    rcases List.mem_append.mp hl with hl | hl
    · exact okL l (List.mem_of_mem_take hl)
    · rcases List.mem_cons.mp hl with rfl | hl
      · exact okZ
      · exact okL l (List.mem_of_mem_drop hl)
  have ok1 : ∀ l ∈ G1, okT l = true := fun l hl => by
    rw [hG1] at hl
    rcases List.mem_append.mp hl with hl | hl
    · exact ok0 l hl
    · simp only [List.mem_cons, List.not_mem_nil, or_false] at hl
      rcases hl with rfl | rfl | rfl
      · rfl
      · rfl
      · exact okZ
  have len0 : ∀ l ∈ G0, l.length ≤ 1000 := fun l hl => by
    rw [hG0] at hl
    rcases List.mem_append.mp hl with hl | hl
    · have := lenL l (List.mem_of_mem_take hl); omega
    · rcases List.mem_cons.mp hl with rfl | hl
      · exact lenZ
      · have := lenL l (List.mem_of_mem_drop hl); omega
  have len1 : ∀ l ∈ G1, l.length ≤ 1000 := fun l hl => by
    rw [hG1] at hl
    rcases List.mem_append.mp hl with hl | hl
    · exact len0 l hl
    · simp only [List.mem_cons, List.not_mem_nil, or_false] at hl
      rcases hl with rfl | rfl | rfl
      · exact (by decide : 0 ≤ 1000)
      · exact (by decide : 5 ≤ 1000)
      · exact lenZ
  have n0 : G0.length = Ls.length := by rw [hG0]; simp; omega
  have n1 : G1.length = Ls.length + 3 := by rw [hG1]; simp; omega
  have d0 : deq (.lst (G0.map sD)) (.lst [.str (tx [])]) = some (decide (G0 = [[]])) := deq_strs ok0 (ms := [[]]) (by simp)
  have d1 : deq (.lst (G1.map sD)) (.lst [.str (tx [])]) = some (decide (G1 = [[]])) := deq_strs ok1 (ms := [[]]) (by simp)
  have nb : G1 ≠ [[]] := by
    intro h
    have := congrArg List.length h
    rw [n1] at this
    simp at this
  have c1 : ¬ G1 = [[]] := nb
  have hG1' := hG G1 (.inr (by rw [hG1, hG0]))
  rw [if_neg c1] at hG1'
  have hG0' := hG G0 (.inl hG0)
  have j0 := join_nl (ls := G0) len0 (by omega)
  have j1 := join_nl (ls := G1) len1 (by omega)
  have j2 := join_nl (ls := [[], b]) (by simp; omega) (by simp)
  have okb := okL b mb
  have oka := okL a ma
  have hct : cutL z none (some ((a.length : Int) + 1)) = z.take (a.length + 1) := cutL_to z (a.length + 1)
  have okt : okT (z.take (a.length + 1)) = true := by
    unfold okT at okZ ⊢
    rw [List.all_eq_true] at okZ ⊢
    intro c hc
    exact okZ c (List.mem_of_mem_take hc)
  have r2 : G0 = [[]] → readT (joinL [[], b]) = .error (if z.take (a.length + 1) = a ++ [10] then k + 2 else k + 1) := fun h => by rw [if_pos h] at hG0'; exact hG0'
  have r0 : ¬ G0 = [[]] → readT (joinL G0) = .error (if z.take (a.length + 1) = a ++ [10] then k + 2 else k + 1) := fun h => by rw [if_neg h] at hG0'; exact hG0'
  have de := deq_eBad
  have w1 := fun h => f_err_lines ok1 len1 (by omega) h (k := if z.take (a.length + 1) = a ++ [10] then k + 2 else k + 1)
  have w0 := fun h => f_err_lines ok0 len0 (by omega) h (k := if z.take (a.length + 1) = a ++ [10] then k + 2 else k + 1)
  have w2 := fun h => f_err_lines (G := [[], b]) (by simp [okb]) (by simp; omega) (by simp) h (k := if z.take (a.length + 1) = a ++ [10] then k + 2 else k + 1)
  have w1 := w1 hG1'
  have w0 := fun h => w0 (r0 h)
  have w2 := fun h => w2 (r2 h)
  have e3 : ((k + 2 : Nat) : Int) = (k : Int) + 2 := by omega
  have e4 : ((k + 1 : Nat) : Int) = (k : Int) + 1 := by omega
  have de2 : deq (.lst [.tup [.str (tx [66, 97, 100, 73, 100, 101, 110, 116, 105, 116, 105, 101, 115]), .int ((k : Int) + 2)]]) (.lst [.tup [.str (tx [66, 97, 100, 73, 100, 101, 110, 116, 105, 116, 105, 101, 115]), .int ((k : Int) + 2)]]) = some true := by
    have := de (k + 2)
    rw [← e3, ← k_9]; exact this
  have de1 : deq (.lst [.tup [.str (tx [66, 97, 100, 73, 100, 101, 110, 116, 105, 116, 105, 101, 115]), .int ((k : Int) + 1)]]) (.lst [.tup [.str (tx [66, 97, 100, 73, 100, 101, 110, 116, 105, 116, 105, 101, 115]), .int ((k : Int) + 1)]]) = some true := by
    have := de (k + 1)
    rw [← e4, ← k_9]; exact this
  clear hG hG0' hG1' r0 r2 de
  unfold l_law_spoils_held_1
  simp only [sD] at *
  simp only [eBad] at w0 w1 w2
  by_cases p1 : (nu + (t : Int)) % 2 = 1
  · by_cases p2 : z.take (a.length + 1) = a ++ [10]
    · rw [if_pos p2] at w1
      simp at w1 j1
      simp (disch := first | omega | (simp; done) | (simp; omega) | assumption | fail) [xz, xa, xb, p1, p2, e0, e1, d1, c1, j1, w1, hct, okt, oka, okZ, de2]
    · rw [if_neg p2] at w1
      simp at w1 j1
      simp (disch := first | omega | (simp; done) | (simp; omega) | assumption | fail) [xz, xa, xb, p1, p2, e0, e1, d1, c1, j1, w1, hct, okt, oka, okZ, de1]
  · by_cases p3 : G0 = [[]]
    · have w2 := w2 p3
      have d0 : deq (.lst (G0.map sD)) (.lst [.str (tx [])]) = some true := by rw [d0, p3]; rfl
      by_cases p2 : z.take (a.length + 1) = a ++ [10]
      · rw [if_pos p2] at w2
        simp at w2 j2
        simp (disch := first | omega | (simp; done) | (simp; omega) | assumption | fail) [xz, xa, xb, p1, p2, e0, d0, j2, w2, hct, okt, oka, okZ, de2]
      · rw [if_neg p2] at w2
        simp at w2 j2
        simp (disch := first | omega | (simp; done) | (simp; omega) | assumption | fail) [xz, xa, xb, p1, p2, e0, d0, j2, w2, hct, okt, oka, okZ, de1]
    · have w0 := w0 p3
      by_cases p2 : z.take (a.length + 1) = a ++ [10]
      · rw [if_pos p2] at w0
        simp at w0 j0
        simp (disch := first | omega | (simp; done) | (simp; omega) | assumption | fail) [xz, xa, xb, p1, p2, p3, e0, d0, j0, w0, hct, okt, oka, okZ, de2]
      · rw [if_neg p2] at w0
        simp at w0 j0
        simp (disch := first | omega | (simp; done) | (simp; omega) | assumption | fail) [xz, xa, xb, p1, p2, p3, e0, d0, j0, w0, hct, okt, oka, okZ, de1]
end N17
end
section
set_option Elab.async false
set_option linter.all false
set_option autoImplicit false
set_option maxRecDepth 100000
set_option maxHeartbeats 4000000
/-! Om: k17: what spoilt lists of lines read as. -/
namespace N17
open PySem PySem.Spec PyProof.Rows L2 Ly
theorem addS_keep {sy s : Syms} {w v : List Nat} {n m : Nat} (h : addS sy v n = some s) (k : sy.lookup w = some m) : s.lookup w = some m := by
  unfold addS at h
  split at h
  · split at h
    · cases h; exact k
    · cases h
  · cases h
    rw [List.lookup_append, k]
    rfl
theorem addS_look {sy s : Syms} {w : List Nat} {n : Nat} (h : addS sy w n = some s) : s.lookup w = some n := by
  unfold addS at h
  split at h
  · rename_i m e
    split at h
    · rename_i c; cases h; rw [e, c]
    · cases h
  · rename_i e
    cases h
    rw [List.lookup_append, e]
    simp
theorem addS_no {s : Syms} {w : List Nat} {n m : Nat} (h : s.lookup w = some m) (k : m ≠ n) : addS s w n = none := by
  unfold addS
  rw [h]
  exact if_neg k
theorem addE_no {sy : Syms} {v p w q : List Nat} {m : Nat} (k : m ≠ q.length) (h : sy.lookup w = some m ∨ (v = w ∧ p.length = m)) : addE sy ((v, p), (w, q)) = none := by
  show (addS sy v p.length).bind (fun s => addS s w q.length) = none
  cases e : addS sy v p.length with
  | none => rfl
  | some s =>
    rcases h with h | ⟨rfl, rfl⟩
    · exact addS_no (addS_keep e h) k
    · exact addS_no (addS_look e) k
theorem addP_mem {ps : Syms} {p : List Nat × Nat} : p ∈ addP ps p ∧ ∀ q ∈ ps, q ∈ addP ps p := by
  unfold addP
  split
  · rename_i h; exact ⟨h, fun q hq => hq⟩
  · exact ⟨List.mem_append_right _ (List.mem_singleton.mpr rfl), fun q hq => List.mem_append_left _ hq⟩
theorem fold_mem : ∀ (es : List Eqn) (ps : Syms) (p : List Nat × Nat), p ∈ ps → p ∈ es.foldl addPE ps
  | [], _, _, h => h
  | e :: es, ps, p, h => fold_mem es (addPE ps e) p (addP_mem.2 p (addP_mem.2 p h))
/-- the first name is known -/
theorem first_known {ar : List Nat → Nat} {e : Eqn} {es : List Eqn} (hc : Cons ar (e :: es)) : ((e :: es).foldl addPE []).lookup e.1.1 = some e.1.2.length := by
  have hg : Good ar ((e :: es).foldl addPE []) := good_fold hc good_nil
  rw [look_good hg, (hc e List.mem_cons_self).1, if_pos]
  have := fold_mem es (addPE [] e) (e.1.1, e.1.2.length) (addP_mem.2 _ addP_mem.1)
  rw [(hc e List.mem_cons_self).1] at this
  exact this
theorem pLine_nil : pLine [] = none := by decide +kernel
/-- a bad line behind good ones -/
theorem read_bad {ar : List Nat → Nat} {fs : List Eqn} {z : List Nat} {R : List (List Nat)} (hw : ∀ e ∈ fs, WF e) (hc : Cons ar fs) (hl : fs.length ≤ 100) (nz : 10 ∉ z) (nR : ∀ l ∈ R, 10 ∉ l) (hne : fs.map lineE ++ z :: R ≠ [[]])
    (hb : pLine z = none ∨ ∃ e, pLine z = some e ∧ addE (fs.foldl addPE []) e = none) : readT (joinL (fs.map lineE ++ z :: R)) = .error (fs.length + 1) := by
  unfold readT
  rw [linesOf_join hne fun l hl => by
    rcases List.mem_append.mp hl with hl | hl
    · exact nl_lines hw l hl
    · rcases List.mem_cons.mp hl with rfl | hl
      · exact nz
      · exact nR l hl]
  rw [readL_app (ar := ar) fs 1 [] [] _ hw hc good_nil (by omega), readL]
  have e1 : 1 + fs.length = fs.length + 1 := by omega
  rw [e1]
  by_cases c : fs.length + 1 ≤ 100
  · rw [if_pos c]
    rcases hb with hb | ⟨e, h1, h2⟩
    · rw [hb]
    · rw [h1]
      dsimp only
      rw [h2]
  · rw [if_neg c]
theorem joinL_in (a o : List Nat) (R : List (List Nat)) : ∀ A : List (List Nat), joinL (A ++ (a ++ 10 :: o) :: R) = joinL (A ++ a :: o :: R)
  | [] => by
    cases R with
    | nil => rfl
    | cons r R => show (a ++ 10 :: o) ++ 10 :: joinL (r :: R) = a ++ 10 :: (o ++ 10 :: joinL (r :: R)); simp
  | [x] => by
    show x ++ 10 :: joinL ([] ++ (a ++ 10 :: o) :: R) = x ++ 10 :: joinL ([] ++ a :: o :: R)
    rw [joinL_in a o R []]
  | x :: y :: A => by
    show x ++ 10 :: joinL ((y :: A) ++ (a ++ 10 :: o) :: R) = x ++ 10 :: joinL ((y :: A) ++ a :: o :: R)
    rw [joinL_in a o R (y :: A)]
theorem no_take {z a : List Nat} (h : 10 ∉ z) (n : Nat) : ¬ z.take n = a ++ [10] := fun e => h (List.mem_of_mem_take (i := n) (by rw [e]; simp))
/-- one changed line -/
theorem one_bad {ar : List Nat → Nat} {es : List Eqn} {k : Nat} {z : List Nat} {X : List (List Nat)} (hw : ∀ e ∈ es, WF e) (hc : Cons ar es) (hl : es.length ≤ 90) (hk : k < es.length) (nz : 10 ∉ z) (nX : ∀ l ∈ X, 10 ∉ l)
    (hb : pLine z = none ∨ ∃ e, pLine z = some e ∧ addE ((es.take k).foldl addPE []) e = none) :
    readT (joinL (if (es.map lineE).take k ++ z :: (es.map lineE).drop (k + 1) ++ X = [[]] then [[], (es.map lineE)[0]'(by simp; omega)] else (es.map lineE).take k ++ z :: (es.map lineE).drop (k + 1) ++ X)) = .error (k + 1) := by
  have wt : ∀ e ∈ es.take k, WF e := fun e he => hw e (List.mem_of_mem_take he)
  have ct : Cons ar (es.take k) := fun e he => hc e (List.mem_of_mem_take he)
  have lt : (es.take k).length = k := by simp; omega
  split
  · rename_i h
    have hlen := congrArg List.length h
    simp at hlen
    have hk0 : k = 0 := by omega
    subst hk0
    have := read_bad (ar := ar) (fs := []) (z := []) (R := [(es.map lineE)[0]'(by simp; omega)]) (fun _ h => by cases h) (fun _ h => by cases h) (by simp) (by simp) (fun l hl => by
      rw [List.mem_singleton.mp hl]
      exact nl_lines hw _ (List.getElem_mem _)) (by simp) (.inl pLine_nil)
    simpa using this
  · rename_i h
    have e1 : (es.map lineE).take k ++ z :: (es.map lineE).drop (k + 1) ++ X = (es.take k).map lineE ++ z :: ((es.map lineE).drop (k + 1) ++ X) := by
      simp [List.map_take]
    rw [e1] at h ⊢
    have := read_bad wt ct (by omega) nz (R := (es.map lineE).drop (k + 1) ++ X) (fun l hl => by
      rcases List.mem_append.mp hl with hl | hl
      · exact nl_lines hw l (List.mem_of_mem_drop hl)
      · exact nX l hl) h hb
    rw [lt] at this
    exact this
/-- the line, and a bad one behind it -/
theorem two_bad {ar : List Nat → Nat} {es : List Eqn} {k : Nat} {o : List Nat} {X : List (List Nat)} (hw : ∀ e ∈ es, WF e) (hc : Cons ar es) (hl : es.length ≤ 90) (hk : k < es.length) (no : 10 ∉ o) (nX : X = [] ∨ X = [[], ab, (es.map lineE)[k]'(by simpa using hk) ++ 10 :: o]) (hb : pLine o = none) :
    readT (joinL (if (es.map lineE).take k ++ ((es.map lineE)[k]'(by simpa using hk) ++ 10 :: o) :: (es.map lineE).drop (k + 1) ++ X = [[]] then [[], (es.map lineE)[0]'(by simp; omega)] else (es.map lineE).take k ++ ((es.map lineE)[k]'(by simpa using hk) ++ 10 :: o) :: (es.map lineE).drop (k + 1) ++ X)) = .error (k + 2) := by
  have wt : ∀ e ∈ es.take (k + 1), WF e := fun e he => hw e (List.mem_of_mem_take he)
  have ct : Cons ar (es.take (k + 1)) := fun e he => hc e (List.mem_of_mem_take he)
  have lt : (es.take (k + 1)).length = k + 1 := by simp; omega
  have na := nl_lines hw _ (List.getElem_mem (l := es.map lineE) (n := k) (by simpa using hk))
  split
  · rename_i h
    have hm : ((es.map lineE)[k]'(by simpa using hk) ++ 10 :: o) ∈ ([[]] : List (List Nat)) := by rw [← h]; simp
    simp at hm
  · have hgen : ∀ Y : List (List Nat), (∀ l ∈ Y, 10 ∉ l) → readT (joinL ((es.map lineE).take k ++ ((es.map lineE)[k]'(by simpa using hk) ++ 10 :: o) :: ((es.map lineE).drop (k + 1) ++ Y))) = .error (k + 2) := by
      intro Y nY
      rw [joinL_in]
      have e1 : (es.map lineE).take k ++ (es.map lineE)[k]'(by simpa using hk) :: o :: ((es.map lineE).drop (k + 1) ++ Y) = (es.take (k + 1)).map lineE ++ o :: ((es.map lineE).drop (k + 1) ++ Y) := by
        rw [List.map_take, List.take_succ_eq_append_getElem (by simpa using hk)]
        simp
      rw [e1]
      have := read_bad wt ct (by omega) no (R := (es.map lineE).drop (k + 1) ++ Y) (fun l hl => by
        rcases List.mem_append.mp hl with hl | hl
        · exact nl_lines hw l (List.mem_of_mem_drop hl)
        · exact nY l hl) (fun h => by
          have := congrArg List.length h
          simp at this
          omega) (.inl hb)
      rw [lt] at this
      exact this
    rcases nX with rfl | rfl
    · have := hgen [] (by simp)
      simpa using this
    · have h2 := hgen [[], ab, (es.map lineE)[k]'(by simpa using hk), o] (fun l hl => by
        simp only [List.mem_cons, List.not_mem_nil, or_false] at hl
        rcases hl with rfl | rfl | rfl | rfl
        · simp
        · decide
        · exact na
        · exact no)
      have e2 : joinL ((es.map lineE).take k ++ ((es.map lineE)[k]'(by simpa using hk) ++ 10 :: o) :: (es.map lineE).drop (k + 1) ++ [[], ab, (es.map lineE)[k]'(by simpa using hk) ++ 10 :: o]) = joinL ((es.map lineE).take k ++ ((es.map lineE)[k]'(by simpa using hk) ++ 10 :: o) :: ((es.map lineE).drop (k + 1) ++ [[], ab, (es.map lineE)[k]'(by simpa using hk), o])) := by
        have := joinL_in ((es.map lineE)[k]'(by simpa using hk)) o [] ((es.map lineE).take k ++ ((es.map lineE)[k]'(by simpa using hk) ++ 10 :: o) :: ((es.map lineE).drop (k + 1) ++ [[], ab]))
        simpa using this
      rw [e2]
      exact h2
end N17
end
section
set_option Elab.async false
set_option linter.all false
set_option autoImplicit false
set_option maxRecDepth 100000
set_option maxHeartbeats 4000000
/-! On: k17: spoils_held. -/
namespace N17
open PySem PySem.Spec PyProof.Rows L2 Ly
/-- plain signs: no newline -/
def pz (l : List Nat) : Bool := l.all fun c => decide (c ≠ 10) && decide (c < 200)
theorem pz_app (a b : List Nat) : pz (a ++ b) = (pz a && pz b) := List.all_append
theorem pz_cons (c : Nat) (b : List Nat) : pz (c :: b) = ((decide (c ≠ 10) && decide (c < 200)) && pz b) := List.all_cons
theorem pz_nil : pz [] = true := List.all_nil
theorem pz_sub {a b : List Nat} (h : pz b = true) (k : ∀ x ∈ a, x ∈ b) : pz a = true := by
  unfold pz at h ⊢
  rw [List.all_eq_true] at h ⊢
  exact fun x hx => h x (k x hx)
theorem pz_L {l : List Nat} (h : l.all isL = true) : pz l = true := by
  unfold pz
  rw [List.all_eq_true] at h ⊢
  intro c hc
  have := h c hc
  unfold isL at this
  simp only [Bool.and_eq_true, Nat.ble_eq] at this
  simp
  omega
theorem pz_nl {l : List Nat} (h : pz l = true) : 10 ∉ l := by
  intro z
  have := List.all_eq_true.mp h 10 z
  simp at this
theorem pz_ok {l : List Nat} (h : pz l = true) : okT l = true := by
  unfold okT
  unfold pz at h
  rw [List.all_eq_true] at h ⊢
  intro c hc
  have := h c hc
  simp at this ⊢
  omega
theorem pz_side {w p : List Nat} (hw : pz w = true) (hp : pz p = true) : pz (sideL w p) = true := by
  unfold sideL
  cases p with
  | nil => exact hw
  | cons c q => simp [pz_app, pz_cons, hw] at hp ⊢; exact hp
theorem spoilt_plain {w p v q : List Nat} (hw : isW 4 w = true) (hp : p.all isL = true) (hp8 : p.length ≤ 8) (hv : isW 4 v = true) (hq : q.all isL = true) (hq8 : q.length ≤ 8) : ∀ z ∈ spoiltL w p v q, pz z = true ∧ z.length ≤ 100 := by
  have zw := pz_L (isW_all hw).1
  have zv := pz_L (isW_all hv).1
  have zl := pz_side zw (pz_L hp)
  have zr := pz_side zv (pz_L hq)
  have lw := (isW_all hw).2.2
  have lv := (isW_all hv).2.2
  have ll := sideL_len w p
  have lr := sideL_len v q
  have zf : pz ((w ++ [97, 98, 99, 100, 101]).take 5) = true := pz_sub (b := w ++ [97, 98, 99, 100, 101]) (by simp [pz_app, pz_cons, pz_nil, zw]) fun x hx => List.mem_of_mem_take hx
  have zd : pz (sideL v q).dropLast = true := pz_sub zr fun x hx => by rw [List.dropLast_eq_take] at hx; exact List.mem_of_mem_take hx
  have z1 : pz ((sideL w p).drop 1) = true := pz_sub zl fun x hx => List.mem_of_mem_drop hx
  have zu : pz (((sideL w p).take 1).map upL) = true := by
    obtain ⟨c, l, e, hc⟩ := side_cons p hw
    rw [e]
    show pz [upL c] = true
    unfold upL
    rw [hc, if_pos rfl]
    unfold isL at hc
    simp only [Bool.and_eq_true, Nat.ble_eq] at hc
    simp [pz_cons, pz_nil]
    omega
  have lu : (((sideL w p).take 1).map upL).length ≤ 1 := by first | (simp; done) | (simp; omega)
  have l1 : ((sideL w p).drop 1).length ≤ 13 := by first | (simp; done) | (simp; omega)
  have lf : ((w ++ [97, 98, 99, 100, 101]).take 5).length ≤ 5 := by first | (simp; done) | (simp; omega)
  have ld : (sideL v q).dropLast.length ≤ 13 := by first | (simp; done) | (simp; omega)
  unfold spoiltL
  simp only [cs_0, cs_1, cs_2, cs_3, cs_4, cs_5, cs_6, cs_7, cs_8, cs_9, cs_10, cs_11, cs_12, cs_13, cs_14, cs_15, cs_16, cs_17, cs_18, cs_19, cs_20, cs_21, cs_22, cs_23]
  generalize sideL w p = l at *
  generalize sideL v q = r at *
  generalize (w ++ [97, 98, 99, 100, 101]).take 5 = f at *
  generalize r.dropLast = d at *
  generalize l.drop 1 = u at *
  generalize (l.take 1).map upL = u1 at *
  intro z hz
  simp only [List.mem_cons, List.not_mem_nil, or_false] at hz
  have key : ∀ z : List Nat, pz z = true → z.length ≤ 100 → pz z = true ∧ z.length ≤ 100 := fun _ a b => ⟨a, b⟩
  repeat' (rcases hz with hz | hz)
  all_goals
    refine key _ ?_ ?_
    · simp [pz_app, pz_cons, pz_nil, zw, zv, zl, zr, zf, zd, z1, zu]
    · first | omega | (simp; done) | (simp; omega)
end N17
end
section
set_option Elab.async false
set_option linter.all false
set_option autoImplicit false
set_option maxRecDepth 100000
set_option maxHeartbeats 4000000
/-! Oo: k17: spoils_held, joined. -/
namespace N17
open PySem PySem.Spec PyProof.Rows L2 Ly
theorem hG_A {ar : List Nat → Nat} {es : List Eqn} {k : Nat} {z : List Nat} (hw : ∀ e ∈ es, WF e) (hc : Cons ar es) (hl : es.length ≤ 90) (hk : k < (es.map lineE).length) (nz : 10 ∉ z)
    (hb : pLine z = none ∨ ∃ e, pLine z = some e ∧ addE ((es.take k).foldl addPE []) e = none) :
    ∀ G, (G = (es.map lineE).take k ++ z :: (es.map lineE).drop (k + 1) ∨ G = ((es.map lineE).take k ++ z :: (es.map lineE).drop (k + 1)) ++ [[], ab, z]) → readT (joinL (if G = [[]] then [[], (es.map lineE)[0]'(by omega)] else G)) = .error (if z.take ((es.map lineE)[k].length + 1) = (es.map lineE)[k] ++ [10] then k + 2 else k + 1) := by
  intro G hG
  rw [if_neg (no_take nz _)]
  have hk' : k < es.length := by simpa using hk
  rcases hG with rfl | rfl
  · have := one_bad (X := []) hw hc hl hk' nz (by simp) hb
    simpa only [List.append_nil] using this
  · exact one_bad (X := [[], ab, z]) hw hc hl hk' nz (fun l hl => by
      simp only [List.mem_cons, List.not_mem_nil, or_false] at hl
      rcases hl with rfl | rfl | rfl
      · simp
      · decide
      · exact nz) hb
theorem hG_B {ar : List Nat → Nat} {es : List Eqn} {k : Nat} {o : List Nat} (hw : ∀ e ∈ es, WF e) (hc : Cons ar es) (hl : es.length ≤ 90) (hk : k < (es.map lineE).length) (no : 10 ∉ o) (hb : pLine o = none) :
    ∀ G, (G = (es.map lineE).take k ++ ((es.map lineE)[k] ++ 10 :: o) :: (es.map lineE).drop (k + 1) ∨ G = ((es.map lineE).take k ++ ((es.map lineE)[k] ++ 10 :: o) :: (es.map lineE).drop (k + 1)) ++ [[], ab, (es.map lineE)[k] ++ 10 :: o]) →
    readT (joinL (if G = [[]] then [[], (es.map lineE)[0]'(by omega)] else G)) = .error (if ((es.map lineE)[k] ++ 10 :: o).take ((es.map lineE)[k].length + 1) = (es.map lineE)[k] ++ [10] then k + 2 else k + 1) := by
  intro G hG
  have ht : ((es.map lineE)[k] ++ 10 :: o).take ((es.map lineE)[k].length + 1) = (es.map lineE)[k] ++ [10] := by
    rw [List.take_append]
    simp
    exact List.take_of_length_le (by omega)
  rw [if_pos ht]
  have hk' : k < es.length := by simpa using hk
  rcases hG with rfl | rfl
  · have := two_bad (X := []) hw hc hl hk' no (.inl rfl) hb
    simpa only [List.append_nil] using this
  · exact two_bad hw hc hl hk' no (.inr rfl) hb
theorem pLine_side {w p : List Nat} (hw : w.all isL = true) (hp : p.all isL = true) : pLine (sideL w p) = none := by
  have h := sG_side [] hw hp
  rw [List.append_nil] at h
  unfold pLine
  rw [h]
  have : sG eqy 0 [] = [[]] := by unfold sG; rfl
  rw [this]
  simp [addH, pTwo]
abbrev ah : List Nat := [97, 98, 99, 100, 101, 102, 103, 104]
theorem shc {es : List Eqn} (hw : ∀ e ∈ es, WF e) (hl : es.length ≤ 1000) (x1 x2 x3 x4 x5 x6 x7 x8 x9 x10 x11 : Option W) :
    (ev s22 Γ c_law_spoils_held_1).e [some (.d (.lst (es.map eqD))), x1, x2, x3, x4, x5, x6, x7, x8, x9, x10, x11] = .ok (.t (.l ((es.map lineE).map sD))) [some (.d (.lst (es.map eqD))), x1, x2, x3, x4, x5, x6, x7, x8, x9, x10, x11] := by
  unfold c_law_spoils_held_1
  refine (lc_T es eqD (fun e => .str (tx (lineE e))) (S1 := [some (.d (.lst (es.map eqD))), x1, x2, x3, x4, x5, x6, x7, x8, x9, x10, x11]) (by simp) (fun e he => ?_) (by omega)).trans (by simp [sD])
  have h1 := f_line (hw e he)
  exact ⟨_, [some (.d (.lst (es.map eqD))), x1, x2, x3, some (.d (eqD e)), x5, x6, x7, x8, x9, x10, x11], _, .t (.d (.str (tx (lineE e)))), _, rfl, by simp [h1], rfl, rfl, rfl⟩
theorem okT_pz {l : List Nat} (h : pz l = true) : okT l = true := pz_ok h
/-- the loop over the spoils -/
theorem shl {ar : List Nat → Nat} {e0 : Eqn} {es' : List Eqn} {k : Nat} {nu : Int} (hw : ∀ e ∈ e0 :: es', WF e) (hc : Cons ar (e0 :: es')) (hl : (e0 :: es').length ≤ 60) (hk : k < (e0 :: es').length) {q : List Nat} (hq : q.all isL = true) (hq8 : q.length ≤ 8) (hne : e0.1.2.length ≠ q.length)
    (Z : List (List Nat)) (hZl : Z.length ≤ 40) (hZ : ∀ z ∈ Z, (z ∈ spoiltL (e0 :: es')[k].1.1 (e0 :: es')[k].1.2 (e0 :: es')[k].2.1 (e0 :: es')[k].2.2) ∨ (0 < k ∧ (z = lineE ((e0.1.1, q), (e0.1.1, q)) ∨ z = lineE (([99], []), (e0.1.1, q)) ∨ z = lineE (e0 :: es')[k] ++ 10 :: sideL e0.1.1 q)) ∨ z = lineE ((e0.1.1, e0.1.2), (e0.1.1, q)))
    (x0 x4 x5 x7 x8 x9 x10 x11 : Option W) :
    (loopS (Tg.nm 9 "turn").g (evS s22 Γ l_law_spoils_held_1) (intsD 0 Z.length) [x0, some (.d (.int k)), some (.d (.int nu)), some (.l (((e0 :: es').map lineE).map sD)), x4, x5, some (.l (Z.map sD)), x7, x8, x9, x10, x11]).goes fun S => ∃ y9 y10 y11, S = [x0, some (.d (.int k)), some (.d (.int nu)), some (.l (((e0 :: es').map lineE).map sD)), x4, x5, some (.l (Z.map sD)), x7, x8, y9, y10, y11] := by
  generalize hes : e0 :: es' = es at *
  have w0 : WF e0 := hw e0 (by rw [← hes]; exact List.mem_cons_self)
  have hk2 : k < (es.map lineE).length := by simpa using hk
  have hm : es[k] ∈ es := List.getElem_mem hk
  have wk := hw _ hm
  have hLk : (es.map lineE)[k] = lineE es[k] := by simp
  have wq : WF ((e0.1.1, q), (e0.1.1, q)) := ⟨w0.w, hq, hq8, w0.w, hq, hq8⟩
  have wc : WF (([99], []), (e0.1.1, q)) := ⟨rfl, rfl, Nat.zero_le _, w0.w, hq, hq8⟩
  have wl : WF ((e0.1.1, e0.1.2), (e0.1.1, q)) := ⟨w0.w, w0.p, w0.p8, w0.w, hq, hq8⟩
  have known : 0 < k → ((es.take k).foldl addPE []).lookup e0.1.1 = some e0.1.2.length := fun h => by
    obtain ⟨j, rfl⟩ : ∃ j, k = j + 1 := ⟨k - 1, by omega⟩
    rw [← hes, List.take_succ_cons]
    exact first_known (ar := ar) (fun e he => hc e (by
      rw [← hes]
      rcases List.mem_cons.mp he with he | he
      · rw [he]; exact List.mem_cons_self
      · exact List.mem_cons_of_mem _ (List.mem_of_mem_take he)))
  have po : pLine (sideL e0.1.1 q) = none := pLine_side (isW_all w0.w).1 hq
  refine loopS_rng Z.length (fun S => ∃ y9 y10 y11, S = [x0, some (.d (.int k)), some (.d (.int nu)), some (.l ((es.map lineE).map sD)), x4, x5, some (.l (Z.map sD)), x7, x8, y9, y10, y11]) (fun t ht S hS => ?_) _ ⟨x9, x10, x11, rfl⟩
  obtain ⟨y9, y10, y11, rfl⟩ := hS
  refine ⟨_, rfl, ?_⟩
  have hz := hZ Z[t] (List.getElem_mem ht)
  have okL : ∀ l ∈ es.map lineE, okT l = true := okT_lines hw
  have lenL : ∀ l ∈ es.map lineE, l.length ≤ 900 := fun l hl => by
    obtain ⟨e, he, rfl⟩ := List.mem_map.mp hl
    have := lineE_len (hw e he)
    omega
  have fin : okT Z[t] = true → (Z[t]).length ≤ 1000 → (∀ G, (G = (es.map lineE).take k ++ Z[t] :: (es.map lineE).drop (k + 1) ∨ G = ((es.map lineE).take k ++ Z[t] :: (es.map lineE).drop (k + 1)) ++ [[], ab, Z[t]]) → readT (joinL (if G = [[]] then [[], (es.map lineE)[0]'(by omega)] else G)) = .error (if Z[t].take ((es.map lineE)[k].length + 1) = (es.map lineE)[k] ++ [10] then k + 2 else k + 1)) →
      (evS s22 Γ l_law_spoils_held_1 [x0, some (.d (.int k)), some (.d (.int nu)), some (.l ((es.map lineE).map sD)), x4, x5, some (.l (Z.map sD)), x7, x8, some (.d (.int t)), y10, y11]).goes fun S => ∃ y9 y10 y11, S = [x0, some (.d (.int k)), some (.d (.int nu)), some (.l ((es.map lineE).map sD)), x4, x5, some (.l (Z.map sD)), x7, x8, y9, y10, y11] := fun a b c => by
    obtain ⟨S, h1, z10, z11, rfl⟩ := (sh1 (es.map lineE) Z k t nu hk2 ht (by simp; omega) okL a lenL b c x0 x4 x5 x7 x8 y10 y11).get
    rw [h1]
    exact ⟨_, z10, z11, rfl⟩
  rcases hz with hz | ⟨k0, hz | hz | hz⟩ | hz
  · obtain ⟨a, b⟩ := spoilt_plain wk.w wk.p wk.p8 wk.v wk.q wk.q8 _ hz
    exact fin (pz_ok a) (by omega) (hG_A hw hc (by omega) hk2 (pz_nl a) (.inl (spoilt_bad wk.w wk.p wk.p8 wk.v wk.q wk.q8 _ hz)))
  · rw [hz] at fin
    exact fin (okT_line wq) (by have := lineE_len wq; omega) (hG_A hw hc (by omega) hk2 (nl_line wq) (.inr ⟨_, pLine_wf wq, addE_no hne (.inl (known k0))⟩))
  · rw [hz] at fin
    exact fin (okT_line wc) (by have := lineE_len wc; omega) (hG_A hw hc (by omega) hk2 (nl_line wc) (.inr ⟨_, pLine_wf wc, addE_no hne (.inl (known k0))⟩))
  · rw [← hLk] at hz
    rw [hz] at fin
    have zo := pz_side (pz_L (isW_all w0.w).1) (pz_L hq)
    have lo := sideL_len e0.1.1 q
    have lw := (isW_all w0.w).2.2
    have la := lineE_len wk
    exact fin (by rw [hLk]; simp [okT_line wk, pz_ok zo]) (by rw [hLk]; simp; omega) (hG_B hw hc (by omega) hk2 (pz_nl zo) po)
  · rw [hz] at fin
    exact fin (okT_line wl) (by have := lineE_len wl; omega) (hG_A hw hc (by omega) hk2 (nl_line wl) (.inr ⟨_, pLine_wf wl, addE_no hne (.inr ⟨rfl, rfl⟩)⟩))
theorem f_spoils_held {ar : List Nat → Nat} {e0 : Eqn} {es' : List Eqn} {k : Nat} (nu : Int) (hw : ∀ e ∈ e0 :: es', WF e) (hc : Cons ar (e0 :: es')) (hl : (e0 :: es').length ≤ 60) (hk : k < (e0 :: es').length) :
    Γ.fn 15 [.lst ((e0 :: es').map eqD), .int k, .int nu] = .ret (.d (.bl true)) := by
  rw [e_spoils_held]
  obtain ⟨q, hq0⟩ : ∃ q, q = ah.take ((1 + e0.1.2.length) % 9) := ⟨_, rfl⟩
  have w0 : WF e0 := hw e0 List.mem_cons_self
  have hq : q.all isL = true := by
    rw [hq0, List.all_eq_true]
    intro c hm
    exact List.all_eq_true.mp (show ah.all isL = true by decide) c (List.mem_of_mem_take hm)
  have hql : q.length = (1 + e0.1.2.length) % 9 := by rw [hq0]; simp; omega
  have hq8 : q.length ≤ 8 := by omega
  have p8 := w0.p8
  have hne : e0.1.2.length ≠ q.length := by omega
  have wk := hw _ (List.getElem_mem hk)
  have hcut : cutL ah none (some ((1 + (e0.1.2.length : Int)) % 9)) = q := by
    have e1 : (1 + (e0.1.2.length : Int)) % 9 = (((1 + e0.1.2.length) % 9 : Nat) : Int) := by omega
    rw [e1, cutL_to, hq0]
  have lw := (isW_all w0.w).2.2
  have ls1 := sideL_len e0.1.1 q
  have ls2 := sideL_len e0.1.1 e0.1.2
  have lk := lineE_len wk
  have s1 := f_law_side (okT_L hq) (w := e0.1.1) (by omega)
  have s2 := f_law_side (okT_L w0.p) (w := e0.1.1) (by omega)
  have hsp := f_spoilt wk
  have i0 : ∀ x y z u : D, atI [x, y, z, u] 0 = some x := fun _ _ _ _ => rfl
  have i1 : ∀ x y z u : D, atI [x, y, z, u] 1 = some y := fun _ _ _ _ => rfl
  have x0 : atI ((e0 :: es').map eqD) 0 = some (eqD e0) := by
    have := atI_nat ((e0 :: es').map eqD) 0 (by simp)
    simpa using this
  have xk : atI ((e0 :: es').map eqD) (k : Int) = some (eqD (e0 :: es')[k]) := by
    rw [atI_nat _ _ (by simpa using hk), List.getElem_map]
  have xl : atI (((e0 :: es').map lineE).map sD) (k : Int) = some (sD (lineE (e0 :: es')[k])) := by
    rw [atI_nat _ _ (by simpa using hk), List.getElem_map, List.getElem_map]
  have hcc := fun x2 => shc hw (by omega) (some (.d (.int k))) x2 none none none none none none none none none
  have lp := fun Z a b => shl (nu := nu) hw hc hl hk hq hq8 hne Z a b
  have lsp : (spoiltL (e0 :: es')[k].1.1 (e0 :: es')[k].1.2 (e0 :: es')[k].2.1 (e0 :: es')[k].2.2).length = 34 := by rfl
  generalize hZ0 : spoiltL (e0 :: es')[k].1.1 (e0 :: es')[k].1.2 (e0 :: es')[k].2.1 (e0 :: es')[k].2.2 = Z0 at hsp lp lsp
  have c1 : lineE ((e0.1.1, q), (e0.1.1, q)) = sideL e0.1.1 q ++ [32, 61, 32] ++ sideL e0.1.1 q := by unfold lineE lineL; simp
  have c2 : lineE (([99], []), (e0.1.1, q)) = [99, 32, 61, 32] ++ sideL e0.1.1 q := by unfold lineE lineL sideL; simp
  have c3 : lineE ((e0.1.1, e0.1.2), (e0.1.1, q)) = sideL e0.1.1 e0.1.2 ++ [32, 61, 32] ++ sideL e0.1.1 q := by unfold lineE lineL; simp
  have ei : initS N_law_spoils_held.length [.lst ((e0 :: es').map eqD), .int k, .int nu] = [some (.d (.lst ((e0 :: es').map eqD))), some (.d (.int k)), some (.d (.int nu)), none, none, none, none, none, none, none, none, none] := rfl
  rw [ei]
  obtain ⟨a, ha⟩ : ∃ a, a = lineE (e0 :: es')[k] := ⟨_, rfl⟩
  rw [← ha] at xl lp lk
  rw [c1, c2, c3] at lp
  generalize sideL e0.1.1 q = o at *
  generalize sideL e0.1.1 e0.1.2 = f at *
  generalize hEs : (e0 :: es').map eqD = ES at *
  generalize hLs : ((e0 :: es').map lineE).map sD = LS at *
  simp only [eqD] at x0
  clear c1 c2 c3 hEs hLs ha hZ0
  generalize (e0 :: es')[k] = ek at *
  by_cases hk0 : k = 0
  · have hk1 : ¬ (0 < k) := by omega
    obtain ⟨S, h1, y9, y10, y11, rfl⟩ := (lp (Z0 ++ [f ++ [32, 61, 32] ++ o]) (by simp; omega) (fun z hz => by
      rcases List.mem_append.mp hz with hz | hz
      · exact .inl hz
      · exact .inr (.inr (List.mem_singleton.mp hz))) (some (.d (.lst ES))) none (some (.d (.tup [.str (tx e0.1.1), .str (tx e0.1.2), .str (tx e0.2.1), .str (tx e0.2.2)]))) (some (.d (.int (1 + e0.1.2.length)))) (some (.d (.str (tx o)))) none none none).get
    simp [lsp, sD] at h1
    unfold b_law_spoils_held
    simp (disch := first | omega | (simp; done) | (simp; omega) | assumption | fail) [hcc, x0, xk, xl, i0, i1, hsp, hcut, s1, s2, lsp, h1, hk1, outOf]
  · have hk1 : 0 < k := by omega
    obtain ⟨S, h1, y9, y10, y11, rfl⟩ := (lp (Z0 ++ [o ++ [32, 61, 32] ++ o] ++ [[99, 32, 61, 32] ++ o, a ++ [10] ++ o] ++ [f ++ [32, 61, 32] ++ o]) (by simp; omega) (fun z hz => by
      simp only [List.mem_append, List.mem_cons, List.not_mem_nil, or_false] at hz
      rcases hz with ((hz | hz) | hz | hz) | hz
      · exact .inl hz
      · exact .inr (.inl ⟨hk1, .inl hz⟩)
      · exact .inr (.inl ⟨hk1, .inr (.inl hz)⟩)
      · exact .inr (.inl ⟨hk1, .inr (.inr (by rw [hz]; simp))⟩)
      · exact .inr (.inr hz)) (some (.d (.lst ES))) none (some (.d (.tup [.str (tx e0.1.1), .str (tx e0.1.2), .str (tx e0.2.1), .str (tx e0.2.2)]))) (some (.d (.int (1 + e0.1.2.length)))) (some (.d (.str (tx o)))) none none none).get
    simp [lsp, sD] at h1
    unfold b_law_spoils_held
    simp (disch := first | omega | (simp; done) | (simp; omega) | assumption | fail) [hcc, x0, xk, xl, i0, i1, hsp, hcut, s1, s2, lsp, h1, hk1, outOf]
end N17
end
section
set_option Elab.async false
set_option linter.all false
set_option autoImplicit false
set_option maxRecDepth 100000
set_option maxHeartbeats 4000000
/-! Op: k17: hundred_held. -/
namespace N17
open PySem PySem.Spec PyProof.Rows L2 Ly
/-- the line behind a hundred -/
theorem read_101 {ar : List Nat → Nat} {fs : List Eqn} {z : List Nat} {R : List (List Nat)} (hw : ∀ e ∈ fs, WF e) (hc : Cons ar fs) (hl : fs.length = 100) (nz : 10 ∉ z) (nR : ∀ l ∈ R, 10 ∉ l) : readT (joinL (fs.map lineE ++ z :: R)) = .error 101 := by
  unfold readT
  rw [linesOf_join (fun h => by
    have := congrArg List.length h
    simp at this
    omega) fun l hl => by
    rcases List.mem_append.mp hl with hl | hl
    · exact nl_lines hw l hl
    · rcases List.mem_cons.mp hl with rfl | hl
      · exact nz
      · exact nR l hl]
  rw [readL_app (ar := ar) fs 1 [] [] _ hw hc good_nil (by omega), readL, hl]
  rfl
theorem deq_err (n : Int) : deq (.lst [.tup [.str (tx [66, 97, 100, 73, 100, 101, 110, 116, 105, 116, 105, 101, 115]), .int n]]) (.lst [.tup [.str (tx [66, 97, 100, 73, 100, 101, 110, 116, 105, 116, 105, 101, 115]), .int n]]) = some true :=
  deq_same (n := 2) (by simp [plD, plDs, okT_str]) (by decide)
/-- one turn of the three -/
theorem hh1 {G : List (List Nat)} (ok : ∀ l ∈ G, okT l = true) (len : ∀ l ∈ G, l.length ≤ 1000) (hl : G.length ≤ 500) (h : readT (joinL G) = .error 101) (x0 x1 x2 x3 x4 x5 x6 x7 : Option W) :
    evS s23 Γ l_law_hundred_held_1 [x0, x1, x2, x3, x4, x5, x6, x7, some (.d (.str (tx (joinL G))))] = .nx [x0, x1, x2, x3, x4, x5, x6, x7, some (.d (.str (tx (joinL G))))] := by
  have he := f_err_lines ok len hl h
  have hd := deq_err 101
  simp only [eBad] at he
  simp at he
  unfold l_law_hundred_held_1
  simp [he, hd]
def tour (es : List Eqn) (h : 0 < es.length) : List Eqn := (List.range 100).map fun i => es[i % es.length]'(Nat.mod_lt _ h)
theorem tour_mem {es : List Eqn} (h : 0 < es.length) : ∀ e ∈ tour es h, e ∈ es := fun e he => by
  obtain ⟨i, _, rfl⟩ := List.mem_map.mp he
  exact List.getElem_mem _
theorem tour_len {es : List Eqn} (h : 0 < es.length) : (tour es h).length = 100 := by simp [tour]
theorem hhc2 {es : List Eqn} (h : 0 < es.length) (x1 x3 x4 x5 x6 x7 x8 : Option W) :
    (ev s23 Γ c_law_hundred_held_2).e [some (.d (.lst (es.map eqD))), x1, some (.d (.int es.length)), x3, x4, x5, x6, x7, x8] = .ok (.t (.l ((tour es h).map eqD))) [some (.d (.lst (es.map eqD))), x1, some (.d (.int es.length)), x3, x4, x5, x6, x7, x8] := by
  unfold c_law_hundred_held_2
  have e1 : intsD 0 100 = (List.range 100).map fun i : Nat => D.int (i : Int) := intsD_eq 100
  refine (lc_T (List.range 100) (fun i : Nat => D.int (i : Int)) (fun i => eqD (es[i % es.length]'(Nat.mod_lt _ h))) (S1 := [some (.d (.lst (es.map eqD))), x1, some (.d (.int es.length)), x3, x4, x5, x6, x7, x8]) (by rw [← e1]; simp) (fun i hi => ?_) (by simp)).trans (by simp [tour])
  have hx : atI (es.map eqD) ((i : Int) % (es.length : Int)) = some (eqD (es[i % es.length]'(Nat.mod_lt _ h))) := by
    have e2 : ((i : Int) % (es.length : Int)) = ((i % es.length : Nat) : Int) := by simp
    rw [e2, atI_nat _ _ (by simpa using Nat.mod_lt _ h), List.getElem_map]
  exact ⟨_, [some (.d (.lst (es.map eqD))), x1, some (.d (.int es.length)), x3, some (.d (.int i)), x5, x6, x7, x8], _, .t (.d (eqD (es[i % es.length]'(Nat.mod_lt _ h)))), _, rfl, by simp (disch := first | omega | (simp; done) | fail) [hx, h], rfl, rfl, rfl⟩
theorem hhc1 {es fs : List Eqn} (hw : ∀ e ∈ es, WF e) (hw2 : ∀ e ∈ fs, WF e) (hl : es.length ≤ 1000) (hl2 : fs.length ≤ 1000) (x1 x2 x4 x5 x6 x7 x8 : Option W) :
    (ev s23 Γ c_law_hundred_held_1).e [some (.d (.lst (es.map eqD))), x1, x2, some (.l (fs.map eqD)), x4, x5, x6, x7, x8] = .ok (.t (.l (((fs ++ es.take 1).map lineE).map sD))) [some (.d (.lst (es.map eqD))), x1, x2, some (.l (fs.map eqD)), x4, x5, x6, x7, x8] := by
  unfold c_law_hundred_held_1
  have ec : cutD (es.map eqD) none (some 1) = (es.take 1).map eqD := by
    have := cutD_to (es.map eqD) 1
    rw [List.map_take]
    exact this
  have ha : sAdd (.lst (fs.map eqD)) (.lst ((es.map eqD).take 1)) = some (.l ((fs ++ es.take 1).map eqD)) := by
    rw [sAdd_lst _ _ (by simp; omega), List.map_append, List.map_take]
  refine (lc_T (fs ++ es.take 1) eqD (fun e => .str (tx (lineE e))) (S1 := [some (.d (.lst (es.map eqD))), x1, x2, some (.l (fs.map eqD)), x4, x5, x6, x7, x8]) (by simp [ec, ha]) (fun e he => ?_) (by simp; omega)).trans (by rw [List.map_map]; rfl)
  have we : WF e := by
    rcases List.mem_append.mp he with he | he
    · exact hw2 e he
    · exact hw e (List.mem_of_mem_take he)
  have h1 := f_line we
  exact ⟨_, [some (.d (.lst (es.map eqD))), x1, x2, some (.l (fs.map eqD)), x4, x5, some (.d (eqD e)), x7, x8], _, .t (.d (.str (tx (lineE e)))), _, rfl, by simp [h1], rfl, rfl, rfl⟩
abbrev bcd : List Nat := [97, 32, 61, 32, 98, 32, 99, 32, 100]
theorem bcd_bad : pLine bcd = none := by decide +kernel
theorem f_hundred_held {ar : List Nat → Nat} {es : List Eqn} {k : Nat} (hw : ∀ e ∈ es, WF e) (hc : Cons ar es) (h0 : 0 < es.length) (hl : es.length ≤ 60) (hk : k ≤ 100) : Γ.fn 16 [.lst (es.map eqD), .int k] = .ret (.d (.bl true)) := by
  rw [e_hundred_held]
  have ei : initS N_law_hundred_held.length [.lst (es.map eqD), .int k] = [some (.d (.lst (es.map eqD))), some (.d (.int k)), none, none, none, none, none, none, none] := rfl
  rw [ei]
  obtain ⟨F, hF⟩ : ∃ F, F = tour es h0 := ⟨_, rfl⟩
  have wF : ∀ e ∈ F, WF e := fun e he => hw e (tour_mem h0 e (hF ▸ he))
  have cF : Cons ar F := fun e he => hc e (tour_mem h0 e (hF ▸ he))
  have lF : F.length = 100 := by rw [hF]; exact tour_len h0
  obtain ⟨H, hH⟩ : ∃ H, H = F ++ es.take 1 := ⟨_, rfl⟩
  have wH : ∀ e ∈ H, WF e := fun e he => by
    rw [hH] at he
    rcases List.mem_append.mp he with he | he
    · exact wF e he
    · exact hw e (List.mem_of_mem_take he)
  have cH : Cons ar H := fun e he => by
    rw [hH] at he
    rcases List.mem_append.mp he with he | he
    · exact cF e he
    · exact hc e (List.mem_of_mem_take he)
  have lH : H.length = 101 := by rw [hH]; simp; omega
  have g2 := fun x3 => hhc2 h0 (some (.d (.int k))) x3 none none none none none
  rw [← hF] at g2
  have g1 := fun x2 => hhc1 hw wF (by omega) (by omega) (some (.d (.int k))) x2 none none none none none
  rw [← hH] at g1
  have hr := f_read_held wF cF (by omega)
  -- the texts
  have ht : (H.map lineE).take 100 = F.map lineE := by rw [hH]; simp [lF, List.take_append]
  have htD : ((H.map lineE).map sD).take 100 = (F.map lineE).map sD := by rw [← List.map_take, ht]
  have cut100 : cutD ((H.map lineE).map sD) none (some 100) = (F.map lineE).map sD := (cutD_to _ 100).trans htD
  have jF := join_nl (len_lines wF) (by simp; omega)
  have jH := join_nl (len_lines wH) (by simp; omega)
  have neF : F.map lineE ≠ [] := fun h => by have := congrArg List.length h; simp [lF] at this
  have tF : (textE F).length ≤ 200000 := by have := joinL_len (len_lines wF); simp [lF] at this; unfold textE; omega
  have okF := okT_lines wF
  have okH := okT_lines wH
  have lnF := len_lines wF
  have lnH := len_lines wH
  have tA : textE F ++ [10] = joinL (F.map lineE ++ [[]]) := by rw [joinL_snoc _ neF]; rfl
  have tC : textE F ++ [10, 65, 32, 61, 32, 98, 10, 65, 32, 61, 32, 98] = joinL (F.map lineE ++ [ab, ab]) := by
    have e1 : F.map lineE ++ [ab, ab] = (F.map lineE ++ [ab]) ++ [ab] := by simp
    rw [e1, joinL_snoc _ (by simp), joinL_snoc _ neF]
    simp [textE]
  obtain ⟨e0, he0⟩ : ∃ e0, es.take 1 = [e0] := by
    cases es with
    | nil => cases h0
    | cons a r => exact ⟨a, rfl⟩
  have tB : textE H = joinL (F.map lineE ++ [lineE e0]) := by unfold textE; rw [hH, he0]; simp
  have we0 : WF e0 := hw e0 (List.mem_of_mem_take (i := 1) (by rw [he0]; simp))
  have rA := read_101 wF cF lF (z := []) (R := []) (by simp) (by simp)
  have rB := read_101 wF cF lF (z := lineE e0) (R := []) (nl_line we0) (by simp)
  have rC := read_101 wF cF lF (z := ab) (R := [ab]) (by decide) (fun l hl => by rw [List.mem_singleton.mp hl]; decide)
  have hA := fun x0 x1 x2 x3 x4 x5 x6 x7 => hh1 (G := F.map lineE ++ [[]]) (fun l hl => by
    rcases List.mem_append.mp hl with hl | hl
    · exact okF l hl
    · rw [List.mem_singleton.mp hl]; rfl) (fun l hl => by
    rcases List.mem_append.mp hl with hl | hl
    · exact lnF l hl
    · rw [List.mem_singleton.mp hl]; simp) (by simp; omega) rA x0 x1 x2 x3 x4 x5 x6 x7
  have hB := fun x0 x1 x2 x3 x4 x5 x6 x7 => hh1 (G := F.map lineE ++ [lineE e0]) (fun l hl => by
    rcases List.mem_append.mp hl with hl | hl
    · exact okF l hl
    · rw [List.mem_singleton.mp hl]; exact okT_line we0) (fun l hl => by
    rcases List.mem_append.mp hl with hl | hl
    · exact lnF l hl
    · rw [List.mem_singleton.mp hl]; have := lineE_len we0; omega) (by simp; omega) rB x0 x1 x2 x3 x4 x5 x6 x7
  have hC := fun x0 x1 x2 x3 x4 x5 x6 x7 => hh1 (G := F.map lineE ++ [ab, ab]) (fun l hl => by
    rcases List.mem_append.mp hl with hl | hl
    · exact okF l hl
    · simp only [List.mem_cons, List.not_mem_nil, or_false, or_self] at hl; rw [hl]; rfl) (fun l hl => by
    rcases List.mem_append.mp hl with hl | hl
    · exact lnF l hl
    · simp only [List.mem_cons, List.not_mem_nil, or_false, or_self] at hl; rw [hl]; simp) (by simp; omega) rC x0 x1 x2 x3 x4 x5 x6 x7
  rw [← tA] at hA
  rw [← tB] at hB
  rw [← tC] at hC
  -- the last one
  have kH : k < H.length := by omega
  obtain ⟨G, hG⟩ : ∃ G, G = (H.map lineE).take k ++ bcd :: (H.map lineE).drop (k + 1) := ⟨_, rfl⟩
  have rD : readT (joinL G) = .error (k + 1) := by
    have := read_bad (ar := ar) (fs := H.take k) (z := bcd) (R := (H.map lineE).drop (k + 1)) (fun e he => wH e (List.mem_of_mem_take he)) (fun e he => cH e (List.mem_of_mem_take he)) (by simp; omega) (by decide) (fun l hl => nl_lines wH l (List.mem_of_mem_drop hl)) (fun h => by
      have := congrArg List.length h
      simp at this
      omega) (.inl bcd_bad)
    rw [hG]
    have e2 : (H.take k).length = k := by simp; omega
    rw [e2, List.map_take] at this
    exact this
  have hD := f_err_lines (G := G) (fun l hl => by
    rw [hG] at hl
    rcases List.mem_append.mp hl with hl | hl
    · exact okH l (List.mem_of_mem_take hl)
    · rcases List.mem_cons.mp hl with rfl | hl
      · rfl
      · exact okH l (List.mem_of_mem_drop hl)) (fun l hl => by
    rw [hG] at hl
    rcases List.mem_append.mp hl with hl | hl
    · exact lnH l (List.mem_of_mem_take hl)
    · rcases List.mem_cons.mp hl with rfl | hl
      · simp
      · exact lnH l (List.mem_of_mem_drop hl)) (by rw [hG]; simp; omega) rD
  have jG := join_nl (ls := G) (fun l hl => by
    rw [hG] at hl
    rcases List.mem_append.mp hl with hl | hl
    · exact lnH l (List.mem_of_mem_take hl)
    · rcases List.mem_cons.mp hl with rfl | hl
      · simp
      · exact lnH l (List.mem_of_mem_drop hl)) (by rw [hG]; simp; omega)
  have eG : ((H.map lineE).map sD).take k ++ sD bcd :: ((H.map lineE).map sD).drop (k + 1) = G.map sD := by rw [hG]; simp [List.map_take, List.map_drop]
  have hd := deq_err ((k : Int) + 1)
  have uF : joinL (F.map lineE) = textE F := rfl
  have uH : joinL (H.map lineE) = textE H := rfl
  rw [uF] at jF
  rw [uH] at jH
  have lLS : ((H.map lineE).map sD).length = 101 := by simp [lH]
  have jF : sBM .join (tx [10]) [.lst ((F.map lineE).map sD)] = _ := jF
  have jH : sBM .join (tx [10]) [.lst ((H.map lineE).map sD)] = _ := jH
  have jG : sBM .join (tx [10]) [.lst (G.map sD)] = _ := jG
  have lD : (((H.map lineE).map sD).drop (k + 1)).length ≤ 101 := by simp; omega
  have lT : (((H.map lineE).map sD).take k).length ≤ 101 := by simp; omega
  generalize (F.map lineE).map sD = DF at *
  generalize hDH : (H.map lineE).map sD = DH at *
  generalize hTG : joinL G = TG at *
  generalize G.map sD = DG at *
  clear hTG hDH tA tB tC rA rB rC rD uF uH hG
  simp only [eBad] at hD
  simp [sD] at hD eG
  unfold b_law_hundred_held
  simp (disch := first | omega | (simp; done) | (simp; omega) | assumption | fail) [g2, g1, hr, cut100, jF, jH, jG, eG, loopS, hA, hB, hC, hD, hd, outOf]
end N17
end
section
set_option Elab.async false
set_option linter.all false
set_option autoImplicit false
set_option maxRecDepth 100000
set_option maxHeartbeats 4000000
/-! Oq: k17: symbols. -/
namespace N17
open PySem PySem.Spec PyProof.Rows L2 Ly
abbrev az : List Nat := List.range' 97 26
theorem az_at (r : Int) : atI az (r % 26) = some (97 + (r % 26).toNat) := by
  have h1 : 0 ≤ r % 26 := Int.emod_nonneg _ (by decide)
  have h2 : r % 26 < 26 := Int.emod_lt_of_pos _ (by decide)
  rw [atI_pos _ _ h1 (by simp; omega)]
  simp
theorem az_L (n : Nat) (h : n < 26) : isL (97 + n) = true := by
  unfold isL
  simp only [Bool.and_eq_true, Nat.ble_eq]
  omega
/-- one more letter -/
theorem sy1 (w : List Nat) (r : Int) (hw : w.length ≤ 100) (x0 x2 x3 x4 x7 x8 x9 x10 x11 : Option W) :
    evS s13 Γ l_law_symbols_1 [x0, some (.d (.str (tx az))), x2, x3, x4, some (.d (.int r)), some (.d (.str (tx w))), x7, x8, x9, x10, x11] = .nx [x0, some (.d (.str (tx az))), x2, x3, x4, some (.d (.int (r / 26))), some (.d (.str (tx (w ++ [97 + (r % 26).toNat])))), x7, x8, x9, x10, x11] := by
  have h := az_at r
  unfold l_law_symbols_1
  simp (disch := first | omega | (simp; done) | (simp; omega) | fail) [h]
theorem sy2 (m : Nat) (hm : m ≤ 50) (r : Int) (x0 x2 x3 x4 x7 x8 x9 x10 x11 : Option W) :
    (loopS (Tg.nm 7 "at").g (evS s13 Γ l_law_symbols_1) (intsD 0 m) [x0, some (.d (.str (tx az))), x2, x3, x4, some (.d (.int r)), some (.d (.str (tx []))), x7, x8, x9, x10, x11]).goes fun S => ∃ (w : List Nat) (y5 y7 : Option W), S = [x0, some (.d (.str (tx az))), x2, x3, x4, y5, some (.d (.str (tx w))), y7, x8, x9, x10, x11] ∧ w.length = m ∧ w.all isL = true := by
  obtain ⟨S, h1, w, r2, y7, h2, h3, h4⟩ := loopS_inv (g := (Tg.nm 7 "at").g) (body := evS s13 Γ l_law_symbols_1)
    (fun xs S => ∃ (w : List Nat) (r : Int) (y7 : Option W), S = [x0, some (.d (.str (tx az))), x2, x3, x4, some (.d (.int r)), some (.d (.str (tx w))), y7, x8, x9, x10, x11] ∧ w.length + xs.length = m ∧ w.all isL = true)
    (fun x xs S ⟨w, r, y7, hS, hl, ha⟩ => ⟨[x0, some (.d (.str (tx az))), x2, x3, x4, some (.d (.int r)), some (.d (.str (tx w))), some (.d x), x8, x9, x10, x11], _, by rw [hS]; rfl, .inl (sy1 w r (by simp at hl; omega) x0 x2 x3 x4 (some (.d x)) x8 x9 x10 x11), w ++ [97 + (r % 26).toNat], r / 26, some (.d x), rfl, by simp at hl ⊢; omega, by
      rw [List.all_append, ha]
      have h2 : r % 26 < 26 := Int.emod_lt_of_pos _ (by decide)
      simp [az_L (r % 26).toNat (by omega)]⟩)
    (intsD 0 m) _ ⟨[], r, x7, rfl, by simp [intsD], rfl⟩
  rw [h1]
  exact ⟨w, _, y7, h2, by simpa using h3, h4⟩
/-- a letter that is not a name -/
theorem free_letter : ∀ (ns : List (List Nat)) (L : List Nat), L.Nodup → ns.length < L.length → ∃ c ∈ L, [c] ∉ ns
  | [], L, _, h => by
    cases L with
    | nil => cases h
    | cons c L => exact ⟨c, List.mem_cons_self, by simp⟩
  | n :: ns, L, hn, h => by
    have h : ns.length + 1 < L.length := h
    by_cases hc : ∃ c, n = [c]
    · obtain ⟨c0, rfl⟩ := hc
      have hl : ns.length < (L.erase c0).length := by
        rw [List.length_erase]
        split <;> omega
      obtain ⟨c, h1, h2⟩ := free_letter ns (L.erase c0) (hn.erase c0) hl
      rw [hn.mem_erase_iff] at h1
      refine ⟨c, h1.2, ?_⟩
      simp only [List.mem_cons, List.cons.injEq, and_true, not_or]
      exact ⟨h1.1, h2⟩
    · obtain ⟨c, h1, h2⟩ := free_letter ns L hn (by omega)
      refine ⟨c, h1, ?_⟩
      simp only [List.mem_cons, not_or]
      exact ⟨fun z => hc ⟨c, z.symm⟩, h2⟩
theorem syc (c : C) (hc : c = c_law_symbols_1 ∨ c = c_law_symbols_3) (sy : Syms) (hl : sy.length ≤ 100) (x0 x1 x2 x4 x5 x6 x7 x8 x9 x10 x11 : Option W) :
    (ev s13 Γ c).e [x0, x1, x2, some (.l (sy.map pairD)), x4, x5, x6, x7, x8, x9, x10, x11] = .ok (.t (.l ((sy.map (·.1)).map sD))) [x0, x1, x2, some (.l (sy.map pairD)), x4, x5, x6, x7, x8, x9, x10, x11] := by
  have e : c = .lc [("name", 8), ("arity", 9)] (.tp [(8, "name"), (9, "arity")]) (.itw 3 "symbols") .yes (.var 8 "name") := by rcases hc with rfl | rfl <;> rfl
  rw [e]
  refine (lc_V sy pairD (fun p => sD p.1) rfl (by decide) (fun p hp => ?_) (by omega)).trans (by rw [List.map_map]; rfl)
  exact ⟨_, [x0, x1, x2, none, x4, x5, x6, x7, some (.d (.str (tx p.1))), some (.d (.int p.2)), x10, x11], _, .s 8, _, rfl, by simp, rfl, rfl, rfl⟩
theorem din_names {ns : List (List Nat)} {w : List Nat} (h : ∀ n ∈ ns, okT n = true) (hw : okT w = true) : din (.str (tx w)) (.lst (ns.map sD)) = some (decide (w ∈ ns)) := by
  obtain ⟨b, e, hb⟩ := din_iff (n := 0) (m := 0) (x := .str (tx w)) (ys := ns.map sD) (by simpa [plD, okT_str] using hw) (strs_pl h) (by decide) (by decide)
  rw [e]
  congr 1
  rw [Bool.eq_iff_iff, hb, decide_eq_true_eq, List.mem_map]
  constructor
  · rintro ⟨q, hq, e⟩; rw [← sD_inj e]; exact hq
  · intro z; exact ⟨w, z, rfl⟩
/-- the letters that are no names -/
theorem syc2 (ns : List (List Nat)) (h : ∀ n ∈ ns, okT n = true) (x0 x2 x3 x4 x5 x6 x7 x8 x9 x11 : Option W) :
    (ev s13 Γ c_law_symbols_2).e [x0, some (.d (.str (tx az))), x2, x3, x4, x5, x6, x7, x8, x9, some (.l (ns.map sD)), x11] = .ok (.t (.l ((az.filter fun c => decide ([c] ∉ ns)).map fun c => sD [c]))) [x0, some (.d (.str (tx az))), x2, x3, x4, x5, x6, x7, x8, x9, some (.l (ns.map sD)), x11] := by
  unfold c_law_symbols_2
  let f : D → Option D := fun d => match d with | .str z => if z.cps.toList ∈ ns then none else some (.str z) | _ => none
  refine (lc_fm (items := signs (tx az)) (S1 := [x0, some (.d (.str (tx az))), x2, x3, x4, x5, x6, x7, x8, x9, some (.l (ns.map sD)), x11]) f (by simp) (fun x hx => ?_) (by rw [signs_tx]; simp)).trans ?_
  · rw [signs_tx] at hx
    obtain ⟨c, hc, rfl⟩ := List.mem_map.mp hx
    have hcl : okT [c] = true := by
      have := List.mem_range'_1.mp hc
      simp
      omega
    have hd := din_names h hcl
    by_cases hm : [c] ∈ ns
    · refine .inl ⟨_, [x0, some (.d (.str (tx az))), x2, x3, x4, x5, x6, x7, x8, x9, some (.l (ns.map sD)), some (.d (.str (tx [c])))], rfl, ?_, ?_, rfl⟩
      · simp [hd, hm]
      · show (if (tx [c]).cps.toList ∈ ns then none else some (D.str (tx [c]))) = none
        rw [tx_cps, if_pos hm]
    · refine .inr ⟨_, [x0, some (.d (.str (tx az))), x2, x3, x4, x5, x6, x7, x8, x9, some (.l (ns.map sD)), some (.d (.str (tx [c])))], [x0, some (.d (.str (tx az))), x2, x3, x4, x5, x6, x7, x8, x9, some (.l (ns.map sD)), some (.d (.str (tx [c])))], _, .s 11, _, rfl, ?_, ?_, rfl, ?_, rfl⟩
      · simp [hd, hm]
      · simp
      · show (if (tx [c]).cps.toList ∈ ns then none else some (D.str (tx [c]))) = some (D.str (tx [c]))
        rw [tx_cps, if_neg hm]
  · rw [signs_tx, List.filterMap_map]
    congr 3
    have hf : ∀ L : List Nat, L.filterMap (f ∘ fun c => D.str (tx [c])) = (L.filter fun c => decide ([c] ∉ ns)).map fun c => sD [c] := by
      intro L
      induction L with
      | nil => rfl
      | cons c L ih =>
        by_cases hm : [c] ∈ ns
        · have e1 : (f ∘ fun c => D.str (tx [c])) c = none := by
            show (if (tx [c]).cps.toList ∈ ns then none else some (D.str (tx [c]))) = none
            rw [tx_cps, if_pos hm]
          rw [List.filterMap_cons_none e1, ih, List.filter_cons_of_neg (by simpa using hm)]
        · have e1 : (f ∘ fun c => D.str (tx [c])) c = some (D.str (tx [c])) := by
            show (if (tx [c]).cps.toList ∈ ns then none else some (D.str (tx [c]))) = some (D.str (tx [c]))
            rw [tx_cps, if_neg hm]
          rw [List.filterMap_cons_some e1, ih, List.filter_cons_of_pos (by simpa using hm)]
          rfl
    exact hf az
/-- what the symbols are -/
structure SyOk (sy : Syms) : Prop where
  w : ∀ p ∈ sy, isW 4 p.1 = true
  n : ∀ p ∈ sy, p.2 ≤ 8
  nd : (sy.map (·.1)).Nodup
theorem SyOk.ok {sy : Syms} (h : SyOk sy) : ∀ n ∈ sy.map (·.1), okT n = true := fun n hn => by
  obtain ⟨p, hp, rfl⟩ := List.mem_map.mp hn
  exact okT_W (h.w p hp)
/-- one more symbol -/
theorem sy3 {sy : Syms} (h : SyOk sy) (hl : sy.length ≤ 4) (ar : List Int) (har : ar.length = 5) (har2 : ∀ a ∈ ar, 0 ≤ a ∧ a < 9) (nu : Int) (hn : 0 ≤ nu) (x0 x5 x6 x7 x8 x9 x10 x11 : Option W) :
    (evS s13 Γ l_law_symbols_2 [x0, some (.d (.str (tx az))), some (.d (.lst (ar.map .int))), some (.l (sy.map pairD)), some (.d (.int nu)), x5, x6, x7, x8, x9, x10, x11]).goes fun S => ∃ p y5 y6 y7 y8 y9 y10 y11, SyOk (sy ++ [p]) ∧ S = [x0, some (.d (.str (tx az))), some (.d (.lst (ar.map .int))), some (.l ((sy ++ [p]).map pairD)), some (.d (.int nu)), y5, y6, y7, y8, y9, y10, y11] := by
  -- the arity
  obtain ⟨a, ha, ha2⟩ : ∃ a : Nat, atI (ar.map D.int) (sy.length : Int) = some (.int a) ∧ a ≤ 8 := by
    have hlt : sy.length < ar.length := by omega
    have := har2 ar[sy.length] (List.getElem_mem hlt)
    refine ⟨ar[sy.length].toNat, ?_, by omega⟩
    rw [atI_nat _ _ (by simpa using hlt), List.getElem_map, Int.toNat_of_nonneg this.1]
  -- the word
  obtain ⟨m, hm, hm1, hm4⟩ : ∃ m : Nat, 1 + nu % 4 = (m : Int) ∧ 1 ≤ m ∧ m ≤ 4 := ⟨(1 + nu % 4).toNat, by omega, by omega, by omega⟩
  obtain ⟨S, g1, w, y5, y7, rfl, hw1, hw2⟩ := (sy2 m (by omega) (nu / 24) x0 (some (.d (.lst (ar.map .int)))) (some (.l (sy.map pairD))) (some (.d (.int nu))) x7 x8 x9 x10 x11).get
  have hwW : isW 4 w = true := by
    unfold isW
    rw [hw1, hw2]
    simp only [Bool.and_true, Bool.and_eq_true, Nat.ble_eq]
    omega
  have c1 := fun x5 x6 x7 x8 x9 x10 x11 => syc c_law_symbols_1 (.inl rfl) sy (by omega) x0 (some (.d (.str (tx az)))) (some (.d (.lst (ar.map .int)))) (some (.d (.int nu))) x5 x6 x7 x8 x9 x10 x11
  have c3 := fun x5 x6 x7 x8 x9 x10 x11 => syc c_law_symbols_3 (.inr rfl) sy (by omega) x0 (some (.d (.str (tx az)))) (some (.d (.lst (ar.map .int)))) (some (.d (.int nu))) x5 x6 x7 x8 x9 x10 x11
  have c2 := fun x3 x4 x5 x6 x7 x8 x9 x11 => syc2 (sy.map (·.1)) h.ok x0 (some (.d (.lst (ar.map .int)))) x3 x4 x5 x6 x7 x8 x9 x11
  have hd := din_names h.ok (okT_W hwW)
  have hm2 : -4611686018427387904 ≤ (m : Int) ∧ (m : Int) < 4611686018427387904 := by omega
  have hsl : sy.length < 16777216 := by omega
  by_cases hin : w ∈ sy.map (·.1)
  · -- a free letter
    obtain ⟨c, hc1, hc2⟩ := free_letter (sy.map (·.1)) az (List.nodup_range') (by simp; omega)
    obtain ⟨c0, L, hL⟩ : ∃ c0 L, az.filter (fun c => decide ([c] ∉ sy.map (·.1))) = c0 :: L := by
      cases e : az.filter (fun c => decide ([c] ∉ sy.map (·.1))) with
      | nil =>
        have : c ∈ az.filter (fun c => decide ([c] ∉ sy.map (·.1))) := List.mem_filter.mpr ⟨hc1, by simpa using hc2⟩
        rw [e] at this
        cases this
      | cons c0 L => exact ⟨c0, L, rfl⟩
    have hc0 : c0 ∈ az.filter (fun c => decide ([c] ∉ sy.map (·.1))) := by rw [hL]; exact List.mem_cons_self
    obtain ⟨m1, m2⟩ := List.mem_filter.mp hc0
    have m2 : [c0] ∉ sy.map (·.1) := by simpa using m2
    have m1 := List.mem_range'_1.mp m1
    have hW0 : isW 4 [c0] = true := by
      unfold isW isL
      simp only [List.length_cons, List.length_nil, List.all_cons, List.all_nil, Bool.and_true, Bool.and_eq_true, Nat.ble_eq]
      omega
    rw [hL] at c2
    have i0 : ∀ (x : D) (y : List D), atI (x :: y) 0 = some x := fun x y => by
      have := atI_nat (x :: y) 0 (by simp)
      simpa using this
    have hok : SyOk (sy ++ [([c0], a)]) := by
      refine ⟨fun p hp => ?_, fun p hp => ?_, ?_⟩
      · rcases List.mem_append.mp hp with hp | hp
        · exact h.w p hp
        · rw [List.mem_singleton.mp hp]; exact hW0
      · rcases List.mem_append.mp hp with hp | hp
        · exact h.n p hp
        · rw [List.mem_singleton.mp hp]; exact ha2
      · rw [List.map_append, List.nodup_append]
        refine ⟨h.nd, by simp, fun x hx y hy => ?_⟩
        simp at hy
        subst hy
        rintro rfl
        exact m2 hx
    generalize hNS : (sy.map (·.1)).map sD = NS at *
    unfold l_law_symbols_2
    simp only [sD] at *
    simp at c2
    simp (disch := first | omega | (simp; done) | (simp; omega) | assumption | fail) [hm, g1, c1, c2, c3, hd, hin, i0, ha, hsl, pairD]
    exact ⟨[c0], a, hok, rfl, rfl⟩
  · have hok : SyOk (sy ++ [(w, a)]) := by
      refine ⟨fun p hp => ?_, fun p hp => ?_, ?_⟩
      · rcases List.mem_append.mp hp with hp | hp
        · exact h.w p hp
        · rw [List.mem_singleton.mp hp]; exact hwW
      · rcases List.mem_append.mp hp with hp | hp
        · exact h.n p hp
        · rw [List.mem_singleton.mp hp]; exact ha2
      · rw [List.map_append, List.nodup_append]
        refine ⟨h.nd, by simp, fun x hx y hy => ?_⟩
        simp at hy
        subst hy
        rintro rfl
        exact hin hx
    generalize hNS : (sy.map (·.1)).map sD = NS at *
    unfold l_law_symbols_2
    simp only [sD] at *
    simp (disch := first | omega | (simp; done) | (simp; omega) | assumption | fail) [hm, g1, c1, hd, hin, ha, hsl, pairD]
    exact ⟨w, a, hok, rfl, rfl⟩
theorem sy4 (ar : List Int) (har : ar.length = 5) (har2 : ∀ a ∈ ar, 0 ≤ a ∧ a < 9) (x0 : Option W) : ∀ (ns : List Int) (sy : Syms) (x4 x5 x6 x7 x8 x9 x10 x11 : Option W), SyOk sy → sy.length + ns.length = 5 → (∀ n ∈ ns, 0 ≤ n) →
    (loopS (Tg.nm 4 "number").g (evS s13 Γ l_law_symbols_2) (ns.map .int) [x0, some (.d (.str (tx az))), some (.d (.lst (ar.map .int))), some (.l (sy.map pairD)), x4, x5, x6, x7, x8, x9, x10, x11]).goes fun S => ∃ sz y4 y5 y6 y7 y8 y9 y10 y11, SyOk sz ∧ sz.length = 5 ∧ S = [x0, some (.d (.str (tx az))), some (.d (.lst (ar.map .int))), some (.l (sz.map pairD)), y4, y5, y6, y7, y8, y9, y10, y11]
  | [], sy, x4, x5, x6, x7, x8, x9, x10, x11, h, hl, _ => ⟨sy, x4, x5, x6, x7, x8, x9, x10, x11, h, hl, rfl⟩
  | n :: ns, sy, x4, x5, x6, x7, x8, x9, x10, x11, h, hl, hn => by
    have hl : sy.length + (ns.length + 1) = 5 := hl
    obtain ⟨S, h1, p, y5, y6, y7, y8, y9, y10, y11, h2, rfl⟩ := (sy3 h (by omega) ar har har2 n (hn n List.mem_cons_self) x0 x5 x6 x7 x8 x9 x10 x11).get
    simp only [List.map_cons, loopS, Tg_nm, List.set_cons_succ, List.set_cons_zero, h1]
    exact sy4 ar har har2 x0 ns (sy ++ [p]) _ _ _ _ _ _ _ _ h2 (by simp; omega) fun z hz => hn z (List.mem_cons_of_mem _ hz)
theorem f_symbols (ns : List Int) : ∃ sy : Syms, Γ.fn 6 [.lst (ns.map .int)] = .ret (.d (.lst (sy.map pairD))) ∧ SyOk sy ∧ sy.length = 5 := by
  rw [e_symbols]
  obtain ⟨ar, a1, a2, a3⟩ := f_digits ns 1 9 5 (by decide) (by decide) (by decide) (by decide)
  obtain ⟨nu, n1, n2, n3⟩ := f_digits ns 0 10967424 5 (by decide) (by decide) (by decide) (by decide)
  obtain ⟨S, h1, sz, y4, y5, y6, y7, y8, y9, y10, y11, h2, h3, rfl⟩ := (sy4 ar a2 a3 (some (.d (.lst (ns.map .int)))) nu [] none none none none none none none none ⟨fun _ h => (by cases h), fun _ h => (by cases h), List.nodup_nil⟩ (by simpa using n2) (fun z hz => (n3 z hz).1)).get
  refine ⟨sz, ?_, h2, h3⟩
  have ei : initS N_law_symbols.length [.lst (ns.map .int)] = [some (.d (.lst (ns.map .int))), none, none, none, none, none, none, none, none, none, none, none] := rfl
  rw [ei]
  simp at a1 n1 h1
  unfold b_law_symbols
  simp (disch := first | omega | (simp; done) | assumption | fail) [a1, n1, h1, outOf]
end N17
end
section
set_option Elab.async false
set_option linter.all false
set_option autoImplicit false
set_option maxRecDepth 100000
set_option maxHeartbeats 4000000
/-! Or: k17: equation. -/
namespace N17
open PySem PySem.Spec PyProof.Rows L2 Ly
theorem eqc3 (ns : List Int) (k : Nat) (hk : k ≤ 1000) (x2 x3 x4 x5 x6 x7 x8 x9 x10 : Option W) : ∃ ds : List Int,
    (ev s14 Γ c_law_equation_3).e [some (.d (.lst (ns.map .int))), some (.d (.int k)), x2, x3, x4, x5, x6, x7, x8, x9, x10] = .ok (.t (.l (ds.map .int))) [some (.d (.lst (ns.map .int))), some (.d (.int k)), x2, x3, x4, x5, x6, x7, x8, x9, x10] ∧ ds.length = 20 ∧ ∀ d ∈ ds, 0 ≤ d ∧ d < 26 := by
  obtain ⟨ds, h1, h2, h3⟩ := f_digits ns k 26 20 (by decide) (by decide) (by decide) hk
  refine ⟨ds, ?_, h2, h3⟩
  simp at h1
  unfold c_law_equation_3
  refine lc_T ds D.int D.int (S1 := [some (.d (.lst (ns.map .int))), some (.d (.int k)), x2, x3, x4, x5, x6, x7, x8, x9, x10]) (by simp [h1]) (fun d hd => ?_) (by omega)
  exact ⟨_, [some (.d (.lst (ns.map .int))), some (.d (.int k)), x2, x3, x4, some (.d (.int d)), x6, x7, x8, x9, x10], _, .t (.d (.int d)), _, rfl, by simp, rfl, rfl, rfl⟩
/-- letters by digits -/
def lets (sp : Int) (xs : List Int) : List Nat := xs.map fun x => 97 + (x % sp).toNat
theorem lets_L {sp : Int} (h0 : 0 < sp) (h : sp ≤ 26) (xs : List Int) : (lets sp xs).all isL = true := by
  unfold lets
  rw [List.all_eq_true]
  intro c hc
  obtain ⟨x, _, rfl⟩ := List.mem_map.mp hc
  have h1 := Int.emod_nonneg x (show sp ≠ 0 by omega)
  have h2 := Int.emod_lt_of_pos x h0
  exact az_L _ (by omega)
theorem az_sp {sp : Int} (h0 : 0 < sp) (h : sp ≤ 26) (x : Int) : atI az (x % sp) = some (97 + (x % sp).toNat) := by
  have h1 := Int.emod_nonneg x (show sp ≠ 0 by omega)
  have h2 := Int.emod_lt_of_pos x h0
  rw [atI_pos _ _ h1 (by simp; omega)]
  simp
theorem lets_join (sp : Int) (xs : List Int) (hl : xs.length ≤ 1000) : sBM .join (tx []) [.lst (xs.map fun x => sD [97 + (x % sp).toNat])] = some (.d (.str (tx (lets sp xs)))) := by
  have h := join_0 (ls := xs.map fun x => [97 + (x % sp).toNat]) (fun l hl => by
    obtain ⟨x, _, rfl⟩ := List.mem_map.mp hl
    simp) (by simpa using hl)
  rw [List.map_map] at h
  refine Eq.trans h ?_
  have : ∀ xs : List Int, (xs.map fun x => [97 + (x % sp).toNat]).flatten = lets sp xs := by
    intro xs
    induction xs with
    | nil => rfl
    | cons x xs ih =>
      show [97 + (x % sp).toNat] ++ (xs.map fun x => [97 + (x % sp).toNat]).flatten = _
      rw [ih]
      rfl
  rw [this]
theorem eqc2 {sp : Int} (h0 : 0 < sp) (h : sp ≤ 26) (ds : List Int) (hd : ds.length = 20) (p : List Nat × Nat) (hp : p.2 ≤ 8) (x0 x1 x2 x5 x8 x9 x10 : Option W) :
    (ev s14 Γ c_law_equation_2).e [x0, x1, x2, some (.d (.str (tx az))), some (.l (ds.map .int)), x5, some (.d (.int sp)), some (.d (pairD p)), x8, x9, x10] = .ok (.t (.l (((ds.drop 2).take p.2).map fun x => sD [97 + (x % sp).toNat]))) [x0, x1, x2, some (.d (.str (tx az))), some (.l (ds.map .int)), x5, some (.d (.int sp)), some (.d (pairD p)), x8, x9, x10] := by
  unfold c_law_equation_2
  have hc : cutD (ds.map D.int) (some 2) (some (2 + (p.2 : Int))) = ((ds.drop 2).take p.2).map .int := by
    have := cutD_mid (ds.map D.int) 2 (2 + p.2) (by omega) (by simp; omega)
    have e : ((2 + p.2 : Nat) : Int) = 2 + (p.2 : Int) := by omega
    rw [e] at this
    refine Eq.trans this ?_
    rw [List.map_take, List.map_drop]
    congr 1
    omega
  have i1 : ∀ x y : D, atI [x, y] 1 = some y := fun _ _ => rfl
  refine lc_T ((ds.drop 2).take p.2) D.int _ (S1 := [x0, x1, x2, some (.d (.str (tx az))), some (.l (ds.map .int)), x5, some (.d (.int sp)), some (.d (pairD p)), x8, x9, x10]) (by simp [pairD, hc, i1]) (fun x hx => ?_) (by simp; omega)
  have ha := az_sp h0 h x
  exact ⟨_, [x0, x1, x2, some (.d (.str (tx az))), some (.l (ds.map .int)), some (.d (.int x)), some (.d (.int sp)), some (.d (pairD p)), x8, x9, x10], _, .t (.d (sD [97 + (x % sp).toNat])), _, rfl, by simp (disch := first | omega | (simp; done) | fail) [ha, h0], rfl, rfl, rfl⟩
theorem eqc1 {sp : Int} (h0 : 0 < sp) (h : sp ≤ 26) (ds : List Int) (hd : ds.length = 20) (p : List Nat × Nat) (hp : p.2 ≤ 8) (x0 x1 x2 x5 x7 x9 x10 : Option W) :
    (ev s14 Γ c_law_equation_1).e [x0, x1, x2, some (.d (.str (tx az))), some (.l (ds.map .int)), x5, some (.d (.int sp)), x7, some (.d (pairD p)), x9, x10] = .ok (.t (.l (((ds.drop 10).take p.2).map fun x => sD [97 + (x % sp).toNat]))) [x0, x1, x2, some (.d (.str (tx az))), some (.l (ds.map .int)), x5, some (.d (.int sp)), x7, some (.d (pairD p)), x9, x10] := by
  unfold c_law_equation_1
  have hc : cutD (ds.map D.int) (some 10) (some (10 + (p.2 : Int))) = ((ds.drop 10).take p.2).map .int := by
    have := cutD_mid (ds.map D.int) 10 (10 + p.2) (by omega) (by simp; omega)
    have e : ((10 + p.2 : Nat) : Int) = 10 + (p.2 : Int) := by omega
    rw [e] at this
    refine Eq.trans this ?_
    rw [List.map_take, List.map_drop]
    congr 1
    omega
  have i1 : ∀ x y : D, atI [x, y] 1 = some y := fun _ _ => rfl
  refine lc_T ((ds.drop 10).take p.2) D.int _ (S1 := [x0, x1, x2, some (.d (.str (tx az))), some (.l (ds.map .int)), x5, some (.d (.int sp)), x7, some (.d (pairD p)), x9, x10]) (by simp [pairD, hc, i1]) (fun x hx => ?_) (by simp; omega)
  have ha := az_sp h0 h x
  exact ⟨_, [x0, x1, x2, some (.d (.str (tx az))), some (.l (ds.map .int)), some (.d (.int x)), some (.d (.int sp)), x7, some (.d (pairD p)), x9, x10], _, .t (.d (sD [97 + (x % sp).toNat])), _, rfl, by simp (disch := first | omega | (simp; done) | fail) [ha, h0], rfl, rfl, rfl⟩
theorem sy_at {sy : Syms} (hne : sy.length = 1 ∨ 0 < sy.length) (d : Int) : ∃ p ∈ sy, atI (sy.map pairD) (d % (sy.length : Int)) = some (pairD p) := by
  have h0 : 0 < sy.length := by omega
  have h1 := Int.emod_nonneg d (show (sy.length : Int) ≠ 0 by omega)
  have h2 := Int.emod_lt_of_pos d (show (0 : Int) < sy.length by omega)
  refine ⟨sy[(d % (sy.length : Int)).toNat]'(by omega), List.getElem_mem _, ?_⟩
  rw [atI_pos _ _ h1 (by simp; omega), List.getElem_map]
theorem f_equation (ns : List Int) (k : Nat) (hk : k ≤ 1000) {sy : Syms} (hs : SyOk sy) (h0 : 0 < sy.length) :
    ∃ e : Eqn, Γ.fn 7 [.lst (ns.map .int), .int k, .lst (sy.map pairD)] = .ret (.d (eqD e)) ∧ WF e ∧ (e.1.1, e.1.2.length) ∈ sy ∧ (e.2.1, e.2.2.length) ∈ sy := by
  obtain ⟨ds, g3, hd, hd2⟩ := eqc3 ns k hk (some (.d (.lst (sy.map pairD)))) (some (.d (.str (tx az)))) none none none none none none none
  have dat : ∀ i : Nat, i < 20 → ∃ d : Int, atI (ds.map D.int) (i : Int) = some (.int d) ∧ 0 ≤ d := fun i hi => by
    have hi2 : i < ds.length := by omega
    refine ⟨ds[i], ?_, (hd2 _ (List.getElem_mem hi2)).1⟩
    rw [atI_nat _ _ (by simpa using hi2), List.getElem_map]
  obtain ⟨d18, q18, p18⟩ := dat 18 (by decide)
  obtain ⟨d0, q0, p0⟩ := dat 0 (by decide)
  obtain ⟨d1, q1, p1⟩ := dat 1 (by decide)
  obtain ⟨sp, hsp, s0, s26⟩ : ∃ sp : Int, atI [D.int 26, .int 2, .int 3, .int 26] (d18 % 4) = some (.int sp) ∧ 0 < sp ∧ sp ≤ 26 := by
    have : d18 % 4 = 0 ∨ d18 % 4 = 1 ∨ d18 % 4 = 2 ∨ d18 % 4 = 3 := by omega
    rcases this with h | h | h | h <;> rw [h]
    · exact ⟨26, rfl, by decide, by decide⟩
    · exact ⟨2, rfl, by decide, by decide⟩
    · exact ⟨3, rfl, by decide, by decide⟩
    · exact ⟨26, rfl, by decide, by decide⟩
  obtain ⟨pl, ml, hl⟩ := sy_at (sy := sy) (.inr h0) d0
  obtain ⟨pr, mr, hr⟩ := sy_at (sy := sy) (.inr h0) d1
  have nl := hs.n pl ml
  have nr := hs.n pr mr
  have g2 := fun x0 x1 x2 x5 x8 x9 x10 => eqc2 s0 s26 ds hd pl nl x0 x1 x2 x5 x8 x9 x10
  have g1 := fun x0 x1 x2 x5 x7 x9 x10 => eqc1 s0 s26 ds hd pr nr x0 x1 x2 x5 x7 x9 x10
  have j2 := lets_join sp ((ds.drop 2).take pl.2) (by simp; omega)
  have j1 := lets_join sp ((ds.drop 10).take pr.2) (by simp; omega)
  have e2 : (lets sp ((ds.drop 2).take pl.2)).length = pl.2 := by simp [lets]; omega
  have e1 : (lets sp ((ds.drop 10).take pr.2)).length = pr.2 := by simp [lets]; omega
  have L2 := lets_L s0 s26 ((ds.drop 2).take pl.2)
  have L1 := lets_L s0 s26 ((ds.drop 10).take pr.2)
  refine ⟨((pl.1, lets sp ((ds.drop 2).take pl.2)), (pr.1, lets sp ((ds.drop 10).take pr.2))), ?_, ⟨hs.w pl ml, L2, by rw [e2]; exact nl, hs.w pr mr, L1, by rw [e1]; exact nr⟩, by rw [e2]; exact ml, by rw [e1]; exact mr⟩
  generalize lets sp ((ds.drop 2).take pl.2) = w2 at *
  generalize lets sp ((ds.drop 10).take pr.2) = w1 at *
  generalize ((ds.drop 2).take pl.2).map (fun x => sD [97 + (x % sp).toNat]) = W2 at *
  generalize ((ds.drop 10).take pr.2).map (fun x => sD [97 + (x % sp).toNat]) = W1 at *
  rw [e_equation]
  have ei : initS N_law_equation.length [.lst (ns.map .int), .int k, .lst (sy.map pairD)] = [some (.d (.lst (ns.map .int))), some (.d (.int k)), some (.d (.lst (sy.map pairD))), none, none, none, none, none, none, none, none] := rfl
  rw [ei]
  have i0 : ∀ x y : D, atI [x, y] 0 = some x := fun _ _ => rfl
  have i1 : ∀ x y : D, atI [x, y] 1 = some y := fun _ _ => rfl
  have hp : (0 : Int) < (sy.length : Int) := by omega
  simp only [pairD] at hl hr g1 g2
  simp at q18 q0 q1
  unfold b_law_equation
  simp (disch := first | omega | (simp; done) | assumption | fail) [g3, q18, q0, q1, hsp, hl, hr, g2, j2, g1, j1, i0, i1, eqD, outOf]
end N17
end
section
set_option Elab.async false
set_option linter.all false
set_option autoImplicit false
set_option maxRecDepth 100000
set_option maxHeartbeats 4000000
/-! Os: k17: the law. -/
namespace N17
open PySem PySem.Spec PyProof.Rows L2 Ly
/-! ### the parts -/
theorem la2 {es : List Eqn} (h : Γ.fn 11 [.lst (es.map eqD)] = .ret (.d (.bl true))) (x0 x1 x2 x3 x4 x5 x6 x7 x8 x9 x11 x12 x13 x14 x15 : Option W) :
    evS s24 Γ l_law_2 [x0, x1, x2, x3, x4, x5, x6, x7, x8, x9, some (.d (.lst (es.map eqD))), x11, x12, x13, x14, x15] = .nx [x0, x1, x2, x3, x4, x5, x6, x7, x8, x9, some (.d (.lst (es.map eqD))), x11, x12, x13, x14, x15] := by
  unfold l_law_2
  simp [h]
theorem la1 {t : List Nat} {n : Nat} (h : Γ.fn 13 [.str (tx t)] = .ret (.d (eBad n))) (x0 x1 x2 x3 x4 x5 x6 x7 x8 x9 x10 x11 x12 x13 : Option W) :
    evS s24 Γ l_law_1 [x0, x1, x2, x3, x4, x5, x6, x7, x8, x9, x10, x11, x12, x13, some (.d (.str (tx t))), some (.d (.int n))] = .nx [x0, x1, x2, x3, x4, x5, x6, x7, x8, x9, x10, x11, x12, x13, some (.d (.str (tx t))), some (.d (.int n))] := by
  have hd := deq_err n
  simp only [eBad] at h
  simp at h
  unfold l_law_1
  simp [h, hd]
theorem lc1 {es : List Eqn} (hw : ∀ e ∈ es, WF e) (hl : es.length ≤ 1000) (x0 x1 x2 x3 x4 x5 x7 x8 x9 x10 x11 x12 x13 x14 x15 : Option W) :
    (ev s24 Γ c_law_1).e [x0, x1, x2, x3, x4, x5, some (.d (.lst (es.map eqD))), x7, x8, x9, x10, x11, x12, x13, x14, x15] = .ok (.t (.l ((es.map lineE).map sD))) [x0, x1, x2, x3, x4, x5, some (.d (.lst (es.map eqD))), x7, x8, x9, x10, x11, x12, x13, x14, x15] := by
  unfold c_law_1
  refine (lc_T es eqD (fun e => .str (tx (lineE e))) (S1 := [x0, x1, x2, x3, x4, x5, some (.d (.lst (es.map eqD))), x7, x8, x9, x10, x11, x12, x13, x14, x15]) (by simp) (fun e he => ?_) (by omega)).trans (by rw [List.map_map]; rfl)
  have h1 := f_line (hw e he)
  exact ⟨_, [x0, x1, x2, x3, x4, x5, some (.d (.lst (es.map eqD))), x7, x8, x9, x10, x11, some (.d (eqD e)), x13, x14, x15], _, .t (.d (.str (tx (lineE e)))), _, rfl, by simp [h1], rfl, rfl, rfl⟩
theorem lc3 (ns : List Int) (x0 x2 x3 x4 x5 x6 x7 x8 x9 x10 x11 x12 x13 x14 x15 : Option W) : ∃ ds : List Int,
    (ev s24 Γ c_law_3).e [x0, some (.l (ns.map .int)), x2, x3, x4, x5, x6, x7, x8, x9, x10, x11, x12, x13, x14, x15] = .ok (.t (.l (ds.map .int))) [x0, some (.d (.lst (ns.map .int))), x2, x3, x4, x5, x6, x7, x8, x9, x10, x11, x12, x13, x14, x15] ∧ ds.length = 8 ∧ ∀ d ∈ ds, 0 ≤ d ∧ d < 24 := by
  obtain ⟨ds, h1, h2, h3⟩ := f_digits ns 2 24 8 (by decide) (by decide) (by decide) (by decide)
  refine ⟨ds, ?_, h2, h3⟩
  simp at h1
  unfold c_law_3
  refine lc_T ds D.int D.int (S1 := [x0, some (.d (.lst (ns.map .int))), x2, x3, x4, x5, x6, x7, x8, x9, x10, x11, x12, x13, x14, x15]) (by simp [h1]) (fun d hd => ?_) (by omega)
  exact ⟨_, [x0, some (.d (.lst (ns.map .int))), x2, some (.d (.int d)), x4, x5, x6, x7, x8, x9, x10, x11, x12, x13, x14, x15], _, .t (.d (.int d)), _, rfl, by simp, rfl, rfl, rfl⟩
open Classical in
theorem lc2 (ns : List Int) {sy : Syms} (hs : SyOk sy) (h0 : 0 < sy.length) (n : Nat) (hn : n ≤ 100) (x0 x2 x3 x6 x7 x8 x9 x10 x11 x12 x13 x14 x15 : Option W) : ∃ (es : List Eqn) (y4 : Option W),
    (ev s24 Γ c_law_2).e [x0, some (.d (.lst (ns.map .int))), x2, x3, some (.l (sy.map pairD)), some (.d (.int n)), x6, x7, x8, x9, x10, x11, x12, x13, x14, x15] = .ok (.t (.l (es.map eqD))) [x0, some (.d (.lst (ns.map .int))), x2, x3, y4, some (.d (.int n)), x6, x7, x8, x9, x10, x11, x12, x13, x14, x15] ∧
    es.length = n ∧ ∀ e ∈ es, WF e ∧ (e.1.1, e.1.2.length) ∈ sy ∧ (e.2.1, e.2.2.length) ∈ sy := by
  have hex : ∀ i : Nat, ∃ e : Eqn, i ≤ 900 → Γ.fn 7 [.lst (ns.map .int), .int ((3 + i : Nat) : Int), .lst (sy.map pairD)] = .ret (.d (eqD e)) ∧ WF e ∧ (e.1.1, e.1.2.length) ∈ sy ∧ (e.2.1, e.2.2.length) ∈ sy := fun i => by
    by_cases hi : i ≤ 900
    · obtain ⟨e, h⟩ := f_equation ns (3 + i) (by omega) hs h0
      exact ⟨e, fun _ => h⟩
    · exact ⟨(([], []), ([], [])), fun h => absurd h hi⟩
  let f : Nat → Eqn := fun i => Classical.choose (hex i)
  have hf : ∀ i : Nat, i ≤ 900 → Γ.fn 7 [.lst (ns.map .int), .int ((3 + i : Nat) : Int), .lst (sy.map pairD)] = .ret (.d (eqD (f i))) ∧ WF (f i) ∧ ((f i).1.1, (f i).1.2.length) ∈ sy ∧ ((f i).2.1, (f i).2.2.length) ∈ sy := fun i => Classical.choose_spec (hex i)
  have hI := intsD_eq n
  obtain ⟨F, ⟨y4, h4, rfl⟩, hF⟩ := lc_I (sg := s24) (Γ := Γ) (own := [("k", 7)]) (tg := .nm 7 "k") (it := .rng1 (.cons (.var 5 "many") .nil)) (elt := .call 7 "_law_equation" 3 (.cons (.var 1 "cells") (.cons (.bin .add (.int 3) (.var 7 "k")) (.cons (.var 4 "symbols") .nil))))
    (S := [x0, some (.d (.lst (ns.map .int))), x2, x3, some (.l (sy.map pairD)), some (.d (.int n)), x6, x7, x8, x9, x10, x11, x12, x13, x14, x15]) (S1 := [x0, some (.d (.lst (ns.map .int))), x2, x3, some (.l (sy.map pairD)), some (.d (.int n)), x6, x7, x8, x9, x10, x11, x12, x13, x14, x15])
    (List.range n) (fun i : Nat => D.int (i : Int)) (fun i => eqD (f i)) (fun F => ∃ y4, (y4 = some (.l (sy.map pairD)) ∨ y4 = some (.d (.lst (sy.map pairD)))) ∧ F = [x0, some (.d (.lst (ns.map .int))), x2, x3, y4, some (.d (.int n)), x6, none, x8, x9, x10, x11, x12, x13, x14, x15])
    (by rw [← hI]; simp (disch := first | omega | (simp; done) | fail)) ⟨_, .inl rfl, rfl⟩ (fun i hi F hF => by
      obtain ⟨y4, h4, rfl⟩ := hF
      have hi := List.mem_range.mp hi
      have h1 := (hf i (by omega)).1
      have e3 : ((3 + i : Nat) : Int) = 3 + (i : Int) := by omega
      rw [e3] at h1
      rcases h4 with rfl | rfl
      · exact ⟨_, [x0, some (.d (.lst (ns.map .int))), x2, x3, some (.d (.lst (sy.map pairD))), some (.d (.int n)), x6, some (.d (.int i)), x8, x9, x10, x11, x12, x13, x14, x15], _, .t (.d (eqD (f i))), _, rfl, by simp [h1], rfl, rfl, ⟨_, .inr rfl, rfl⟩⟩
      · exact ⟨_, [x0, some (.d (.lst (ns.map .int))), x2, x3, some (.d (.lst (sy.map pairD))), some (.d (.int n)), x6, some (.d (.int i)), x8, x9, x10, x11, x12, x13, x14, x15], _, .t (.d (eqD (f i))), _, rfl, by simp [h1], rfl, rfl, ⟨_, .inr rfl, rfl⟩⟩) (by simp; omega)
  refine ⟨(List.range n).map f, y4, ?_, by simp, fun e he => ?_⟩
  · unfold c_law_2
    refine hF.trans ?_
    rw [List.map_map]
    rfl
  · obtain ⟨i, hi, rfl⟩ := List.mem_map.mp he
    exact (hf i (by have := List.mem_range.mp hi; omega)).2
theorem look_nd : ∀ {sy : Syms} {w : List Nat} {n : Nat}, (sy.map (·.1)).Nodup → (w, n) ∈ sy → sy.lookup w = some n
  | [], _, _, _, h => by cases h
  | (v, m) :: sy, w, n, hn, h => by
    rw [List.map_cons, List.nodup_cons] at hn
    rw [List.lookup_cons]
    rcases List.mem_cons.mp h with h2 | h2
    · cases h2; simp
    · have hne : (w == v) = false := by
        rw [beq_eq_false_iff_ne]
        intro z
        exact hn.1 (List.mem_map.mpr ⟨_, h2, z⟩)
      rw [hne]
      exact look_nd hn.2 h2
theorem joinL_app : ∀ {A B : List (List Nat)}, A ≠ [] → B ≠ [] → joinL (A ++ B) = joinL A ++ 10 :: joinL B
  | [], _, h, _ => absurd rfl h
  | [x], B, _, h => joinL_cons x h
  | x :: y :: A, B, _, h => by
    show x ++ 10 :: joinL ((y :: A) ++ B) = (x ++ 10 :: joinL (y :: A)) ++ 10 :: joinL B
    rw [joinL_app (by simp) h]
    simp
theorem mul24 {d : Int} (h0 : 0 ≤ d) (h : d < 24) : sMul (.int d) (.int 24) = some (.d (.int (d * 24))) := by
  refine sMul_int _ _ ?_
  have h1 : d.natAbs.log2 < 64 := log2_lt (by decide) (by omega)
  have h2 : (Int.natAbs 24).log2 < 64 := log2_lt (by decide) (by decide)
  omega
/-- the told equations -/
def T1 : Eqn := (([97, 98, 99, 100], [97, 98, 99, 100, 101, 102, 103, 104]), ([99], []))
def T2 : Eqn := (([99], []), ([97, 98, 99, 100], [104, 104, 104, 104, 104, 104, 104, 104]))
def T3 : Eqn := (([101], []), ([99], []))
theorem told_wf : ∀ e ∈ [T1, T2, T3], WF e := by
  intro e he
  simp only [List.mem_cons, List.not_mem_nil, or_false] at he
  rcases he with rfl | rfl | rfl <;> exact ⟨by rfl, by rfl, by decide, by rfl, by rfl, by decide⟩
theorem told_cons : Cons (fun w => if w = [97, 98, 99, 100] then 8 else 0) [T1, T2, T3] := by
  intro e he
  simp only [List.mem_cons, List.not_mem_nil, or_false] at he
  rcases he with rfl | rfl | rfl <;> exact ⟨by decide, by decide⟩
/-! ### the law -/
theorem err_at {ar : List Nat → Nat} {fs : List Eqn} {R : List (List Nat)} (hw : ∀ e ∈ fs, WF e) (hc : Cons ar fs) (hl : fs.length ≤ 60) (nR : ∀ l ∈ R, 10 ∉ l) (okR : ∀ l ∈ R, okT l = true) (lR : ∀ l ∈ R, l.length ≤ 1000) (hR : R.length ≤ 100) (h0 : fs ≠ [] ∨ R ≠ []) :
    Γ.fn 13 [.str (tx (joinL (fs.map lineE ++ [] :: R)))] = .ret (.d (eBad (fs.length + 1))) := by
  have h := read_bad hw hc (by omega) (z := []) (R := R) (by simp) nR (fun h => by
    have := congrArg List.length h
    simp at this
    rcases h0 with h0 | h0
    · exact h0 (List.length_eq_zero_iff.mp (by omega))
    · exact h0 (List.length_eq_zero_iff.mp (by omega))) (.inl pLine_nil)
  refine f_err_lines (G := fs.map lineE ++ [] :: R) (fun l hl => ?_) (fun l hl => ?_) (by simp; omega) h
  · rcases List.mem_append.mp hl with hl | hl
    · exact okT_lines hw l hl
    · rcases List.mem_cons.mp hl with rfl | hl
      · exact okT_nil
      · exact okR l hl
  · rcases List.mem_append.mp hl with hl | hl
    · exact len_lines hw l hl
    · rcases List.mem_cons.mp hl with rfl | hl
      · simp
      · exact lR l hl
theorem la3 {items : List (List Nat × Nat)} (h : ∀ p ∈ items, Γ.fn 13 [.str (tx p.1)] = .ret (.d (eBad p.2))) (x0 x1 x2 x3 x4 x5 x6 x7 x8 x9 x10 x11 x12 x13 x14 x15 : Option W) :
    (loopS (Tg.tp [(14, "given"), (15, "due")]).g (evS s24 Γ l_law_1) (items.map pairD) [x0, x1, x2, x3, x4, x5, x6, x7, x8, x9, x10, x11, x12, x13, x14, x15]).goes fun S => ∃ y14 y15, S = [x0, x1, x2, x3, x4, x5, x6, x7, x8, x9, x10, x11, x12, x13, y14, y15] := by
  refine loopS_all pairD (fun S => ∃ y14 y15, S = [x0, x1, x2, x3, x4, x5, x6, x7, x8, x9, x10, x11, x12, x13, y14, y15]) items (fun p hp S hS => ?_) _ ⟨x14, x15, rfl⟩
  obtain ⟨y14, y15, rfl⟩ := hS
  refine ⟨_, rfl, ?_⟩
  have := la1 (h p hp) x0 x1 x2 x3 x4 x5 x6 x7 x8 x9 x10 x11 x12 x13
  show (evS s24 Γ l_law_1 [x0, x1, x2, x3, x4, x5, x6, x7, x8, x9, x10, x11, x12, x13, some (.d (.str (tx p.1))), some (.d (.int p.2))]).goes _
  rw [this]
  exact ⟨_, _, rfl⟩
theorem la4 {xs : List (List Eqn)} (h : ∀ es ∈ xs, Γ.fn 11 [.lst (es.map eqD)] = .ret (.d (.bl true))) (x0 x1 x2 x3 x4 x5 x6 x7 x8 x9 x10 x11 x12 x13 x14 x15 : Option W) :
    (loopS (Tg.nm 10 "some").g (evS s24 Γ l_law_2) (xs.map fun es => .lst (es.map eqD)) [x0, x1, x2, x3, x4, x5, x6, x7, x8, x9, x10, x11, x12, x13, x14, x15]).goes fun S => ∃ y10, S = [x0, x1, x2, x3, x4, x5, x6, x7, x8, x9, y10, x11, x12, x13, x14, x15] := by
  refine loopS_all (fun es : List Eqn => D.lst (es.map eqD)) (fun S => ∃ y10, S = [x0, x1, x2, x3, x4, x5, x6, x7, x8, x9, y10, x11, x12, x13, x14, x15]) xs (fun es he S hS => ?_) _ ⟨x10, rfl⟩
  obtain ⟨y10, rfl⟩ := hS
  refine ⟨_, rfl, ?_⟩
  show (evS s24 Γ l_law_2 [x0, x1, x2, x3, x4, x5, x6, x7, x8, x9, some (.d (.lst (es.map eqD))), x11, x12, x13, x14, x15]).goes _
  rw [la2 (h es he)]
  exact ⟨_, rfl⟩
theorem law_true (script : List Int) (hlen : script.length ≤ 63) : outOf (evS s24 Γ b_law (initS N_law.length [.frl (script.map D.int)])) = .ret (.d (.bl true)) := by
  have ei : initS N_law.length [.frl (script.map D.int)] = [some (.d (.frl (script.map D.int))), none, none, none, none, none, none, none, none, none, none, none, none, none, none, none] := rfl
  rw [ei]
  obtain ⟨ns, hns⟩ : ∃ ns, ns = script.take 63 := ⟨_, rfl⟩
  have hcut : cutD (script.map D.int) none (some 63) = ns.map .int := by
    rw [hns, List.map_take]
    exact cutD_to (script.map D.int) 63
  -- the digits
  obtain ⟨ds, g3, hd, hd2⟩ := lc3 ns (some (.d (.frl (script.map D.int)))) none none none none none none none none none none none none none none
  have dat : ∀ i : Nat, i < 8 → ∃ d : Int, atI (ds.map D.int) (i : Int) = some (.int d) ∧ 0 ≤ d ∧ d < 24 := fun i hi => by
    have hi2 : i < ds.length := by omega
    refine ⟨ds[i], ?_, (hd2 _ (List.getElem_mem hi2))⟩
    rw [atI_nat _ _ (by simpa using hi2), List.getElem_map]
  obtain ⟨d0, q0, p0, r0⟩ := dat 0 (by decide)
  obtain ⟨d1, q1, p1, r1⟩ := dat 1 (by decide)
  obtain ⟨d2, q2, p2, r2⟩ := dat 2 (by decide)
  obtain ⟨d3, q3, p3, r3⟩ := dat 3 (by decide)
  obtain ⟨d4, q4, p4, r4⟩ := dat 4 (by decide)
  obtain ⟨d5, q5, p5, r5⟩ := dat 5 (by decide)
  obtain ⟨d6, q6, p6, r6⟩ := dat 6 (by decide)
  obtain ⟨d7, q7, p7, r7⟩ := dat 7 (by decide)
  simp at q0 q1 q2 q3 q4 q5 q6 q7
  -- the symbols
  obtain ⟨sz, f6, hsz, lsz⟩ := f_symbols ns
  obtain ⟨m, hm, m1⟩ : ∃ m : Nat, 1 + d3 % 5 = (m : Int) ∧ 1 ≤ m := ⟨(1 + d3 % 5).toNat, by omega, by omega⟩
  obtain ⟨sy, hsy⟩ : ∃ sy, sy = sz.take m := ⟨_, rfl⟩
  have hcs : cutD (sz.map pairD) none (some (m : Int)) = sy.map pairD := by rw [hsy, List.map_take]; exact cutD_to _ m
  have hso : SyOk sy := by
    rw [hsy]
    refine ⟨fun p hp => hsz.w p (List.mem_of_mem_take hp), fun p hp => hsz.n p (List.mem_of_mem_take hp), ?_⟩
    rw [List.map_take]
    exact hsz.nd.sublist (List.take_sublist _ _)
  have sy0 : 0 < sy.length := by rw [hsy]; simp; omega
  -- how many
  obtain ⟨n, hn, n1, n60⟩ : ∃ n : Nat, (if d1 % 8 = 0 then 9 + (d0 * 24 + d2) % 52 else 1 + d0 % 8) = (n : Int) ∧ 1 ≤ n ∧ n ≤ 60 := by
    split
    · exact ⟨(9 + (d0 * 24 + d2) % 52).toNat, by omega, by omega, by omega⟩
    · exact ⟨(1 + d0 % 8).toNat, by omega, by omega, by omega⟩
  obtain ⟨es, y4, g2, les, hes⟩ := lc2 ns hso sy0 n (by omega) (some (.d (.frl (script.map D.int)))) (some (.l (ds.map .int))) none none none none none none none none none none none
  have hw : ∀ e ∈ es, WF e := fun e he => (hes e he).1
  have hc : Cons (fun w => (sy.lookup w).getD 0) es := fun e he => by
    obtain ⟨_, a, b⟩ := hes e he
    show e.1.2.length = (sy.lookup e.1.1).getD 0 ∧ e.2.2.length = (sy.lookup e.2.1).getD 0
    rw [look_nd hso.nd a, look_nd hso.nd b]
    exact ⟨rfl, rfl⟩
  obtain ⟨e0, es', rfl⟩ : ∃ e0 es', es = e0 :: es' := by
    cases es with
    | nil => simp at les; omega
    | cons a b => exact ⟨a, b, rfl⟩
  -- the place
  obtain ⟨k, hk, hkl⟩ : ∃ k : Nat, (d4 * 24 + d5) % (n : Int) = (k : Int) ∧ k < n := by
    have h1 := Int.emod_nonneg (d4 * 24 + d5) (show (n : Int) ≠ 0 by omega)
    have h2 := Int.emod_lt_of_pos (d4 * 24 + d5) (show (0 : Int) < n by omega)
    exact ⟨((d4 * 24 + d5) % (n : Int)).toNat, by omega, by omega⟩
  obtain ⟨k2, hk2, hk2l⟩ : ∃ k2 : Nat, (d6 * 24 + d7) % 101 = (k2 : Int) ∧ k2 ≤ 100 := ⟨((d6 * 24 + d7) % 101).toNat, by omega, by omega⟩
  -- the parts
  have R0 := f_read_held hw hc (by omega)
  have R1 := f_read_held (ar := fun _ => 0) (es := []) (fun _ h => (by cases h)) (fun _ h => (by cases h)) (by simp)
  have R2 := f_read_held told_wf told_cons (by decide)
  have U := f_unequal_held hw hc (by omega) (k := k) (by omega)
  have Sp := f_spoils_held d6 hw hc (by omega) (k := k) (by omega)
  have Hu := f_hundred_held hw hc (by simp) (by omega) hk2l
  have gl := fun x0 x1 x2 x3 x4 x5 x7 x8 x9 x10 x11 x12 x13 x14 x15 => lc1 hw (by omega) x0 x1 x2 x3 x4 x5 x7 x8 x9 x10 x11 x12 x13 x14 x15
  have jn := join_nl (len_lines hw) (by simp at les ⊢; omega)
  have neL : (e0 :: es').map lineE ≠ [] := by simp
  have E1 := err_at (ar := fun _ => 0) (fs := []) (R := [[]]) (fun _ h => (by cases h)) (fun _ h => (by cases h)) (by simp) (by simp) (by simp) (by simp) (by simp) (.inr (by simp))
  have E2 := err_at hw hc (R := []) (by omega) (by simp) (by simp) (by simp) (by simp) (.inl (by simp))
  have E3 := err_at (ar := fun _ => 0) (fs := []) (R := (e0 :: es').map lineE) (fun _ h => (by cases h)) (fun _ h => (by cases h)) (by simp) (nl_lines hw) (okT_lines hw) (len_lines hw) (by simp at les ⊢; omega) (.inr (by simp))
  have E4 := err_at hw hc (R := (e0 :: es').map lineE) (by omega) (nl_lines hw) (okT_lines hw) (len_lines hw) (by simp at les ⊢; omega) (.inl (by simp))
  have t1 : joinL (([] : List Eqn).map lineE ++ [] :: [[]]) = [10] := rfl
  have t2 : joinL ((e0 :: es').map lineE ++ [] :: []) = textE (e0 :: es') ++ [10] := by rw [joinL_snoc _ neL]; rfl
  have t3 : joinL (([] : List Eqn).map lineE ++ [] :: (e0 :: es').map lineE) = 10 :: textE (e0 :: es') := by
    show joinL ([] :: (e0 :: es').map lineE) = _
    rw [joinL_cons _ neL]
    rfl
  have t4 : joinL ((e0 :: es').map lineE ++ [] :: (e0 :: es').map lineE) = textE (e0 :: es') ++ 10 :: 10 :: textE (e0 :: es') := by
    rw [joinL_app neL (by simp), joinL_cons _ neL]
    rfl
  rw [t1] at E1
  rw [t2] at E2
  rw [t3] at E3
  rw [t4] at E4
  have lT : (textE (e0 :: es')).length ≤ 100000 := by
    have := joinL_len (len_lines hw)
    simp at this les
    unfold textE
    simp
    omega
  have u1 : joinL ((e0 :: es').map lineE) = textE (e0 :: es') := rfl
  rw [u1] at jn
  have jn : sBM .join (tx [10]) [.lst (((e0 :: es').map lineE).map sD)] = _ := jn
  have LA := fun x0 x1 x2 x3 x4 x5 x6 x7 x8 x9 x10 x11 x12 x13 x14 x15 => la3 (items := [([10], 1), (textE (e0 :: es') ++ [10], n + 1), (10 :: textE (e0 :: es'), 1), (textE (e0 :: es') ++ 10 :: 10 :: textE (e0 :: es'), n + 1)]) (fun p hp => by
    simp only [List.mem_cons, List.not_mem_nil, or_false] at hp
    rcases hp with rfl | rfl | rfl | rfl
    · exact E1
    · rw [← les]; exact E2
    · exact E3
    · rw [← les]; exact E4) x0 x1 x2 x3 x4 x5 x6 x7 x8 x9 x10 x11 x12 x13 x14 x15
  have LB := fun x0 x1 x2 x3 x4 x5 x6 x7 x8 x9 x10 x11 x12 x13 x14 x15 => la4 (xs := [e0 :: es', [], [T1, T2, T3]]) (fun es he => by
    simp only [List.mem_cons, List.not_mem_nil, or_false] at he
    rcases he with rfl | rfl | rfl
    · exact R0
    · exact R1
    · exact R2) x0 x1 x2 x3 x4 x5 x6 x7 x8 x9 x10 x11 x12 x13 x14 x15
  have m0 := mul24 p0 r0
  have m4 := mul24 p4 r4
  have m6 := mul24 p6 r6
  have hnp : (0 : Int) < (n : Int) := by omega
  generalize hTx : textE (e0 :: es') = TX at *
  generalize hEs : (e0 :: es').map eqD = ES at *
  generalize hLs : ((e0 :: es').map lineE).map sD = LS at *
  clear E1 E2 E3 E4 R0 R1 R2 t1 t2 t3 t4 u1 neL hTx hLs
  -- the two loops, where they stand
  obtain ⟨_, b1, z10, rfl⟩ := (LB (some (.d (.frl (script.map D.int)))) (some (.d (.lst (ns.map .int)))) (some (.l (ds.map .int))) none y4 (some (.d (.int n))) (some (.d (.lst ES))) none (some (.d (.int k))) (some (.l [eqD T1, eqD T2])) none none none none none none).get
  obtain ⟨_, b2, z14, z15, rfl⟩ := (LA (some (.d (.frl (script.map D.int)))) (some (.d (.lst (ns.map .int)))) (some (.l (ds.map .int))) none y4 (some (.d (.int n))) (some (.d (.lst ES))) none (some (.d (.int k))) (some (.l [eqD T1, eqD T2])) z10 (some (.d (.str (tx TX)))) none (some (.l [pairD ([10], 1), pairD (TX ++ [10], n + 1), pairD (10 :: TX, 1)])) none none).get
  rw [List.map_cons, hEs] at b1
  simp [eqD, T1, T2, T3] at b1 b2
  simp [pairD] at b2
  have s27 : (1 : Int) + 26 = 27 := rfl
  unfold b_law
  by_cases c : d1 % 8 = 0
  · rw [if_pos c] at hn
    simp (disch := first | omega | (simp; done) | (simp; omega) | assumption | fail) [hcut, g3, q0, q1, q2, q3, q4, q5, q6, q7, f6, hm, hcs, c, m0, m4, m6, hn, g2, hk, hk2, b1, b2, U, gl, jn, Sp, Hu, hnp, outOf]
  · rw [if_neg c] at hn
    simp (disch := first | omega | (simp; done) | (simp; omega) | assumption | fail) [hcut, g3, q0, q1, q2, q3, q4, q5, q6, q7, f6, hm, hcs, c, m0, m4, m6, hn, g2, hk, hk2, b1, b2, U, gl, jn, Sp, Hu, hnp, outOf]
end N17
end
theorem PySem.Challenge.cw_ledinto_k17_identity_texts_holds : PySem.Challenge.rw_ledinto_k17_identity_texts.Holds :=
  N17.holds N17.Γ (N17.math N17.law_true)
