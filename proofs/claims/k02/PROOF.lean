import PyProof.Rows.All
import Wide.All
import OpenK.AllK
import Wide.FinOn
import HandS.ForMost
import HandS.ForExc
import HandS.Property
import HandS.Defaults
import HandS.MakeKwOnly
import HandS.CallSlots
import HandS.OwnEq
import HandS.Deep
import HandS.Flow
import HandS.Conv
import HandS.IsInst
import HandS.Style
import HandS.StrMore
import PyProof.EqKinds
import KE.LtSeq
import KE.DataCmp
import PyProof.NeKinds
import HandS.TupAny
import HandS.TupLe
import HandS.Codes
import HandS.Wide
import HandS.ExcInit
import HandS.ExcSuper
import KE.KExcSuper
import KE.KSuper
import HandS.TryMany
import HandS.ExcField
import HandS.Text
import PyProof.ListStr
import PyProof.TupleOfStr
import PyProof.SliceStr2
import PyProof.Rows.StrRev
import PyProof.Rows.SortShellAny
import PyProof.CollectStr
import HandS.List
import HandS.Replace
import HandS.HeadNt
import HandS.Head0
import HandS.Head1
import HandS.Head2
import HandS.HeadEnd
import HandS.HeadHook1
import HandS.HeadHook2
import PySem.Challenge.RW_betweenlists_k02_forms_made
set_option Elab.async false
set_option linter.all false
set_option maxRecDepth 100000
/-! DL1: deep values D over the hand layer: what is never written again is a plain value; what is written lies in the map M. -/
namespace DL
open PySem PySem.Spec L2

/-- a deep value: tuples, lists and instances that nobody writes any more are plain trees; ref: what is kept in M (or a def, a class) -/
inductive D where
  | non | bl (b : Bool) | int (i : Int) | str (x : Str) | ty (n : String) | ref (a : Addr)
  | tup (xs : List D) | lst (xs : List D) | ins (C : Addr) (ns : List Str) (xs : List D)
  /-- the script -/
  | scr (xs : List D)

mutual
def Rep (K : PySem.W.Frag) (F : Hp) : D → V → Prop
  | .non, v => v = .non
  | .bl b, v => v = .bl b
  | .int i, v => v = .int i
  | .str x, v => v = .str x
  | .ty n, v => v = .ty n
  | .ref a, v => v = .ref a
  | .tup xs, v => ∃ a vs, v = .ref a ∧ SqT K F a vs ∧ RepL K F xs vs
  | .lst xs, v => ∃ a vs, v = .ref a ∧ F a = some (.lst vs) ∧ RepL K F xs vs
  | .scr xs, v => ∃ a vs, v = .ref a ∧ SqL K F a vs ∧ RepL K F xs vs
  | .ins C ns xs, v => ∃ a dx vs, v = .ref a ∧ F a = some (.ins C dx (ns.zip vs)) ∧ ns.length = vs.length ∧ RepL K F xs vs
def RepL (K : PySem.W.Frag) (F : Hp) : List D → List V → Prop
  | [], vs => vs = []
  | x :: xs, vs => ∃ v r, vs = v :: r ∧ Rep K F x v ∧ RepL K F xs r
end

theorem SqT_mono {K : PySem.W.Frag} {F F' : Hp} {a : Addr} {vs : List V} (e : Same F F') (h : SqT K F a vs) : SqT K F' a vs := by
  rcases h with (h | ⟨o, h⟩) | h
  · exact .inl (.inl (e _ _ h))
  · exact .inl (.inr ⟨o, e _ _ h⟩)
  · exact .inr h
theorem SqL_mono {K : PySem.W.Frag} {F F' : Hp} {a : Addr} {vs : List V} (e : Same F F') (h : SqL K F a vs) : SqL K F' a vs := e.seq h

mutual
theorem Rep.mono {K : PySem.W.Frag} {F F' : Hp} (e : Same F F') : ∀ {d : D} {v : V}, Rep K F d v → Rep K F' d v
  | .non, _, h => h
  | .bl _, _, h => h
  | .int _, _, h => h
  | .str _, _, h => h
  | .ty _, _, h => h
  | .ref _, _, h => h
  | .tup xs, _, h => by
    unfold Rep at h ⊢
    obtain ⟨a, vs, h1, h2, h3⟩ := h
    exact ⟨a, vs, h1, SqT_mono e h2, RepL.mono e h3⟩
  | .lst xs, _, h => by
    unfold Rep at h ⊢
    obtain ⟨a, vs, h1, h2, h3⟩ := h
    exact ⟨a, vs, h1, e _ _ h2, RepL.mono e h3⟩
  | .scr xs, _, h => by
    unfold Rep at h ⊢
    obtain ⟨a, vs, h1, h2, h3⟩ := h
    exact ⟨a, vs, h1, SqL_mono e h2, RepL.mono e h3⟩
  | .ins C ns xs, _, h => by
    unfold Rep at h ⊢
    obtain ⟨a, dx, vs, h1, h2, h3, h4⟩ := h
    exact ⟨a, dx, vs, h1, e _ _ h2, h3, RepL.mono e h4⟩
theorem RepL.mono {K : PySem.W.Frag} {F F' : Hp} (e : Same F F') : ∀ {xs : List D} {vs : List V}, RepL K F xs vs → RepL K F' xs vs
  | [], _, h => h
  | x :: xs, _, h => by
    unfold RepL at h ⊢
    obtain ⟨v, r, h1, h2, h3⟩ := h
    exact ⟨v, r, h1, Rep.mono e h2, RepL.mono e h3⟩
end

section
variable {K : PySem.W.Frag} {F F' : Hp}
theorem RepL.nil : RepL K F [] [] := by unfold RepL; rfl
theorem RepL.cons {x : D} {xs : List D} {v : V} {vs : List V} (h : Rep K F x v) (t : RepL K F xs vs) : RepL K F (x :: xs) (v :: vs) := by
  unfold RepL; exact ⟨v, vs, rfl, h, t⟩
theorem RepL.length : ∀ {xs : List D} {vs : List V}, RepL K F xs vs → xs.length = vs.length
  | [], _, h => by unfold RepL at h; subst h; rfl
  | x :: xs, _, h => by
    unfold RepL at h
    obtain ⟨v, r, rfl, _, h3⟩ := h
    simp [RepL.length h3]
theorem RepL.get : ∀ {xs : List D} {vs : List V} {i : Nat} {x : D}, RepL K F xs vs → xs[i]? = some x → ∃ v, vs[i]? = some v ∧ Rep K F x v
  | [], _, _, _, _, e => by simp at e
  | y :: ys, _, 0, x, h, e => by
    unfold RepL at h
    obtain ⟨v, r, rfl, h2, _⟩ := h
    simp at e; subst e
    exact ⟨v, rfl, h2⟩
  | y :: ys, _, i + 1, x, h, e => by
    unfold RepL at h
    obtain ⟨v, r, rfl, _, h3⟩ := h
    obtain ⟨w, h4, h5⟩ := RepL.get (i := i) h3 (by simpa using e)
    exact ⟨w, by simpa using h4, h5⟩
theorem RepL.getV : ∀ {xs : List D} {vs : List V} {i : Nat} {v : V}, RepL K F xs vs → vs[i]? = some v → ∃ x, xs[i]? = some x ∧ Rep K F x v := fun {xs vs i v} h e => by
  have hi : i < vs.length := (List.getElem?_eq_some_iff.mp e).1
  have hx : i < xs.length := by rw [h.length]; exact hi
  obtain ⟨w, h1, h2⟩ := h.get (i := i) (x := xs[i]) (by simp [hx])
  rw [e] at h1; cases h1
  exact ⟨xs[i], by simp [hx], h2⟩
theorem RepL.append : ∀ {xs ys : List D} {vs ws : List V}, RepL K F xs vs → RepL K F ys ws → RepL K F (xs ++ ys) (vs ++ ws)
  | [], _, _, _, h, t => by unfold RepL at h; subst h; exact t
  | x :: xs, ys, _, ws, h, t => by
    unfold RepL at h
    obtain ⟨v, r, rfl, h2, h3⟩ := h
    exact RepL.cons h2 (h3.append t)
theorem RepL.take : ∀ {xs : List D} {vs : List V} (n : Nat), RepL K F xs vs → RepL K F (xs.take n) (vs.take n)
  | [], _, n, h => by unfold RepL at h; subst h; simp; exact RepL.nil
  | x :: xs, _, 0, h => by simp; exact RepL.nil
  | x :: xs, _, n + 1, h => by
    unfold RepL at h
    obtain ⟨v, r, rfl, h2, h3⟩ := h
    exact RepL.cons h2 (h3.take n)
theorem RepL.drop : ∀ {xs : List D} {vs : List V} (n : Nat), RepL K F xs vs → RepL K F (xs.drop n) (vs.drop n)
  | [], _, n, h => by unfold RepL at h; subst h; simp; exact RepL.nil
  | x :: xs, _, 0, h => by simpa using h
  | x :: xs, _, n + 1, h => by
    unfold RepL at h
    obtain ⟨v, r, rfl, h2, h3⟩ := h
    exact h3.drop n
theorem RepL.set {x : D} {v : V} (r : Rep K F x v) : ∀ {xs : List D} {vs : List V} (i : Nat), RepL K F xs vs → RepL K F (xs.set i x) (vs.set i v)
  | [], _, _, h => by unfold RepL at h; subst h; exact RepL.nil
  | y :: ys, _, 0, h => by
    unfold RepL at h
    obtain ⟨w, q, rfl, h2, h3⟩ := h
    exact RepL.cons r h3
  | y :: ys, _, i + 1, h => by
    unfold RepL at h
    obtain ⟨w, q, rfl, h2, h3⟩ := h
    exact RepL.cons h2 (RepL.set r i h3)
theorem RepL.reverse : ∀ {xs : List D} {vs : List V}, RepL K F xs vs → RepL K F xs.reverse vs.reverse
  | [], _, h => by unfold RepL at h; subst h; exact RepL.nil
  | x :: xs, _, h => by
    unfold RepL at h
    obtain ⟨v, r, rfl, h2, h3⟩ := h
    rw [List.reverse_cons, List.reverse_cons]
    exact (RepL.reverse h3).append (RepL.cons h2 RepL.nil)
theorem RepL.flat {xs : List D} {vs : List V} (h : RepL K F xs vs) : ∀ k : Nat, RepL K F (List.replicate k xs).flatten (List.replicate k vs).flatten
  | 0 => RepL.nil
  | k + 1 => by
    simp only [List.replicate_succ, List.flatten_cons]
    exact h.append (RepL.flat h k)
/-- from pairs of values -/
theorem RepL.nilV {vs : List V} (h : RepL K F [] vs) : vs = [] := by unfold RepL at h; exact h
theorem RepL.consV {x : D} {xs : List D} {vs : List V} (h : RepL K F (x :: xs) vs) : ∃ v r, vs = v :: r ∧ Rep K F x v ∧ RepL K F xs r := by unfold RepL at h; exact h
end

/-! ### fields -/
def RepF (K : PySem.W.Frag) (F : Hp) : List (Str × D) → List (Str × V) → Prop := Paired fun p q => p.1 = q.1 ∧ Rep K F p.2 q.2
theorem RepF.mono {K : PySem.W.Frag} {F F' : Hp} (e : Same F F') {fs : List (Str × D)} {vs : List (Str × V)} (h : RepF K F fs vs) : RepF K F' fs vs := Paired.mapP h fun _ _ z => ⟨z.1, z.2.mono e⟩
theorem lookup_hd {α : Type} (n : Str) (x : α) (r : List (Str × α)) (f : Str) : ((n, x) :: r).lookup f = if f = n then some x else r.lookup f := by
  by_cases h : f = n
  · subst h; simp [List.lookup]
  · have e : (f == n) = false := by simpa using h
    rw [if_neg h]; simp [List.lookup, e]
theorem RepF.look {K : PySem.W.Frag} {F : Hp} {f : Str} : ∀ {fs : List (Str × D)} {vs : List (Str × V)}, RepF K F fs vs → (∀ x, fs.lookup f = some x → ∃ v, vs.lookup f = some v ∧ Rep K F x v) ∧ (fs.lookup f = none → vs.lookup f = none)
  | _, _, .nil => ⟨fun _ h => by simp at h, fun _ => rfl⟩
  | (n, x) :: fs, (m, v) :: vs, .cons r t => by
    obtain ⟨e, r⟩ := r
    have e : n = m := e
    subst e
    have ih := RepF.look (f := f) (show RepF K F fs vs from t)
    rw [lookup_hd, lookup_hd]
    by_cases h : f = n
    · rw [if_pos h, if_pos h]
      exact ⟨fun y e => by cases e; exact ⟨v, rfl, r⟩, fun e => by cases e⟩
    · rw [if_neg h, if_neg h]; exact ih
def putD (f : Str) (x : D) : List (Str × D) → List (Str × D)
  | [] => [(f, x)]
  | (g, y) :: r => if g = f then (g, x) :: r else (g, y) :: putD f x r
theorem RepF.put {K : PySem.W.Frag} {F : Hp} {f : Str} {x : D} {v : V} (rx : Rep K F x v) : ∀ {fs : List (Str × D)} {vs : List (Str × V)}, RepF K F fs vs → RepF K F (putD f x fs) (putF f v vs)
  | _, _, .nil => .cons ⟨rfl, rx⟩ .nil
  | (n, y) :: fs, (m, w) :: vs, .cons r t => by
    obtain ⟨e, r⟩ := r
    have e : n = m := e
    subst e
    show RepF K F (if n = f then _ else _) (if n = f then _ else _)
    by_cases h : n = f
    · rw [if_pos h, if_pos h]; exact .cons ⟨rfl, rx⟩ t
    · rw [if_neg h, if_neg h]; exact .cons ⟨rfl, r⟩ (RepF.put rx t)
theorem RepF.length {K : PySem.W.Frag} {F : Hp} {fs : List (Str × D)} {vs : List (Str × V)} (h : RepF K F fs vs) : fs.length = vs.length := Paired.length h
theorem RepF.names {K : PySem.W.Frag} {F : Hp} : ∀ {fs : List (Str × D)} {vs : List (Str × V)}, RepF K F fs vs → vs = (fs.map (·.1)).zip (vs.map (·.2)) ∧ RepL K F (fs.map (·.2)) (vs.map (·.2))
  | _, _, .nil => ⟨rfl, RepL.nil⟩
  | (n, x) :: fs, (m, v) :: vs, .cons r t => by
    obtain ⟨e, r⟩ := r
    have e : n = m := e
    subst e
    obtain ⟨h1, h2⟩ := RepF.names (show RepF K F fs vs from t)
    refine ⟨?_, RepL.cons r h2⟩
    simp only [List.map_cons, List.zip_cons_cons, List.cons.injEq, true_and]
    exact h1
theorem RepF.zip {K : PySem.W.Frag} {F : Hp} : ∀ {ns : List Str} {xs : List D} {vs : List V}, ns.length = vs.length → RepL K F xs vs → RepF K F (ns.zip xs) (ns.zip vs)
  | [], xs, vs, _, h => by rw [List.zip_nil_left, List.zip_nil_left]; exact .nil
  | n :: ns, [], vs, hl, h => by
    have e := h.nilV
    subst e
    simp at hl
  | n :: ns, x :: xs, vs, hl, h => by
    obtain ⟨v, r, rfl, h2, h3⟩ := h.consV
    exact .cons ⟨rfl, h2⟩ (RepF.zip (by simpa using hl) h3)

/-! ### what is written -/
inductive MO where
  | lst (xs : List D)
  | ins (C : Addr) (fs : List (Str × D))
  | dK (kvs : List (Key × D))
  | dT (kvs : List (List Key × D))
def RepM (K : PySem.W.Frag) (F : Hp) : MO → HO → Prop
  | .lst xs, o => ∃ vs, o = .lst vs ∧ RepL K F xs vs
  | .ins C fs, o => ∃ dx vs, o = .ins C dx vs ∧ RepF K F fs vs
  | .dK kvs, o => ∃ vs, o = .dK vs ∧ Paired (fun (p : Key × D) (q : Key × V) => p.1 = q.1 ∧ Rep K F p.2 q.2) kvs vs
  | .dT kvs, o => ∃ vs, o = .dT vs ∧ Paired (fun (p : List Key × D) (q : List Key × V) => p.1 = q.1 ∧ Rep K F p.2 q.2) kvs vs
theorem RepM.mono {K : PySem.W.Frag} {F F' : Hp} (e : Same F F') : ∀ {m : MO} {o : HO}, RepM K F m o → RepM K F' m o
  | .lst _, _, ⟨vs, h, r⟩ => ⟨vs, h, r.mono e⟩
  | .ins _ _, _, ⟨dx, vs, h, r⟩ => ⟨dx, vs, h, r.mono e⟩
  | .dK _, _, ⟨vs, h, r⟩ => ⟨vs, h, Paired.mapP r fun _ _ z => ⟨z.1, z.2.mono e⟩⟩
  | .dT _, _, ⟨vs, h, r⟩ => ⟨vs, h, Paired.mapP r fun _ _ z => ⟨z.1, z.2.mono e⟩⟩
abbrev DM := Addr → Option MO
def put (M : DM) (a : Addr) (o : MO) : DM := fun b => if b = a then some o else M b
def drp (M : DM) (a : Addr) : DM := fun b => if b = a then none else M b
theorem put_same {M : DM} {a : Addr} {o : MO} : put M a o a = some o := if_pos rfl
theorem put_ne {M : DM} {a b : Addr} {o : MO} (h : b ≠ a) : put M a o b = M b := if_neg h
theorem put_put {M : DM} {a : Addr} {o o' : MO} : put (put M a o) a o' = put M a o' := by
  funext b; unfold put; split <;> rfl
theorem drp_put {M : DM} {a : Addr} {o : MO} (h : M a = none) : drp (put M a o) a = M := by
  funext b; unfold drp put
  by_cases e : b = a
  · rw [if_pos e, e, h]
  · rw [if_neg e, if_neg e]
structure Rel (K : PySem.W.Frag) (F : Hp) (M : DM) (H : Hp) : Prop where
  sub : Same F H
  mr : ∀ a m, M a = some m → F a = none ∧ ∃ o, H a = some o ∧ RepM K F m o
section
variable {K : PySem.W.Frag} {F F' H H' : Hp} {M M' : DM} {a p : Addr}
theorem Rel.free (r : Rel K F M H) (h : H p = none) : M p = none := by
  cases e : M p with
  | none => rfl
  | some m => obtain ⟨_, o, h2, _⟩ := r.mr p m e; rw [h] at h2; cases h2
theorem Rel.freeF (r : Rel K F M H) (h : H p = none) : F p = none := r.sub.free h
theorem Rel.less (r : Rel K F M H) (h : ∀ a m, M' a = some m → M a = some m) : Rel K F M' H := ⟨r.sub, fun a m e => r.mr a m (h a m e)⟩
theorem same_upd {F H : Hp} {p : Addr} {o : HO} (s : Same F H) (h : F p = none) : Same F (upd H p o) := fun b u e => by
  rw [upd_ne (ne_of_none e h)]; exact s b u e
theorem same_upd2 {F H : Hp} {p : Addr} {o : HO} (s : Same F H) : Same (upd F p o) (upd H p o) := fun b u e => by
  by_cases hb : b = p
  · subst hb; rw [upd_same] at e ⊢; exact e
  · rw [upd_ne hb] at e ⊢; exact s b u e
theorem same_add {F : Hp} {p : Addr} {o : HO} (h : F p = none) : Same F (upd F p o) := same_upd (Same.refl F) h
/-- a new object, written later -/
theorem Rel.new {o : HO} {m : MO} (r : Rel K F M H) (h : H p = none) (x : RepM K F m o) : Rel K F (put M p m) (upd H p o) := by
  have hF := r.freeF h
  refine ⟨same_upd r.sub hF, fun a n e => ?_⟩
  by_cases ha : a = p
  · subst ha; rw [put_same] at e; cases e
    exact ⟨hF, o, upd_same, x⟩
  · rw [put_ne ha] at e
    obtain ⟨h1, u, h2, h3⟩ := r.mr a n e
    exact ⟨h1, u, by rw [upd_ne ha]; exact h2, h3⟩
/-- a new object of which D does not speak -/
theorem Rel.junk {o : HO} (r : Rel K F M H) (h : H p = none) : Rel K F M (L2.upd H p o) := by
  have hF := r.freeF h
  refine ⟨same_upd r.sub hF, fun a n e => ?_⟩
  obtain ⟨h1, u, h2, h3⟩ := r.mr a n e
  exact ⟨h1, u, by rw [upd_ne (ne_of_none h2 h)]; exact h2, h3⟩
/-- an object written -/
theorem Rel.write {o : HO} {m m0 : MO} (r : Rel K F M H) (h : M p = some m0) (x : RepM K F m o) : Rel K F (put M p m) (upd H p o) := by
  have hF := (r.mr p m0 h).1
  refine ⟨same_upd r.sub hF, fun a n e => ?_⟩
  by_cases ha : a = p
  · subst ha; rw [put_same] at e; cases e
    exact ⟨hF, o, upd_same, x⟩
  · rw [put_ne ha] at e
    obtain ⟨h1, u, h2, h3⟩ := r.mr a n e
    exact ⟨h1, u, by rw [upd_ne ha]; exact h2, h3⟩
/-- a new object that is a plain value from its making on -/
theorem Rel.ice {o : HO} (r : Rel K F M H) (h : H p = none) : Rel K (upd F p o) M (upd H p o) := by
  have hF := r.freeF h
  refine ⟨same_upd2 r.sub, fun a n e => ?_⟩
  obtain ⟨h1, u, h2, h3⟩ := r.mr a n e
  have ha : a ≠ p := ne_of_none h2 h
  exact ⟨by rw [upd_ne ha]; exact h1, u, by rw [upd_ne ha]; exact h2, h3.mono (same_add hF)⟩
/-- an object of M becomes a plain value -/
theorem Rel.freeze {o : HO} {m : MO} (r : Rel K F M H) (h : M p = some m) (ho : H p = some o) : Rel K (upd F p o) (drp M p) H := by
  have hF := (r.mr p m h).1
  refine ⟨fun b u e => ?_, fun a n e => ?_⟩
  · by_cases hb : b = p
    · subst hb; rw [upd_same] at e; cases e; exact ho
    · rw [upd_ne hb] at e; exact r.sub b u e
  · unfold drp at e
    by_cases ha : a = p
    · rw [if_pos ha] at e; cases e
    · rw [if_neg ha] at e
      obtain ⟨h1, u, h2, h3⟩ := r.mr a n e
      exact ⟨by rw [upd_ne ha]; exact h1, u, h2, h3.mono (same_add hF)⟩
end

/-! ### slots -/
abbrev DSt := List (Option D)
def RepO (K : PySem.W.Frag) (F : Hp) : Option D → Option V → Prop
  | none, _ => True
  | some d, some v => Rep K F d v
  | some _, none => False
def Slots (K : PySem.W.Frag) (F : Hp) : DSt → St → Prop := Paired (RepO K F)
theorem RepO.mono {K : PySem.W.Frag} {F F' : Hp} (e : Same F F') : ∀ {d : Option D} {v : Option V}, RepO K F d v → RepO K F' d v
  | none, _, _ => True.intro
  | some _, some _, h => Rep.mono e h
  | some _, none, h => h
theorem Slots.mono {K : PySem.W.Frag} {F F' : Hp} (e : Same F F') {δ : DSt} {σ : St} (h : Slots K F δ σ) : Slots K F' δ σ := Paired.mapP h fun _ _ z => z.mono e
theorem Slots.get {K : PySem.W.Frag} {F : Hp} : ∀ {δ : DSt} {σ : St} {i : Nat} {d : D}, Slots K F δ σ → δ[i]? = some (some d) → ∃ v, σ[i]? = some (some v) ∧ Rep K F d v
  | _, _, _, _, .nil, e => by simp at e
  | _, _, 0, d, .cons (a := x) (b := y) r _, e => by
    simp at e; subst e
    cases y with
    | none => exact (show False from r).elim
    | some v => exact ⟨v, rfl, r⟩
  | _, _, i + 1, d, .cons _ t, e => by
    obtain ⟨v, h1, h2⟩ := Slots.get (i := i) t (by simpa using e)
    exact ⟨v, by simpa using h1, h2⟩
theorem Slots.set {K : PySem.W.Frag} {F : Hp} {d : Option D} {v : Option V} (r : RepO K F d v) : ∀ {δ : DSt} {σ : St} (i : Nat), Slots K F δ σ → Slots K F (δ.set i d) (σ.set i v)
  | _, _, _, .nil => .nil
  | _, _, 0, .cons _ t => .cons r t
  | _, _, i + 1, .cons q t => .cons q (Slots.set r i t)
theorem Slots.forget {K : PySem.W.Frag} {F : Hp} : ∀ {δ : DSt} {σ : St} (i : Nat), Slots K F δ σ → Slots K F (δ.set i none) σ
  | _, _, _, .nil => .nil
  | _, _, 0, .cons _ t => .cons True.intro t
  | _, _, i + 1, .cons q t => .cons q (Slots.forget i t)

/-! ### readings -/
abbrev DK := D → DM → Prop
abbrev DTE := DSt → DM → DK → Prop
abbrev DTT := DSt → DM → (Bool → DM → Prop) → Prop
abbrev DTA := DSt → DM → (List D → DM → Prop) → Prop
structure DEnds where
  nx : DSt → DM → Prop
  rt : DK
  bk : DSt → DM → Prop := fun _ _ => False
  ct : DSt → DM → Prop := fun _ _ => False
abbrev DTS := DEnds → DSt → DM → Prop
/-- what is wanted of an exception: its class, its fields, the slots, M -/
abbrev DW := Addr → List (Str × D) → DSt → DM → Prop
abbrev DXK := Addr → List (Str × D) → DM → Prop
/-- a def's promise -/
abbrev DSp := List D → DM → DK → DXK → Prop

/-- Q of the value behind is met by QD of the deep one -/
def Meets (K : PySem.W.Frag) (F : Hp) (QD : DK) (Q : VK) : Prop := ∀ d M F' H v, QD d M → Same F F' → Rel K F' M H → Rep K F' d v → Q v H
def liftE (K : PySem.W.Frag) (F0 : Hp) (t : DTE) : TE := fun σ H Q => ∃ F δ M QD, Same F0 F ∧ Rel K F M H ∧ Slots K F δ σ ∧ t δ M QD ∧ Meets K F QD Q
def liftT (K : PySem.W.Frag) (F0 : Hp) (t : DTT) : TT := fun σ H Q => ∃ F δ M QD, Same F0 F ∧ Rel K F M H ∧ Slots K F δ σ ∧ t δ M QD ∧ ∀ b M' F' H', QD b M' → Same F F' → Rel K F' M' H' → Q b H'
def liftA (K : PySem.W.Frag) (F0 : Hp) (t : DTA) : TA := fun σ H Q => ∃ F δ M QD, Same F0 F ∧ Rel K F M H ∧ Slots K F δ σ ∧ t δ M QD ∧ ∀ ds M' F' H' vs, QD ds M' → Same F F' → Rel K F' M' H' → RepL K F' ds vs → Q vs H'
structure MeetsS (K : PySem.W.Frag) (F : Hp) (DD : DEnds) (E : Ends) : Prop where
  nx : ∀ δ M F' σ H, DD.nx δ M → Same F F' → Rel K F' M H → Slots K F' δ σ → E.nx σ H
  rt : Meets K F DD.rt E.rt
  bk : ∀ δ M F' σ H, DD.bk δ M → Same F F' → Rel K F' M H → Slots K F' δ σ → E.bk σ H
  ct : ∀ δ M F' σ H, DD.ct δ M → Same F F' → Rel K F' M H → Slots K F' δ σ → E.ct σ H
def liftS (K : PySem.W.Frag) (F0 : Hp) (t : DTS) : TS := fun E σ H => ∃ F δ M DD, Same F0 F ∧ Rel K F M H ∧ Slots K F δ σ ∧ t DD δ M ∧ MeetsS K F DD E
/-- an exception of an own class with fields -/
def lowW (K : PySem.W.Frag) (F0 : Hp) (W : DW) : WX := fun cls d σ H => ∃ C fs δ M F dx vs, cls = .ref C ∧ d = some dx ∧ Same F0 F ∧ Rel K F M H ∧ Slots K F δ σ ∧ H dx = some (.xd vs) ∧ RepF K F fs vs ∧ W C fs δ M
def lowX (K : PySem.W.Frag) (F0 : Hp) (E : DXK) : XK := fun cls d H => ∃ C fs M F dx vs, cls = .ref C ∧ d = some dx ∧ Same F0 F ∧ Rel K F M H ∧ H dx = some (.xd vs) ∧ RepF K F fs vs ∧ E C fs M
def lowSp (K : PySem.W.Frag) (dsp : DSp) : Sp := fun vs H Q E => ∃ F M ds QD ED, Rel K F M H ∧ RepL K F ds vs ∧ dsp ds M QD ED ∧ Meets K F QD Q ∧ ∀ cls d H', lowX K F ED cls d H' → E cls d H'

theorem Meets.mono {K : PySem.W.Frag} {F F' : Hp} {QD : DK} {Q : VK} (h : Meets K F QD Q) (e : Same F F') : Meets K F' QD Q := fun d M F2 H v q s r x => h d M F2 H v q (e.trans s) r x
theorem MeetsS.mono {K : PySem.W.Frag} {F F' : Hp} {DD : DEnds} {E : Ends} (h : MeetsS K F DD E) (e : Same F F') : MeetsS K F' DD E :=
  ⟨fun δ M F2 σ H q s => h.nx δ M F2 σ H q (e.trans s), h.rt.mono e, fun δ M F2 σ H q s => h.bk δ M F2 σ H q (e.trans s), fun δ M F2 σ H q s => h.ct δ M F2 σ H q (e.trans s)⟩

abbrev DPE (X : Cx) (F0 : Hp) (e : Expr) (t : DTE) : Prop := PE X e (liftE X.K F0 t)
abbrev DPT (X : Cx) (F0 : Hp) (e : Expr) (t : DTT) : Prop := PT X e (liftT X.K F0 t)
abbrev DPA (X : Cx) (F0 : Hp) (es : List Expr) (t : DTA) : Prop := PA X es (liftA X.K F0 t)
abbrev DPS (X : Cx) (F0 : Hp) (st : Stmt) (t : DTS) : Prop := PS X st (liftS X.K F0 t)
abbrev DPSs (X : Cx) (F0 : Hp) (st : List Stmt) (t : DTS) : Prop := PSs X st (liftS X.K F0 t)

theorem PE.imp {X : Cx} {e : Expr} {t t' : TE} (h : PE X e t) (i : ∀ σ H Q, t' σ H Q → t σ H Q) : PE X e t' := ⟨fun pins s σ H Q I q => h.run pins s σ H Q I (i _ _ _ q)⟩
theorem PT.imp {X : Cx} {e : Expr} {t t' : TT} (h : PT X e t) (i : ∀ σ H Q, t' σ H Q → t σ H Q) : PT X e t' := ⟨fun pins s σ H Q I q => h.run pins s σ H Q I (i _ _ _ q)⟩
theorem PW.imp {X : Cx} {e : Expr} {t t' : TT} (h : PW X e t) (i : ∀ σ H Q, t' σ H Q → t σ H Q) : PW X e t' := ⟨fun wh pins s σ H Q I q => h.run wh pins s σ H Q I (i _ _ _ q)⟩
theorem PA.imp {X : Cx} {e : List Expr} {t t' : TA} (h : PA X e t) (i : ∀ σ H Q, t' σ H Q → t σ H Q) : PA X e t' := ⟨fun pos pins s σ H Q I q => h.run pos pins s σ H Q I (i _ _ _ q)⟩
theorem PS.imp {X : Cx} {e : Stmt} {t t' : TS} (h : PS X e t) (i : ∀ E σ H, t' E σ H → t E σ H) : PS X e t' := ⟨fun pins s σ H D I q => h.run pins s σ H D I (i _ _ _ q)⟩
theorem PSs.imp {X : Cx} {e : List Stmt} {t t' : TS} (h : PSs X e t) (i : ∀ E σ H, t' E σ H → t E σ H) : PSs X e t' := ⟨fun pins s σ H D I q => h.run pins s σ H D I (i _ _ _ q)⟩
end DL
set_option Elab.async false
set_option linter.all false
set_option maxRecDepth 100000
/-! DL2: expressions and statements by their shape -/
namespace DL
open PySem PySem.Spec L2
/-- where a body runs: W what is wanted of an exception -/
structure Ctx (X : Cx) (F0 : Hp) (W : DW) : Prop where
  calm : X.calm = true
  tk : Takes X (lowW X.K F0 W)
  own : PassesOwn (model X.prog X.w) X.A X.env X.xe
  nd : X.N.Nodup
def W0 : DW := fun _ _ _ _ => False

section
variable {X : Cx} {F0 : Hp} {pos : Pos} {a b c : Expr} {ta tb tc : DTE}
/-! ### names and constants -/
@[simp] def dVar (i : Nat) : DTE := fun δ M Q => match δ[i]? with
  | some (some d) => Q d M
  | _ => False
theorem dv (i : Nat) {x : Str} (hN : X.N[i]? = some x := by rfl) (hv : Vis X.env.scope x := by first | exact Or.inl rfl | exact Or.inr (Or.inl rfl) | exact Or.inr (Or.inr rfl)) (hd : (x == ("__debug__" : Str)) = false := by decide)
    (hcd : (x == ("__classdict__" : Str)) = false := by decide) : DPE X F0 (.Name x pos) (dVar i) :=
  PE.imp (pe_var hN hv hd hcd) fun σ H Q ⟨F, δ, M, QD, e0, r, s, h, m⟩ => by
    unfold dVar at h
    split at h
    · rename_i d e
      obtain ⟨v, h1, h2⟩ := s.get e
      exact ⟨v, h1, m d M F H v h (Same.refl F) r h2⟩
    · exact h.elim
@[simp] def dC (d : D) : DTE := fun _ M Q => Q d M
theorem dpe_con {e : Expr} {v : V} {d : D} (h : PE X e (tC v)) (r : ∀ F, Rep X.K F d v) : DPE X F0 e (dC d) :=
  PE.imp h fun σ H Q ⟨F, δ, M, QD, e0, rl, s, h, m⟩ => m d M F H v h (Same.refl F) rl (r F)
theorem dint {i j} : DPE X F0 (.Constant (.int i) j pos) (dC (.int i)) := dpe_con pe_int fun _ => by unfold Rep; rfl
theorem dbl {b j} : DPE X F0 (.Constant (.bool b) j pos) (dC (.bl b)) := dpe_con pe_bl fun _ => by unfold Rep; rfl
theorem dnon {j} : DPE X F0 (.Constant .none j pos) (dC .non) := dpe_con pe_non fun _ => by unfold Rep; rfl
theorem dstr {x j} : DPE X F0 (.Constant (.str x) j pos) (dC (.str x)) := dpe_con pe_str fun _ => by unfold Rep; rfl
/-- a module's constant, a class, a def -/
theorem dglob {x : Str} {v : V} {u : Value} {d : D} (hm : X.mg x = some u) (r : RelV v u) (rd : ∀ F, Rep X.K F d v) (hg : Gl X x := by rfl) (hd : (x == ("__debug__" : Str)) = false := by decide) : DPE X F0 (.Name x pos) (dC d) :=
  dpe_con (pe_glob hg hm r hd) rd
theorem dglobr {x : Str} {f : Addr} (hm : X.mg x = some (.ref f)) (hg : Gl X x := by rfl) (hd : (x == ("__debug__" : Str)) = false := by decide) : DPE X F0 (.Name x pos) (dC (.ref f)) :=
  dglob (v := .ref f) hm rfl (fun _ => by unfold Rep; rfl) hg hd
theorem dbltn {x : Str} {T : String} (hm : X.mg x = none) (hv : bootBuiltins x = some (.type T)) (hg : Gl X x := by rfl) (hn : x ≠ "__name__" := by decide) (hd : (x == ("__debug__" : Str)) = false := by decide) : DPE X F0 (.Name x pos) (dC (.ty T)) :=
  dpe_con (v := .ty T) (pe_bltn hg hm hv rfl hn hd) fun _ => by unfold Rep; rfl

/-! ### two-place operations -/
abbrev D2 := D → D → DM → DK → Prop
@[simp] def dOp (ρ : D2) (ta tb : DTE) : DTE := fun δ M Q => ta δ M fun x M1 => tb δ M1 fun y M2 => ρ x y M2 Q
def low2 (K : PySem.W.Frag) (F0 : Hp) (ρ : D2) : R2 := fun x y H Q => ∃ F M dx dy QD, Same F0 F ∧ Rel K F M H ∧ Rep K F dx x ∧ Rep K F dy y ∧ ρ dx dy M QD ∧ Meets K F QD Q
theorem op_lift {ρ : D2} {σ : St} {H : Hp} {Q : VK} (h : liftE X.K F0 (dOp ρ ta tb) σ H Q) : tOp (low2 X.K F0 ρ) (liftE X.K F0 ta) (liftE X.K F0 tb) σ H Q := by
  obtain ⟨F, δ, M, QD, e0, r, s, h, m⟩ := h
  exact ⟨F, δ, M, _, e0, r, s, h, fun dx M1 F1 H1 x q1 e1 r1 rx => ⟨F1, δ, M1, _, e0.trans e1, r1, s.mono e1, q1, fun dy M2 F2 H2 y q2 e2 r2 ry =>
    ⟨F2, M2, dx, dy, QD, e0.trans (e1.trans e2), r2, rx.mono e2, ry, q2, m.mono (e1.trans e2)⟩⟩⟩
abbrev DOp (X : Cx) (F0 : Hp) (f : Value → Value → Sem Value) (ρ : D2) : Prop := OpR X f (low2 X.K F0 ρ)
theorem dpe_op {op : Operator} {ρ : D2} (ho : DOp X F0 (binaryOp op) ρ) (ha : DPE X F0 a ta) (hb : DPE X F0 b tb) : DPE X F0 (.BinOp a op b pos) (dOp ρ ta tb) :=
  PE.imp (pe_op ho ha hb) fun _ _ _ h => op_lift h
theorem dpe_cmp {op : CmpOp} {ρ : D2} (ho : DOp X F0 (compareOp op) ρ) (ha : DPE X F0 a ta) (hb : DPE X F0 b tb) (hm : behindInMarks op b = false := by first | exact nomark _ | rfl | with_unfolding_all rfl) : DPE X F0 (.Compare a [op] [b] pos) (dOp ρ ta tb) :=
  PE.imp (pe_cmpR ho ha hb hm) fun _ _ _ h => op_lift h
/-- a value that is a bool, as a test -/
@[simp] def dB (t : DTE) : DTT := fun δ M Q => t δ M fun d M1 => match d with
  | .bl k => Q k M1
  | _ => False
theorem dB_lift {t : DTE} {σ : St} {H : Hp} {Q : Bool → Hp → Prop} (h : liftT X.K F0 (dB t) σ H Q) : liftE X.K F0 t σ H (fun x H' => ∃ k, x = .bl k ∧ Q k H') := by
  obtain ⟨F, δ, M, QD, e0, r, s, h, m⟩ := h
  refine ⟨F, δ, M, _, e0, r, s, h, fun d M1 F1 H1 v q e1 r1 rv => ?_⟩
  split at q
  · rename_i k
    unfold Rep at rv
    exact ⟨k, rv, m k M1 F1 H1 q e1 r1⟩
  · exact q.elim
theorem dpt_cmp {op : CmpOp} {ρ : D2} (ho : DOp X F0 (compareOp op) ρ) (ha : DPE X F0 a ta) (hb : DPE X F0 b tb) (hm : behindInMarks op b = false := by first | exact nomark _ | rfl | with_unfolding_all rfl) : DPT X F0 (.Compare a [op] [b] pos) (dB (dOp ρ ta tb)) :=
  PT.imp (pt_cmpR ho ha hb hm) fun σ H Q h => op_lift (by
    obtain ⟨F, δ, M, QD, e0, r, s, h, m⟩ := h
    refine ⟨F, δ, M, _, e0, r, s, h, fun d M1 F1 H1 v q e1 r1 rv => ?_⟩
    split at q
    · rename_i k
      unfold Rep at rv
      exact ⟨k, rv, m k M1 F1 H1 q e1 r1⟩
    · exact q.elim)
/-- any expression whose value is a bool, as a test -/
theorem dpt_val {e : Expr} {t : DTE} (h : DPE X F0 e t) (he : ∀ whole, isTrue e X.env whole = (do let v ← whole; standAt e.pos; holding [v] (truthy v)) := by intro _; rfl) : DPT X F0 e (dB t) :=
  PT.imp (pt_val h he) fun _ _ _ h => dB_lift h
/-- a op b op' c -/
@[simp] def dChain (ρ ρ' : D2) (ta tb tc : DTE) : DTE := fun δ M Q => ta δ M fun x M1 => tb δ M1 fun y M2 => ρ x y M2 fun z M3 => match z with
  | .bl k => if k = true then tc δ M3 fun w M4 => ρ' y w M4 Q else Q (.bl false) M3
  | _ => False
theorem chain_lift {ρ ρ' : D2} {σ : St} {H : Hp} {Q : VK} (h : liftE X.K F0 (dChain ρ ρ' ta tb tc) σ H Q) :
    tChain (low2 X.K F0 ρ) (low2 X.K F0 ρ') (liftE X.K F0 ta) (liftE X.K F0 tb) (liftE X.K F0 tc) σ H Q := by
  obtain ⟨F, δ, M, QD, e0, r, s, h, m⟩ := h
  refine ⟨F, δ, M, _, e0, r, s, h, fun dx M1 F1 H1 x q1 e1 r1 rx => ⟨F1, δ, M1, _, e0.trans e1, r1, s.mono e1, q1, fun dy M2 F2 H2 y q2 e2 r2 ry =>
    ⟨F2, M2, dx, dy, _, e0.trans (e1.trans e2), r2, rx.mono e2, ry, q2, fun dz M3 F3 H3 z q3 e3 r3 rz => ?_⟩⟩⟩
  split at q3
  · rename_i k
    unfold Rep at rz
    refine ⟨k, rz, ?_⟩
    cases k with
    | true =>
      rw [if_pos rfl] at q3 ⊢
      exact ⟨F3, δ, M3, _, e0.trans (e1.trans (e2.trans e3)), r3, s.mono (e1.trans (e2.trans e3)), q3, fun dw M4 F4 H4 w q4 e4 r4 rw' =>
        ⟨F4, M4, dy, dw, QD, e0.trans (e1.trans (e2.trans (e3.trans e4))), r4, ry.mono (e3.trans e4), rw', q4, m.mono (e1.trans (e2.trans (e3.trans e4)))⟩⟩
    | false =>
      rw [if_neg Bool.false_ne_true] at q3 ⊢
      exact m (.bl false) M3 F3 H3 _ q3 (e1.trans (e2.trans e3)) r3 (by unfold Rep; rfl)
  · exact q3.elim
theorem dpe_chain {op op' : CmpOp} {ρ ρ' : D2} (ho : DOp X F0 (compareOp op) ρ) (ho' : DOp X F0 (compareOp op') ρ') (ha : DPE X F0 a ta) (hb : DPE X F0 b tb) (hc : DPE X F0 c tc)
    (hm : lastMarks [op, op'] [b, c] = false := by with_unfolding_all rfl) : DPE X F0 (.Compare a [op, op'] [b, c] pos) (dChain ρ ρ' ta tb tc) :=
  PE.imp (pe_chain ho ho' ha hb hc hm) fun _ _ _ h => chain_lift h
theorem dpt_chain {op op' : CmpOp} {ρ ρ' : D2} (ho : DOp X F0 (compareOp op) ρ) (ho' : DOp X F0 (compareOp op') ρ') (ha : DPE X F0 a ta) (hb : DPE X F0 b tb) (hc : DPE X F0 c tc)
    (hm : lastMarks [op, op'] [b, c] = false := by with_unfolding_all rfl) : DPT X F0 (.Compare a [op, op'] [b, c] pos) (dB (dChain ρ ρ' ta tb tc)) :=
  PT.imp (pt_chain ho ho' ha hb hc hm) fun σ H Q h => chain_lift (by
    obtain ⟨F, δ, M, QD, e0, r, s, h, m⟩ := h
    refine ⟨F, δ, M, _, e0, r, s, h, fun d M1 F1 H1 v q e1 r1 rv => ?_⟩
    split at q
    · rename_i k
      unfold Rep at rv
      exact ⟨k, rv, m k M1 F1 H1 q e1 r1⟩
    · exact q.elim)

/-! ### one-place operations -/
@[simp] def dUn (ρ : D → DM → DK → Prop) (ta : DTE) : DTE := fun δ M Q => ta δ M fun x M1 => ρ x M1 Q
def low1 (K : PySem.W.Frag) (F0 : Hp) (ρ : D → DM → DK → Prop) : V → Hp → VK → Prop := fun x H Q => ∃ F M dx QD, Same F0 F ∧ Rel K F M H ∧ Rep K F dx x ∧ ρ dx M QD ∧ Meets K F QD Q
theorem un_lift {ρ : D → DM → DK → Prop} {σ : St} {H : Hp} {Q : VK} (h : liftE X.K F0 (dUn ρ ta) σ H Q) : liftE X.K F0 ta σ H (fun x H1 => low1 X.K F0 ρ x H1 Q) := by
  obtain ⟨F, δ, M, QD, e0, r, s, h, m⟩ := h
  exact ⟨F, δ, M, _, e0, r, s, h, fun dx M1 F1 H1 x q1 e1 r1 rx => ⟨F1, M1, dx, QD, e0.trans e1, r1, rx, q1, m.mono e1⟩⟩
theorem dpe_un {op : UnaryOp} {ρ : D → DM → DK → Prop} (ho : UnR X (unaryOp op) (low1 X.K F0 ρ)) (ha : DPE X F0 a ta) : DPE X F0 (.UnaryOp op a pos) (dUn ρ ta) :=
  PE.imp (pe_un ho ha) fun _ _ _ h => un_lift h
/-- -5 -/
theorem dneg : UnR X (unaryOp .USub) (low1 X.K F0 fun x M Q => match x with | .int i => Q (.int (-i)) M | _ => False) := by
  intro pins s σ H x v Q I rx h
  obtain ⟨F, M, dx, QD, e0, r, rd, q, m⟩ := h
  split at q
  · rename_i i
    unfold Rep at rd
    subst rd
    exact un_neg pins s σ H _ v Q I rx ⟨i, rfl, m _ M F H _ q (Same.refl F) r (by unfold Rep; rfl)⟩
  · exact q.elim

/-! ### and, or, not -/
variable {tA tB tC' : DTT} {rest : List Expr}
@[simp] def dAnd (t u : DTT) : DTT := fun δ M Q => t δ M fun k M1 => if k = true then u δ M1 Q else Q false M1
@[simp] def dOr (t u : DTT) : DTT := fun δ M Q => t δ M fun k M1 => if k = true then Q true M1 else u δ M1 Q
@[simp] def dNot (t : DTT) : DTT := fun δ M Q => t δ M fun k M1 => Q (!k) M1
abbrev DPW (X : Cx) (F0 : Hp) (e : Expr) (t : DTT) : Prop := PW X e (liftT X.K F0 t)
theorem dpw_and1 (ha : DPT X F0 a tA) : DPW X F0 (.BoolOp .And [a] pos) tA := pw_and1 ha
theorem dpw_or1 (ha : DPT X F0 a tA) : DPW X F0 (.BoolOp .Or [a] pos) tA := pw_or1 ha
theorem dpw_and (ha : DPT X F0 a tA) (hb : DPW X F0 (.BoolOp .And (b :: rest) pos) tB) : DPW X F0 (.BoolOp .And (a :: b :: rest) pos) (dAnd tA tB) :=
  PW.imp (pw_and ha hb) fun σ H Q ⟨F, δ, M, QD, e0, r, s, h, m⟩ => ⟨F, δ, M, _, e0, r, s, h, fun k M1 F1 H1 q e1 r1 => by
    cases k with
    | true =>
      rw [if_pos rfl] at q ⊢
      exact ⟨F1, δ, M1, QD, e0.trans e1, r1, s.mono e1, q, fun k' M2 F2 H2 q2 e2 r2 => m k' M2 F2 H2 q2 (e1.trans e2) r2⟩
    | false =>
      rw [if_neg Bool.false_ne_true] at q ⊢
      exact m false M1 F1 H1 q e1 r1⟩
theorem dpw_or (ha : DPT X F0 a tA) (hb : DPW X F0 (.BoolOp .Or (b :: rest) pos) tB) : DPW X F0 (.BoolOp .Or (a :: b :: rest) pos) (dOr tA tB) :=
  PW.imp (pw_or ha hb) fun σ H Q ⟨F, δ, M, QD, e0, r, s, h, m⟩ => ⟨F, δ, M, _, e0, r, s, h, fun k M1 F1 H1 q e1 r1 => by
    cases k with
    | true =>
      rw [if_pos rfl] at q ⊢
      exact m true M1 F1 H1 q e1 r1
    | false =>
      rw [if_neg Bool.false_ne_true] at q ⊢
      exact ⟨F1, δ, M1, QD, e0.trans e1, r1, s.mono e1, q, fun k' M2 F2 H2 q2 e2 r2 => m k' M2 F2 H2 q2 (e1.trans e2) r2⟩⟩
theorem dpw {e : Expr} (h : DPW X F0 e tA) : DPT X F0 e tA := PW.pt h
theorem dpt_not (ha : DPT X F0 a tA) : DPT X F0 (.UnaryOp .Not a pos) (dNot tA) :=
  PT.imp (pt_not ha) fun σ H Q ⟨F, δ, M, QD, e0, r, s, h, m⟩ => ⟨F, δ, M, _, e0, r, s, h, fun k M1 F1 H1 q e1 r1 => m (!k) M1 F1 H1 q e1 r1⟩
/-- .. as values (bools) -/
@[simp] def dAndV (ta tb : DTE) : DTE := fun δ M Q => ta δ M fun x M1 => match x with
  | .bl k => if k = true then tb δ M1 Q else Q (.bl false) M1
  | _ => False
@[simp] def dOrV (ta tb : DTE) : DTE := fun δ M Q => ta δ M fun x M1 => match x with
  | .bl k => if k = true then Q (.bl true) M1 else tb δ M1 Q
  | _ => False
def dNotV (t : DTT) : DTE := fun δ M Q => t δ M fun k M1 => Q (.bl (!k)) M1
theorem dpe_one {op} {t : DTE} (h : DPE X F0 a t) : DPE X F0 (.BoolOp op [a] pos) t := pe_one h
theorem dpe_and (ha : DPE X F0 a ta) (hb : DPE X F0 (.BoolOp .And (b :: rest) pos) tb) : DPE X F0 (.BoolOp .And (a :: b :: rest) pos) (dAndV ta tb) :=
  PE.imp (pe_and ha hb) fun σ H Q ⟨F, δ, M, QD, e0, r, s, h, m⟩ => ⟨F, δ, M, _, e0, r, s, h, fun d M1 F1 H1 v q e1 r1 rv => by
    split at q
    · rename_i k
      unfold Rep at rv
      refine ⟨k, rv, ?_⟩
      cases k with
      | true =>
        rw [if_pos rfl] at q ⊢
        exact ⟨F1, δ, M1, QD, e0.trans e1, r1, s.mono e1, q, m.mono e1⟩
      | false =>
        rw [if_neg Bool.false_ne_true] at q ⊢
        exact m _ M1 F1 H1 _ q e1 r1 (by unfold Rep; rfl)
    · exact q.elim⟩
theorem dpe_or (ha : DPE X F0 a ta) (hb : DPE X F0 (.BoolOp .Or (b :: rest) pos) tb) : DPE X F0 (.BoolOp .Or (a :: b :: rest) pos) (dOrV ta tb) :=
  PE.imp (pe_or ha hb) fun σ H Q ⟨F, δ, M, QD, e0, r, s, h, m⟩ => ⟨F, δ, M, _, e0, r, s, h, fun d M1 F1 H1 v q e1 r1 rv => by
    split at q
    · rename_i k
      unfold Rep at rv
      refine ⟨k, rv, ?_⟩
      cases k with
      | true =>
        rw [if_pos rfl] at q ⊢
        exact m _ M1 F1 H1 _ q e1 r1 (by unfold Rep; rfl)
      | false =>
        rw [if_neg Bool.false_ne_true] at q ⊢
        exact ⟨F1, δ, M1, QD, e0.trans e1, r1, s.mono e1, q, m.mono e1⟩
    · exact q.elim⟩
@[simp] def dNotE (ta : DTE) : DTE := fun δ M Q => ta δ M fun x M1 => match x with
  | .bl k => Q (.bl (!k)) M1
  | _ => False
theorem dpe_not (ha : DPE X F0 a ta) : DPE X F0 (.UnaryOp .Not a pos) (dNotE ta) :=
  PE.imp (pe_not ha) fun σ H Q ⟨F, δ, M, QD, e0, r, s, h, m⟩ => ⟨F, δ, M, _, e0, r, s, h, fun d M1 F1 H1 v q e1 r1 rv => by
    split at q
    · rename_i k
      unfold Rep at rv
      exact ⟨k, rv, m _ M1 F1 H1 _ q e1 r1 (by unfold Rep; rfl)⟩
    · exact q.elim⟩
@[simp] def dIf (t : DTT) (ta tb : DTE) : DTE := fun δ M Q => t δ M fun k M1 => if k = true then ta δ M1 Q else tb δ M1 Q
theorem dpe_if (hc : DPT X F0 c tA) (ha : DPE X F0 a ta) (hb : DPE X F0 b tb) : DPE X F0 (.IfExp c a b pos) (dIf tA ta tb) :=
  PE.imp (pe_ifExp hc ha hb) fun σ H Q ⟨F, δ, M, QD, e0, r, s, h, m⟩ => ⟨F, δ, M, _, e0, r, s, h, fun k M1 F1 H1 q e1 r1 => by
    cases k with
    | true =>
      rw [if_pos rfl] at q ⊢
      exact ⟨F1, δ, M1, QD, e0.trans e1, r1, s.mono e1, q, m.mono e1⟩
    | false =>
      rw [if_neg Bool.false_ne_true] at q ⊢
      exact ⟨F1, δ, M1, QD, e0.trans e1, r1, s.mono e1, q, m.mono e1⟩⟩
end

/-! ### argument lists, displays -/
section
variable {X : Cx} {F0 : Hp} {pos : Pos} {e : Expr} {es : List Expr} {te : DTE} {t : DTA}
@[simp] def dNil : DTA := fun _ M Q => Q [] M
@[simp] def dCons (te : DTE) (t : DTA) : DTA := fun δ M Q => te δ M fun x M1 => t δ M1 fun xs M2 => Q (x :: xs) M2
theorem da_nil : DPA X F0 [] dNil := PA.imp pa_nil fun σ H Q ⟨F, δ, M, QD, e0, r, s, h, m⟩ => m [] M F H [] h (Same.refl F) r RepL.nil
theorem da_cons (ha : DPE X F0 e te) (hr : DPA X F0 es t) (hs : starEach (e :: es) X.env = (false, eval e X.env) :: starEach es X.env := by rfl) : DPA X F0 (e :: es) (dCons te t) :=
  PA.imp (pa_cons ha hr hs) fun σ H Q ⟨F, δ, M, QD, e0, r, s, h, m⟩ => ⟨F, δ, M, _, e0, r, s, h, fun d M1 F1 H1 v q e1 r1 rv =>
    ⟨F1, δ, M1, _, e0.trans e1, r1, s.mono e1, q, fun ds M2 F2 H2 vs q2 e2 r2 rs => m (d :: ds) M2 F2 H2 (v :: vs) q2 (e1.trans e2) r2 (RepL.cons (rv.mono e2) rs)⟩⟩
@[simp] def dTup (t : DTA) : DTE := fun δ M Q => t δ M fun xs M1 => xs.length ≤ sizeLine ∧ Q (.tup xs) M1
/-- a list that is never written -/
@[simp] def dLst (t : DTA) : DTE := fun δ M Q => t δ M fun xs M1 => xs.length ≤ sizeLine ∧ Q (.lst xs) M1
/-- a list that is written later -/
@[simp] def dLstM (t : DTA) : DTE := fun δ M Q => t δ M fun xs M1 => xs.length ≤ sizeLine ∧ ∀ p, M1 p = none → Q (.ref p) (put M1 p (.lst xs))
theorem ice_tup {K : PySem.W.Frag} {F H : Hp} {M : DM} {p : Addr} {xs : List D} {vs : List V} (r : Rel K F M H) (h : H p = none) (rs : RepL K F xs vs) :
    Same F (upd F p (.tup vs)) ∧ Rel K (upd F p (.tup vs)) M (upd H p (.tup vs)) ∧ Rep K (upd F p (.tup vs)) (.tup xs) (.ref p) := by
  have hF := r.freeF h
  refine ⟨same_add hF, r.ice h, ?_⟩
  unfold Rep
  exact ⟨p, vs, rfl, SqT.of upd_same, rs.mono (same_add hF)⟩
theorem ice_lst {K : PySem.W.Frag} {F H : Hp} {M : DM} {p : Addr} {xs : List D} {vs : List V} (r : Rel K F M H) (h : H p = none) (rs : RepL K F xs vs) :
    Same F (upd F p (.lst vs)) ∧ Rel K (upd F p (.lst vs)) M (upd H p (.lst vs)) ∧ Rep K (upd F p (.lst vs)) (.lst xs) (.ref p) := by
  have hF := r.freeF h
  refine ⟨same_add hF, r.ice h, ?_⟩
  unfold Rep
  exact ⟨p, vs, rfl, upd_same, rs.mono (same_add hF)⟩
theorem dpe_tup {x1} (h : DPA X F0 es t) : DPE X F0 (.Tuple es x1 pos) (dTup t) :=
  PE.imp (pe_tup h) fun σ H Q ⟨F, δ, M, QD, e0, r, s, h, m⟩ => ⟨F, δ, M, _, e0, r, s, h, fun ds M1 F1 H1 vs ⟨hz, q⟩ e1 r1 rs => ⟨by rw [← rs.length]; exact hz, fun p hp => by
    obtain ⟨s1, s2, s3⟩ := ice_tup r1 hp rs
    exact m _ M1 _ _ _ q (e1.trans s1) s2 s3⟩⟩
theorem dpe_lst (h : DPA X F0 es t) : DPE X F0 (.List es pos) (dLst t) :=
  PE.imp (pe_lst h) fun σ H Q ⟨F, δ, M, QD, e0, r, s, h, m⟩ => ⟨F, δ, M, _, e0, r, s, h, fun ds M1 F1 H1 vs ⟨hz, q⟩ e1 r1 rs => ⟨by rw [← rs.length]; exact hz, fun p hp => by
    obtain ⟨s1, s2, s3⟩ := ice_lst r1 hp rs
    exact m _ M1 _ _ _ q (e1.trans s1) s2 s3⟩⟩
theorem dpe_lstM (h : DPA X F0 es t) : DPE X F0 (.List es pos) (dLstM t) :=
  PE.imp (pe_lst h) fun σ H Q ⟨F, δ, M, QD, e0, r, s, h, m⟩ => ⟨F, δ, M, _, e0, r, s, h, fun ds M1 F1 H1 vs ⟨hz, q⟩ e1 r1 rs => ⟨by rw [← rs.length]; exact hz, fun p hp =>
    m _ _ F1 _ _ (q p (r1.free hp)) e1 (r1.new hp ⟨vs, rfl, rs⟩) (by unfold Rep; rfl)⟩⟩
end

/-! ### statements -/
section
variable {X : Cx} {F0 : Hp} {pos : Pos} {st : Stmt} {rest : List Stmt} {t u : DTS} {e c : Expr} {te : DTE} {tc : DTT}
@[simp] def dNext : DTS := fun D δ M => D.nx δ M
@[simp] def dSeq (t u : DTS) : DTS := fun D δ M => t { D with nx := u D } δ M
theorem dss_nil : DPSs X F0 [] dNext := PSs.imp pss_nil fun E σ H ⟨F, δ, M, DD, e0, r, s, h, m⟩ => m.nx δ M F σ H h (Same.refl F) r s
theorem dss_cons (h1 : DPS X F0 st t) (h2 : DPSs X F0 rest u) : DPSs X F0 (st :: rest) (dSeq t u) :=
  PSs.imp (pss_cons h1 h2) fun E σ H ⟨F, δ, M, DD, e0, r, s, h, m⟩ => ⟨F, δ, M, _, e0, r, s, h,
    ⟨fun δ1 M1 F1 σ1 H1 q e1 r1 s1 => ⟨F1, δ1, M1, DD, e0.trans e1, r1, s1, q, m.mono e1⟩, m.rt, m.bk, m.ct⟩⟩
theorem dss_one (h1 : DPS X F0 st t) : DPSs X F0 [st] t := pss_one h1
theorem ds_pass : DPS X F0 (.Pass pos) dNext := PS.imp ps_pass fun E σ H ⟨F, δ, M, DD, e0, r, s, h, m⟩ => m.nx δ M F σ H h (Same.refl F) r s
@[simp] def dBreak : DTS := fun D δ M => D.bk δ M
@[simp] def dCont : DTS := fun D δ M => D.ct δ M
theorem ds_break : DPS X F0 (.Break pos) dBreak := PS.imp ps_break fun E σ H ⟨F, δ, M, DD, e0, r, s, h, m⟩ => m.bk δ M F σ H h (Same.refl F) r s
theorem ds_continue : DPS X F0 (.Continue pos) dCont := PS.imp ps_continue fun E σ H ⟨F, δ, M, DD, e0, r, s, h, m⟩ => m.ct δ M F σ H h (Same.refl F) r s
@[simp] def dDrop (te : DTE) : DTS := fun D δ M => te δ M fun _ M1 => D.nx δ M1
theorem ds_expr (he : DPE X F0 e te) (hs : swapsWith e none pos.line X.env = pure false := by rfl) : DPS X F0 (.Expr e pos) (dDrop te) :=
  PS.imp (ps_expr he hs) fun E σ H ⟨F, δ, M, DD, e0, r, s, h, m⟩ => ⟨F, δ, M, _, e0, r, s, h, fun d M1 F1 H1 v q e1 r1 rv => m.nx δ M1 F1 σ H1 q e1 r1 (s.mono e1)⟩
@[simp] def dRet (te : DTE) : DTS := fun D δ M => te δ M D.rt
theorem ds_ret (he : DPE X F0 e te) : DPS X F0 (.Return (some e) pos) (dRet te) :=
  PS.imp (ps_ret he) fun E σ H ⟨F, δ, M, DD, e0, r, s, h, m⟩ => ⟨F, δ, M, _, e0, r, s, h, m.rt⟩
@[simp] def dRetN : DTS := fun D δ M => D.rt .non M
theorem ds_retN : DPS X F0 (.Return none pos) dRetN := PS.imp ps_retN fun E σ H ⟨F, δ, M, DD, e0, r, s, h, m⟩ => m.rt _ M F H _ h (Same.refl F) r (by unfold Rep; rfl)
@[simp] def dIfS (c : DTT) (t u : DTS) : DTS := fun D δ M => c δ M fun k M1 => if k = true then t D δ M1 else u D δ M1
theorem ds_if {a b : List Stmt} (hc : DPT X F0 c tc) (ha : DPSs X F0 a t) (hb : DPSs X F0 b u) : DPS X F0 (.If c a b pos) (dIfS tc t u) :=
  PS.imp (ps_if hc ha hb) fun E σ H ⟨F, δ, M, DD, e0, r, s, h, m⟩ => ⟨F, δ, M, _, e0, r, s, h, fun k M1 F1 H1 q e1 r1 => by
    cases k with
    | true =>
      rw [if_pos rfl] at q ⊢
      exact ⟨F1, δ, M1, DD, e0.trans e1, r1, s.mono e1, q, m.mono e1⟩
    | false =>
      rw [if_neg Bool.false_ne_true] at q ⊢
      exact ⟨F1, δ, M1, DD, e0.trans e1, r1, s.mono e1, q, m.mono e1⟩⟩
/-- code that is never come to -/
def dNever : DTS := fun _ _ _ => False
theorem ds_never : DPS X F0 st dNever := PS.imp ps_never fun E σ H ⟨F, δ, M, DD, e0, r, s, h, m⟩ => h.elim
theorem dss_never {sts : List Stmt} : DPSs X F0 sts dNever := PSs.imp pss_never fun E σ H ⟨F, δ, M, DD, e0, r, s, h, m⟩ => h.elim

/-! ### targets -/
abbrev DTG := D → DSt → DM → (DSt → DM → Prop) → Prop
abbrev DTGs := List D → DSt → DM → (DSt → DM → Prop) → Prop
def liftG (K : PySem.W.Frag) (F0 : Hp) (t : DTG) : TG := fun v σ H Q => ∃ F d δ M QD, Same F0 F ∧ Rel K F M H ∧ Slots K F δ σ ∧ Rep K F d v ∧ t d δ M QD ∧ ∀ δ' M' F' σ' H', QD δ' M' → Same F F' → Rel K F' M' H' → Slots K F' δ' σ' → Q σ' H'
def liftGs (K : PySem.W.Frag) (F0 : Hp) (t : DTGs) : TGs := fun vs σ H Q => ∃ F ds δ M QD, Same F0 F ∧ Rel K F M H ∧ Slots K F δ σ ∧ RepL K F ds vs ∧ t ds δ M QD ∧ ∀ δ' M' F' σ' H', QD δ' M' → Same F F' → Rel K F' M' H' → Slots K F' δ' σ' → Q σ' H'
abbrev DPG (X : Cx) (F0 : Hp) (tg : Expr) (t : DTG) : Prop := PG X tg (liftG X.K F0 t)
abbrev DPGs (X : Cx) (F0 : Hp) (tg : List Expr) (t : DTGs) : Prop := PGs X tg (liftGs X.K F0 t)
theorem PG.imp {X : Cx} {e : Expr} {t t' : TG} (h : PG X e t) (i : ∀ v σ H Q, t' v σ H Q → t v σ H Q) : PG X e t' := ⟨fun pins s σ H v u Q I r q => h.run pins s σ H v u Q I r (i _ _ _ _ q)⟩
theorem PGs.imp {X : Cx} {e : List Expr} {t t' : TGs} (h : PGs X e t) (i : ∀ v σ H Q, t' v σ H Q → t v σ H Q) : PGs X e t' := ⟨fun pins s σ H v u Q I r q => h.run pins s σ H v u Q I r (i _ _ _ _ q)⟩
@[simp] def dgN (i : Nat) : DTG := fun d δ M Q => Q (δ.set i (some d)) M
theorem dg_name {x : Str} (i : Nat) (hN : X.N.Nodup) (hi : X.N[i]? = some x := by rfl) (hx : Loc X.env.scope x := by first | exact Or.inl rfl | exact Or.inr rfl)
    (hf : X.fn x = true ∨ X.env.scope.names.lookup x = some .local := by first | exact .inl rfl | exact .inr rfl | assumption) : DPG X F0 (.Name x pos) (dgN i) :=
  PG.imp (pg_name (i := i) hN hi hx hf) fun v σ H Q ⟨F, d, δ, M, QD, e0, r, s, rd, h, m⟩ => m _ M F _ H h (Same.refl F) r (s.set (d := some d) (v := some v) rd i)
@[simp] def dgNil : DTGs := fun ds δ M Q => match ds with
  | [] => Q δ M
  | _ => False
@[simp] def dgCons (t : DTG) (u : DTGs) : DTGs := fun ds δ M Q => match ds with
  | d :: r => t d δ M fun δ' M' => u r δ' M' Q
  | [] => False
theorem dgs_nil : DPGs X F0 [] dgNil := PGs.imp pgs_nil fun vs σ H Q ⟨F, ds, δ, M, QD, e0, r, s, rd, h, m⟩ => by
  cases ds with
  | nil => exact ⟨rd.nilV, m δ M F σ H h (Same.refl F) r s⟩
  | cons d ds => exact (show False from h).elim
theorem dgs_cons {tg : Expr} {tgs : List Expr} {t : DTG} {u : DTGs} (h1 : DPG X F0 tg t) (h2 : DPGs X F0 tgs u)
    (hs : (assignEach (tg :: tgs) X.env).map (·.2) = assign tg X.env :: (assignEach tgs X.env).map (·.2) := by rfl) : DPGs X F0 (tg :: tgs) (dgCons t u) :=
  PGs.imp (pgs_cons h1 h2 hs) fun vs σ H Q ⟨F, ds, δ, M, QD, e0, r, s, rd, h, m⟩ => by
    cases ds with
    | nil => exact (show False from h).elim
    | cons d ds =>
      obtain ⟨v, vr, rfl, r1, r2⟩ := rd.consV
      exact ⟨v, vr, rfl, F, d, δ, M, _, e0, r, s, r1, h, fun δ1 M1 F1 σ1 H1 q e1 rl1 s1 => ⟨F1, ds, δ1, M1, QD, e0.trans e1, rl1, s1, r2.mono e1, q, fun δ2 M2 F2 σ2 H2 q2 e2 => m δ2 M2 F2 σ2 H2 q2 (e1.trans e2)⟩⟩
/-- (a, b, ..) = a tuple -/
@[simp] def dgTup (n : Nat) (t : DTGs) : DTG := fun d δ M Q => match d with
  | .tup xs => xs.length = n ∧ t xs δ M Q
  | _ => False
theorem dg_tup {es : List Expr} {k : Nat} {t : DTGs} {n : Nat} (hc : X.calm = true) (h : DPGs X F0 es t) (hn : (assignEach es X.env).length = n := by rfl) (hst : (assignEach es X.env).findIdx? (·.1) = none := by rfl) :
    DPG X F0 (.Tuple es k pos) (dgTup n t) :=
  PG.imp (pg_tup hc h hn hst) fun v σ H Q ⟨F, d, δ, M, QD, e0, r, s, rd, h, m⟩ => by
    unfold dgTup at h
    split at h
    · rename_i xs
      unfold Rep at rd
      obtain ⟨a, vs, rfl, hs, rs⟩ := rd
      exact ⟨a, vs, rfl, SqT_mono r.sub hs, by rw [← rs.length]; exact h.1, F, xs, δ, M, QD, e0, r, s, rs, h.2, m⟩
    · exact h.elim
@[simp] def dAsg (te : DTE) (g : DTG) : DTS := fun D δ M => te δ M fun d M1 => g d δ M1 D.nx
theorem ds_asg {tg : Expr} {g : DTG} (he : DPE X F0 e te) (hg : DPG X F0 tg g) (hs : swapsWithSole [tg] e pos.line X.env = pure false := by rfl) (hw : swappedStores [tg] e X.env = pure none := by rfl)
    (h1 : (assignEach [tg] X.env).map (·.2) = [assign tg X.env] := by rfl) : DPS X F0 (.Assign [tg] e pos) (dAsg te g) :=
  PS.imp (ps_asg he hg hs hw h1) fun E σ H ⟨F, δ, M, DD, e0, r, s, h, m⟩ => ⟨F, δ, M, _, e0, r, s, h, fun d M1 F1 H1 v q e1 r1 rv =>
    ⟨F1, d, δ, M1, DD.nx, e0.trans e1, r1, s.mono e1, rv, q, fun δ2 M2 F2 σ2 H2 q2 e2 => m.nx δ2 M2 F2 σ2 H2 q2 (e1.trans e2)⟩⟩
@[simp] def dSet (i : Nat) (te : DTE) : DTS := fun D δ M => te δ M fun d M1 => D.nx (δ.set i (some d)) M1
theorem ds_set {x : Str} {pos' : Pos} (i : Nat) (hN : X.N.Nodup) (he : DPE X F0 e te) (hi : X.N[i]? = some x := by rfl) (hx : Loc X.env.scope x := by first | exact Or.inl rfl | exact Or.inr rfl)
    (hs : swapsWith e (some (.Name x pos')) pos.line X.env = pure false := by rfl) (hf : X.fn x = true ∨ X.env.scope.names.lookup x = some .local := by first | exact .inl rfl | exact .inr rfl | assumption) :
    DPS X F0 (.Assign [.Name x pos'] e pos) (dSet i te) :=
  PS.imp (ps_set (i := i) hN hi hx he hs hf) fun E σ H ⟨F, δ, M, DD, e0, r, s, h, m⟩ => ⟨F, δ, M, _, e0, r, s, h, fun d M1 F1 H1 v q e1 r1 rv =>
    m.nx _ M1 F1 _ H1 q e1 r1 ((s.mono e1).set (d := some d) (v := some v) rv i)⟩
/-- a, b = x, y -/
@[simp] def dPar (i j : Nat) (t : DTA) : DTS := fun D δ M => t δ M fun ds M1 => match ds with
  | [d, d'] => D.nx ((δ.set i (some d)).set j (some d')) M1
  | _ => False
theorem ds_par {x y : Str} {a b : Expr} {t : DTA} {px py pt : Pos} {kt k2 pt2} (i j : Nat) (hc : X.calm = true) (hN : X.N.Nodup) (ha : DPA X F0 [a, b] t) (hi : X.N[i]? = some x := by rfl) (hj : X.N[j]? = some y := by rfl) (hij : i ≠ j := by decide)
    (hx : X.env.scope.names.lookup x = some .local := by rfl) (hy : X.env.scope.names.lookup y = some .local := by rfl)
    (hw : swappedStores [.Tuple [.Name x px, .Name y py] kt pt] (.Tuple [a, b] k2 pt2) X.env = pure (some [x, y]) := by rfl)
    (hs : swapsWithSole [.Tuple [.Name x px, .Name y py] kt pt] (.Tuple [a, b] k2 pt2) pos.line X.env = pure false := by rfl) :
    DPS X F0 (.Assign [.Tuple [.Name x px, .Name y py] kt pt] (.Tuple [a, b] k2 pt2) pos) (dPar i j t) :=
  PS.imp (ps_par (i := i) (j := j) hc hN hi hj hij hx hy ha hw hs) fun E σ H ⟨F, δ, M, DD, e0, r, s, h, m⟩ => ⟨F, δ, M, _, e0, r, s, h, fun ds M1 F1 H1 vs q e1 r1 rs => by
    match ds, q with
    | [d, d'], q =>
      obtain ⟨v, vr, rfl, h1, rs⟩ := rs.consV
      obtain ⟨w, vr, rfl, h2, rs⟩ := rs.consV
      have := rs.nilV
      subst this
      exact ⟨v, w, rfl, m.nx _ M1 F1 _ H1 q e1 r1 (((s.mono e1).set (d := some d) (v := some v) h1 i).set (d := some d') (v := some w) h2 j)⟩⟩

/-! ### while -/
def whR (c : DTT) (tb : DTS) (D : DEnds) : Nat → DSt → DM → Prop
  | 0, _, _ => False
  | n + 1, δ, M => c δ M fun k M1 => if k = true then tb { D with nx := whR c tb D n, ct := whR c tb D n, bk := D.nx } δ M1 else D.nx δ M1
def dWhile (c : DTT) (tb : DTS) : DTS := fun D δ M => ∃ n, whR c tb D n δ M
theorem ds_while {body : List Stmt} {tb : DTS} (hp : PassesOwn (model X.prog X.w) X.A X.env X.xe) (hc : DPT X F0 c tc) (hb : DPSs X F0 body tb) : DPS X F0 (.While c body [] pos) (dWhile tc tb) :=
  PS.imp (ps_while hp hc hb) fun E σ H ⟨F, δ, M, DD, e0, r, s, ⟨n, h⟩, m⟩ => by
    refine ⟨fun n σ1 H1 => ∃ F1 δ1 M1, Same F F1 ∧ Rel X.K F1 M1 H1 ∧ Slots X.K F1 δ1 σ1 ∧ whR tc tb DD n δ1 M1, ⟨n, F, δ, M, Same.refl F, r, s, h⟩, ?_⟩
    rintro n σ1 H1 ⟨F1, δ1, M1, e1, r1, s1, h1⟩
    cases n with
    | zero => exact h1.elim
    | succ n =>
      refine ⟨F1, δ1, M1, _, e0.trans e1, r1, s1, h1, fun k M2 F2 H2 q e2 r2 => ?_⟩
      cases k with
      | true =>
        rw [if_pos rfl] at q ⊢
        refine ⟨_, fun σ3 H3 (n3 : ∃ F3 δ3 M3, Same F F3 ∧ Rel X.K F3 M3 H3 ∧ Slots X.K F3 δ3 σ3 ∧ whR tc tb DD n δ3 M3) => ⟨n, Nat.lt_succ_self n, n3⟩, F2, δ1, M2, _, e0.trans (e1.trans e2), r2, s1.mono e2, q, ?_⟩
        exact ⟨fun δ3 M3 F3 σ3 H3 q3 e3 r3 s3 => ⟨F3, δ3, M3, e1.trans (e2.trans e3), r3, s3, q3⟩, m.rt.mono (e1.trans e2), fun δ3 M3 F3 σ3 H3 q3 e3 r3 s3 => m.nx δ3 M3 F3 σ3 H3 q3 (e1.trans (e2.trans e3)) r3 s3,
          fun δ3 M3 F3 σ3 H3 q3 e3 r3 s3 => ⟨F3, δ3, M3, e1.trans (e2.trans e3), r3, s3, q3⟩⟩
      | false =>
        rw [if_neg Bool.false_ne_true] at q ⊢
        exact m.nx δ1 M2 F2 σ1 H2 q (e1.trans e2) r2 (s1.mono e2)

/-! ### what a for walks -/
/-- the items, as long as keep holds -/
abbrev DTI := DSt → DM → (List D → (DM → Prop) → DM → Prop) → Prop
def ItOk (K : PySem.W.Frag) (F : Hp) (J : It) (xs : List D) (keep : DM → Prop) : Prop := ∀ (i : Nat) (F1 : Hp) (M : DM) (H : Hp), Same F F1 → Rel K F1 M H → keep M →
  (∀ x, xs[i]? = some x → J.go i H ∧ ∀ v H', J.yld i H v H' → ∃ F2, Same F1 F2 ∧ Rel K F2 M H' ∧ Rep K F2 x v) ∧ (xs.length ≤ i → J.stop i H)
def liftI (K : PySem.W.Frag) (F0 : Hp) (t : DTI) : TI := fun σ H R => ∃ F δ M RD, Same F0 F ∧ Rel K F M H ∧ Slots K F δ σ ∧ t δ M RD ∧ ∀ xs keep M' F' H' J, RD xs keep M' → Same F F' → Rel K F' M' H' → ItOk K F' J xs keep → R J H'
abbrev DPI (X : Cx) (F0 : Hp) (tg iter : Expr) (t : DTI) : Prop := PI X tg iter (liftI X.K F0 t)
theorem PI.imp {X : Cx} {tg e : Expr} {t t' : TI} (h : PI X tg e t) (i : ∀ σ H Q, t' σ H Q → t σ H Q) : PI X tg e t' := ⟨fun pins s σ H Q I q => h.run pins s σ H Q I (i _ _ _ q)⟩
def forR (g : DTG) (tb : DTS) (keep : DM → Prop) (E : DEnds) : List D → DSt → DM → Prop
  | [], δ, M => keep M ∧ E.nx δ M
  | x :: r, δ, M => keep M ∧ g x δ M fun δ1 M1 => tb { E with nx := forR g tb keep E r, ct := forR g tb keep E r, bk := E.nx } δ1 M1
@[simp] def dFor (ti : DTI) (g : DTG) (tb : DTS) : DTS := fun D δ M => ti δ M fun xs keep M1 => forR g tb keep D xs δ M1
theorem ds_for {tg iter : Expr} {body : List Stmt} {ti : DTI} {g : DTG} {tb : DTS} (hp : PassesOwn (model X.prog X.w) X.A X.env X.xe) (hc : X.calm = true) (hi : DPI X F0 tg iter ti) (hg : DPG X F0 tg g) (hb : DPSs X F0 body tb)
    (hs : ∀ x, foldedSetIterable iter X.env x = pure x := by intro _; rfl) : DPS X F0 (.For tg iter body [] pos) (dFor ti g tb) :=
  PS.imp (ps_for hp hc hi hg hb hs) fun E σ H ⟨F, δ, M, DD, e0, r, s, h, m⟩ => by
    refine ⟨F, δ, M, _, e0, r, s, h, fun xs keep M1 F1 H1 J q e1 r1 ok => ?_⟩
    refine ⟨fun i n σ2 H2 => n + i = xs.length ∧ ∃ F2 δ2 M2, Same F1 F2 ∧ Rel X.K F2 M2 H2 ∧ Slots X.K F2 δ2 σ2 ∧ forR g tb keep DD (xs.drop i) δ2 M2, ⟨xs.length, rfl, F1, δ, M1, Same.refl F1, r1, s.mono e1, by simpa using q⟩, ?_⟩
    rintro i n σ2 H2 ⟨hn, F2, δ2, M2, e2, r2, s2, h2⟩
    by_cases hi : i < xs.length
    · have hx : xs[i]? = some xs[i] := by simp [hi]
      rw [List.drop_eq_getElem_cons hi] at h2
      obtain ⟨k2, h2⟩ := h2
      obtain ⟨go, yl⟩ := (ok i F2 M2 H2 e2 r2 k2).1 _ hx
      refine .inr ⟨go, fun σ' H' => ∃ F2 δ2 M2, Same F1 F2 ∧ Rel X.K F2 M2 H' ∧ Slots X.K F2 δ2 σ' ∧ forR g tb keep DD (xs.drop (i + 1)) δ2 M2, fun σ' H' z => ⟨n - 1, by omega, by omega, z⟩, fun v H' y => ?_⟩
      obtain ⟨F3, e3, r3, rv⟩ := yl v H' y
      refine ⟨F3, _, δ2, M2, _, e0.trans (e1.trans (e2.trans e3)), r3, s2.mono e3, rv, h2, fun δ4 M4 F4 σ4 H4 q4 e4 r4 s4 => ?_⟩
      refine ⟨F4, δ4, M4, _, e0.trans (e1.trans (e2.trans (e3.trans e4))), r4, s4, q4, ⟨fun δ5 M5 F5 σ5 H5 q5 e5 r5 s5 => ⟨F5, δ5, M5, e2.trans (e3.trans (e4.trans e5)), r5, s5, q5⟩, m.rt.mono (e1.trans (e2.trans (e3.trans e4))),
        fun δ5 M5 F5 σ5 H5 q5 e5 r5 s5 => m.nx δ5 M5 F5 σ5 H5 q5 (e1.trans (e2.trans (e3.trans (e4.trans e5)))) r5 s5, fun δ5 M5 F5 σ5 H5 q5 e5 r5 s5 => ⟨F5, δ5, M5, e2.trans (e3.trans (e4.trans e5)), r5, s5, q5⟩⟩⟩
    · have hd : xs.drop i = [] := List.drop_eq_nil_of_le (by omega)
      rw [hd] at h2
      obtain ⟨k2, h2⟩ := h2
      exact .inl ⟨(ok i F2 M2 H2 e2 r2 k2).2 (by omega), m.nx δ2 M2 F2 σ2 H2 h2 (e1.trans e2) r2 s2⟩
end
end DL
set_option Elab.async false
set_option linter.all false
set_option maxRecDepth 100000
/-! DL3: data: equality and order -/
namespace DL
open PySem PySem.Spec L2
open PySem.SeqAt (EqAt RcAt RcLt)
mutual
def eqD : D → D → Bool
  | .non, .non => true
  | .bl a, .bl b => a == b
  | .bl a, .int j => (if a then 1 else 0) == j
  | .int i, .bl b => i == (if b then 1 else 0)
  | .int i, .int j => i == j
  | .str x, .str y => x == y
  | .lst xs, .lst ys => eqL xs ys
  | .tup xs, .tup ys => eqL xs ys
  | _, _ => false
def eqL : List D → List D → Bool
  | [], [] => true
  | x :: xs, y :: ys => eqD x y && eqL xs ys
  | _, _ => false
end
/-- data, at most n deep -/
def lay : Nat → D → Bool
  | _, .non => true
  | _, .bl _ => true
  | _, .int _ => true
  | _, .str _ => true
  | n + 1, .lst xs => xs.all (lay n)
  | n + 1, .tup xs => xs.all (lay n)
  | _, _ => false
/-! what stands in the heap -/
mutual
def At (h : Heap) : D → Value → Prop
  | .non, u => u = .none
  | .bl b, u => u = .bool b
  | .int i, u => ∃ t, u = .int i t
  | .str x, u => ∃ t, u = .str x t
  | .lst xs, u => ∃ p its, u = .ref p ∧ h.IsList p its ∧ AtL h xs its.toList
  | .tup xs, u => ∃ p its, u = .ref p ∧ h.IsTuple p its ∧ AtL h xs its.toList
  | _, _ => False
def AtL (h : Heap) : List D → List Value → Prop
  | [], us => us = []
  | x :: xs, us => ∃ u r, us = u :: r ∧ At h x u ∧ AtL h xs r
end
theorem AtL.length {h : Heap} : ∀ {xs : List D} {us : List Value}, AtL h xs us → xs.length = us.length
  | [], _, e => by unfold AtL at e; subst e; rfl
  | _ :: xs, _, e => by
    unfold AtL at e
    obtain ⟨u, r, rfl, _, e⟩ := e
    simp [AtL.length e]
theorem AtL.get {h : Heap} : ∀ {xs : List D} {us : List Value} (j : Nat) (h1 : j < xs.length) (h2 : j < us.length), AtL h xs us → At h xs[j] us[j]
  | x :: xs, us, 0, _, h2, e => by
    unfold AtL at e
    obtain ⟨u, r, rfl, e, _⟩ := e
    exact e
  | x :: xs, us, j + 1, h1, h2, e => by
    unfold AtL at e
    obtain ⟨u, r, rfl, _, e⟩ := e
    exact AtL.get j (by simpa using h1) (by simpa using h2) e
mutual
theorem at_of {X : Cx} {pins : List (Addr × Obj)} {σ : St} {H : Hp} {s : Shared} (I : Inv X pins σ H s) : ∀ {d : D} {n : Nat} {v : V} {u : Value}, lay n d = true → Rep X.K H d v → RelV v u → At s.heap d u
  | .non, _, _, _, _, r, q => by unfold Rep at r; subst r; exact q
  | .bl _, _, _, _, _, r, q => by unfold Rep at r; subst r; exact q
  | .int _, _, _, _, _, r, q => by unfold Rep at r; subst r; exact q
  | .str _, _, _, _, _, r, q => by unfold Rep at r; subst r; exact q
  | .lst xs, n + 1, _, _, l, r, q => by
    unfold Rep at r
    obtain ⟨a, vs, rfl, h2, h3⟩ := r
    obtain ⟨its, rv, pl, _⟩ := I.list (SqL.of h2)
    unfold At
    exact ⟨a, its.toArray, q, pl.isList, by simpa using atL_of I (by simpa [lay] using l) h3 rv⟩
  | .tup xs, n + 1, _, _, l, r, q => by
    unfold Rep at r
    obtain ⟨a, vs, rfl, h2, h3⟩ := r
    obtain ⟨its, rv, pl, _⟩ := I.tuple h2
    unfold At
    exact ⟨a, its.toArray, q, pl, by simpa using atL_of I (by simpa [lay] using l) h3 rv⟩
  | .lst _, 0, _, _, l, _, _ => by simp [lay] at l
  | .tup _, 0, _, _, l, _, _ => by simp [lay] at l
  | .ty _, n, _, _, l, _, _ => by cases n <;> simp [lay] at l
  | .ref _, n, _, _, l, _, _ => by cases n <;> simp [lay] at l
  | .ins _ _ _, n, _, _, l, _, _ => by cases n <;> simp [lay] at l
  | .scr _, n, _, _, l, _, _ => by cases n <;> simp [lay] at l
theorem atL_of {X : Cx} {pins : List (Addr × Obj)} {σ : St} {H : Hp} {s : Shared} (I : Inv X pins σ H s) : ∀ {xs : List D} {n : Nat} {vs : List V} {us : List Value}, (∀ x ∈ xs, lay n x = true) → RepL X.K H xs vs → Vals vs us → AtL s.heap xs us
  | [], _, _, _, _, r, q => by
    have := r.nilV
    subst this
    cases q
    unfold AtL; rfl
  | x :: xs, n, _, _, l, r, q => by
    obtain ⟨v, vr, rfl, r1, r2⟩ := r.consV
    cases q with
    | cons q1 q2 =>
      unfold AtL
      exact ⟨_, _, rfl, at_of I (l x (by simp)) r1 q1, atL_of I (fun y hy => l y (by simp [hy])) r2 q2⟩
end
mutual
theorem At.one {h : Heap} : ∀ {d e : D} {u : Value}, At h d u → At h e u → eqD d e = true
  | .non, e, u, a, b => by unfold At at a; subst a; cases e <;> simp [At, eqD] at b ⊢
  | .bl _, e, u, a, b => by unfold At at a; subst a; cases e <;> simp [At, eqD] at b ⊢; exact b
  | .int _, e, u, a, b => by unfold At at a; obtain ⟨t, rfl⟩ := a; cases e <;> simp [At, eqD] at b ⊢; exact b
  | .str _, e, u, a, b => by unfold At at a; obtain ⟨t, rfl⟩ := a; cases e <;> simp [At, eqD] at b ⊢; exact b
  | .lst xs, e, u, a, b => by
    unfold At at a
    obtain ⟨p, its, rfl, ⟨o, ho, hc, n, hd⟩, a⟩ := a
    cases e
    case lst ys =>
      unfold At at b
      obtain ⟨q, its2, e0, ⟨o2, ho2, hc2, n2, hd2⟩, b⟩ := b
      cases e0
      rw [ho] at ho2; cases ho2
      rw [hd] at hd2
      injection hd2 with e1 _
      subst e1
      rw [eqD]
      exact AtL.one a b
    case tup ys =>
      unfold At at b
      obtain ⟨q, its2, e0, ⟨o2, ho2, hc2, n2, hd2⟩, b⟩ := b
      cases e0
      rw [ho] at ho2; cases ho2
      rw [hc] at hc2; simp at hc2
    all_goals (exfalso; unfold At at b; first | exact b | (obtain ⟨_, b⟩ := b; cases b; done) | (cases b; done))
  | .tup xs, e, u, a, b => by
    unfold At at a
    obtain ⟨p, its, rfl, ⟨o, ho, hc, n, hd⟩, a⟩ := a
    cases e
    case tup ys =>
      unfold At at b
      obtain ⟨q, its2, e0, ⟨o2, ho2, hc2, n2, hd2⟩, b⟩ := b
      cases e0
      rw [ho] at ho2; cases ho2
      rw [hd] at hd2
      injection hd2 with e1 _
      subst e1
      rw [eqD]
      exact AtL.one a b
    case lst ys =>
      unfold At at b
      obtain ⟨q, its2, e0, ⟨o2, ho2, hc2, n2, hd2⟩, b⟩ := b
      cases e0
      rw [ho] at ho2; cases ho2
      rw [hc] at hc2; simp at hc2
    all_goals (exfalso; unfold At at b; first | exact b | (obtain ⟨_, b⟩ := b; cases b; done) | (cases b; done))
  | .ty _, e, u, a, b => by unfold At at a; exact a.elim
  | .ref _, e, u, a, b => by unfold At at a; exact a.elim
  | .ins _ _ _, e, u, a, b => by unfold At at a; exact a.elim
  | .scr _, e, u, a, b => by unfold At at a; exact a.elim
theorem AtL.one {h : Heap} : ∀ {xs ys : List D} {us : List Value}, AtL h xs us → AtL h ys us → eqL xs ys = true
  | [], ys, _, a, b => by
    unfold AtL at a; subst a
    cases ys with
    | nil => simp [eqL]
    | cons y ys => unfold AtL at b; obtain ⟨_, _, e, _⟩ := b; cases e
  | x :: xs, ys, _, a, b => by
    unfold AtL at a
    obtain ⟨u, r, rfl, a1, a2⟩ := a
    cases ys with
    | nil => unfold AtL at b; cases b
    | cons y ys =>
      unfold AtL at b
      obtain ⟨_, _, e, b1, b2⟩ := b
      cases e
      simp [eqL, At.one a1 b1, AtL.one a2 b2]
end
theorem eqL_len : ∀ {xs ys : List D}, eqL xs ys = true → xs.length = ys.length
  | [], [], _ => rfl
  | x :: xs, y :: ys, h => by
    simp only [eqL, Bool.and_eq_true] at h
    simp [eqL_len h.2]
  | [], _ :: _, h => by simp [eqL] at h
  | _ :: _, [], h => by simp [eqL] at h
theorem eqL_all : ∀ (xs ys : List D), ((List.range (min xs.length ys.length)).all (fun j => eqD (xs.getD j .non) (ys.getD j .non)) && xs.length == ys.length) = eqL xs ys
  | [], [] => rfl
  | [], _ :: _ => by simp [eqL]
  | _ :: _, [] => by simp [eqL]
  | x :: xs, y :: ys => by
    have ih := eqL_all xs ys
    have m : min (x :: xs).length (y :: ys).length = min xs.length ys.length + 1 := by simp only [List.length_cons]; omega
    rw [m, List.range_succ_eq_map, List.all_cons, List.all_map, eqL, ← ih]
    simp only [List.getD_cons_zero, List.length_cons, Function.comp_def, List.getD_cons_succ, Bool.and_assoc]
    congr 2
    simp
mutual
theorem eq_at : ∀ {d e : D} {n : Nat} {A : Around} {s : Shared} {u w : Value}, At s.heap d u → At s.heap e w → lay n d = true → lay n e = true → A.units + n < cLine → RcAt A s u w (eqD d e) ∧ EqAt A s u w (eqD d e)
  | .non, e, n, A, s, u, w, a, b, ld, le, hu => by
    unfold At at a; subst a
    cases e <;> unfold At at b
    case non => subst b; exact ⟨.none_none, .same _⟩
    case bl => subst b; exact ⟨.none_bool _, .none_bool _⟩
    case int => obtain ⟨t, rfl⟩ := b; exact ⟨.none_int _ _, .none_int _ _⟩
    case str => obtain ⟨t, rfl⟩ := b; exact ⟨.none_str _ _, .none_str _ _⟩
    case lst => obtain ⟨p, its, rfl, hl, _⟩ := b; exact ⟨.none_list hl (by omega), .none_list hl (by omega)⟩
    case tup => obtain ⟨p, its, rfl, hl, _⟩ := b; exact ⟨.none_tuple hl (by omega), .none_tuple hl (by omega)⟩
    all_goals exact b.elim
  | .bl k, e, n, A, s, u, w, a, b, ld, le, hu => by
    unfold At at a; subst a
    cases e <;> unfold At at b
    case non => subst b; exact ⟨.bool_none _, .bool_none _⟩
    case bl => subst b; exact ⟨.bool_bool _ _, .bool_bool _ _⟩
    case int => obtain ⟨t, rfl⟩ := b; exact ⟨.bool_int _ _ _, .bool_int _ _ _⟩
    case str => obtain ⟨t, rfl⟩ := b; exact ⟨.bool_str _ _ _, .bool_str _ _ _⟩
    case lst => obtain ⟨p, its, rfl, hl, _⟩ := b; exact ⟨.bool_list _ hl (by omega), .bool_list _ hl (by omega)⟩
    case tup => obtain ⟨p, its, rfl, hl, _⟩ := b; exact ⟨.bool_tuple _ hl (by omega), .bool_tuple _ hl (by omega)⟩
    all_goals exact b.elim
  | .int k, e, n, A, s, u, w, a, b, ld, le, hu => by
    unfold At at a; obtain ⟨t0, rfl⟩ := a
    cases e <;> unfold At at b
    case non => subst b; exact ⟨.int_none _ _, .int_none _ _⟩
    case bl => subst b; exact ⟨.int_bool _ _ _, .int_bool _ _ _⟩
    case int => obtain ⟨t, rfl⟩ := b; exact ⟨.int_int _ _ _ _, .int_int _ _ _ _⟩
    case str => obtain ⟨t, rfl⟩ := b; exact ⟨.int_str _ _ _ _, .int_str _ _ _ _⟩
    case lst => obtain ⟨p, its, rfl, hl, _⟩ := b; exact ⟨.int_list _ _ hl (by omega), .int_list _ _ hl (by omega)⟩
    case tup => obtain ⟨p, its, rfl, hl, _⟩ := b; exact ⟨.int_tuple _ _ hl (by omega), .int_tuple _ _ hl (by omega)⟩
    all_goals exact b.elim
  | .str k, e, n, A, s, u, w, a, b, ld, le, hu => by
    unfold At at a; obtain ⟨t0, rfl⟩ := a
    cases e <;> unfold At at b
    case non => subst b; exact ⟨.str_none _ _, .str_none _ _⟩
    case bl => subst b; exact ⟨.str_bool _ _ _, .str_bool _ _ _⟩
    case int => obtain ⟨t, rfl⟩ := b; exact ⟨.str_int _ _ _ _, .str_int _ _ _ _⟩
    case str => obtain ⟨t, rfl⟩ := b; exact ⟨.str_str _ _ _ _, .str_str _ _ _ _⟩
    case lst => obtain ⟨p, its, rfl, hl, _⟩ := b; exact ⟨.str_list _ _ hl (by omega), .str_list _ _ hl (by omega)⟩
    case tup => obtain ⟨p, its, rfl, hl, _⟩ := b; exact ⟨.str_tuple _ _ hl (by omega), .str_tuple _ _ hl (by omega)⟩
    all_goals exact b.elim
  | .lst xs, e, 0, A, s, u, w, a, b, ld, le, hu => by simp [lay] at ld
  | .lst xs, e, n + 1, A, s, u, w, a, b, ld, le, hu => by
    have a0 := a
    unfold At at a; obtain ⟨p0, its0, rfl, hl0, a⟩ := a
    cases e
    case non => unfold At at b; subst b; exact ⟨.list_none hl0 (by omega), .list_none hl0 (by omega)⟩
    case bl => unfold At at b; subst b; exact ⟨.list_bool _ hl0 (by omega), .list_bool _ hl0 (by omega)⟩
    case int => unfold At at b; obtain ⟨t, rfl⟩ := b; exact ⟨.list_int _ _ hl0 (by omega), .list_int _ _ hl0 (by omega)⟩
    case str => unfold At at b; obtain ⟨t, rfl⟩ := b; exact ⟨.list_str _ _ hl0 (by omega), .list_str _ _ hl0 (by omega)⟩
    case tup => unfold At at b; obtain ⟨p, its, rfl, hl, _⟩ := b; exact ⟨.list_tuple hl0 hl (by omega), .list_tuple hl0 hl (by omega)⟩
    case lst ys =>
      have b0 := b
      unfold At at b; obtain ⟨p, its, rfl, hl, b⟩ := b
      have n1 := a.length
      have n2 := b.length
      simp only [Array.length_toList] at n1 n2
      have rc : RcAt A s (.ref p0) (.ref p) (eqD (.lst xs) (.lst ys)) := by
        rw [eqD, ← eqL_all xs ys]
        by_cases hz : its0.size = its.size
        · have ee : (xs.length == ys.length) = true := by simp; omega
          have em : min xs.length ys.length = its0.size := by omega
          rw [ee, Bool.and_true, em]
          refine RcAt.lists hl0 hl hz (by omega) fun j h1 h2 => ?_
          exact eq_atL a b (by simpa [lay] using ld) (by simpa [lay] using le) (show A.in1.units + n < cLine by show A.units + 1 + n < cLine; omega) j (by simpa using h1) (by simpa using h2)
        · have ee : (xs.length == ys.length) = false := by simp; omega
          rw [ee, Bool.and_false]
          exact RcAt.lists_lengths hl0 hl (by simpa using hz) (by omega)
      refine ⟨rc, ?_⟩
      by_cases hp : p0 = p
      · subst hp
        rw [At.one a0 b0]
        exact .same _
      · exact .of_refs hp rc
    all_goals (unfold At at b; exact b.elim)
  | .tup xs, e, 0, A, s, u, w, a, b, ld, le, hu => by simp [lay] at ld
  | .tup xs, e, n + 1, A, s, u, w, a, b, ld, le, hu => by
    have a0 := a
    unfold At at a; obtain ⟨p0, its0, rfl, hl0, a⟩ := a
    cases e
    case non => unfold At at b; subst b; exact ⟨.tuple_none hl0 (by omega), .tuple_none hl0 (by omega)⟩
    case bl => unfold At at b; subst b; exact ⟨.tuple_bool _ hl0 (by omega), .tuple_bool _ hl0 (by omega)⟩
    case int => unfold At at b; obtain ⟨t, rfl⟩ := b; exact ⟨.tuple_int _ _ hl0 (by omega), .tuple_int _ _ hl0 (by omega)⟩
    case str => unfold At at b; obtain ⟨t, rfl⟩ := b; exact ⟨.tuple_str _ _ hl0 (by omega), .tuple_str _ _ hl0 (by omega)⟩
    case lst => unfold At at b; obtain ⟨p, its, rfl, hl, _⟩ := b; exact ⟨.tuple_list hl0 hl (by omega), .tuple_list hl0 hl (by omega)⟩
    case tup ys =>
      have b0 := b
      unfold At at b; obtain ⟨p, its, rfl, hl, b⟩ := b
      have n1 := a.length
      have n2 := b.length
      simp only [Array.length_toList] at n1 n2
      have rc : RcAt A s (.ref p0) (.ref p) (eqD (.tup xs) (.tup ys)) := by
        rw [eqD, ← eqL_all xs ys, n1, n2]
        refine RcAt.tuples hl0 hl (by omega) fun j h1 h2 => ?_
        exact eq_atL a b (by simpa [lay] using ld) (by simpa [lay] using le) (show A.in1.units + n < cLine by show A.units + 1 + n < cLine; omega) j (by simpa using h1) (by simpa using h2)
      refine ⟨rc, ?_⟩
      by_cases hp : p0 = p
      · subst hp
        rw [At.one a0 b0]
        exact .same _
      · exact .of_refs hp rc
    all_goals (unfold At at b; exact b.elim)
  | .ty _, e, _, _, _, u, _, a, b, _, _, _ => by unfold At at a; exact a.elim
  | .ref _, e, _, _, _, u, _, a, b, _, _, _ => by unfold At at a; exact a.elim
  | .ins _ _ _, e, _, _, _, u, _, a, b, _, _, _ => by unfold At at a; exact a.elim
  | .scr _, e, _, _, _, u, _, a, b, _, _, _ => by unfold At at a; exact a.elim
theorem eq_atL : ∀ {xs ys : List D} {n : Nat} {A : Around} {s : Shared} {us ws : List Value}, AtL s.heap xs us → AtL s.heap ys ws → (∀ x ∈ xs, lay n x = true) → (∀ y ∈ ys, lay n y = true) → A.units + n < cLine →
    ∀ j (h1 : j < us.length) (h2 : j < ws.length), EqAt A s us[j] ws[j] (eqD (xs.getD j .non) (ys.getD j .non))
  | [], ys, n, A, s, us, ws, a, b, la, lb, hu, j, h1, h2 => by unfold AtL at a; subst a; simp at h1
  | x :: xs, [], n, A, s, us, ws, a, b, la, lb, hu, j, h1, h2 => by unfold AtL at b; subst b; simp at h2
  | x :: xs, y :: ys, n, A, s, us, ws, a, b, la, lb, hu, j, h1, h2 => by
    unfold AtL at a b
    obtain ⟨u, r, rfl, a1, a2⟩ := a
    obtain ⟨w, q, rfl, b1, b2⟩ := b
    cases j with
    | zero => exact (eq_at a1 b1 (la x (by simp)) (lb y (by simp)) hu).2
    | succ j =>
      have := eq_atL a2 b2 (fun z hz => la z (by simp [hz])) (fun z hz => lb z (by simp [hz])) hu j (by simpa using h1) (by simpa using h2)
      simpa using this
end
end DL
set_option Elab.async false
set_option linter.all false
set_option maxRecDepth 100000
/-! DL4: order of data; the operators -/
namespace DL
open PySem PySem.Spec L2
open PySem.SeqAt (EqAt RcAt RcLt RcOp firstLt)
mutual
theorem eqD_comm : ∀ (x y : D), eqD x y = eqD y x
  | .non, y => by cases y <;> simp [eqD]
  | .bl a, y => by cases y <;> simp [eqD, Bool.beq_comm, eq_comm]
  | .int a, y => by cases y <;> simp only [eqD] <;> exact BEq.comm
  | .str a, y => by cases y <;> simp only [eqD] <;> exact BEq.comm
  | .lst xs, y => by
    cases y <;> simp [eqD]
    exact eqL_comm xs _
  | .tup xs, y => by
    cases y <;> simp [eqD]
    exact eqL_comm xs _
  | .ty _, y => by cases y <;> simp [eqD]
  | .ref _, y => by cases y <;> simp [eqD]
  | .ins _ _ _, y => by cases y <;> simp [eqD]
  | .scr _, y => by cases y <;> simp [eqD]
theorem eqL_comm : ∀ (xs ys : List D), eqL xs ys = eqL ys xs
  | [], [] => rfl
  | [], _ :: _ => by simp [eqL]
  | _ :: _, [] => by simp [eqL]
  | x :: xs, y :: ys => by simp [eqL, eqD_comm x y, eqL_comm xs ys]
end
mutual
def ltD : D → D → Bool
  | .int i, .int j => decide (i < j)
  | .bl a, .bl b => !a && b
  | .str x, .str y => decide (x.cps.toList < y.cps.toList)
  | .lst xs, .lst ys => ltL xs ys
  | .tup xs, .tup ys => ltL xs ys
  | _, _ => false
def ltL : List D → List D → Bool
  | [], [] => false
  | [], _ :: _ => true
  | _ :: _, [] => false
  | x :: xs, y :: ys => if eqD x y then ltL xs ys else ltD x y
end
/-! two values that can be compared by their order, place by place -/
mutual
def like : D → D → Bool
  | .int _, .int _ => true
  | .bl _, .bl _ => true
  | .str _, .str _ => true
  | .tup xs, .tup ys => likeL xs ys
  | .lst xs, .lst ys => likeL xs ys
  | _, _ => false
def likeL : List D → List D → Bool
  | x :: xs, y :: ys => like x y && likeL xs ys
  | _, _ => true
end
def cmpD : CmpOp → D → D → Bool
  | .Lt, x, y => ltD x y
  | .Gt, x, y => ltD y x
  | .LtE, x, y => !ltD y x
  | .GtE, x, y => !ltD x y
  | _, _, _ => false
def ordOp : CmpOp → Bool
  | .Lt => true | .Gt => true | .LtE => true | .GtE => true | _ => false
def cmpN : CmpOp → Nat → Nat → Bool
  | .Lt, n, m => decide (n < m)
  | .Gt, n, m => decide (n > m)
  | .LtE, n, m => decide (n ≤ m)
  | .GtE, n, m => decide (n ≥ m)
  | _, _, _ => false
theorem first_cmp (op : CmpOp) (ho : ordOp op = true) : ∀ (xs ys : List D) (k : Nat) (X Y : List D), X.drop k = xs → Y.drop k = ys → k ≤ X.length → k ≤ Y.length →
    firstLt (fun j => eqD (X.getD j .non) (Y.getD j .non)) (fun j => cmpD op (X.getD j .non) (Y.getD j .non)) (cmpN op X.length Y.length) ((List.range (min xs.length ys.length)).map (· + k)) = cmpD op (.tup xs) (.tup ys)
  | x :: xs, y :: ys, k, X, Y, hx, hy, k1, k2 => by
    have m : min (x :: xs).length (y :: ys).length = min xs.length ys.length + 1 := by simp only [List.length_cons]; omega
    have lx : k < X.length := by
      rcases Nat.lt_or_ge k X.length with h | h
      · exact h
      · rw [List.drop_eq_nil_of_le h] at hx; cases hx
    have ly : k < Y.length := by
      rcases Nat.lt_or_ge k Y.length with h | h
      · exact h
      · rw [List.drop_eq_nil_of_le h] at hy; cases hy
    have gx : X.getD k .non = x := by
      rw [List.drop_eq_getElem_cons lx] at hx
      simp only [List.cons.injEq] at hx
      simp [List.getD, lx, hx.1]
    have gy : Y.getD k .non = y := by
      rw [List.drop_eq_getElem_cons ly] at hy
      simp only [List.cons.injEq] at hy
      simp [List.getD, ly, hy.1]
    have dx : X.drop (k + 1) = xs := by rw [← List.drop_drop, hx]; rfl
    have dy : Y.drop (k + 1) = ys := by rw [← List.drop_drop, hy]; rfl
    have ih := first_cmp op ho xs ys (k + 1) X Y dx dy lx ly
    have er : (List.range (min (x :: xs).length (y :: ys).length)).map (· + k) = k :: (List.range (min xs.length ys.length)).map (· + (k + 1)) := by
      rw [m, List.range_succ_eq_map, List.map_cons, List.map_map]
      simp only [Nat.zero_add, List.cons.injEq, true_and]
      apply List.map_congr_left
      intro j _
      simp only [Function.comp_def, Nat.succ_eq_add_one]
      omega
    rw [er, firstLt, gx, gy]
    by_cases e : eqD x y = true
    · rw [if_pos e, ih]
      have e' : eqD y x = true := by rw [eqD_comm]; exact e
      cases op <;> simp [cmpD, ltD, ltL, e, e'] at ho ⊢
    · have e1 : eqD x y = false := by simpa using e
      have e2 : eqD y x = false := by rw [eqD_comm]; exact e1
      rw [if_neg e]
      cases op <;> simp [cmpD, ltD, ltL, e1, e2] at ho ⊢
  | [], [], k, X, Y, hx, hy, k1, k2 => by
    have l1 := congrArg List.length hx
    have l2 := congrArg List.length hy
    simp at l1 l2
    have e : X.length = Y.length := by omega
    cases op <;> simp [firstLt, cmpD, cmpN, ltD, ltL, e, ordOp] at ho ⊢
  | [], y :: ys, k, X, Y, hx, hy, k1, k2 => by
    have l1 := congrArg List.length hx
    have l2 := congrArg List.length hy
    simp at l1 l2
    cases op <;> simp [firstLt, cmpD, cmpN, ltD, ltL, ordOp] at ho ⊢ <;> omega
  | x :: xs, [], k, X, Y, hx, hy, k1, k2 => by
    have l1 := congrArg List.length hx
    have l2 := congrArg List.length hy
    simp at l1 l2
    cases op <;> simp [firstLt, cmpD, cmpN, ltD, ltL, ordOp] at ho ⊢ <;> omega
theorem first_cmp0 (op : CmpOp) (ho : ordOp op = true) (xs ys : List D) :
    firstLt (fun j => eqD (xs.getD j .non) (ys.getD j .non)) (fun j => cmpD op (xs.getD j .non) (ys.getD j .non)) (cmpN op xs.length ys.length) (List.range (min xs.length ys.length)) = cmpD op (.tup xs) (.tup ys) := by
  have := first_cmp op ho xs ys 0 xs ys rfl rfl (Nat.zero_le _) (Nat.zero_le _)
  simpa using this
theorem cmpD_lst (op : CmpOp) (xs ys : List D) : cmpD op (.lst xs) (.lst ys) = cmpD op (.tup xs) (.tup ys) := by
  cases op <;> simp [cmpD, ltD]
mutual
theorem cmp_at (op : CmpOp) (ho : ordOp op = true) : ∀ {d e : D} {n : Nat} {A : Around} {s : Shared} {u w : Value}, At s.heap d u → At s.heap e w → lay n d = true → lay n e = true → like d e = true → A.units + n < cLine → RcOp op A s u w (cmpD op d e)
  | .int i, e, n, A, s, u, w, a, b, ld, le, lk, hu => by
    cases e <;> simp [like] at lk
    rename_i j
    unfold At at a b
    obtain ⟨t, rfl⟩ := a
    obtain ⟨t', rfl⟩ := b
    intro prog w E Q h
    cases op <;> simp [ordOp] at ho
    · exact PyProof.Rows.lt_int h
    · refine PyProof.Rows.le_int ?_
      rw [show decide (i ≤ j) = !decide (j < i) from by rw [← decide_not, decide_eq_decide]; omega]
      exact h
    · exact PyProof.Rows.gt_int h
    · refine PyProof.Rows.ge_int ?_
      rw [show decide (j ≤ i) = !decide (i < j) from by rw [← decide_not, decide_eq_decide]; omega]
      exact h
  | .bl i, e, n, A, s, u, w, a, b, ld, le, lk, hu => by
    cases e <;> simp [like] at lk
    rename_i j
    unfold At at a b
    subst a b
    intro prog w E Q h
    cases op <;> simp [ordOp] at ho
    · exact PyProof.Rows.lt_bool (by cases i <;> cases j <;> exact h)
    · exact PyProof.Rows.le_bool (by cases i <;> cases j <;> exact h)
    · exact PyProof.Rows.gt_bool (by cases i <;> cases j <;> exact h)
    · exact PyProof.Rows.ge_bool (by cases i <;> cases j <;> exact h)
  | .str i, e, n, A, s, u, w, a, b, ld, le, lk, hu => by
    cases e <;> simp [like] at lk
    unfold At at a b
    obtain ⟨t, rfl⟩ := a
    obtain ⟨t', rfl⟩ := b
    intro prog w E Q h
    cases op <;> simp [ordOp] at ho
    · exact PyProof.Rows.lt_str h
    · exact PySem.P.le_str h
    · exact PySem.P.gt_str h
    · exact PySem.P.ge_str h
  | .tup xs, e, 0, A, s, u, w, a, b, ld, le, lk, hu => by simp [lay] at ld
  | .tup xs, e, n + 1, A, s, u, w, a, b, ld, le, lk, hu => by
    cases e <;> simp [like] at lk
    rename_i ys
    unfold At at a b
    obtain ⟨p0, its0, rfl, hl0, a⟩ := a
    obtain ⟨p, its, rfl, hl, b⟩ := b
    have n1 := a.length
    have n2 := b.length
    simp only [Array.length_toList] at n1 n2
    have hu' : A.in1.units + n < cLine := by show A.units + 1 + n < cLine; omega
    have hq : ∀ j (h1 : j < its0.size) (h2 : j < its.size), EqAt A.in1 s its0[j] its[j] (eqD (xs.getD j .non) (ys.getD j .non)) := fun j h1 h2 =>
      eq_atL a b (by simpa [lay] using ld) (by simpa [lay] using le) hu' j (by simpa using h1) (by simpa using h2)
    have hr : ∀ j (h1 : j < its0.size) (h2 : j < its.size), RcOp op A.in1 s its0[j] its[j] (cmpD op (xs.getD j .non) (ys.getD j .non)) := fun j h1 h2 =>
      cmp_atL op ho a b (by simpa [lay] using ld) (by simpa [lay] using le) lk hu' j (by simpa using h1) (by simpa using h2)
    rw [← first_cmp0 op ho, n1, n2]
    cases op <;> simp [ordOp] at ho
    · exact PySem.SeqAt.RcLt.tuples hl0 hl (by omega) hq fun j h1 h2 _ => hr j h1 h2
    · exact PySem.SeqAt.RcOp.tuples_le hl0 hl (by omega) hq fun j h1 h2 _ => hr j h1 h2
    · exact PySem.SeqAt.RcOp.tuples_gt hl0 hl (by omega) hq fun j h1 h2 _ => hr j h1 h2
    · exact PySem.SeqAt.RcOp.tuples_ge hl0 hl (by omega) hq fun j h1 h2 _ => hr j h1 h2
  | .lst xs, e, 0, A, s, u, w, a, b, ld, le, lk, hu => by simp [lay] at ld
  | .lst xs, e, n + 1, A, s, u, w, a, b, ld, le, lk, hu => by
    cases e <;> simp [like] at lk
    rename_i ys
    unfold At at a b
    obtain ⟨p0, its0, rfl, hl0, a⟩ := a
    obtain ⟨p, its, rfl, hl, b⟩ := b
    have n1 := a.length
    have n2 := b.length
    simp only [Array.length_toList] at n1 n2
    have hu' : A.in1.units + n < cLine := by show A.units + 1 + n < cLine; omega
    have hq : ∀ j (h1 : j < its0.size) (h2 : j < its.size), EqAt A.in1 s its0[j] its[j] (eqD (xs.getD j .non) (ys.getD j .non)) := fun j h1 h2 =>
      eq_atL a b (by simpa [lay] using ld) (by simpa [lay] using le) hu' j (by simpa using h1) (by simpa using h2)
    have hr : ∀ j (h1 : j < its0.size) (h2 : j < its.size), RcOp op A.in1 s its0[j] its[j] (cmpD op (xs.getD j .non) (ys.getD j .non)) := fun j h1 h2 =>
      cmp_atL op ho a b (by simpa [lay] using ld) (by simpa [lay] using le) lk hu' j (by simpa using h1) (by simpa using h2)
    rw [cmpD_lst, ← first_cmp0 op ho, n1, n2]
    cases op <;> simp [ordOp] at ho
    · exact PySem.SeqAt.RcLt.lists hl0 hl (by omega) hq fun j h1 h2 _ => hr j h1 h2
    · exact PySem.SeqAt.RcOp.lists_le hl0 hl (by omega) hq fun j h1 h2 _ => hr j h1 h2
    · exact PySem.SeqAt.RcOp.lists_gt hl0 hl (by omega) hq fun j h1 h2 _ => hr j h1 h2
    · exact PySem.SeqAt.RcOp.lists_ge hl0 hl (by omega) hq fun j h1 h2 _ => hr j h1 h2
  | .non, e, _, _, _, _, _, a, b, _, _, lk, _ => by cases e <;> simp [like] at lk
  | .ty _, e, _, _, _, _, _, a, b, _, _, lk, _ => by cases e <;> simp [like] at lk
  | .ref _, e, _, _, _, _, _, a, b, _, _, lk, _ => by cases e <;> simp [like] at lk
  | .ins _ _ _, e, _, _, _, _, _, a, b, _, _, lk, _ => by cases e <;> simp [like] at lk
  | .scr _, e, _, _, _, _, _, a, b, _, _, lk, _ => by cases e <;> simp [like] at lk
theorem cmp_atL (op : CmpOp) (ho : ordOp op = true) : ∀ {xs ys : List D} {n : Nat} {A : Around} {s : Shared} {us ws : List Value}, AtL s.heap xs us → AtL s.heap ys ws → (∀ x ∈ xs, lay n x = true) → (∀ y ∈ ys, lay n y = true) → likeL xs ys = true → A.units + n < cLine →
    ∀ j (h1 : j < us.length) (h2 : j < ws.length), RcOp op A s us[j] ws[j] (cmpD op (xs.getD j .non) (ys.getD j .non))
  | [], ys, n, A, s, us, ws, a, b, la, lb, lk, hu, j, h1, h2 => by unfold AtL at a; subst a; simp at h1
  | x :: xs, [], n, A, s, us, ws, a, b, la, lb, lk, hu, j, h1, h2 => by unfold AtL at b; subst b; simp at h2
  | x :: xs, y :: ys, n, A, s, us, ws, a, b, la, lb, lk, hu, j, h1, h2 => by
    unfold AtL at a b
    obtain ⟨u, r, rfl, a1, a2⟩ := a
    obtain ⟨w, q, rfl, b1, b2⟩ := b
    simp only [likeL, Bool.and_eq_true] at lk
    cases j with
    | zero => exact cmp_at op ho a1 b1 (la x (by simp)) (lb y (by simp)) lk.1 hu
    | succ j =>
      have := cmp_atL op ho a2 b2 (fun z hz => la z (by simp [hz])) (fun z hz => lb z (by simp [hz])) lk.2 hu j (by simpa using h1) (by simpa using h2)
      simpa using this
end
end DL
set_option Elab.async false
set_option linter.all false
set_option maxRecDepth 100000
/-! DL5: the operators -/
namespace DL
open PySem PySem.Spec L2
open PySem.SeqAt (EqAt RcAt RcLt RcOp RcNeAt firstLt)
theorem ne_at : ∀ {d e : D} {n : Nat} {A : Around} {s : Shared} {u w : Value}, At s.heap d u → At s.heap e w → lay n d = true → lay n e = true → A.units + n < cLine → RcNeAt A s u w (!eqD d e) := by
  intro d e n A s u w a b ld le hu
  cases d
  case non =>
    unfold At at a; subst a
    cases e
    case non => unfold At at b; subst b; exact RcNeAt.none_none
    case bl => unfold At at b; subst b; exact RcNeAt.none_bool _
    case int => unfold At at b; obtain ⟨tb, rfl⟩ := b; exact RcNeAt.none_int _ _
    case str => unfold At at b; obtain ⟨tb, rfl⟩ := b; exact RcNeAt.none_str _ _
    case lst => have b0 := b; unfold At at b; obtain ⟨pb, ib, rfl, hb, b⟩ := b; exact RcNeAt.none_list hb (by omega)
    case tup => have b0 := b; unfold At at b; obtain ⟨pb, ib, rfl, hb, b⟩ := b; exact RcNeAt.none_tuple hb (by omega)
    all_goals (unfold At at b; exact b.elim)
  case bl =>
    unfold At at a; subst a
    cases e
    case non => unfold At at b; subst b; exact RcNeAt.bool_none _
    case bl => unfold At at b; subst b; exact RcNeAt.bool_bool _ _
    case int => unfold At at b; obtain ⟨tb, rfl⟩ := b; exact RcNeAt.bool_int _ _ _
    case str => unfold At at b; obtain ⟨tb, rfl⟩ := b; exact RcNeAt.bool_str _ _ _
    case lst => have b0 := b; unfold At at b; obtain ⟨pb, ib, rfl, hb, b⟩ := b; exact RcNeAt.bool_list _ hb (by omega)
    case tup => have b0 := b; unfold At at b; obtain ⟨pb, ib, rfl, hb, b⟩ := b; exact RcNeAt.bool_tuple _ hb (by omega)
    all_goals (unfold At at b; exact b.elim)
  case int =>
    unfold At at a; obtain ⟨ta, rfl⟩ := a
    cases e
    case non => unfold At at b; subst b; exact RcNeAt.int_none _ _
    case bl => unfold At at b; subst b; exact RcNeAt.int_bool _ _ _
    case int => unfold At at b; obtain ⟨tb, rfl⟩ := b; exact RcNeAt.int_int _ _ _ _
    case str => unfold At at b; obtain ⟨tb, rfl⟩ := b; exact RcNeAt.int_str _ _ _ _
    case lst => have b0 := b; unfold At at b; obtain ⟨pb, ib, rfl, hb, b⟩ := b; exact RcNeAt.int_list _ _ hb (by omega)
    case tup => have b0 := b; unfold At at b; obtain ⟨pb, ib, rfl, hb, b⟩ := b; exact RcNeAt.int_tuple _ _ hb (by omega)
    all_goals (unfold At at b; exact b.elim)
  case str =>
    unfold At at a; obtain ⟨ta, rfl⟩ := a
    cases e
    case non => unfold At at b; subst b; exact RcNeAt.str_none _ _
    case bl => unfold At at b; subst b; exact RcNeAt.str_bool _ _ _
    case int => unfold At at b; obtain ⟨tb, rfl⟩ := b; exact RcNeAt.str_int _ _ _ _
    case str => unfold At at b; obtain ⟨tb, rfl⟩ := b; exact RcNeAt.str_str _ _ _ _
    case lst => have b0 := b; unfold At at b; obtain ⟨pb, ib, rfl, hb, b⟩ := b; exact RcNeAt.str_list _ _ hb (by omega)
    case tup => have b0 := b; unfold At at b; obtain ⟨pb, ib, rfl, hb, b⟩ := b; exact RcNeAt.str_tuple _ _ hb (by omega)
    all_goals (unfold At at b; exact b.elim)
  case lst =>
    have a0 := a; unfold At at a; obtain ⟨pa, ia, rfl, ha, a⟩ := a
    cases e
    case non => unfold At at b; subst b; exact RcNeAt.list_none ha (by omega)
    case bl => unfold At at b; subst b; exact RcNeAt.list_bool _ ha (by omega)
    case int => unfold At at b; obtain ⟨tb, rfl⟩ := b; exact RcNeAt.list_int _ _ ha (by omega)
    case str => unfold At at b; obtain ⟨tb, rfl⟩ := b; exact RcNeAt.list_str _ _ ha (by omega)
    case lst =>
      rename_i xs ys
      have b0 := b; unfold At at b; obtain ⟨pb, ib, rfl, hb, b⟩ := b
      cases n with
      | zero => simp [lay] at ld
      | succ n =>
      have n1 := a.length
      have n2 := b.length
      simp only [Array.length_toList] at n1 n2
      rw [eqD, ← eqL_all xs ys]
      by_cases hz : ia.size = ib.size
      · have ee : (xs.length == ys.length) = true := by simp; omega
        have em : min xs.length ys.length = ia.size := by omega
        rw [ee, Bool.and_true, em]
        refine RcNeAt.lists ha hb hz (by omega) fun j h1 h2 => ?_
        exact eq_atL a b (by simpa [lay] using ld) (by simpa [lay] using le) (show A.in1.units + n < cLine by show A.units + 1 + n < cLine; omega) j (by simpa using h1) (by simpa using h2)
      · have ee : (xs.length == ys.length) = false := by simp; omega
        rw [ee, Bool.and_false]
        exact RcNeAt.lists_lengths ha hb (by simpa using hz) (by omega)
    case tup => have b0 := b; unfold At at b; obtain ⟨pb, ib, rfl, hb, b⟩ := b; exact RcNeAt.list_tuple ha hb (by omega)
    all_goals (unfold At at b; exact b.elim)
  case tup =>
    have a0 := a; unfold At at a; obtain ⟨pa, ia, rfl, ha, a⟩ := a
    cases e
    case non => unfold At at b; subst b; exact RcNeAt.tuple_none ha (by omega)
    case bl => unfold At at b; subst b; exact RcNeAt.tuple_bool _ ha (by omega)
    case int => unfold At at b; obtain ⟨tb, rfl⟩ := b; exact RcNeAt.tuple_int _ _ ha (by omega)
    case str => unfold At at b; obtain ⟨tb, rfl⟩ := b; exact RcNeAt.tuple_str _ _ ha (by omega)
    case lst => have b0 := b; unfold At at b; obtain ⟨pb, ib, rfl, hb, b⟩ := b; exact RcNeAt.tuple_list ha hb (by omega)
    case tup =>
      rename_i xs ys
      have b0 := b; unfold At at b; obtain ⟨pb, ib, rfl, hb, b⟩ := b
      cases n with
      | zero => simp [lay] at ld
      | succ n =>
      have n1 := a.length
      have n2 := b.length
      simp only [Array.length_toList] at n1 n2
      rw [eqD, ← eqL_all xs ys, n1, n2]
      refine RcNeAt.tuples ha hb (by omega) fun j h1 h2 => ?_
      exact eq_atL a b (by simpa [lay] using ld) (by simpa [lay] using le) (show A.in1.units + n < cLine by show A.units + 1 + n < cLine; omega) j (by simpa using h1) (by simpa using h2)
    all_goals (unfold At at b; exact b.elim)
  all_goals (unfold At at a; exact a.elim)

/-! ### a list that is written, as a plain one -/
def res (M : DM) : D → D
  | .ref p => match M p with
    | some (.lst xs) => .lst xs
    | _ => .ref p
  | d => d
theorem res_rep {K : PySem.W.Frag} {F H : Hp} {M : DM} {d : D} {v : V} (r : Rel K F M H) (h : Rep K F d v) : Rep K H (res M d) v := by
  cases d with
  | ref p =>
    unfold res
    dsimp only
    split
    · rename_i xs e
      obtain ⟨_, o, ho, vs, rfl, rs⟩ := r.mr p _ e
      unfold Rep at h ⊢
      exact ⟨p, vs, h, ho, rs.mono r.sub⟩
    · exact h.mono r.sub
  | _ => exact h.mono r.sub
section
variable {X : Cx} {F0 : Hp}
theorem fin2 {pins : List (Addr × Obj)} {σ : St} {H F : Hp} {M : DM} {s : Shared} {QD : DK} {Q : VK} {d : D} {v : V} {u : Value} (I : Inv X pins σ H s) (r : Rel X.K F M H) (m : Meets X.K F QD Q) (q : QD d M) (hd : Rep X.K F d v) (ru : RelV v u) : EP X pins σ Q u s :=
  ⟨v, H, I, ru, m d M F H v q (Same.refl F) r hd⟩
theorem rep_bl {K : PySem.W.Frag} {F : Hp} {b : Bool} : Rep K F (.bl b) (.bl b) := by unfold Rep; rfl
theorem rep_int {K : PySem.W.Frag} {F : Hp} {i : Int} : Rep K F (.int i) (.int i) := by unfold Rep; rfl
theorem rep_str {K : PySem.W.Frag} {F : Hp} {x : Str} : Rep K F (.str x) (.str x) := by unfold Rep; rfl
theorem rep_non {K : PySem.W.Frag} {F : Hp} : Rep K F .non .non := by unfold Rep; rfl
theorem rep_ref {K : PySem.W.Frag} {F : Hp} {a : Addr} : Rep K F (.ref a) (.ref a) := by unfold Rep; rfl
/-! ### == and != -/
def dEq : D2 := fun x y M Q => (lay 60 (res M x) && lay 60 (res M y)) = true ∧ Q (.bl (eqD (res M x) (res M y))) M
def dNe : D2 := fun x y M Q => (lay 60 (res M x) && lay 60 (res M y)) = true ∧ Q (.bl (!eqD (res M x) (res M y))) M
theorem op_deq (hu : X.A.units + 64 < cLine) : DOp X F0 (compareOp .Eq) dEq := by
  intro pins s σ H x y v u Q I rx ry h
  obtain ⟨F, M, dx, dy, QD, e0, r, r1, r2, ⟨l, q⟩, m⟩ := h
  simp only [Bool.and_eq_true] at l
  have a := at_of I l.1 (res_rep r r1) rx
  have b := at_of I l.2 (res_rep r r2) ry
  exact (eq_at a b l.1 l.2 (by omega)).1 X.prog X.w X.xe _ (fin2 I r m q rep_bl rfl)
theorem op_dne (hu : X.A.units + 64 < cLine) : DOp X F0 (compareOp .NotEq) dNe := by
  intro pins s σ H x y v u Q I rx ry h
  obtain ⟨F, M, dx, dy, QD, e0, r, r1, r2, ⟨l, q⟩, m⟩ := h
  simp only [Bool.and_eq_true] at l
  have a := at_of I l.1 (res_rep r r1) rx
  have b := at_of I l.2 (res_rep r r2) ry
  exact ne_at a b l.1 l.2 (by omega) X.prog X.w X.xe _ (fin2 I r m q rep_bl rfl)
/-! ### < <= > >= -/
def dCmp (op : CmpOp) : D2 := fun x y M Q => (lay 60 (res M x) && lay 60 (res M y) && like (res M x) (res M y)) = true ∧ Q (.bl (cmpD op (res M x) (res M y))) M
theorem op_dcmp {op : CmpOp} (hu : X.A.units + 64 < cLine) (ho : ordOp op = true := by rfl) : DOp X F0 (compareOp op) (dCmp op) := by
  intro pins s σ H x y v u Q I rx ry h
  obtain ⟨F, M, dx, dy, QD, e0, r, r1, r2, ⟨l, q⟩, m⟩ := h
  simp only [Bool.and_eq_true] at l
  have a := at_of I l.1.1 (res_rep r r1) rx
  have b := at_of I l.1.2 (res_rep r r2) ry
  have c := cmp_at op ho (A := X.A) a b l.1.1 l.1.2 l.2 (by omega) X.prog X.w X.xe _ (fin2 I r m q rep_bl rfl)
  cases op <;> first | exact c | (simp [ordOp] at ho)
/-! ### is -/
def isNon : D → Bool
  | .non => true
  | _ => false
def isD : D → D → Option Bool
  | x, .non => some (isNon x)
  | .bl a, .bl b => some (a == b)
  | .non, .bl _ => some false
  | _, _ => none
def dIs : D2 := fun x y M Q => match isD x y with
  | some b => Q (.bl b) M
  | none => False
def dIsNot : D2 := fun x y M Q => match isD x y with
  | some b => Q (.bl (!b)) M
  | none => False
theorem rel_non {K : PySem.W.Frag} {F : Hp} {d : D} {v : V} (h : Rep K F d v) : decide (v = .non) = isNon d := by
  cases d <;> unfold Rep at h
  case tup => obtain ⟨a, vs, rfl, _⟩ := h; rfl
  case lst => obtain ⟨a, vs, rfl, _⟩ := h; rfl
  case scr => obtain ⟨a, vs, rfl, _⟩ := h; rfl
  case ins => obtain ⟨a, dx, vs, rfl, _⟩ := h; rfl
  all_goals (subst h; rfl)
theorem op_dis : DOp X F0 (compareOp .Is) dIs := by
  intro pins s σ H x y v u Q I rx ry h
  obtain ⟨F, M, dx, dy, QD, e0, r, r1, r2, q, m⟩ := h
  unfold dIs isD at q
  split at q
  · rename_i b e
    split at e
    · cases e
      unfold Rep at r2; subst r2
      exact op_isN pins s σ H x _ v u Q I rx ry ⟨rfl, by rw [rel_non r1]; exact m _ M F H _ q (Same.refl F) r rep_bl⟩
    · cases e
      unfold Rep at r1 r2; subst r1 r2
      exact op_is_bl pins s σ H _ _ v u Q I rx ry ⟨_, _, rfl, rfl, by rw [← Bool.beq_eq_decide_eq]; exact m _ M F H _ q (Same.refl F) r rep_bl⟩
    · cases e
      unfold Rep at r1 r2; subst r1 r2
      cases rx; cases ry
      exact wpAny_is_other rfl (fun z => nomatch z) (fin2 I r m q rep_bl rfl)
    · cases e
  · exact q.elim
theorem op_disnot : DOp X F0 (compareOp .IsNot) dIsNot := by
  intro pins s σ H x y v u Q I rx ry h
  obtain ⟨F, M, dx, dy, QD, e0, r, r1, r2, q, m⟩ := h
  unfold dIsNot isD at q
  split at q
  · rename_i b e
    split at e
    · cases e
      unfold Rep at r2; subst r2
      exact op_notN pins s σ H x _ v u Q I rx ry ⟨rfl, by rw [rel_non r1]; exact m _ M F H _ q (Same.refl F) r rep_bl⟩
    · cases e
      unfold Rep at r1 r2; subst r1 r2
      exact op_isnot_bl pins s σ H _ _ v u Q I rx ry ⟨_, _, rfl, rfl, by rw [← Bool.beq_eq_decide_eq]; exact m _ M F H _ q (Same.refl F) r rep_bl⟩
    · cases e
      unfold Rep at r1 r2; subst r1 r2
      cases rx; cases ry
      exact wpAny_isNot_other rfl (fun z => nomatch z) (fin2 I r m q rep_bl rfl)
    · cases e
  · exact q.elim
end
end DL
set_option Elab.async false
set_option linter.all false
set_option maxRecDepth 100000
/-! DL6: arithmetic, sequences -/
namespace DL
open PySem PySem.Spec L2
open PySem.SeqAt (EqAt RcAt RcLt RcOp RcNeAt firstLt)
def asL (M : DM) (d : D) : Option (List D) := match res M d with
  | .lst xs => some xs
  | _ => none
/-- what can be read as a list -/
def asR (M : DM) (d : D) : Option (List D) := match res M d with
  | .lst xs => some xs
  | .scr xs => some xs
  | _ => none
theorem asL_lst {M : DM} {xs : List D} : asL M (.lst xs) = some xs := rfl
theorem res_at {K : PySem.W.Frag} {F H : Hp} {M : DM} {d : D} {v : V} {xs : List D} (r : Rel K F M H) (h : Rep K F d v) (e : res M d = .lst xs) : ∃ a vs, v = .ref a ∧ H a = some (.lst vs) ∧ RepL K F xs vs := by
  cases d with
  | ref p =>
    unfold res at e
    dsimp only at e
    split at e
    · rename_i ys q
      cases e
      obtain ⟨_, o, ho, vs, rfl, rs⟩ := r.mr p _ q
      unfold Rep at h
      exact ⟨p, vs, h, ho, rs⟩
    · cases e
  | lst ys =>
    cases e
    unfold Rep at h
    obtain ⟨a, vs, h1, h2, h3⟩ := h
    exact ⟨a, vs, h1, r.sub _ _ h2, h3⟩
  | _ => cases e
theorem asL_at {K : PySem.W.Frag} {F H : Hp} {M : DM} {d : D} {v : V} {xs : List D} (r : Rel K F M H) (h : Rep K F d v) (e : asL M d = some xs) : ∃ a vs, v = .ref a ∧ H a = some (.lst vs) ∧ RepL K F xs vs := by
  unfold asL at e
  split at e
  · rename_i ys q
    cases e
    exact res_at r h q
  · cases e
theorem asR_at {K : PySem.W.Frag} {F H : Hp} {M : DM} {d : D} {v : V} {xs : List D} (r : Rel K F M H) (h : Rep K F d v) (e : asR M d = some xs) : ∃ a vs, v = .ref a ∧ SqL K H a vs ∧ RepL K F xs vs := by
  unfold asR at e
  split at e
  · rename_i ys q
    cases e
    obtain ⟨a, vs, h1, h2, h3⟩ := res_at r h q
    exact ⟨a, vs, h1, SqL.of h2, h3⟩
  · rename_i ys q
    cases e
    cases d with
    | ref p =>
      unfold res at q
      dsimp only at q
      split at q <;> cases q
    | scr zs =>
      cases q
      unfold Rep at h
      obtain ⟨a, vs, h1, h2, h3⟩ := h
      exact ⟨a, vs, h1, SqL_mono r.sub h2, h3⟩
    | _ => cases q
  · cases e
section
variable {X : Cx} {F0 : Hp} {pos : Pos}
/-! ### + - * // % ** -/
def dAdd : D2 := fun x y M Q => match x with
  | .int i => (match y with | .int j => Q (.int (i + j)) M | _ => False)
  | .str i => (match y with | .str j => i.length + j.length ≤ sizeLine ∧ Q (.str (i ++ j)) M | _ => False)
  | .tup xs => (match y with | .tup ys => xs.length + ys.length ≤ sizeLine ∧ Q (.tup (xs ++ ys)) M | _ => False)
  | x => (match asL M x, asL M y with | some xs, some ys => xs.length + ys.length ≤ sizeLine ∧ Q (.lst (xs ++ ys)) M | _, _ => False)
def dAddM : D2 := fun x y M Q => match asL M x, asL M y with
  | some xs, some ys => xs.length + ys.length ≤ sizeLine ∧ ∀ p, M p = none → Q (.ref p) (put M p (.lst (xs ++ ys)))
  | _, _ => False
theorem op_daddM : DOp X F0 (binaryOp .Add) dAddM := by
  intro pins s σ H x y v u Q I rx ry h
  obtain ⟨F, M, dx, dy, QD, e0, r, r1, r2, q, m⟩ := h
  unfold dAddM at q
  split at q
  · rename_i xs ys ex ey
    obtain ⟨hz, q⟩ := q
    obtain ⟨a, vs, rfl, ha, rs⟩ := asL_at r r1 ex
    obtain ⟨b, ws, rfl, hb, rt⟩ := asL_at r r2 ey
    exact op_cat pins s σ H _ _ v u Q I rx ry ⟨a, b, vs, ws, rfl, rfl, ha, hb, by rw [← rs.length, ← rt.length]; exact hz, fun p hp =>
      m _ _ F _ _ (q p (r.free hp)) (Same.refl F) (r.new hp ⟨_, rfl, rs.append rt⟩) rep_ref⟩
  · exact q.elim
theorem op_dadd : DOp X F0 (binaryOp .Add) dAdd := by
  intro pins s σ H x y v u Q I rx ry h
  obtain ⟨F, M, dx, dy, QD, e0, r, r1, r2, q, m⟩ := h
  unfold dAdd at q
  split at q
  · split at q
    · unfold Rep at r1 r2; subst r1 r2
      exact op_add pins s σ H _ _ v u Q I rx ry ⟨_, _, rfl, rfl, m _ M F H _ q (Same.refl F) r rep_int⟩
    · exact q.elim
  · split at q
    · unfold Rep at r1 r2; subst r1 r2
      exact op_add_str pins s σ H _ _ v u Q I rx ry ⟨_, _, rfl, rfl, q.1, m _ M F H _ q.2 (Same.refl F) r rep_str⟩
    · exact q.elim
  · split at q
    · rename_i xs _ ys
      unfold Rep at r1 r2
      obtain ⟨a, vs, rfl, ha, rs⟩ := r1
      obtain ⟨b, ws, rfl, hb, rt⟩ := r2
      obtain ⟨hz, q⟩ := q
      refine op_catA pins s σ H _ _ v u Q I rx ry ⟨a, b, vs, ws, rfl, rfl, SqT_mono r.sub ha, SqT_mono r.sub hb, by rw [← rs.length, ← rt.length]; exact hz, fun z => ?_, fun _ z => ?_, fun _ _ p hp => ?_⟩
      · subst z
        have : xs = [] := List.eq_nil_of_length_eq_zero (by rw [rs.length]; rfl)
        subst this
        exact m _ M F H _ q (Same.refl F) r (by unfold Rep; exact ⟨b, ws, rfl, hb, rt⟩)
      · subst z
        have : ys = [] := List.eq_nil_of_length_eq_zero (by rw [rt.length]; rfl)
        subst this
        rw [List.append_nil] at q
        exact m _ M F H _ q (Same.refl F) r (by unfold Rep; exact ⟨a, vs, rfl, ha, rs⟩)
      · obtain ⟨s1, s2, s3⟩ := ice_tup r hp (rs.append rt)
        exact m _ M _ _ _ q s1 s2 s3
    · exact q.elim
  · split at q
    · rename_i xs ys ex ey
      obtain ⟨hz, q⟩ := q
      obtain ⟨a, vs, rfl, ha, rs⟩ := asL_at r r1 ex
      obtain ⟨b, ws, rfl, hb, rt⟩ := asL_at r r2 ey
      exact op_cat pins s σ H _ _ v u Q I rx ry ⟨a, b, vs, ws, rfl, rfl, ha, hb, by rw [← rs.length, ← rt.length]; exact hz, fun p hp => by
        obtain ⟨s1, s2, s3⟩ := ice_lst r hp (rs.append rt)
        exact m _ M _ _ _ q s1 s2 s3⟩
    · exact q.elim
def dII (C : Int → Int → Prop) (g : Int → Int → Int) : D2 := fun x y M Q => match x, y with
  | .int i, .int j => C i j ∧ Q (.int (g i j)) M
  | _, _ => False
theorem op_dII {f : Value → Value → Sem Value} {C : Int → Int → Prop} {g : Int → Int → Int} (o : OpR X f (rI C fun i j => .int (g i j))) : DOp X F0 f (dII C g) := by
  intro pins s σ H x y v u Q I rx ry h
  obtain ⟨F, M, dx, dy, QD, e0, r, r1, r2, q, m⟩ := h
  unfold dII at q
  split at q
  · unfold Rep at r1 r2; subst r1 r2
    exact o pins s σ H _ _ v u Q I rx ry ⟨_, _, rfl, rfl, q.1, m _ M F H _ q.2 (Same.refl F) r rep_int⟩
  · exact q.elim
def dSub : D2 := dII (fun _ _ => True) fun i j => i - j
theorem op_dsub : DOp X F0 (binaryOp .Sub) dSub := op_dII (opI fun _ _ _ _ _ _ _ _ q => PyProof.Rows.sub_int q)
def dFdiv : D2 := dII CDiv fun i j => i / j
theorem op_dfdiv : DOp X F0 (binaryOp .FloorDiv) dFdiv := op_dII op_fdiv
def dMod : D2 := dII (fun _ j => 0 < j) fun i j => i % j
theorem op_dmod : DOp X F0 (binaryOp .Mod) dMod := op_dII op_mod
def CPowB (i j : Int) : Prop := 0 ≤ j ∧ (Builtin.Int.intBits i : Int) * j ≤ 2 ^ 27
def dPow : D2 := dII CPowB fun i j => i ^ j.toNat
theorem op_dpow : DOp X F0 (binaryOp .Pow) dPow := op_dII (opI fun _ _ _ _ _ _ _ hc q => PyProof.Rows.pow_int hc.1 hc.2 q)
def dMul : D2 := fun x y M Q => match x with
  | .int i => (match y with | .int j => CMul i j ∧ Q (.int (i * j)) M | _ => False)
  | x => (match asL M x, y with | some xs, .int k => -(2 ^ 63) ≤ k ∧ k < 2 ^ 63 ∧ xs.length * k.toNat ≤ sizeLine ∧ Q (.lst (List.replicate k.toNat xs).flatten) M | _, _ => False)
theorem op_dmul : DOp X F0 (binaryOp .Mult) dMul := by
  intro pins s σ H x y v u Q I rx ry h
  obtain ⟨F, M, dx, dy, QD, e0, r, r1, r2, q, m⟩ := h
  unfold dMul at q
  split at q
  · split at q
    · unfold Rep at r1 r2; subst r1 r2
      exact op_mul pins s σ H _ _ v u Q I rx ry ⟨_, _, rfl, rfl, q.1, m _ M F H _ q.2 (Same.refl F) r rep_int⟩
    · exact q.elim
  · split at q
    · rename_i xs k ex
      obtain ⟨h1, h2, hz, q⟩ := q
      obtain ⟨a, vs, rfl, ha, rs⟩ := asL_at r r1 ex
      unfold Rep at r2; subst r2
      exact op_rep pins s σ H _ _ v u Q I rx ry ⟨a, k, vs, rfl, rfl, ha, h1, h2, by rw [← rs.length]; exact hz, fun p hp => by
        obtain ⟨s1, s2, s3⟩ := ice_lst r hp (rs.flat k.toNat)
        exact m _ M _ _ _ q s1 s2 s3⟩
    · exact q.elim
/-! ### o[i] -/
/-- a sequence's items: list, tuple, text -/
def items (M : DM) (d : D) : Option (List D) := match res M d with
  | .lst xs => some xs
  | .scr xs => some xs
  | .tup xs => some xs
  | _ => none
def dIx : D2 := fun x y M Q => match y with
  | .int i => (match x with
    | .str z => z.length ≤ sizeLine ∧ (match atI z.cps.toList i with | some c => Q (.str ⟨#[c]⟩) M | none => False)
    | .tup xs => (match atI xs i with | some d => Q d M | none => False)
    | x => (match asR M x with | some xs => (match atI xs i with | some d => Q d M | none => False) | none => False))
  | _ => False
theorem atI_rep {K : PySem.W.Frag} {F : Hp} {xs : List D} {vs : List V} {i : Int} {d : D} (rs : RepL K F xs vs) (h : atI xs i = some d) : ∃ v, atI vs i = some v ∧ Rep K F d v := by
  unfold atI at h ⊢
  rw [← rs.length]
  cases e : ixN xs.length i with
  | none => rw [e] at h; cases h
  | some j =>
    rw [e] at h
    exact rs.get h
theorem ix_dix : IxR X (low2 X.K F0 dIx) := by
  intro value slice pins s σ H x y v u Q I rx ry h hs
  obtain ⟨F, M, dx, dy, QD, e0, r, r1, r2, q, m⟩ := h
  unfold dIx at q
  split at q
  · rename_i i
    unfold Rep at r2; subst r2
    split at q
    · rename_i z
      unfold Rep at r1; subst r1
      obtain ⟨hz, q⟩ := q
      split at q
      · rename_i c hc
        exact ix_str value slice pins s σ H _ _ v u Q I rx ry ⟨z, i, c, rfl, rfl, hz, hc, m _ M F H _ q (Same.refl F) r rep_str⟩ hs
      · exact q.elim
    · rename_i xs
      unfold Rep at r1
      obtain ⟨a, vs, rfl, ha, rs⟩ := r1
      split at q
      · rename_i d hd
        obtain ⟨w, hw, rw'⟩ := atI_rep rs hd
        exact ix_tup value slice pins s σ H _ _ v u Q I rx ry ⟨a, vs, i, w, rfl, rfl, SqT_mono r.sub ha, hw, m _ M F H _ q (Same.refl F) r rw'⟩ hs
      · exact q.elim
    · split at q
      · rename_i xs ex
        obtain ⟨a, vs, rfl, ha, rs⟩ := asR_at r r1 ex
        split at q
        · rename_i d hd
          obtain ⟨w, hw, rw'⟩ := atI_rep rs hd
          exact ix_list value slice pins s σ H _ _ v u Q I rx ry ⟨a, vs, i, w, rfl, rfl, ha, hw, m _ M F H _ q (Same.refl F) r rw'⟩ hs
        · exact q.elim
      · exact q.elim
  · exact q.elim
theorem dpe_ix {a b : Expr} {ta tb : DTE} (ha : DPE X F0 a ta) (hb : DPE X F0 b tb) (hs : PlainIx b := by exact fun _ _ => rfl) : DPE X F0 (.Subscript a b pos) (dOp dIx ta tb) :=
  PE.imp (pe_ix ix_dix ha hb hs) fun _ _ _ h => op_lift h
/-! ### o[a:b] -/
abbrev DTO := DSt → DM → (Option Int → DM → Prop) → Prop
def liftO (K : PySem.W.Frag) (F0 : Hp) (t : DTO) : TO := fun σ H Q => ∃ F δ M QD, Same F0 F ∧ Rel K F M H ∧ Slots K F δ σ ∧ t δ M QD ∧ ∀ o M' F' H', QD o M' → Same F F' → Rel K F' M' H' → Q o H'
abbrev DPO (X : Cx) (F0 : Hp) (e : Option Expr) (t : DTO) : Prop := PO X e (liftO X.K F0 t)
theorem PO.imp {X : Cx} {e : Option Expr} {t t' : TO} (h : PO X e t) (i : ∀ σ H Q, t' σ H Q → t σ H Q) : PO X e t' := ⟨fun pins s σ H Q I q => h.run pins s σ H Q I (i _ _ _ q)⟩
@[simp] def dNoP : DTO := fun _ M Q => Q none M
@[simp] def dPart (t : DTE) : DTO := fun δ M Q => t δ M fun d M1 => match d with
  | .int i => Q (some i) M1
  | _ => False
theorem dpo_none : DPO X F0 none dNoP := PO.imp po_none fun σ H Q ⟨F, δ, M, QD, e0, r, s, h, m⟩ => m none M F H h (Same.refl F) r
theorem dpo_some {e : Expr} {t : DTE} (h : DPE X F0 e t) : DPO X F0 (some e) (dPart t) := PO.imp (po_some h) fun σ H Q ⟨F, δ, M, QD, e0, r, s, h, m⟩ => ⟨F, δ, M, _, e0, r, s, h, fun d M1 F1 H1 v q e1 r1 rv => by
  split at q
  · rename_i i
    unfold Rep at rv
    exact ⟨i, rv, m (some i) M1 F1 H1 q e1 r1⟩
  · exact q.elim⟩
def cut {α : Type} (xs : List α) (lo hi : Option Int) : List α := (xs.drop (HT.sIx xs.length 0 lo)).take (HT.sIx xs.length xs.length hi - HT.sIx xs.length 0 lo)
theorem cut_rep {K : PySem.W.Frag} {F : Hp} {xs : List D} {vs : List V} (rs : RepL K F xs vs) (lo hi : Option Int) : RepL K F (cut xs lo hi) (cutV vs lo hi) := by
  unfold cut cutV
  rw [rs.length]
  exact (rs.drop _).take _
def dSl (x : D) (lo hi : Option Int) (M : DM) (Q : DK) : Prop := match x with
  | .str z => z.length ≤ sizeLine ∧ Q (.str (cutS z lo hi)) M
  | .tup xs => Q (.tup (cut xs lo hi)) M
  | x => (match asR M x with | some xs => Q (.lst (cut xs lo hi)) M | none => False)
def lowS (K : PySem.W.Frag) (F0 : Hp) (ρ : D → Option Int → Option Int → DM → DK → Prop) : V → Option Int → Option Int → Hp → VK → Prop := fun x lo hi H Q => ∃ F M dx QD, Same F0 F ∧ Rel K F M H ∧ Rep K F dx x ∧ ρ dx lo hi M QD ∧ Meets K F QD Q
theorem sl_dsl : SlR X (lowS X.K F0 dSl) := by
  intro pins s σ H x v vl vu lo hi sl Q I rx hs pl pu h
  obtain ⟨F, M, dx, QD, e0, r, r1, q, m⟩ := h
  unfold dSl at q
  split at q
  · rename_i z
    unfold Rep at r1; subst r1
    exact sl_str pins s σ H _ v vl vu lo hi sl Q I rx hs pl pu ⟨z, rfl, q.1, m _ M F H _ q.2 (Same.refl F) r rep_str⟩
  · rename_i xs
    unfold Rep at r1
    obtain ⟨a, vs, rfl, ha, rs⟩ := r1
    refine sl_tupA pins s σ H _ v vl vu lo hi sl Q I rx hs pl pu ⟨a, vs, rfl, SqT_mono r.sub ha, fun z => ?_, fun _ p hp => ?_⟩
    · refine m _ M F H _ q (Same.refl F) r ?_
      have e : cut xs lo hi = xs := by
        unfold cut
        rw [rs.length, z.1, z.2, List.drop_zero, Nat.sub_zero, ← rs.length, List.take_length]
      rw [e]
      unfold Rep
      exact ⟨a, vs, rfl, ha, rs⟩
    · obtain ⟨s1, s2, s3⟩ := ice_tup r hp (cut_rep rs lo hi)
      exact m _ M _ _ _ q s1 s2 s3
  · split at q
    · rename_i xs ex
      obtain ⟨a, vs, rfl, ha, rs⟩ := asR_at r r1 ex
      refine sl_list pins s σ H _ v vl vu lo hi sl Q I rx hs pl pu ⟨a, vs, rfl, ha, fun p hp => ?_⟩
      obtain ⟨s1, s2, s3⟩ := ice_lst r hp (cut_rep rs lo hi)
      exact m _ M _ _ _ q s1 s2 s3
    · exact q.elim
@[simp] def dSlice (te : DTE) (tl th : DTO) : DTE := fun δ M Q => te δ M fun x M1 => tl δ M1 fun l M2 => th δ M2 fun u M3 => dSl x l u M3 Q
theorem dpe_slice {e : Expr} {lo hi : Option Expr} {te : DTE} {tl th : DTO} {p2 : Pos} (he : DPE X F0 e te) (hl : DPO X F0 lo tl) (hu : DPO X F0 hi th) : DPE X F0 (.Subscript e (.Slice lo hi none p2) pos) (dSlice te tl th) :=
  PE.imp (pe_slice sl_dsl he hl hu) fun σ H Q ⟨F, δ, M, QD, e0, r, s, h, m⟩ => ⟨F, δ, M, _, e0, r, s, h, fun d M1 F1 H1 v q e1 r1 rv => ⟨F1, δ, M1, _, e0.trans e1, r1, s.mono e1, q, fun l M2 F2 H2 q2 e2 r2 =>
    ⟨F2, δ, M2, _, e0.trans (e1.trans e2), r2, s.mono (e1.trans e2), q2, fun u M3 F3 H3 q3 e3 r3 => ⟨F3, M3, d, QD, e0.trans (e1.trans (e2.trans e3)), r3, rv.mono (e2.trans e3), q3, m.mono (e1.trans (e2.trans e3))⟩⟩⟩⟩
/-- xs[::-1] of a list -/
def dRev (te : DTE) : DTE := fun δ M Q => te δ M fun x M1 => match asR M1 x with
  | some xs => Q (.lst xs.reverse) M1
  | none => False
theorem dpe_rev {e : Expr} {te : DTE} {k : Nat} {p1 p2 p3 : Pos} (he : DPE X F0 e te) : DPE X F0 (.Subscript e (.Slice none none (some (.UnaryOp .USub (.Constant (.int 1) k p1) p2)) p3) pos) (dRev te) :=
  PE.imp (pe_revL he) fun σ H Q ⟨F, δ, M, QD, e0, r, s, h, m⟩ => ⟨F, δ, M, _, e0, r, s, h, fun d M1 F1 H1 v q e1 r1 rv => by
    split at q
    · rename_i xs ex
      obtain ⟨a, vs, rfl, ha, rs⟩ := asR_at r1 rv ex
      refine ⟨a, vs, rfl, ha, fun p hp => ?_⟩
      obtain ⟨s1, s2, s3⟩ := ice_lst r1 hp rs.reverse
      exact m _ M1 _ _ _ q (e1.trans s1) s2 s3
    · exact q.elim⟩
end
end DL
set_option Elab.async false
set_option linter.all false
set_option maxRecDepth 100000
/-! DL7: built-in functions; what a for walks; comprehensions -/
namespace DL
open PySem PySem.Spec L2
section
variable {X : Cx} {F0 : Hp} {pos p : Pos}
/-! ### built-in functions -/
abbrev DN := List D → DM → DK → Prop
def lowN (K : PySem.W.Frag) (F0 : Hp) (ρ : DN) : List V → Hp → VK → Prop := fun vs H Q => ∃ F M ds QD, Same F0 F ∧ Rel K F M H ∧ RepL K F ds vs ∧ ρ ds M QD ∧ Meets K F QD Q
@[simp] def dCB (ρ : DN) (t : DTA) : DTE := fun δ M Q => t δ M fun ds M1 => ρ ds M1 Q
theorem cb_lift {ρ : DN} {t : DTA} {σ : St} {H : Hp} {Q : VK} (h : liftE X.K F0 (dCB ρ t) σ H Q) : tCB (lowN X.K F0 ρ) (liftA X.K F0 t) σ H Q := by
  obtain ⟨F, δ, M, QD, e0, r, s, h, m⟩ := h
  exact ⟨F, δ, M, _, e0, r, s, h, fun ds M1 F1 H1 vs q e1 r1 rs => ⟨F1, M1, ds, QD, e0.trans e1, r1, rs, q, m.mono e1⟩⟩
theorem dpe_callB {x : Str} {id : String} {ρ : DN} {e : Expr} {es : List Expr} {t : DTA} (hc : CallR X (.builtin id) (lowN X.K F0 ρ)) (hm : X.mg x = none) (ha : DPA X F0 (e :: es) t) (hv : bootBuiltins x = some (.builtin id) := by decide +kernel) (hg : Gl X x := by rfl) (hn : x ≠ "__name__" := by decide) (hdb : (x == ("__debug__" : Str)) = false := by decide)
    (he : starEach (e :: es) X.env = (false, eval e X.env) :: starEach es X.env := by rfl) (hpl : (backTo pos (starEach es X.env)).any (·.1) = false := by rfl) : DPE X F0 (.Call (.Name x p) (e :: es) [] pos) (dCB ρ t) :=
  PE.imp (pe_callB hc hg hm hv ha hn hdb he hpl) fun _ _ _ h => cb_lift h
theorem dpe_callTy {x : Str} {T : String} {ρ : DN} {e : Expr} {es : List Expr} {t : DTA} (hc : CallR X (.type T) (lowN X.K F0 ρ)) (hm : X.mg x = none) (ha : DPA X F0 (e :: es) t) (hv : bootBuiltins x = some (.type T) := by decide +kernel) (hg : Gl X x := by rfl) (hn : x ≠ "__name__" := by decide) (hdb : (x == ("__debug__" : Str)) = false := by decide)
    (he : starEach (e :: es) X.env = (false, eval e X.env) :: starEach es X.env := by rfl) (hpl : (backTo pos (starEach es X.env)).any (·.1) = false := by rfl) : DPE X F0 (.Call (.Name x p) (e :: es) [] pos) (dCB ρ t) :=
  PE.imp (pe_callTy hc hg hm hv ha hn hdb he hpl) fun _ _ _ h => cb_lift h
/-- len -/
def dLen : DN := fun ds M Q => match ds with
  | [.str z] => z.length ≤ sizeLine ∧ Q (.int z.length) M
  | [.tup xs] => Q (.int xs.length) M
  | [x] => (match asR M x with | some xs => Q (.int xs.length) M | none => False)
  | _ => False
theorem rep1 {K : PySem.W.Frag} {F : Hp} {x : D} {vs : List V} (h : RepL K F [x] vs) : ∃ v, vs = [v] ∧ Rep K F x v := by
  obtain ⟨v, r, rfl, h1, h2⟩ := h.consV
  have := h2.nilV
  subst this
  exact ⟨v, rfl, h1⟩
theorem rep2 {K : PySem.W.Frag} {F : Hp} {x y : D} {vs : List V} (h : RepL K F [x, y] vs) : ∃ v w, vs = [v, w] ∧ Rep K F x v ∧ Rep K F y w := by
  obtain ⟨v, r, rfl, h1, h2⟩ := h.consV
  obtain ⟨w, rfl, h3⟩ := rep1 h2
  exact ⟨v, w, rfl, h1, h3⟩
theorem cr_dlen : CallR X (.builtin "len") (lowN X.K F0 dLen) := by
  intro pins s σ H xs us Q I rv h
  obtain ⟨F, M, ds, QD, e0, r, rs, q, m⟩ := h
  unfold dLen at q
  split at q
  · obtain ⟨v, rfl, h1⟩ := rep1 rs
    unfold Rep at h1; subst h1
    exact call_len_str pins s σ H _ us Q I rv ⟨_, rfl, q.1, m _ M F H _ q.2 (Same.refl F) r rep_int⟩
  · obtain ⟨v, rfl, h1⟩ := rep1 rs
    unfold Rep at h1
    obtain ⟨a, vs, rfl, ha, rl⟩ := h1
    exact call_len_seq pins s σ H _ us Q I rv ⟨a, vs, rfl, .inr (SqT_mono r.sub ha), m _ M F H _ (by rw [← rl.length]; exact q) (Same.refl F) r rep_int⟩
  · obtain ⟨v, rfl, h1⟩ := rep1 rs
    split at q
    · rename_i zs ez
      obtain ⟨a, vs, rfl, ha, rl⟩ := asR_at r h1 ez
      exact call_len_seq pins s σ H _ us Q I rv ⟨a, vs, rfl, .inl ha, m _ M F H _ (by rw [← rl.length]; exact q) (Same.refl F) r rep_int⟩
    · exact q.elim
  · exact q.elim
/-- int -/
def dInt : DN := fun ds M Q => match ds with
  | [.int i] => Q (.int i) M
  | [.bl k] => Q (.int (if k then 1 else 0)) M
  | _ => False
theorem cr_dint : CallR X (.type "int") (lowN X.K F0 dInt) := by
  intro pins s σ H xs us Q I rv h
  obtain ⟨F, M, ds, QD, e0, r, rs, q, m⟩ := h
  unfold dInt at q
  split at q
  · obtain ⟨v, rfl, h1⟩ := rep1 rs
    unfold Rep at h1; subst h1
    exact call_int1 pins s σ H _ us Q I rv (.inl ⟨_, rfl, m _ M F H _ q (Same.refl F) r rep_int⟩)
  · obtain ⟨v, rfl, h1⟩ := rep1 rs
    unfold Rep at h1; subst h1
    exact call_int1 pins s σ H _ us Q I rv (.inr ⟨_, rfl, m _ M F H _ q (Same.refl F) r rep_int⟩)
  · exact q.elim
def dBool : DN := fun ds M Q => match ds with
  | [.int i] => Q (.bl (i != 0)) M
  | [.bl k] => Q (.bl k) M
  | _ => False
theorem cr_dbool : CallR X (.type "bool") (lowN X.K F0 dBool) := by
  intro pins s σ H xs us Q I rv h
  obtain ⟨F, M, ds, QD, e0, r, rs, q, m⟩ := h
  unfold dBool at q
  split at q
  · obtain ⟨v, rfl, h1⟩ := rep1 rs
    unfold Rep at h1; subst h1
    exact call_bool1 pins s σ H _ us Q I rv (.inl ⟨_, rfl, m _ M F H _ q (Same.refl F) r rep_bl⟩)
  · obtain ⟨v, rfl, h1⟩ := rep1 rs
    unfold Rep at h1; subst h1
    exact call_bool1 pins s σ H _ us Q I rv (.inr ⟨_, rfl, m _ M F H _ q (Same.refl F) r rep_bl⟩)
  · exact q.elim
/-- ints of a list -/
def intsD : List D → Option (List Int)
  | [] => some []
  | .int i :: r => (intsD r).map (i :: ·)
  | _ :: _ => none
theorem ints_rep {K : PySem.W.Frag} {F : Hp} : ∀ {xs : List D} {vs : List V} {ns : List Int}, RepL K F xs vs → intsD xs = some ns → vs = ns.map V.int
  | [], _, _, h, e => by
    have := h.nilV
    subst this
    cases e; rfl
  | x :: xs, _, ns, h, e => by
    obtain ⟨v, r, rfl, h1, h2⟩ := h.consV
    cases x <;> simp [intsD] at e
    obtain ⟨ms, e1, rfl⟩ := e
    unfold Rep at h1; subst h1
    rw [ints_rep h2 e1]; rfl
def dSum : DN := fun ds M Q => match ds with
  | [x] => (match asR M x with | some xs => (match intsD xs with | some ns => Q (.int ns.sum) M | none => False) | none => False)
  | _ => False
theorem cr_dsum (hc : X.calm = true) : CallR X (.builtin "sum") (lowN X.K F0 dSum) := by
  intro pins s σ H xs us Q I rv h
  obtain ⟨F, M, ds, QD, e0, r, rs, q, m⟩ := h
  unfold dSum at q
  split at q
  · obtain ⟨v, rfl, h1⟩ := rep1 rs
    split at q
    · rename_i zs ez
      split at q
      · rename_i ns en
        obtain ⟨a, vs, rfl, ha, rl⟩ := asR_at r h1 ez
        rw [ints_rep rl en] at ha
        exact cr_sum hc pins s σ H _ us Q I rv ⟨a, ns, rfl, ha, m _ M F H _ q (Same.refl F) r rep_int⟩
      · exact q.elim
    · exact q.elim
  · exact q.elim
/-- list(x), tuple(x) of a list, a tuple -/
def seqOf (M : DM) (d : D) : Option (List D) := match d with
  | .tup xs => some xs
  | d => asR M d
def dList : DN := fun ds M Q => match ds with
  | [x] => (match seqOf M x with | some xs => Q (.lst xs) M | none => False)
  | _ => False
def dListM : DN := fun ds M Q => match ds with
  | [x] => (match seqOf M x with | some xs => ∀ p, M p = none → Q (.ref p) (put M p (.lst xs)) | none => False)
  | _ => False
def dTuple : DN := fun ds M Q => match ds with
  | [x] => (match seqOf M x with | some xs => Q (.tup xs) M | none => False)
  | _ => False
theorem seqOf_at {K : PySem.W.Frag} {F H : Hp} {M : DM} {d : D} {v : V} {xs : List D} (r : Rel K F M H) (h : Rep K F d v) (e : seqOf M d = some xs) : ∃ a vs, v = .ref a ∧ (SqL K H a vs ∨ SqT K H a vs) ∧ RepL K F xs vs := by
  unfold seqOf at e
  split at e
  · cases e
    unfold Rep at h
    obtain ⟨a, vs, h1, h2, h3⟩ := h
    exact ⟨a, vs, h1, .inr (SqT_mono r.sub h2), h3⟩
  · obtain ⟨a, vs, h1, h2, h3⟩ := asR_at r h e
    exact ⟨a, vs, h1, .inl h2, h3⟩
theorem cr_dlist : CallR X (.type "list") (lowN X.K F0 dList) := by
  intro pins s σ H xs us Q I rv h
  obtain ⟨F, M, ds, QD, e0, r, rs, q, m⟩ := h
  unfold dList at q
  split at q
  · obtain ⟨v, rfl, h1⟩ := rep1 rs
    split at q
    · rename_i zs ez
      obtain ⟨a, vs, rfl, ha, rl⟩ := seqOf_at r h1 ez
      refine call_list_of pins s σ H _ us Q I rv ⟨a, vs, rfl, ha, fun p hp => ?_⟩
      obtain ⟨s1, s2, s3⟩ := ice_lst r hp rl
      exact m _ M _ _ _ q s1 s2 s3
    · exact q.elim
  · exact q.elim
theorem cr_dlistM : CallR X (.type "list") (lowN X.K F0 dListM) := by
  intro pins s σ H xs us Q I rv h
  obtain ⟨F, M, ds, QD, e0, r, rs, q, m⟩ := h
  unfold dListM at q
  split at q
  · obtain ⟨v, rfl, h1⟩ := rep1 rs
    split at q
    · rename_i zs ez
      obtain ⟨a, vs, rfl, ha, rl⟩ := seqOf_at r h1 ez
      exact call_list_of pins s σ H _ us Q I rv ⟨a, vs, rfl, ha, fun p hp => m _ _ F _ _ (q p (r.free hp)) (Same.refl F) (r.new hp ⟨vs, rfl, rl⟩) rep_ref⟩
    · exact q.elim
  · exact q.elim
theorem cr_dtuple : CallR X (.type "tuple") (lowN X.K F0 dTuple) := by
  intro pins s σ H xs us Q I rv h
  obtain ⟨F, M, ds, QD, e0, r, rs, q, m⟩ := h
  unfold dTuple at q
  split at q
  · obtain ⟨v, rfl, h1⟩ := rep1 rs
    split at q
    · rename_i x zs ez
      unfold seqOf at ez
      split at ez
      · cases ez
        unfold Rep at h1
        obtain ⟨a, vs, rfl, ha, rl⟩ := h1
        exact call_tuple_of pins s σ H _ us Q I rv ⟨a, vs, rfl, .inr ⟨SqT_mono r.sub ha, m _ M F H _ q (Same.refl F) r (by unfold Rep; exact ⟨a, vs, rfl, ha, rl⟩)⟩⟩
      · obtain ⟨a, vs, rfl, ha, rl⟩ := asR_at r h1 ez
        refine call_tuple_of pins s σ H _ us Q I rv ⟨a, vs, rfl, .inl ⟨ha, fun p hp => ?_⟩⟩
        obtain ⟨s1, s2, s3⟩ := ice_tup r hp rl
        exact m _ M _ _ _ q s1 s2 s3
    · exact q.elim
  · exact q.elim
/-- max, min of two intsD, of a list of intsD -/
def dMax : DN := fun ds M Q => match ds with
  | [.int i, .int j] => Q (.int (max i j)) M
  | [x] => (match asR M x with | some xs => (match intsD xs with | some ns => ns ≠ [] ∧ ∀ k, k ∈ ns → (∀ j ∈ ns, j ≤ k) → Q (.int k) M | none => False) | none => False)
  | _ => False
def dMin : DN := fun ds M Q => match ds with
  | [.int i, .int j] => Q (.int (min i j)) M
  | [x] => (match asR M x with | some xs => (match intsD xs with | some ns => ns ≠ [] ∧ ∀ k, k ∈ ns → (∀ j ∈ ns, k ≤ j) → Q (.int k) M | none => False) | none => False)
  | _ => False
theorem cr_dmax (hc : X.calm = true) : CallR X (.builtin "max") (lowN X.K F0 dMax) := by
  intro pins s σ H xs us Q I rv h
  obtain ⟨F, M, ds, QD, e0, r, rs, q, m⟩ := h
  unfold dMax at q
  split at q
  · rename_i i j
    obtain ⟨v, w, rfl, h1, h2⟩ := rep2 rs
    unfold Rep at h1 h2; subst h1 h2
    refine call_max2 hc pins s σ H _ us Q I rv ⟨i, j, rfl, ?_⟩
    have e : (if j > i then j else i) = max i j := by split <;> omega
    rw [e]
    exact m _ M F H _ q (Same.refl F) r rep_int
  · obtain ⟨v, rfl, h1⟩ := rep1 rs
    split at q
    · rename_i zs ez
      split at q
      · rename_i ns en
        obtain ⟨a, vs, rfl, ha, rl⟩ := asR_at r h1 ez
        rw [ints_rep rl en] at ha
        exact cr_max hc pins s σ H _ us Q I rv ⟨a, ns, rfl, ha, List.length_pos_iff.mpr q.1, fun k hk hm => m _ M F H _ (q.2 k hk hm) (Same.refl F) r rep_int⟩
      · exact q.elim
    · exact q.elim
  · exact q.elim
theorem cr_dmin (hc : X.calm = true) : CallR X (.builtin "min") (lowN X.K F0 dMin) := by
  intro pins s σ H xs us Q I rv h
  obtain ⟨F, M, ds, QD, e0, r, rs, q, m⟩ := h
  unfold dMin at q
  split at q
  · rename_i i j
    obtain ⟨v, w, rfl, h1, h2⟩ := rep2 rs
    unfold Rep at h1 h2; subst h1 h2
    refine call_min2 hc pins s σ H _ us Q I rv ⟨i, j, rfl, ?_⟩
    have e : (if j < i then j else i) = min i j := by split <;> omega
    rw [e]
    exact m _ M F H _ q (Same.refl F) r rep_int
  · obtain ⟨v, rfl, h1⟩ := rep1 rs
    split at q
    · rename_i zs ez
      split at q
      · rename_i ns en
        obtain ⟨a, vs, rfl, ha, rl⟩ := asR_at r h1 ez
        rw [ints_rep rl en] at ha
        exact cr_min hc pins s σ H _ us Q I rv ⟨a, ns, rfl, ha, List.length_pos_iff.mpr q.1, fun k hk hm => m _ M F H _ (q.2 k hk hm) (Same.refl F) r rep_int⟩
      · exact q.elim
    · exact q.elim
  · exact q.elim
/-! ### isinstance -/
/-- an instance's class as isinstance asks it -/
structure ICls (K : PySem.W.Frag) (C : Addr) : Prop where
  cl : Cls K C
  ha : PySem.W.findIn K (.ref C) "__class__" = some (some (.builtin "object.__class__"))
  hn : PySem.W.specialIn K (.builtin "object.__class__") "__get__" = some (some (.builtin "getset_descriptor.__get__"))
  htk : PySem.W.takesIn K (.builtin "object.__class__") = some true
  hm : PySem.W.mroIn K C (.type "object") = some true
inductive Ty where
  | b (n : String)
  | o (C : Addr)
def Ty.v : Ty → Value
  | .b n => .type n
  | .o C => .ref C
def tyD (M : DM) : D → Option Ty
  | .non => some (.b "NoneType")
  | .bl _ => some (.b "bool")
  | .int _ => some (.b "int")
  | .str _ => some (.b "str")
  | .tup _ => some (.b "tuple")
  | .lst _ => some (.b "list")
  | .ins C _ _ => some (.o C)
  | .ref p => match M p with
    | some (.lst _) => some (.b "list")
    | some (.dK _) => some (.b "dict")
    | some (.dT _) => some (.b "dict")
    | some (.ins C _) => some (.o C)
    | none => none
  | _ => none
def clsD : D → Option Ty
  | .ty n => some (.b n)
  | .ref C => some (.o C)
  | _ => none
/-- isinstance's answer -/
def kitD (K : PySem.W.Frag) : Ty → Ty → Option Bool
  | .b a, .b c => kitB a c
  | .o C, .o C' => PySem.W.kitOne K (.ref C) (.ref C')
  | .o C, .b c => PySem.W.kitOne K (.ref C) (.type c)
  | .b a, .o C => PySem.W.kitOne K (.type a) (.ref C)
def ownTy (K : PySem.W.Frag) : Ty → Prop
  | .b _ => True
  | .o C => ICls K C
def dIsi (K : PySem.W.Frag) : DN := fun ds M Q => match ds with
  | [x, c] => (match tyD M x, clsD c with
    | some t, some u => ownTy K t ∧ (match kitD K t u with | some b => Q (.bl b) M | none => False)
    | _, _ => False)
  | _ => False
theorem tyD_ok {K : PySem.W.Frag} {F H : Hp} {M : DM} {x : D} {v : V} {t : Ty} (r : Rel K F M H) (h : Rep K F x v) (e : tyD M x = some t) (o : ownTy K t) : TyX K H v t.v := by
  cases x with
  | non => cases e; unfold Rep at h; subst h; exact .base .non
  | bl b => cases e; unfold Rep at h; subst h; exact .base (.bl b)
  | int b => cases e; unfold Rep at h; subst h; exact .base (.int b)
  | str b => cases e; unfold Rep at h; subst h; exact .base (.str b)
  | lst xs =>
    cases e; unfold Rep at h
    obtain ⟨a, vs, rfl, h2, _⟩ := h
    exact .base (.lst (r.sub _ _ h2))
  | tup xs =>
    cases e; unfold Rep at h
    obtain ⟨a, vs, rfl, h2, _⟩ := h
    rcases SqT_mono r.sub h2 with (h2 | ⟨o, h2⟩) | ⟨o, its, n, h2, h3, _⟩
    · exact .base (.tup h2)
    · exact .fTuple h2
    · exact .kTuple h2 h3
  | ins C ns xs =>
    cases e; unfold Rep at h
    obtain ⟨a, dx, vs, rfl, h2, _⟩ := h
    have o : ICls K C := o
    exact .base (.ins (r.sub _ _ h2) o.cl o.ha o.hn o.htk o.hm)
  | ref p =>
    unfold tyD at e
    dsimp only at e
    unfold Rep at h; subst h
    split at e
    · rename_i xs q
      cases e
      obtain ⟨_, _, ho, vs, rfl, _⟩ := r.mr p _ q
      exact .base (.lst ho)
    · rename_i xs q
      cases e
      obtain ⟨_, _, ho, vs, rfl, _⟩ := r.mr p _ q
      exact .base (.dK ho)
    · rename_i xs q
      cases e
      obtain ⟨_, _, ho, vs, rfl, _⟩ := r.mr p _ q
      exact .base (.dT ho)
    · rename_i C fs q
      cases e
      obtain ⟨_, _, ho, dx, vs, rfl, _⟩ := r.mr p _ q
      have o : ICls K C := o
      exact .base (.ins ho o.cl o.ha o.hn o.htk o.hm)
    · cases e
  | _ => cases e
theorem kitD_ok {K : PySem.W.Frag} {t u : Ty} {b : Bool} (h : kitD K t u = some b) : PySem.W.kitOne K t.v u.v = some b := by
  cases t <;> cases u <;> first | exact kit_ty h | exact h
theorem cr_disi : CallR X (.builtin "isinstance") (lowN X.K F0 (dIsi X.K)) := by
  intro pins s σ H xs us Q I rv h
  obtain ⟨F, M, ds, QD, e0, r, rs, q, m⟩ := h
  unfold dIsi at q
  split at q
  · rename_i x c
    obtain ⟨v, w, rfl, h1, h2⟩ := rep2 rs
    split at q
    · rename_i t u et eu
      obtain ⟨o, q⟩ := q
      split at q
      · rename_i b eb
        have hw : ClsV w u.v := by
          cases c <;> simp [clsD] at eu
          · subst eu; unfold Rep at h2; subst h2; exact .ty _
          · subst eu; unfold Rep at h2; subst h2; exact .own _
        exact call_isi pins s σ H _ us Q I rv ⟨v, w, t.v, u.v, b, rfl, hw, tyD_ok r h1 et o, kitD_ok eb, m _ M F H _ q (Same.refl F) r rep_bl⟩
      · exact q.elim
    · exact q.elim
  · exact q.elim
/-! ### what a for walks -/
variable {tg e : Expr} {te : DTE}
def one (c : Nat) : D := .str ⟨#[c]⟩
/-- a list, a tuple, a text -/
def dSeqI (te : DTE) : DTI := fun δ M R => te δ M fun d M1 => match d with
  | .str z => R (z.cps.toList.map one) (fun _ => True) M1
  | .tup xs => R xs (fun _ => True) M1
  | d => (match asR M1 d with | some xs => R xs (fun M2 => asR M2 d = some xs) M1 | none => False)
theorem it_list {F : Hp} {d : D} {a : Addr} {xs : List D} (h : Rep X.K F d (.ref a)) : ItOk X.K F (Itl X.K a) xs (fun M => asR M d = some xs) := by
  intro i F1 M H e r k
  obtain ⟨a', vs, q, ha, rs⟩ := asR_at r (h.mono e) k
  cases q
  refine ⟨fun x hx => ?_, fun hl => ⟨vs, ha, by rw [← rs.length]; exact hl⟩⟩
  obtain ⟨w, hw, rw'⟩ := rs.get hx
  refine ⟨⟨vs, w, ha, hw⟩, fun v H' ⟨y, z⟩ => ?_⟩
  subst y
  have := z vs ha
  rw [hw] at this; cases this
  exact ⟨F1, Same.refl F1, r, rw'⟩
theorem it_tup {F : Hp} {a : Addr} {xs : List D} {vs : List V} (h : SqT X.K F a vs) (rs : RepL X.K F xs vs) (uniq : ∀ F1 ws, Same F F1 → SqT X.K F1 a ws → True) : ItOk X.K F (Itt X.K a) xs (fun _ => True) := by
  intro i F1 M H e r k
  have ha := SqT_mono (e.trans r.sub) h
  refine ⟨fun x hx => ?_, fun hl => ⟨vs, ha, by rw [← rs.length]; exact hl⟩⟩
  obtain ⟨w, hw, rw'⟩ := rs.get hx
  refine ⟨⟨vs, w, ha, hw⟩, fun v H' ⟨y, z⟩ => ?_⟩
  subst y
  have := z vs ha
  rw [hw] at this; cases this
  exact ⟨F1, Same.refl F1, r, rw'.mono e⟩
theorem it_str {F : Hp} {z : Str} : ItOk X.K F (Its z) (z.cps.toList.map one) (fun _ => True) := by
  intro i F1 M H e r k
  refine ⟨fun x hx => ?_, fun hl => by show z.cps.size ≤ i; simpa using hl⟩
  rw [List.getElem?_map] at hx
  cases hc : z.cps.toList[i]? with
  | none => rw [hc] at hx; cases hx
  | some c =>
    rw [hc] at hx; cases hx
    have hi : i < z.cps.size := by
      have := (List.getElem?_eq_some_iff.mp hc).1
      simpa using this
    refine ⟨hi, fun v H' ⟨y, c', hc', hv⟩ => ?_⟩
    subst y hv
    have e1 : z.cps[i]? = some c := by simpa using hc
    rw [e1] at hc'; cases hc'
    exact ⟨F1, Same.refl F1, r, rep_str⟩
theorem dpi_seq (he : DPE X F0 e te) : DPI X F0 tg e (dSeqI te) := by
  refine ⟨fun pins s σ H R I h => ?_⟩
  obtain ⟨F, δ, M, RD, e0, r, sl, h, m⟩ := h
  refine thn (he.run pins s σ H (fun v H1 => ∃ d M1 F1, Same F F1 ∧ Rel X.K F1 M1 H1 ∧ Rep X.K F1 d v ∧ (match d with
    | .str z => RD (z.cps.toList.map one) (fun _ => True) M1
    | .tup xs => RD xs (fun _ => True) M1
    | d => (match asR M1 d with | some xs => RD xs (fun M2 => asR M2 d = some xs) M1 | none => False))) I
    ⟨F, δ, M, _, e0, r, sl, h, fun d M1 F1 H1 v q e1 r1 rv => ⟨d, M1, F1, e1, r1, rv, q⟩⟩) fun u s1 ⟨v, H1, I1, ru, d, M1, F1, e1, r1, rv, q⟩ => ?_
  split at q
  · rename_i z
    unfold Rep at rv; subst rv
    obtain ⟨t, rfl⟩ := ru
    have q' := m _ _ M1 F1 H1 (Its z) q e1 r1 it_str
    cases ha : z.cps.all (· < 128)
    · exact wpAny_pyIter_wide ha (pi_one (tk := s1.toks) I1 _ (turn_str _ z t "str_iterator" (.inr rfl)) ⟨_, Heap.get?_push_size _ rfl, rfl, rfl⟩ q')
    · exact wpAny_pyIter_ascii ha (pi_one (tk := s1.toks) I1 _ (turn_str _ z t "str_ascii_iterator" (.inl rfl)) ⟨_, Heap.get?_push_size _ rfl, rfl, rfl⟩ q')
  · rename_i xs
    unfold Rep at rv
    obtain ⟨a, vs, rfl, ha, rs⟩ := rv
    cases ru
    obtain ⟨its, _, pt, _⟩ := I1.tuple (SqT_mono r1.sub ha)
    exact wpAny_pyIter_tuple (show s1.heap.IsTuple a its.toArray from pt) (pi_one (tk := s1.toks) I1 _ (turn_tuple a _) ⟨_, Heap.get?_push_size _ rfl, rfl, rfl⟩ (m _ _ M1 F1 H1 (Itt X.K a) q e1 r1 (it_tup ha rs fun _ _ _ _ => trivial)))
  · split at q
    · rename_i xs ex
      obtain ⟨a, vs, rfl, ha, rs⟩ := asR_at r1 rv ex
      cases ru
      obtain ⟨its, _, pl, _⟩ := I1.list ha
      exact wpAny_pyIter_list pl.isList (pi_one (tk := s1.toks) I1 _ (turn_list a _) ⟨_, Heap.get?_push_size _ rfl, rfl, rfl⟩ (m _ _ M1 F1 H1 (Itl X.K a) q e1 r1 (it_list rv)))
    · exact q.elim
/-- range -/
def rng (lo : Int) (n : Nat) : List D := (List.range n).map fun (k : Nat) => .int (lo + k)
def dRng1 (t : DTA) : DTI := fun δ M R => t δ M fun ds M1 => match ds with
  | [.int j] => -(2 ^ 62) ≤ j ∧ j < 2 ^ 62 ∧ R (rng 0 j.toNat) (fun _ => True) M1
  | _ => False
def dRng2 (t : DTA) : DTI := fun δ M R => t δ M fun ds M1 => match ds with
  | [.int i, .int j] => (-(2 ^ 62) ≤ i ∧ i < 2 ^ 62 ∧ -(2 ^ 62) ≤ j ∧ j < 2 ^ 62) ∧ R (rng i (j - i).toNat) (fun _ => True) M1
  | _ => False
theorem it_rng {F : Hp} {lo : Int} {n : Nat} : ItOk X.K F (Itr lo n) (rng lo n) (fun _ => True) := by
  intro i F1 M H e r k
  refine ⟨fun x hx => ?_, fun hl => by show n ≤ i; simpa [rng] using hl⟩
  unfold rng at hx
  rw [List.getElem?_map] at hx
  by_cases hi : i < n
  · rw [List.getElem?_range hi] at hx
    cases hx
    refine ⟨hi, fun v H' ⟨y, hv⟩ => ?_⟩
    subst y hv
    exact ⟨F1, Same.refl F1, r, rep_int⟩
  · rw [List.getElem?_eq_none (by simpa using hi)] at hx
    cases hx
theorem dpi_range1 {t : DTA} (hm : X.mg "range" = none) (ha : DPA X F0 [e] t) (hg : Gl X "range" := by rfl) (hs : starEach [e] X.env = [(false, eval e X.env)] := by rfl) : DPI X F0 tg (.Call (.Name "range" p) [e] [] pos) (dRng1 t) :=
  PI.imp (pi_range1 hg hm ha hs) fun σ H R ⟨F, δ, M, RD, e0, r, s, h, m⟩ => ⟨F, δ, M, _, e0, r, s, h, fun ds M1 F1 H1 vs q e1 r1 rs => by
    split at q
    · rename_i j
      obtain ⟨v, rfl, h1⟩ := rep1 rs
      unfold Rep at h1; subst h1
      exact ⟨j, rfl, q.1, q.2.1, m _ _ M1 F1 H1 _ q.2.2 e1 r1 it_rng⟩
    · exact q.elim⟩
theorem dpi_range2 {e2 : Expr} {t : DTA} (hm : X.mg "range" = none) (ha : DPA X F0 [e, e2] t) (hg : Gl X "range" := by rfl) (hs : starEach [e, e2] X.env = [(false, eval e X.env), (false, eval e2 X.env)] := by rfl) (hs2 : starEach [e2] X.env = [(false, eval e2 X.env)] := by rfl) :
    DPI X F0 tg (.Call (.Name "range" p) [e, e2] [] pos) (dRng2 t) :=
  PI.imp (pi_range2 hg hm ha hs hs2) fun σ H R ⟨F, δ, M, RD, e0, r, s, h, m⟩ => ⟨F, δ, M, _, e0, r, s, h, fun ds M1 F1 H1 vs q e1 r1 rs => by
    split at q
    · rename_i i j
      obtain ⟨v, w, rfl, h1, h2⟩ := rep2 rs
      unfold Rep at h1 h2; subst h1 h2
      exact ⟨i, j, rfl, q.1, m _ _ M1 F1 H1 _ q.2 e1 r1 it_rng⟩
    · exact q.elim⟩
/-- enumerate of a list -/
def enumD (k : Nat) : List D → List D
  | [] => []
  | x :: r => .tup [.int k, x] :: enumD (k + 1) r
theorem enumD_len : ∀ (xs : List D) (k : Nat), (enumD k xs).length = xs.length
  | [], _ => rfl
  | _ :: r, k => by simp [enumD, enumD_len r]
theorem enumD_get : ∀ (xs : List D) (k i : Nat) (y : D), (enumD k xs)[i]? = some y → ∃ x, xs[i]? = some x ∧ y = .tup [.int ((k + i : Nat) : Int), x]
  | [], _, _, _, h => by simp [enumD] at h
  | x :: r, k, 0, y, h => by
    simp [enumD] at h
    exact ⟨x, rfl, by rw [← h]; rfl⟩
  | x :: r, k, i + 1, y, h => by
    obtain ⟨x', h1, h2⟩ := enumD_get r (k + 1) i y (by simpa [enumD] using h)
    exact ⟨x', by simpa using h1, by rw [h2]; congr 4; omega⟩
def dEnumI (t : DTA) : DTI := fun δ M R => t δ M fun ds M1 => match ds with
  | [d] => (match asR M1 d with | some xs => R (enumD 0 xs) (fun M2 => asR M2 d = some xs) M1 | none => False)
  | _ => False
theorem it_enum {F : Hp} {d : D} {a : Addr} {xs : List D} (h : Rep X.K F d (.ref a)) : ItOk X.K F (Ite X.K a) (enumD 0 xs) (fun M => asR M d = some xs) := by
  intro i F1 M H e r k
  obtain ⟨a', vs, q, ha, rs⟩ := asR_at r (h.mono e) k
  cases q
  refine ⟨fun x hx => ?_, fun hl => ⟨vs, ha, by rw [← rs.length, ← enumD_len xs 0]; exact hl⟩⟩
  obtain ⟨x', hx', rfl⟩ := enumD_get xs 0 i x hx
  obtain ⟨w, hw, rw'⟩ := rs.get hx'
  refine ⟨⟨vs, w, ha, hw⟩, fun v H' ⟨T, y, hv, hT, hH, z⟩ => ?_⟩
  subst hv hH
  have := z vs ha
  rw [hw] at this; cases this
  obtain ⟨s1, s2, s3⟩ := ice_tup r hT (RepL.cons (rep_int (i := (i : Int))) (RepL.cons rw' RepL.nil))
  exact ⟨_, s1, s2, by rw [Nat.zero_add]; exact s3⟩
theorem dpi_enum {t : DTA} {tpos : Pos} {elts : List Expr} {kk : Nat} (hm : X.mg "enumerate" = none) (ha : DPA X F0 [e] t) (hg : Gl X "enumerate" := by rfl) (hs : starEach [e] X.env = [(false, eval e X.env)] := by rfl) :
    DPI X F0 (.Tuple elts kk tpos) (.Call (.Name "enumerate" p) [e] [] pos) (dEnumI t) :=
  PI.imp (pi_enum hg hm ha hs) fun σ H R ⟨F, δ, M, RD, e0, r, s, h, m⟩ => ⟨F, δ, M, _, e0, r, s, h, fun ds M1 F1 H1 vs q e1 r1 rs => by
    split at q
    · rename_i d
      obtain ⟨v, rfl, h1⟩ := rep1 rs
      split at q
      · rename_i xs ex
        obtain ⟨a, ws, rfl, ha, rl⟩ := asR_at r1 h1 ex
        exact ⟨a, ws, rfl, ha, m _ _ M1 F1 H1 _ q e1 r1 (it_enum h1)⟩
      · exact q.elim
    · exact q.elim⟩
end
end DL
set_option Elab.async false
set_option linter.all false
set_option maxRecDepth 100000
/-! DL8: comprehensions -/
namespace DL
open PySem PySem.Spec L2
theorem wipe_set {α : Type} : ∀ (vs : List Nat) (σ : St) (i : Nat) (x : Option V), i ∈ vs → wipe (σ.set i x) vs = wipe σ vs
  | [], _, _, _, h => by simp at h
  | v :: vs, σ, i, x, h => by
    show (wipe (σ.set i x) vs).set v none = (wipe σ vs).set v none
    by_cases e : i ∈ vs
    · rw [wipe_set (α := α) vs σ i x e]
    · have hv : i = v := by
        rcases List.mem_cons.mp h with z | z
        · exact z
        · exact absurd z e
      subst hv
      have k : ∀ (ws : List Nat), i ∉ ws → wipe (σ.set i x) ws = (wipe σ ws).set i x := by
        intro ws
        induction ws with
        | nil => intro _; rfl
        | cons w ws ih =>
          intro hw
          simp only [List.mem_cons, not_or] at hw
          show (wipe (σ.set i x) ws).set w none = ((wipe σ ws).set w none).set i x
          rw [ih hw.2, List.set_comm _ _ hw.1]
      rw [k vs e, List.set_set]
theorem wipe_twice (σ : St) : ∀ (vs : List Nat), wipe (wipe σ vs) vs = wipe σ vs := by
  intro vs
  have k : ∀ (ws us : List Nat), (∀ w ∈ ws, w ∈ us) → wipe (wipe σ ws) us = wipe σ us := by
    intro ws
    induction ws with
    | nil => intro us _; rfl
    | cons w ws ih =>
      intro us h
      show wipe ((wipe σ ws).set w none) us = _
      rw [wipe_set (α := Nat) us _ w none (h w (by simp)), ih us fun z hz => h z (by simp [hz])]
  exact k vs vs fun _ h => h
theorem slots_wipe {K : PySem.W.Frag} {F : Hp} {δ : DSt} {σ : St} (h : Slots K F δ σ) : ∀ (vs : List Nat), ∃ δ', δ' = vs.foldr (fun v d => d.set v none) δ ∧ Slots K F δ' (wipe σ vs)
  | [] => ⟨δ, rfl, h⟩
  | v :: vs => by
    obtain ⟨δ', rfl, h'⟩ := slots_wipe h vs
    exact ⟨_, rfl, h'.set (d := none) (v := none) True.intro v⟩
/-- one turn: what is bound, tested, made -/
abbrev DStep := D → DSt → DM → (Option D → DM → Prop) → Prop
def st1 (i : Nat) (tt : DTT) (te : DTE) : DStep := fun x δ M K => tt (δ.set i (some x)) M fun b M1 => if b = true then te (δ.set i (some x)) M1 fun d M2 => K (some d) M2 else K none M1
def st2 (i j : Nat) (tt : DTT) (te : DTE) : DStep := fun x δ M K => match x with
  | .tup [a, b] => tt ((δ.set i (some a)).set j (some b)) M fun k M1 => if k = true then te ((δ.set i (some a)).set j (some b)) M1 fun d M2 => K (some d) M2 else K none M1
  | _ => False
def lcR (st : DStep) (keep : DM → Prop) (δ : DSt) (p : Addr) (fin : List D → DM → Prop) : List D → List D → DM → Prop
  | [], acc, M => keep M ∧ M p = some (.lst acc) ∧ fin acc M
  | x :: r, acc, M => keep M ∧ st x δ M fun o M1 => M1 p = some (.lst acc) ∧ match o with
    | some d => acc.length < sizeLine ∧ lcR st keep δ p fin r (acc ++ [d]) (put M1 p (.lst (acc ++ [d])))
    | none => lcR st keep δ p fin r acc M1
def dLc (st : DStep) (ti : DTI) : DTE := fun δ M Q => ti δ M fun xs keep M1 => ∀ p, M1 p = none → lcR st keep δ p (fun acc M2 => Q (.lst acc) (drp M2 p)) xs [] (put M1 p (.lst []))
def dLcM (st : DStep) (ti : DTI) : DTE := fun δ M Q => ti δ M fun xs keep M1 => ∀ p, M1 p = none → lcR st keep δ p (fun _ M2 => Q (.ref p) M2) xs [] (put M1 p (.lst []))
@[simp] def dYes : DTT := fun _ M Q => Q true M
section
variable {X : Cx} {F0 : Hp} {pos : Pos}
abbrev DPTs (X : Cx) (F0 : Hp) (ifs : List Expr) (t : DTT) : Prop := PTs X ifs (liftT X.K F0 t)
theorem PTs.imp {X : Cx} {e : List Expr} {t t' : TT} (h : PTs X e t) (i : ∀ σ H Q, t' σ H Q → t σ H Q) : PTs X e t' := ⟨fun pins s σ H Q I q => h.run pins s σ H Q I (i _ _ _ q)⟩
theorem dts_nil : DPTs X F0 [] dYes := PTs.imp pts_nil fun σ H Q ⟨F, δ, M, QD, e0, r, s, h, m⟩ => m true M F H h (Same.refl F) r
theorem dts_one {c : Expr} {t : DTT} (h : DPT X F0 c t) : DPTs X F0 [c] t := pts_one h
/-- the turn of a comprehension, by its step -/
def StOk (K : PySem.W.Frag) (F0 : Hp) (st : DStep) (vs : List Nat) (g : TG) (tt : TT) (te : TE) : Prop :=
  ∀ (F : Hp) (x : D) (v : V) (δ : DSt) (σ : St) (M : DM) (H : Hp) (KD : Option D → DM → Prop) (Kd : V → Hp → Prop) (Kn : Hp → Prop), Same F0 F → Rel K F M H → Slots K F δ σ → Rep K F x v → st x δ M KD →
    (∀ d M1 F1 H1 w, KD (some d) M1 → Same F F1 → Rel K F1 M1 H1 → Rep K F1 d w → Kd w H1) → (∀ M1 F1 H1, KD none M1 → Same F F1 → Rel K F1 M1 H1 → Kn H1) →
    g v (wipe σ vs) H fun σ2 H2 => wipe σ2 vs = wipe σ vs ∧ tt σ2 H2 fun b H3 => if b = true then te σ2 H3 Kd else Kn H3
theorem st1_ok {K : PySem.W.Frag} {i : Nat} {tt : DTT} {te : DTE} : StOk K F0 (st1 i tt te) [i] (gName i) (liftT K F0 tt) (liftE K F0 te) := by
  intro F x v δ σ M H KD Kd Kn e0 r s rx h hd hn
  refine ⟨?_, ?_⟩
  · rw [wipe_set (α := Nat) [i] _ i _ (by simp), wipe_twice]
  · obtain ⟨δ', ed, s'⟩ := slots_wipe s [i]
    have s2 : Slots K F (δ.set i (some x)) ((wipe σ [i]).set i (some v)) := by
      have := s'.set (d := some x) (v := some v) rx i
      rw [ed] at this
      simpa using this
    refine ⟨F, _, M, _, e0, r, s2, h, fun b M1 F1 H1 q e1 r1 => ?_⟩
    cases b with
    | true =>
      rw [if_pos rfl] at q ⊢
      exact ⟨F1, _, M1, _, e0.trans e1, r1, s2.mono e1, q, fun d M2 F2 H2 w q2 e2 r2 rw' => hd d M2 F2 H2 w q2 (e1.trans e2) r2 rw'⟩
    | false =>
      rw [if_neg Bool.false_ne_true] at q ⊢
      exact hn M1 F1 H1 q e1 r1
theorem st2_ok {K : PySem.W.Frag} {i j : Nat} {tt : DTT} {te : DTE} : StOk K F0 (st2 i j tt te) [i, j] (gTup K 2 (gCons (gName i) (gCons (gName j) gNil))) (liftT K F0 tt) (liftE K F0 te) := by
  intro F x v δ σ M H KD Kd Kn e0 r s rx h hd hn
  unfold st2 at h
  split at h
  · rename_i a b
    unfold Rep at rx
    obtain ⟨p, vs, rfl, hp, rs⟩ := rx
    obtain ⟨va, vb, rfl, ra, rb⟩ := rep2 rs
    refine ⟨p, [va, vb], rfl, SqT_mono r.sub hp, rfl, va, [vb], rfl, vb, [], rfl, rfl, ?_, ?_⟩
    · rw [wipe_set (α := Nat) [i, j] _ j _ (by simp), wipe_set (α := Nat) [i, j] _ i _ (by simp), wipe_twice]
    · obtain ⟨δ', ed, s'⟩ := slots_wipe s [i, j]
      have s2 : Slots K F ((δ.set i (some a)).set j (some b)) (((wipe σ [i, j]).set i (some va)).set j (some vb)) := by
        have := (s'.set (d := some a) (v := some va) ra i).set (d := some b) (v := some vb) rb j
        rw [ed] at this
        have e : ((((δ.set j none).set i none).set i (some a)).set j (some b)) = ((δ.set i (some a)).set j (some b)) := by
          by_cases hij : i = j
          · subst hij; simp
          · rw [List.set_set, List.set_comm (i := j) (j := i) _ _ (Ne.symm hij), List.set_set]
        have e' : List.foldr (fun v (d : DSt) => d.set v none) δ [i, j] = (δ.set j none).set i none := rfl
        rw [e', e] at this
        exact this
      refine ⟨F, _, M, _, e0, r, s2, h, fun k M1 F1 H1 q e1 r1 => ?_⟩
      cases k with
      | true =>
        rw [if_pos rfl] at q ⊢
        exact ⟨F1, _, M1, _, e0.trans e1, r1, s2.mono e1, q, fun d M2 F2 H2 w q2 e2 r2 rw' => hd d M2 F2 H2 w q2 (e1.trans e2) r2 rw'⟩
      | false =>
        rw [if_neg Bool.false_ne_true] at q ⊢
        exact hn M1 F1 H1 q e1 r1
  · exact h.elim
/-- the loop of a comprehension -/
theorem lc_run {K : PySem.W.Frag} {st : DStep} {vs : List Nat} {g : TG} {tt : TT} {te : TE} {σ : St} {F1 : Hp} {M1 : DM} {H1 : Hp} {δ : DSt} {xs : List D} {keep : DM → Prop} {J : It} {fin : Addr → List D → DM → Prop} {Q : VK} (ok : StOk K F0 st vs g tt te) (e0 : Same F0 F1) (r1 : Rel K F1 M1 H1) (s : Slots K F1 δ σ) (it : ItOk K F1 J xs keep)
    (h : ∀ p, M1 p = none → lcR st keep δ p (fin p) xs [] (put M1 p (.lst [])))
    (hf : ∀ p acc M F H ws, fin p acc M → M p = some (.lst acc) → Same F1 F → Rel K F M H → H p = some (.lst ws) → RepL K F acc ws → Q (.ref p) H) :
    ∀ L, H1 L = none → ∃ W : Nat → Nat → Hp → Prop, (∃ m, W 0 m (upd H1 L (.lst []))) ∧ ∀ i m H, W i m H →
      (J.stop i H ∧ Q (.ref L) H) ∨ (J.go i H ∧ ∃ Nx : Hp → Prop, (∀ H', Nx H' → ∃ m', m' < m ∧ W (i + 1) m' H') ∧ ∀ x H', J.yld i H x H' → g x (wipe σ vs) H' fun σ2 H2 => wipe σ2 vs = wipe σ vs ∧ tt σ2 H2 fun b H3 =>
        if b = true then te σ2 H3 fun y H4 => ∃ acc, H4 L = some (.lst acc) ∧ acc.length < sizeLine ∧ Nx (upd H4 L (.lst (acc ++ [y]))) else Nx H3) := by
  intro L hL
  refine ⟨fun i m H => m + i = xs.length ∧ ∃ F M acc, Same F1 F ∧ Rel K F M H ∧ lcR st keep δ L (fin L) (xs.drop i) acc M, ⟨xs.length, rfl, F1, _, [], Same.refl F1, r1.new (m := .lst []) hL ⟨[], rfl, RepL.nil⟩, by simpa using h L (r1.free hL)⟩, ?_⟩
  rintro i m H ⟨hm, F, M, acc, eF, r, hq⟩
  by_cases hi : i < xs.length
  · have hx : xs[i]? = some xs[i] := by simp [hi]
    rw [List.drop_eq_getElem_cons hi] at hq
    obtain ⟨kp, hq⟩ := hq
    obtain ⟨go, yl⟩ := (it i F M H eF r kp).1 _ hx
    refine .inr ⟨go, fun H' => ∃ F M acc, Same F1 F ∧ Rel K F M H' ∧ lcR st keep δ L (fin L) (xs.drop (i + 1)) acc M, fun H' z => ⟨m - 1, by omega, by omega, z⟩, fun v H' y => ?_⟩
    obtain ⟨F3, e3, r3, rv⟩ := yl v H' y
    refine ok F3 _ v δ σ M H' _ _ _ (e0.trans (eF.trans e3)) r3 (s.mono (eF.trans e3)) rv hq (fun d M4 F4 H4 w q4 e4 r4 rw' => ?_) (fun M4 F4 H4 q4 e4 r4 => ?_)
    · obtain ⟨hp, hz, q4⟩ := q4
      obtain ⟨_, o, ho, ws, rfl, rs⟩ := r4.mr L _ hp
      exact ⟨ws, ho, by rw [← rs.length]; exact hz, F4, _, _, eF.trans (e3.trans e4), r4.write (m := .lst (acc ++ [d])) hp ⟨_, rfl, rs.append (RepL.cons rw' RepL.nil)⟩, q4⟩
    · exact ⟨F4, M4, acc, eF.trans (e3.trans e4), r4, q4.2⟩
  · have hd : xs.drop i = [] := List.drop_eq_nil_of_le (by omega)
    rw [hd] at hq
    obtain ⟨kp, hp, hq⟩ := hq
    obtain ⟨_, o, ho, ws, rfl, rs⟩ := r.mr L _ hp
    exact .inl ⟨(it i F M H eF r kp).2 (by omega), hf L acc M F H ws hq hp eF r ho rs⟩
theorem lc_lift {st : DStep} {ti : DTI} {vs : List Nat} {g : TG} {tt : TT} {te : TE} {σ : St} {H : Hp} {Q : VK} (ok : StOk X.K F0 st vs g tt te) (h : liftE X.K F0 (dLc st ti) σ H Q) : tLc (liftI X.K F0 ti) g tt te vs σ H Q := by
  obtain ⟨F, δ, M, QD, e0, r, s, h, m⟩ := h
  refine ⟨F, δ, M, _, e0, r, s, h, fun xs keep M1 F1 H1 J q e1 r1 it => ?_⟩
  refine lc_run ok (e0.trans e1) r1 (s.mono e1) it q fun p acc M2 F2 H2 ws q2 hp e2 r2 ho rs => ?_
  have hF : F2 p = none := (r2.mr p _ hp).1
  exact m _ _ _ H2 _ q2 (e1.trans (e2.trans (same_add hF))) (r2.freeze hp ho) (by unfold Rep; exact ⟨p, ws, rfl, upd_same, rs.mono (same_add hF)⟩)
theorem lcM_lift {st : DStep} {ti : DTI} {vs : List Nat} {g : TG} {tt : TT} {te : TE} {σ : St} {H : Hp} {Q : VK} (ok : StOk X.K F0 st vs g tt te) (h : liftE X.K F0 (dLcM st ti) σ H Q) : tLc (liftI X.K F0 ti) g tt te vs σ H Q := by
  obtain ⟨F, δ, M, QD, e0, r, s, h, m⟩ := h
  refine ⟨F, δ, M, _, e0, r, s, h, fun xs keep M1 F1 H1 J q e1 r1 it => ?_⟩
  exact lc_run ok (e0.trans e1) r1 (s.mono e1) it (fin := fun p _ M2 => QD (.ref p) M2) q fun p acc M2 F2 H2 ws q2 hp e2 r2 ho rs => m _ _ F2 H2 _ q2 (e1.trans e2) r2 rep_ref
variable {elt tg iter : Expr} {ifs : List Expr} {scope : Scope} {ti : DTI} {tt : DTT} {te : DTE} {own : List (Str × Nat)}
/-- [elt for x in iter if ..] -/
theorem dpe_lc (i : Nat) {x : Str} {px : Pos} (hc : X.calm = true) (hN : X.N.Nodup) (ok : BlkOk X.N X.env.scope scope [(x, i)]) (hi : DPI X F0 (.Name x px) iter ti)
    (hg : ∀ (s : Shared) (H : Hp) (C : Addr) (cl : List (Str × Addr)) (fp : List Addr), PG (X.blk s H scope (compEnvC scope cl C X.env) fp) (.Name x px) (gName i))
    (ht : ∀ (s : Shared) (H : Hp) (C : Addr) (cl : List (Str × Addr)) (fp : List Addr), DPTs (X.blk s H scope (compEnvC scope cl C X.env) fp) F0 ifs tt)
    (he : ∀ (s : Shared) (H : Hp) (C : Addr) (cl : List (Str × Addr)) (fp : List Addr), DPE (X.blk s H scope (compEnvC scope cl C X.env) fp) F0 elt te) (hs : ∀ x, foldedSetIterable iter X.env x = pure x := by intro _; rfl) :
    DPE X F0 (.ListComp elt [⟨.Name x px, iter, ifs, 0⟩] scope pos) (dLc (st1 i tt te) ti) :=
  PE.imp (pe_lc hc hN hi ok hg ht he hs) fun _ _ _ h => lc_lift st1_ok h
theorem dpe_lcM (i : Nat) {x : Str} {px : Pos} (hc : X.calm = true) (hN : X.N.Nodup) (ok : BlkOk X.N X.env.scope scope [(x, i)]) (hi : DPI X F0 (.Name x px) iter ti)
    (hg : ∀ (s : Shared) (H : Hp) (C : Addr) (cl : List (Str × Addr)) (fp : List Addr), PG (X.blk s H scope (compEnvC scope cl C X.env) fp) (.Name x px) (gName i))
    (ht : ∀ (s : Shared) (H : Hp) (C : Addr) (cl : List (Str × Addr)) (fp : List Addr), DPTs (X.blk s H scope (compEnvC scope cl C X.env) fp) F0 ifs tt)
    (he : ∀ (s : Shared) (H : Hp) (C : Addr) (cl : List (Str × Addr)) (fp : List Addr), DPE (X.blk s H scope (compEnvC scope cl C X.env) fp) F0 elt te) (hs : ∀ x, foldedSetIterable iter X.env x = pure x := by intro _; rfl) :
    DPE X F0 (.ListComp elt [⟨.Name x px, iter, ifs, 0⟩] scope pos) (dLcM (st1 i tt te) ti) :=
  PE.imp (pe_lc hc hN hi ok hg ht he hs) fun _ _ _ h => lcM_lift st1_ok h
/-- [elt for x, y in iter if ..] -/
theorem dpe_lc2 (i j : Nat) {x y : Str} (hc : X.calm = true) (hN : X.N.Nodup) (ok : BlkOk X.N X.env.scope scope [(x, i), (y, j)]) (hi : DPI X F0 tg iter ti)
    (hg : ∀ (s : Shared) (H : Hp) (C : Addr) (cl : List (Str × Addr)) (fp : List Addr), PG (X.blk s H scope (compEnvC scope cl C X.env) fp) tg (gTup X.K 2 (gCons (gName i) (gCons (gName j) gNil))))
    (ht : ∀ (s : Shared) (H : Hp) (C : Addr) (cl : List (Str × Addr)) (fp : List Addr), DPTs (X.blk s H scope (compEnvC scope cl C X.env) fp) F0 ifs tt)
    (he : ∀ (s : Shared) (H : Hp) (C : Addr) (cl : List (Str × Addr)) (fp : List Addr), DPE (X.blk s H scope (compEnvC scope cl C X.env) fp) F0 elt te) (hs : ∀ x, foldedSetIterable iter X.env x = pure x := by intro _; rfl) :
    DPE X F0 (.ListComp elt [⟨tg, iter, ifs, 0⟩] scope pos) (dLc (st2 i j tt te) ti) :=
  PE.imp (pe_lc hc hN hi ok hg ht he hs) fun _ _ _ h => lc_lift st2_ok h
/-- y = [elt for x in iter if ..] -/
theorem ds_setLc (k i : Nat) {y x : Str} {py px spos : Pos} (hc : X.calm = true) (hN : X.N.Nodup) (ok : BlkOk X.N X.env.scope scope [(x, i)]) (hi : DPI X F0 (.Name x px) iter ti)
    (hg : ∀ (s : Shared) (H : Hp) (C : Addr) (cl : List (Str × Addr)) (fp : List Addr), PG (X.blk s H scope (compEnvC scope cl C X.env) fp) (.Name x px) (gName i))
    (ht : ∀ (s : Shared) (H : Hp) (C : Addr) (cl : List (Str × Addr)) (fp : List Addr), DPTs (X.blk s H scope (compEnvC scope cl C X.env) fp) F0 ifs tt)
    (he : ∀ (s : Shared) (H : Hp) (C : Addr) (cl : List (Str × Addr)) (fp : List Addr), DPE (X.blk s H scope (compEnvC scope cl C X.env) fp) F0 elt te)
    (hsw : swapsWith (.ListComp elt [⟨.Name x px, iter, ifs, 0⟩] scope pos) (some (.Name y py)) spos.line X.env = pure true)
    (hy : X.N[k]? = some y := by rfl) (hyl : X.env.scope.names.lookup y = some .local := by rfl) (hs : ∀ x, foldedSetIterable iter X.env x = pure x := by intro _; rfl) :
    DPS X F0 (.Assign [.Name y py] (.ListComp elt [⟨.Name x px, iter, ifs, 0⟩] scope pos) spos) (dSet k (dLc (st1 i tt te) ti)) :=
  PS.imp (ps_setLc hc hN hy hyl hsw hi ok hg ht he hs) fun E σ H ⟨F, δ, M, DD, e0, r, s, h, m⟩ => by
    have h2 : liftE X.K F0 (dLc (st1 i tt te) ti) σ H (fun v H1 => E.nx (σ.set k (some v)) H1) :=
      ⟨F, δ, M, _, e0, r, s, h, fun d M1 F1 H1 v q e1 r1 rv => m.nx _ M1 F1 _ H1 q e1 r1 ((s.mono e1).set (d := some d) (v := some v) rv k)⟩
    exact lc_lift (X := X) st1_ok h2
theorem ds_setLcM (k i : Nat) {y x : Str} {py px spos : Pos} (hc : X.calm = true) (hN : X.N.Nodup) (ok : BlkOk X.N X.env.scope scope [(x, i)]) (hi : DPI X F0 (.Name x px) iter ti)
    (hg : ∀ (s : Shared) (H : Hp) (C : Addr) (cl : List (Str × Addr)) (fp : List Addr), PG (X.blk s H scope (compEnvC scope cl C X.env) fp) (.Name x px) (gName i))
    (ht : ∀ (s : Shared) (H : Hp) (C : Addr) (cl : List (Str × Addr)) (fp : List Addr), DPTs (X.blk s H scope (compEnvC scope cl C X.env) fp) F0 ifs tt)
    (he : ∀ (s : Shared) (H : Hp) (C : Addr) (cl : List (Str × Addr)) (fp : List Addr), DPE (X.blk s H scope (compEnvC scope cl C X.env) fp) F0 elt te)
    (hsw : swapsWith (.ListComp elt [⟨.Name x px, iter, ifs, 0⟩] scope pos) (some (.Name y py)) spos.line X.env = pure true)
    (hy : X.N[k]? = some y := by rfl) (hyl : X.env.scope.names.lookup y = some .local := by rfl) (hs : ∀ x, foldedSetIterable iter X.env x = pure x := by intro _; rfl) :
    DPS X F0 (.Assign [.Name y py] (.ListComp elt [⟨.Name x px, iter, ifs, 0⟩] scope pos) spos) (dSet k (dLcM (st1 i tt te) ti)) :=
  PS.imp (ps_setLc hc hN hy hyl hsw hi ok hg ht he hs) fun E σ H ⟨F, δ, M, DD, e0, r, s, h, m⟩ => by
    have h2 : liftE X.K F0 (dLcM (st1 i tt te) ti) σ H (fun v H1 => E.nx (σ.set k (some v)) H1) :=
      ⟨F, δ, M, _, e0, r, s, h, fun d M1 F1 H1 v q e1 r1 rv => m.nx _ M1 F1 _ H1 q e1 r1 ((s.mono e1).set (d := some d) (v := some v) rv k)⟩
    exact lcM_lift (X := X) st1_ok h2
end
/-! ### pure comprehensions -/
theorem put_ne' {M : DM} {a b : Addr} {o m : MO} (h : M a = some m) (hb : M b = none) : put M b o a = some m := by
  rw [put_ne (fun e => by rw [e, hb] at h; cases h)]; exact h
theorem lc_pure {st : DStep} {keep : DM → Prop} {δ : DSt} {p : Addr} {fin : List D → DM → Prop} {M0 : DM} (f : D → Option D) : ∀ (xs acc : List D), (∀ x ∈ xs, ∀ M K, (∃ acc, M = put M0 p (.lst acc)) → K (f x) M → st x δ M K) → (∀ acc, keep (put M0 p (.lst acc))) → acc.length + xs.length ≤ sizeLine →
    fin (acc ++ xs.filterMap f) (put M0 p (.lst (acc ++ xs.filterMap f))) → lcR st keep δ p fin xs acc (put M0 p (.lst acc))
  | [], acc, _, kp, _, h => ⟨kp acc, put_same, by simpa using h⟩
  | x :: xs, acc, hs, kp, hl, h => by
    refine ⟨kp acc, hs x (by simp) _ _ ⟨acc, rfl⟩ ?_⟩
    cases e : f x with
    | some d =>
      refine ⟨put_same, by simp at hl; omega, ?_⟩
      rw [put_put]
      refine lc_pure f xs (acc ++ [d]) (fun y hy => hs y (by simp [hy])) kp (by simp at hl ⊢; omega) ?_
      simpa [e] using h
    | none =>
      refine ⟨put_same, lc_pure f xs acc (fun y hy => hs y (by simp [hy])) kp (by simp at hl; omega) ?_⟩
      simpa [e] using h
/-- a comprehension whose turns change nothing -/
theorem dLc_pure {st : DStep} {δ : DSt} {M : DM} {Q : DK} {xs : List D} {keep : DM → Prop} (f : D → Option D) (hs : ∀ x ∈ xs, ∀ M K, K (f x) M → st x δ M K) (kp : ∀ p acc, M p = none → keep (put M p (.lst acc))) (hl : xs.length ≤ sizeLine) (h : Q (.lst (xs.filterMap f)) M) :
    ∀ p, M p = none → lcR st keep δ p (fun acc M2 => Q (.lst acc) (drp M2 p)) xs [] (put M p (.lst [])) := fun p hp => by
  refine lc_pure f xs [] (fun x hx M K _ => hs x hx M K) (fun acc => kp p acc hp) (by simpa using hl) ?_
  rw [List.nil_append, drp_put hp]; exact h
end DL
set_option Elab.async false
set_option linter.all false
set_option maxRecDepth 100000
/-! DL9: defs, calls, fields, methods, making -/
namespace DL
open PySem PySem.Spec L2
/-! ### a value let go of M -/
def FrzTo (M : DM) (d : D) (M' : DM) (d' : D) : Prop := ∀ (K : PySem.W.Frag) (F H : Hp) (v : V), Rel K F M H → Rep K F d v → ∃ F', Same F F' ∧ Rel K F' M' H ∧ Rep K F' d' v
theorem FrzTo.refl {M : DM} {d : D} : FrzTo M d M d := fun K F H v r h => ⟨F, Same.refl F, r, h⟩
theorem FrzTo.less {M M' : DM} {d : D} (h : ∀ a m, M' a = some m → M a = some m) : FrzTo M d M' d := fun K F H v r x => ⟨F, Same.refl F, r.less h, x⟩
theorem FrzTo.trans {M M1 M2 : DM} {d d1 d2 : D} (a : FrzTo M d M1 d1) (b : FrzTo M1 d1 M2 d2) : FrzTo M d M2 d2 := fun K F H v r h => by
  obtain ⟨F1, e1, r1, h1⟩ := a K F H v r h
  obtain ⟨F2, e2, r2, h2⟩ := b K F1 H v r1 h1
  exact ⟨F2, e1.trans e2, r2, h2⟩
theorem FrzTo.lst {M : DM} {p : Addr} {xs : List D} (h : M p = some (.lst xs)) : FrzTo M (.ref p) (drp M p) (.lst xs) := fun K F H v r x => by
  obtain ⟨hF, o, ho, vs, rfl, rs⟩ := r.mr p _ h
  unfold Rep at x; subst x
  exact ⟨_, same_add hF, r.freeze h ho, by unfold Rep; exact ⟨p, vs, rfl, upd_same, rs.mono (same_add hF)⟩⟩
def insOf (C : Addr) (fs : List (Str × D)) : D := .ins C (fs.map (·.1)) (fs.map (·.2))
theorem FrzTo.ins {M : DM} {p C : Addr} {fs : List (Str × D)} (h : M p = some (.ins C fs)) : FrzTo M (.ref p) (drp M p) (insOf C fs) := fun K F H v r x => by
  obtain ⟨hF, o, ho, dx, vs, rfl, rs⟩ := r.mr p _ h
  unfold Rep at x; subst x
  obtain ⟨e1, e2⟩ := rs.names
  refine ⟨_, same_add hF, r.freeze h ho, ?_⟩
  unfold insOf Rep
  refine ⟨p, dx, vs.map (·.2), rfl, ?_, by simp [rs.length], e2.mono (same_add hF)⟩
  rw [← e1]; exact upd_same
/-- the same, of a list just laid -/
theorem FrzTo.new {M : DM} {p : Addr} {xs : List D} (h : M p = none) : FrzTo (put M p (.lst xs)) (.ref p) M (.lst xs) := by
  have := FrzTo.lst (M := put M p (.lst xs)) (p := p) (xs := xs) put_same
  rwa [drp_put h] at this
theorem FrzTo.put {M : DM} {p : Addr} {o : MO} {d : D} (h : M p = none) : FrzTo (put M p o) d M d := .less fun a m e => by rw [put_ne' e h]
def up (Q : DK) : DK := fun d M => ∃ d' M', FrzTo M d M' d' ∧ Q d' M'
theorem up.mk {Q : DK} {d : D} {M : DM} (h : Q d M) : up Q d M := ⟨d, M, .refl, h⟩
/-- an exception that leaves with more than is told -/
def upX (E : DXK) : DXK := fun C fs M => ∃ M', (∀ a m, M' a = some m → M a = some m) ∧ E C fs M'
theorem upX.mk {E : DXK} {C : Addr} {fs : List (Str × D)} {M : DM} (h : E C fs M) : upX E C fs M := ⟨M, fun _ _ h => h, h⟩
@[simp] def endsF (Q : DK) : DEnds := { nx := fun _ M => up Q .non M, rt := up Q }
@[simp] def startD (N : List Str) (ds : List D) : DSt := ds.map some ++ List.replicate (N.length - ds.length) none
theorem slots_start {K : PySem.W.Frag} {F : Hp} {N : List Str} {ds : List D} {vs : List V} (h : RepL K F ds vs) : Slots K F (startD N ds) (L2.start N vs) := by
  unfold startD L2.start
  rw [h.length]
  have k : ∀ n : Nat, Slots K F (List.replicate n none) (List.replicate n none) := by
    intro n
    induction n with
    | zero => exact .nil
    | succ n ih => exact .cons True.intro ih
  have g : ∀ {ds : List D} {vs : List V} {δ : DSt} {σ : St}, RepL K F ds vs → Slots K F δ σ → Slots K F (ds.map some ++ δ) (vs.map some ++ σ) := by
    intro ds
    induction ds with
    | nil =>
      intro vs δ σ h s
      have := h.nilV
      subst this
      exact s
    | cons d ds ih =>
      intro vs δ σ h s
      obtain ⟨v, r, rfl, h1, h2⟩ := h.consV
      exact .cons h1 (ih h2 s)
  exact g h (k _)
theorem Meets.up {K : PySem.W.Frag} {F : Hp} {QD : DK} {Q : VK} (m : Meets K F QD Q) : Meets K F (DL.up QD) Q := fun d M F1 H v ⟨d', M', fz, q⟩ e r x => by
  obtain ⟨F2, e2, r2, x2⟩ := fz K F1 H v r x
  exact m d' M' F2 H v q (e.trans e2) r2 x2
abbrev DFn (P : Program) (w : World) (K : PySem.W.Frag) (mg : Str → Option Value) (base : Heap) (k : Nat) (f : Addr) (fd : FuncData) (ps : List Str) (dsp : DSp) : Prop := FnOk P w K mg base (L2.CX P w) k f fd ps (lowSp K dsp)
/-- a def by its body -/
theorem dfn {P : Program} {w : World} {K : PySem.W.Frag} {mg : Str → Option Value} {base : Heap} {k : Nat} {x qual : Str} {params : Arguments} {body : List Stmt} {scope : Scope} {dvs : List V} {kws : List (Str × V)} {f : Addr} {fd : FuncData} {N ps : List Str} {dsp : DSp}
    (F : FunD K x qual params body scope dvs kws f fd) (S : FnScope N ps scope) (len : ∀ ds M Q E, dsp ds M Q E → ds.length = ps.length)
    (hb : ∀ (cdv : Value) (A : Around) (outer : List Env) (s : Shared) (H : Hp) (E : XK) (F0 : Hp) (W : DXK), Ctx (cxOf (L2.CX P w) P w K mg base N qual scope f cdv A outer s H E) F0 (fun C fs _ M => upX W C fs M) →
      Room k (cxOf (L2.CX P w) P w K mg base N qual scope f cdv A outer s H E).A → ∃ t, DPSs (cxOf (L2.CX P w) P w K mg base N qual scope f cdv A outer s H E) F0 body t ∧ ∀ ds M Q, dsp ds M Q W → t (endsF Q) (startD N ds) M) :
    DFn P w K mg base (k + 1) f fd ps dsp := by
  refine F.ok S (fun vs H Q E h => ?_) (fun cdv A outer s H vs Q E hr h => ?_)
  · obtain ⟨F1, M, ds, QD, ED, r, rs, h, _⟩ := h
    rw [← rs.length]; exact len _ _ _ _ h
  · obtain ⟨F1, M, ds, QD, ED, r, rs, h, mq, me⟩ := h
    have tk0 : Takes (cxOf (L2.CX P w) P w K mg base N qual scope f cdv A outer s H E) (fun cls d _ H' => E cls d H') := takes_of rfl rfl rfl rfl
    have c : Ctx (cxOf (L2.CX P w) P w K mg base N qual scope f cdv A outer s H E) F1 (fun C fs _ M => upX ED C fs M) :=
      ⟨rfl, tk0.imp fun cls d σ H' ⟨C, fs, δ, M1, F2, dx, vs, h1, h2, h3, h4, h5, h6, h7, M2, le, h8⟩ => me cls d H' ⟨C, fs, M2, F2, dx, vs, h1, h2, h3, h4.less le, h6, h7, h8⟩, passes_of rfl, S.nd⟩
    obtain ⟨t, ht, hq⟩ := hb cdv A outer s H E F1 ED c hr
    refine ⟨_, ht, F1, startD N ds, M, endsF QD, Same.refl F1, r, slots_start rs, hq ds M QD h, ⟨fun δ M1 F2 σ H1 q e r1 s1 => mq.up _ M1 F2 H1 _ q e r1 rep_non, mq.up, fun _ _ _ _ _ q => q.elim, fun _ _ _ _ _ q => q.elim⟩⟩
/-! ### calls -/
/-- the def (positional arguments, the last ones left out): what a call of x promises -/
structure DCal (P : Program) (w : World) (K : PySem.W.Frag) (mg : Str → Option Value) (base : Heap) (k : Nat) (x : Str) (dsp : DSp) : Prop where
  ex : ∃ (f : Addr) (fd : FuncData) (ps : List Str) (ds : List Value) (dvs : List V) (dd : List D) (dsp0 : DSp), mg x = some (.ref f) ∧ PySem.W.keepIn K (.ref f) = true ∧ DFn P w K mg base k f fd ps dsp0 ∧ Binds K fd ps ds ∧ Vals dvs ds ∧ (∀ F, RepL K F dd dvs) ∧ ∀ as M Q E, dsp as M Q E → dsp0 (as ++ dd) M Q E
/-- .. with keywords -/
structure DCalK (P : Program) (w : World) (K : PySem.W.Frag) (mg : Str → Option Value) (base : Heap) (k : Nat) (x : Str) (n : Nat) (ks : List Str) (dsp : List D → List D → DM → DK → DXK → Prop) : Prop where
  ex : ∃ (f : Addr) (fd : FuncData) (ps : List Str) (g : List Value → List Value → List Value) (gV : List V → List V → List V) (gD : List D → List D → List D) (dsp0 : DSp), mg x = some (.ref f) ∧ PySem.W.keepIn K (.ref f) = true ∧ DFn P w K mg base k f fd ps dsp0 ∧ KBn K fd ps n ks g gV ∧
    (∀ F as vs zs ws, RepL K F as vs → RepL K F zs ws → RepL K F (gD as zs) (gV vs ws)) ∧ ∀ as zs M Q E, dsp as zs M Q E → dsp0 (gD as zs) M Q E
section
variable {X : Cx} {F0 : Hp} {W : DW} {pos p apos : Pos} {k : Nat} {e o : Expr} {es : List Expr} {t : DTA} {dsp : DSp} {x : Str}
def wE (W : DW) (δ : DSt) : DXK := fun C fs M => W C fs δ M
@[simp] def dCall (dsp : DSp) (W : DW) (t : DTA) : DTE := fun δ M Q => t δ M fun ds M1 => dsp ds M1 Q (wE W δ)
theorem passW (c : Ctx X F0 W) (σ : St) : PassesAt (L2.CX X.prog X.w) X σ (WE (lowW X.K F0 W) σ) := passAt c.tk σ
/-- from the deep promise to the promise -/
theorem low_call {K : PySem.W.Frag} {dsp0 : DSp} {F F1 : Hp} {M1 : DM} {H1 : Hp} {δ : DSt} {σ : St} {ds : List D} {vs : List V} {QD : DK} {Q : VK} (e0 : Same F0 F) (e1 : Same F F1) (s : Slots K F δ σ) (m : Meets K F QD Q) (r1 : Rel K F1 M1 H1) (rs : RepL K F1 ds vs) (h : dsp0 ds M1 QD (wE W δ)) :
    lowSp K dsp0 vs H1 Q (WE (lowW K F0 W) σ) :=
  ⟨F1, M1, ds, QD, wE W δ, r1, rs, h, m.mono e1, fun cls d H' ⟨C, fs, M, F2, dx, ws, h1, h2, h3, h4, h5, h6, h7⟩ => ⟨C, fs, δ, M, F2, dx, ws, h1, h2, e0.trans (e1.trans h3), h4, s.mono (e1.trans h3), h5, h6, h7⟩⟩
theorem dpe_call (c : Ctx X F0 W) (dc : DCal X.prog X.w X.K X.mg X.base k x dsp) (hr : Room k X.A) (ha : DPA X F0 (e :: es) t) (hg : Gl X x := by rfl) (hdb : (x == ("__debug__" : Str)) = false := by decide)
    (he : starEach (e :: es) X.env = (false, eval e X.env) :: starEach es X.env := by rfl) (hpl : (backTo pos (starEach es X.env)).any (·.1) = false := by rfl) : DPE X F0 (.Call (.Name x p) (e :: es) [] pos) (dCall dsp W t) := by
  obtain ⟨f, fd, ps, ds, dvs, dd, dsp0, hm, hk, F, hb, hd, hdd, im⟩ := dc.ex
  exact PE.imp (pe_callSD F hr hg hm hk hb hd (passW c) ha hdb he hpl) fun σ H Q ⟨F, δ, M, QD, e0, r, s, h, m⟩ => ⟨F, δ, M, _, e0, r, s, h, fun as M1 F1 H1 vs q e1 r1 rs =>
    low_call e0 e1 s m r1 (rs.append (hdd F1)) (im _ _ _ _ q)⟩
theorem dpe_call0 (c : Ctx X F0 W) (dc : DCal X.prog X.w X.K X.mg X.base k x dsp) (hr : Room k X.A) (hg : Gl X x := by rfl) (hdb : (x == ("__debug__" : Str)) = false := by decide) : DPE X F0 (.Call (.Name x p) [] [] pos) (dCall dsp W dNil) := by
  obtain ⟨f, fd, ps, ds, dvs, dd, dsp0, hm, hk, F, hb, hd, hdd, im⟩ := dc.ex
  refine ⟨fun pins s σ H Q I h => ?_⟩
  obtain ⟨F1, δ, M, QD, e0, r, sl, h, m⟩ := h
  refine wpAny_Call_Name_kw (ld_glob I hg hm ?_ hdb)
  exact PySem.W.callWith_K0 I.kIn hk (run_fnSD (us := []) (vs := []) (E := WE (lowW X.K F0 W)) F hr hb hd (passW c σ) I .nil (low_call (ds := [] ++ dd) e0 (Same.refl F1) sl m r (hdd F1) (im [] M QD _ h)))
/-- f(.., k = v) -/
def dCallK (dsp : List D → List D → DM → DK → DXK → Prop) (n m : Nat) (W : DW) (t tk : DTA) : DTE := fun δ M Q => t δ M fun as M1 => tk δ M1 fun zs M2 => as.length = n ∧ zs.length = m ∧ dsp as zs M2 Q (wE W δ)
abbrev DPK (X : Cx) (F0 : Hp) (kws : List Keyword) (t : DTA) : Prop := PK X kws (liftA X.K F0 t)
theorem PK.imp {X : Cx} {e : List Keyword} {t t' : TA} (h : PK X e t) (i : ∀ σ H Q, t' σ H Q → t σ H Q) : PK X e t' := ⟨fun pos pins s σ H Q I q => h.run pos pins s σ H Q I (i _ _ _ q)⟩
theorem dk_nil : DPK X F0 [] dNil := PK.imp pk_nil fun σ H Q ⟨F, δ, M, QD, e0, r, s, h, m⟩ => m [] M F H [] h (Same.refl F) r RepL.nil
theorem dk_cons {te : DTE} {kws : List Keyword} {nm : Option Str} {kpos : Pos} (ha : DPE X F0 e te) (hr : DPK X F0 kws t) : DPK X F0 (⟨nm, e, kpos⟩ :: kws) (dCons te t) :=
  PK.imp (pk_cons ha hr) fun σ H Q ⟨F, δ, M, QD, e0, r, s, h, m⟩ => ⟨F, δ, M, _, e0, r, s, h, fun d M1 F1 H1 v q e1 r1 rv =>
    ⟨F1, δ, M1, _, e0.trans e1, r1, s.mono e1, q, fun ds M2 F2 H2 vs q2 e2 r2 rs => m (d :: ds) M2 F2 H2 (v :: vs) q2 (e1.trans e2) r2 (RepL.cons (rv.mono e2) rs)⟩⟩
/-! ### fields -/
def PF (K : PySem.W.Frag) (C : Addr) (f : Str) : Prop := Cls K C ∧ NoAttr K C f
def insD (M : DM) : D → Option (Addr × List (Str × D))
  | .ins C ns xs => some (C, ns.zip xs)
  | .ref q => match M q with
    | some (.ins C fs) => some (C, fs)
    | _ => none
  | _ => none
theorem insD_at {K : PySem.W.Frag} {F H : Hp} {M : DM} {d : D} {v : V} {C : Addr} {fs : List (Str × D)} (r : Rel K F M H) (h : Rep K F d v) (e : insD M d = some (C, fs)) : ∃ a dx vs, v = .ref a ∧ H a = some (.ins C dx vs) ∧ RepF K F fs vs := by
  cases d with
  | ins C' ns xs =>
    cases e
    unfold Rep at h
    obtain ⟨a, dx, vs, h1, h2, h3, h4⟩ := h
    exact ⟨a, dx, ns.zip vs, h1, r.sub _ _ h2, RepF.zip h3 h4⟩
  | ref q =>
    unfold insD at e
    dsimp only at e
    split at e
    · rename_i C' fs' z
      cases e
      obtain ⟨_, o, ho, dx, vs, rfl, rs⟩ := r.mr q _ z
      unfold Rep at h
      exact ⟨q, dx, vs, h, ho, rs⟩
    · cases e
  | _ => cases e
@[simp] def dFld (K : PySem.W.Frag) (f : Str) (te : DTE) : DTE := fun δ M Q => te δ M fun d M1 => match insD M1 d with
  | some (C, fs) => (match fs.lookup f with | some y => PF K C f ∧ Q y M1 | none => False)
  | none => False
theorem dpe_fld {f : Str} {te : DTE} (he : DPE X F0 e te) (hb : attributeBase e f X.env (eval e X.env) = eval e X.env := by rfl) : DPE X F0 (.Attribute e f pos) (dFld X.K f te) :=
  PE.imp (pe_fld he hb) fun σ H Q ⟨F, δ, M, QD, e0, r, s, h, m⟩ => ⟨F, δ, M, _, e0, r, s, h, fun d M1 F1 H1 v q e1 r1 rv => by
    split at q
    · rename_i C fs ei
      obtain ⟨a, dx, vs, rfl, ha, rf⟩ := insD_at r1 rv ei
      split at q
      · rename_i y ey
        obtain ⟨w, hw, rw'⟩ := (rf.look (f := f)).1 y ey
        exact ⟨a, C, dx, vs, w, rfl, ha, q.1.1, q.1.2, hw, m _ M1 F1 H1 _ q.2 e1 r1 rw'⟩
      · exact q.elim
    · exact q.elim⟩
@[simp] def dSetF (K : PySem.W.Frag) (f : Str) (to te : DTE) : DTS := fun D δ M => te δ M fun y M1 => to δ M1 fun d M2 => match d with
  | .ref q => (match M2 q with | some (.ins C fs) => PF K C f ∧ fs.length < 1000 ∧ D.nx δ (put M2 q (.ins C (putD f y fs))) | _ => False)
  | _ => False
theorem ds_fld {f : Str} {to te : DTE} {pos' : Pos} (ho : DPE X F0 o to) (he : DPE X F0 e te) (hs : swapsWith e (some (.Attribute o f pos')) pos.line X.env = pure false := by rfl) : DPS X F0 (.Assign [.Attribute o f pos'] e pos) (dSetF X.K f to te) :=
  PS.imp (ps_fld ho he hs) fun E σ H ⟨F, δ, M, DD, e0, r, s, h, m⟩ => ⟨F, δ, M, _, e0, r, s, h, fun y M1 F1 H1 vy q e1 r1 ry => ⟨F1, δ, M1, _, e0.trans e1, r1, s.mono e1, q, fun d M2 F2 H2 v q2 e2 r2 rv => by
    split at q2
    · rename_i a
      split at q2
      · rename_i C fs ea
        unfold Rep at rv; subst rv
        obtain ⟨_, ob, ho, dx, vs, rfl, rs⟩ := r2.mr a _ ea
        exact ⟨a, C, dx, vs, rfl, ho, q2.1.1, q2.1.2, by rw [← rs.length]; exact q2.2.1, m.nx δ _ F2 σ _ q2.2.2 (e1.trans e2) (r2.write (m := .ins C (putD f y fs)) ea ⟨dx, _, rfl, rs.put (ry.mono e2)⟩) (s.mono (e1.trans e2))⟩
      · exact q2.elim
    · exact q2.elim⟩⟩
/-! ### methods -/
/-- the classes that have the method m, each with its promise (self first) -/
structure DMet (P : Program) (w : World) (K : PySem.W.Frag) (mg : Str → Option Value) (base : Heap) (k : Nat) (C : Addr) (m : Str) (dsp : DSp) : Prop where
  ex : ∃ (f : Addr) (fd : FuncData) (ps : List Str) (ds : List Value) (dvs : List V) (dd : List D) (dsp0 : DSp), Cls K C ∧ Meth K C m f ∧ DFn P w K mg base k f fd ps dsp0 ∧ Binds K fd ps ds ∧ Vals dvs ds ∧ (∀ F, RepL K F dd dvs) ∧ ∀ as M Q E, dsp as M Q E → dsp0 (as ++ dd) M Q E
def DMets (P : Program) (w : World) (K : PySem.W.Frag) (mg : Str → Option Value) (base : Heap) (k : Nat) (m : Str) : List (Addr × DSp) → Prop
  | [] => True
  | (C, dsp) :: r => DMet P w K mg base k C m dsp ∧ DMets P w K mg base k m r
def sel (k : DSp → Prop) : List (Addr × DSp) → Addr → Prop
  | [], _ => False
  | (C0, dsp) :: r, C => (C = C0 ∧ k dsp) ∨ sel k r C
theorem sel_get {P : Program} {w : World} {K : PySem.W.Frag} {mg : Str → Option Value} {base : Heap} {k : Nat} {m : Str} {q : DSp → Prop} : ∀ {l : List (Addr × DSp)} {C : Addr}, DMets P w K mg base k m l → sel q l C → ∃ dsp, DMet P w K mg base k C m dsp ∧ q dsp
  | [], _, _, h => h.elim
  | (C0, dsp) :: r, C, hm, h => by
    rcases h with ⟨rfl, h⟩ | h
    · exact ⟨dsp, hm.1, h⟩
    · exact sel_get hm.2 h
end
end DL
set_option Elab.async false
set_option linter.all false
set_option maxRecDepth 100000
/-! DL10: methods, making, properties -/
namespace DL
open PySem PySem.Spec L2
section
variable {X : Cx} {F0 : Hp} {W : DW} {pos p apos : Pos} {k : Nat} {e o : Expr} {es : List Expr} {t : DTA} {dsp : DSp} {x : Str}
@[simp] def dMeth (l : List (Addr × DSp)) (mn : Str) (W : DW) (to : DTE) (t : DTA) : DTE := fun δ M Q => to δ M fun d M1 => match insD M1 d with
  | some (C, fs) => fs.lookup mn = none ∧ sel (fun dsp => t δ M1 fun ds M2 => dsp (d :: ds) M2 Q (wE W δ)) l C
  | none => False
theorem dpe_meth {l : List (Addr × DSp)} {mn : Str} {to : DTE} {pl : Sem Bool} (c : Ctx X F0 W) (dm : DMets X.prog X.w X.K X.mg X.base k mn l) (hr : Room k X.A) (ho : DPE X F0 o to) (ha : DPA X F0 (e :: es) t)
    (hst : starEach (e :: es) X.env = (false, eval e X.env) :: starEach es X.env := by rfl) (hpl : (backTo pos (starEach es X.env)).any (·.1) = false := by rfl)
    (ht : eval (.Call (.Attribute o mn apos) (e :: es) [] pos) X.env = (do
      let ov ← eval o X.env
      standAt apos.atName
      let (f, first) ← holding [ov] (getMethod ov mn pl)
      callWith pos f first (backTo pos (starEach (e :: es) X.env)) (backToKw pos (keywordEach [] X.env))) := by rfl) :
    DPE X F0 (.Call (.Attribute o mn apos) (e :: es) [] pos) (dMeth l mn W to t) := by
  refine ⟨fun pins s σ H Q I h => ?_⟩
  obtain ⟨F, δ, M, QD, e0, r, sl, h, m⟩ := h
  refine PySem.W.methodCall_KW (pl := pl) (thn (ho.run pins s σ H (fun v H1 => ∃ d M1 F1 C fs, Same F F1 ∧ Rel X.K F1 M1 H1 ∧ Rep X.K F1 d v ∧ insD M1 d = some (C, fs) ∧ fs.lookup mn = none ∧ sel (fun dsp => t δ M1 fun ds M2 => dsp (d :: ds) M2 QD (wE W δ)) l C) I
    ⟨F, δ, M, _, e0, r, sl, h, fun d M1 F1 H1 v q e1 r1 rv => by
      split at q
      · rename_i C fs ei
        exact ⟨d, M1, F1, C, fs, e1, r1, rv, ei, q.1, q.2⟩
      · exact q.elim⟩) fun u s1 ⟨v, H1, I1, ru, d, M1, F1, C, fs, e1, r1, rv, ei, hl, q⟩ => ?_) ht
  obtain ⟨a, dx, vs, rfl, ea, rf⟩ := insD_at r1 rv ei
  obtain rfl : u = Value.ref a := ru
  obtain ⟨dsp, ⟨f, fd, ps, ds, dvs, dd, dsp0, hc, hm, Fn, hb, hd, hdd, im⟩, q⟩ := sel_get dm q
  refine getmeth_ok I1 ea hc hm ((rf.look (f := mn)).2 hl) ?_
  refine PySem.W.callWith_K (first := [.ref a]) (h₀ := X.base) I.ok.mod.kin hm.kp (thn (ha.run pos pins s1 σ H1 (fun ws H2 => lowSp X.K dsp0 (.ref a :: (ws ++ dvs)) H2 Q (WE (lowW X.K F0 W) σ)) I1
    ⟨F1, δ, M1, _, e0.trans e1, r1, sl.mono e1, q, fun as M2 F2 H2 ws q2 e2 r2 rs => low_call e0 (e1.trans e2) sl m r2 (RepL.cons (rv.mono e2) (rs.append (hdd F2))) (im _ _ _ _ q2)⟩) fun us s2 ⟨ws, H2, I2, rw', q2⟩ => ⟨I2.kIn, ?_⟩) hst hpl
  exact run_fnSD (us := .ref a :: us) (vs := .ref a :: ws) (E := WE (lowW X.K F0 W)) Fn hr hb hd (passW c σ) I2 (.cons rfl rw') q2
theorem dpe_meth0 {l : List (Addr × DSp)} {mn : Str} {to : DTE} {pl : Sem Bool} (c : Ctx X F0 W) (dm : DMets X.prog X.w X.K X.mg X.base k mn l) (hr : Room k X.A) (ho : DPE X F0 o to)
    (ht : eval (.Call (.Attribute o mn apos) [] [] pos) X.env = (do
      let ov ← eval o X.env
      standAt apos.atName
      let (f, first) ← holding [ov] (getMethod ov mn pl)
      callWith pos f first (backTo pos (starEach [] X.env)) (backToKw pos (keywordEach [] X.env))) := by rfl) :
    DPE X F0 (.Call (.Attribute o mn apos) [] [] pos) (dMeth l mn W to dNil) := by
  refine ⟨fun pins s σ H Q I h => ?_⟩
  obtain ⟨F, δ, M, QD, e0, r, sl, h, m⟩ := h
  refine PySem.W.methodCall_KW (pl := pl) (thn (ho.run pins s σ H (fun v H1 => ∃ d M1 F1 C fs, Same F F1 ∧ Rel X.K F1 M1 H1 ∧ Rep X.K F1 d v ∧ insD M1 d = some (C, fs) ∧ fs.lookup mn = none ∧ sel (fun dsp => dsp [d] M1 QD (wE W δ)) l C) I
    ⟨F, δ, M, _, e0, r, sl, h, fun d M1 F1 H1 v q e1 r1 rv => by
      split at q
      · rename_i C fs ei
        exact ⟨d, M1, F1, C, fs, e1, r1, rv, ei, q.1, q.2⟩
      · exact q.elim⟩) fun u s1 ⟨v, H1, I1, ru, d, M1, F1, C, fs, e1, r1, rv, ei, hl, q⟩ => ?_) ht
  obtain ⟨a, dx, vs, rfl, ea, rf⟩ := insD_at r1 rv ei
  obtain rfl : u = Value.ref a := ru
  obtain ⟨dsp, ⟨f, fd, ps, ds, dvs, dd, dsp0, hc, hm, Fn, hb, hd, hdd, im⟩, q⟩ := sel_get dm q
  refine getmeth_ok I1 ea hc hm ((rf.look (f := mn)).2 hl) ?_
  exact PySem.W.callWith_K0 (first := [.ref a]) I1.kIn hm.kp (run_fnSD (us := [.ref a]) (vs := [.ref a]) (E := WE (lowW X.K F0 W)) Fn hr hb hd (passW c σ) I1 (.cons rfl .nil) (low_call e0 e1 sl m r1 (RepL.cons rv (hdd F1)) (im _ _ _ _ q)))
/-! ### instances that can be called: o(..) -/
def dInst (l : List (Addr × DSp)) (W : DW) (to : DTE) (t : DTA) : DTE := fun δ M Q => to δ M fun d M1 => t δ M1 fun ds M2 => match insD M2 d with
  | some (C, _) => sel (fun dsp => dsp (d :: ds) M2 Q (wE W δ)) l C
  | none => False
/-! ### making an instance -/
/-- the class x of the text, made by its __init__: C(..) promises dsp -/
structure DMak (P : Program) (w : World) (K : PySem.W.Frag) (mg : Str → Option Value) (base : Heap) (k : Nat) (x : Str) (dsp : DSp) : Prop where
  ex : ∃ (C f : Addr) (fd : FuncData) (ps : List Str) (ds : List Value) (dvs : List V) (dd : List D) (dsp0 : DSp), mg x = some (.ref C) ∧ Mk K C f ∧ DFn P w K mg base k f fd ps dsp0 ∧ Binds K fd ps ds ∧ Vals dvs ds ∧ (∀ F, RepL K F dd dvs) ∧
    ∀ as M Q E, dsp as M Q E → ∀ q, M q = none → dsp0 (.ref q :: (as ++ dd)) (put M q (.ins C [])) (fun v M2 => v = .non ∧ up Q (.ref q) M2) (upX E)
theorem new_ins {K : PySem.W.Frag} {F H : Hp} {M : DM} {q dx C : Addr} (r : Rel K F M H) (h1 : H q = none) (h2 : H dx = none) (hne : dx ≠ q) : Rel K F (put M q (.ins C [])) (upd (upd H dx (.own q)) q (.ins C dx [])) :=
  (r.junk h2).new (m := .ins C []) (by rw [upd_ne hne.symm]; exact h1) ⟨dx, [], rfl, .nil⟩
theorem run_makeS {CX : CXT} {C f : Addr} {fd : FuncData} {ps : List Str} {sp : Sp} {dvs : List V} {ds : List Value} {E : XK} {pins : List (Addr × Obj)} {σ : St} {H : Hp} {s : Shared} {Q : VK} {us : List Value} {vs : List V} (Mk0 : Mk X.K C f) (F : FnOk X.prog X.w X.K X.mg X.base CX k f fd ps sp) (hr : Room (k + 1) X.A) (hb : Binds X.K fd ps ds) (hd : Vals dvs ds)
    (hx : PassesAt CX X σ E) (I : Inv X pins σ H s) (r : Vals vs us)
    (h : ∀ q dx, H q = none → H dx = none → dx ≠ q → sp (.ref q :: (vs ++ dvs)) (upd (upd H dx (.own q)) q (.ins C dx [])) (fun v H2 => v = .non ∧ Q (.ref q) H2) E) :
    wpAny (model X.prog X.w) X.A (call (.ref C) us) (EP X pins σ Q) X.xe s := by
  generalize hn : s.heap.objs.size = n
  have hq := h (n + 1) n (I.hok.fresh (by rw [hn]; exact Nat.le_succ n)) (I.hok.fresh (Nat.le_of_eq hn)) (Nat.ne_of_lt (Nat.lt_succ_self n))
  have I2 := Inv.made (C := C) I
  rw [hn] at I2
  have r2 : Vals (V.ref (n + 1) :: (vs ++ dvs)) (Value.ref (n + 1) :: (us ++ ds)) := .cons rfl (r.append hd)
  have hl : (Value.ref (n + 1) :: us ++ ds).length = ps.length := by
    have z := r2.length
    rw [F.len _ _ _ _ hq] at z
    exact z.symm
  refine wpAny_call (make_map (f := f) I.kIn Mk0.makes Mk0.init (beq_iff_eq.mp Mk0.fn) ?_)
  rw [hn]
  refine codeAny_mono (F.run _ X.stack _ _ ⟨Value.ref (n + 1) :: us, []⟩ (Value.ref (n + 1) :: (us ++ ds)) _ _ E (hr.make C us []) (I2.env0.make C us []) (hb _ (Value.ref (n + 1) :: us) I2.kIn hl) r2 hq) fun rr s' hq' => ?_
  cases rr with
  | error er => exact hx pins _ _ er s' I2 hq'
  | ok fl =>
    cases fl with
    | ret u =>
      obtain ⟨v, H', I3, rv, ev, q3⟩ := I2.after hq'
      subst ev
      exact ⟨rv, ⟨V.ref (n + 1), H', I3, rfl, q3⟩⟩
    | _ => exact False.elim hq'
theorem mak_low {K : PySem.W.Frag} {dsp0 : DSp} {C : Addr} {F F1 : Hp} {M1 : DM} {H1 : Hp} {δ : DSt} {σ : St} {ds : List D} {vs : List V} {QD : DK} {Q : VK} (e0 : Same F0 F) (e1 : Same F F1) (s : Slots K F δ σ) (m : Meets K F QD Q) (r1 : Rel K F1 M1 H1) (rs : RepL K F1 ds vs)
    (h : ∀ q, M1 q = none → dsp0 (.ref q :: ds) (put M1 q (.ins C [])) (fun v M2 => v = .non ∧ up QD (.ref q) M2) (upX (wE W δ))) :
    ∀ q dx, H1 q = none → H1 dx = none → dx ≠ q → lowSp K dsp0 (.ref q :: vs) (upd (upd H1 dx (.own q)) q (.ins C dx [])) (fun v H2 => v = .non ∧ Q (.ref q) H2) (WE (lowW K F0 W) σ) := fun q dx hq hdx hne =>
  ⟨F1, _, .ref q :: ds, _, upX (wE W δ), new_ins r1 hq hdx hne, RepL.cons rep_ref rs, h q (r1.free hq), fun d M2 F2 H2 v ⟨hd, hu⟩ e2 r2 rv => by
      subst hd
      unfold Rep at rv
      exact ⟨rv, (m.mono (e1.trans e2)).up _ M2 F2 H2 _ hu (Same.refl F2) r2 rep_ref⟩,
    fun cls d H' ⟨C', fs, M, F2, dx', ws, h1, h2, h3, h4, h5, h6, M', le, h7⟩ => ⟨C', fs, δ, M', F2, dx', ws, h1, h2, e0.trans (e1.trans h3), h4.less le, s.mono (e1.trans h3), h5, h6, h7⟩⟩
theorem dpe_make (c : Ctx X F0 W) (dm : DMak X.prog X.w X.K X.mg X.base k x dsp) (hr : Room (k + 1) X.A) (ha : DPA X F0 (e :: es) t) (hg : Gl X x := by rfl) (hdb : (x == ("__debug__" : Str)) = false := by decide)
    (he : starEach (e :: es) X.env = (false, eval e X.env) :: starEach es X.env := by rfl) (hpl : (backTo pos (starEach es X.env)).any (·.1) = false := by rfl) : DPE X F0 (.Call (.Name x p) (e :: es) [] pos) (dCall dsp W t) := by
  obtain ⟨C, f, fd, ps, ds, dvs, dd, dsp0, hm, mk, Fn, hb, hd, hdd, im⟩ := dm.ex
  refine ⟨fun pins s σ H Q I h => ?_⟩
  obtain ⟨F, δ, M, QD, e0, r, sl, h, m⟩ := h
  refine wpAny_Call_Name_kw (ld_glob I hg hm ?_ hdb)
  refine PySem.W.callWith_K (h₀ := X.base) I.ok.mod.kin mk.kp (thn (ha.run pos pins s σ H (fun ws H2 => ∀ q dx, H2 q = none → H2 dx = none → dx ≠ q → lowSp X.K dsp0 (.ref q :: (ws ++ dvs)) (upd (upd H2 dx (.own q)) q (.ins C dx [])) (fun v H3 => v = .non ∧ Q (.ref q) H3) (WE (lowW X.K F0 W) σ)) I
    ⟨F, δ, M, _, e0, r, sl, h, fun as M1 F1 H1 ws q e1 r1 rs => mak_low e0 e1 sl m r1 (rs.append (hdd F1)) (im _ _ _ _ q)⟩) fun us s2 ⟨ws, H2, I2, rw', q2⟩ => ⟨I2.kIn, ?_⟩) he hpl
  exact run_makeS (E := WE (lowW X.K F0 W) σ) mk Fn hr hb hd (passW c σ) I2 rw' q2
theorem dpe_make0 (c : Ctx X F0 W) (dm : DMak X.prog X.w X.K X.mg X.base k x dsp) (hr : Room (k + 1) X.A) (hg : Gl X x := by rfl) (hdb : (x == ("__debug__" : Str)) = false := by decide) : DPE X F0 (.Call (.Name x p) [] [] pos) (dCall dsp W dNil) := by
  obtain ⟨C, f, fd, ps, ds, dvs, dd, dsp0, hm, mk, Fn, hb, hd, hdd, im⟩ := dm.ex
  refine ⟨fun pins s σ H Q I h => ?_⟩
  obtain ⟨F, δ, M, QD, e0, r, sl, h, m⟩ := h
  refine wpAny_Call_Name_kw (ld_glob I hg hm ?_ hdb)
  exact PySem.W.callWith_K0 I.kIn mk.kp (run_makeS (us := []) (vs := []) (E := WE (lowW X.K F0 W) σ) mk Fn hr hb hd (passW c σ) I .nil (mak_low (ds := [] ++ dd) e0 (Same.refl F) sl m r (hdd F) (im [] M QD _ h)))
/-! ### properties -/
structure DPrp (P : Program) (w : World) (K : PySem.W.Frag) (mg : Str → Option Value) (base : Heap) (k : Nat) (C : Addr) (f : Str) (dsp : DSp) : Prop where
  ex : ∃ (pr g : Addr) (fd : FuncData) (ps : List Str), Cls K C ∧ PropOf K C f pr g ∧ DFn P w K mg base k g fd ps dsp ∧ Binds K fd ps []
def DPrps (P : Program) (w : World) (K : PySem.W.Frag) (mg : Str → Option Value) (base : Heap) (k : Nat) (f : Str) : List (Addr × DSp) → Prop
  | [] => True
  | (C, dsp) :: r => DPrp P w K mg base k C f dsp ∧ DPrps P w K mg base k f r
theorem sel_prp {P : Program} {w : World} {K : PySem.W.Frag} {mg : Str → Option Value} {base : Heap} {k : Nat} {f : Str} {q : DSp → Prop} : ∀ {l : List (Addr × DSp)} {C : Addr}, DPrps P w K mg base k f l → sel q l C → ∃ dsp, DPrp P w K mg base k C f dsp ∧ q dsp
  | [], _, _, h => h.elim
  | (C0, dsp) :: r, C, hm, h => by
    rcases h with ⟨rfl, h⟩ | h
    · exact ⟨dsp, hm.1, h⟩
    · exact sel_prp hm.2 h
def X0 : DXK := fun _ _ _ => False
@[simp] def dProp (l : List (Addr × DSp)) (te : DTE) : DTE := fun δ M Q => te δ M fun d M1 => match insD M1 d with
  | some (C, _) => sel (fun dsp => dsp [d] M1 Q X0) l C
  | none => False
theorem dpe_prop {l : List (Addr × DSp)} {f : Str} {te : DTE} (dp : DPrps X.prog X.w X.K X.mg X.base k f l) (hr : Room (k + 1) X.A) (he : DPE X F0 e te) (hab : attributeBase e f X.env (eval e X.env) = eval e X.env := by rfl) : DPE X F0 (.Attribute e f pos) (dProp l te) := by
  refine ⟨fun pins s σ H Q I h => ?_⟩
  obtain ⟨F, δ, M, QD, e0, r, sl, h, m⟩ := h
  refine attr_of hab (thn (he.run pins s σ H (fun v H1 => ∃ d M1 F1 C fs, Same F F1 ∧ Rel X.K F1 M1 H1 ∧ Rep X.K F1 d v ∧ insD M1 d = some (C, fs) ∧ sel (fun dsp => dsp [d] M1 QD X0) l C) I
    ⟨F, δ, M, _, e0, r, sl, h, fun d M1 F1 H1 v q e1 r1 rv => by
      split at q
      · rename_i C fs ei
        exact ⟨d, M1, F1, C, fs, e1, r1, rv, ei, q⟩
      · exact q.elim⟩) fun u s1 ⟨v, H1, I1, ru, d, M1, F1, C, fs, e1, r1, rv, ei, q⟩ => ?_)
  obtain ⟨a, dx, vs, rfl, ea, rf⟩ := insD_at r1 rv ei
  obtain rfl : u = Value.ref a := ru
  obtain ⟨dsp, ⟨pr, g, fd, ps, hc, hp, Fn, hb⟩, q⟩ := sel_prp dp q
  exact getprop_ok (E := E0) I1 ea hc hp Fn hr hb .nil passL ⟨F1, M1, [d], QD, X0, r1, RepL.cons rv RepL.nil, q, m.mono e1, fun cls dd H' ⟨_, _, _, _, _, _, _, _, _, _, _, _, z⟩ => z.elim⟩
end
end DL
set_option Elab.async false
set_option linter.all false
set_option maxRecDepth 100000
set_option maxHeartbeats 4000000
/-! DX1: exceptions of the text whose __init__ says super().__init__(..) and keeps its arguments -/
namespace DX
open PySem PySem.W PySem.Calls PyProof.Rows PySem.HandSPX
section
variable {prog : Program} {w : World} {A : Around} {E : Value → Shared → Prop} {h : Heap} {g : Array GenState} {d : Drawn} {t : Nat} {os : OsState}
variable {nm q : Str} {C N : Addr} {bs bm : List Value} {hdct : Bool} {sn : List Str} {sub : List Value} {ab : Bool} {col : Option Bool} {dd : Option Addr} {k0 k1 k2 k3 k5 : Option Value}
/-- ValueError.__init__ bound to the exception at e, called -/
theorem call_mw {u e t0 : Addr} {rest : List Value} {Q : Value → Shared → Prop} (hC : h.get? C = some (excClassObj nm q C N bs bm hdct sn sub ab col dd k0 k1 k2 k3 k5 "ValueError.__new__"))
    (he : h.get? e = some (excO C t0)) (hu : h.get? u = some (kxs_mw "ValueError.__init__" e)) (hz : rest.length ≤ sizeLine)
    (hq : ∀ h' t1, (∀ b o, b ≠ e → h.get? b = some o → h'.get? b = some o) → h'.get? e = some (excO C t1) → Q .none ⟨h', g, d, t, os⟩) :
    wpAny (model prog w) A (call (.ref u) rest) Q E ⟨h, g, d, t, os⟩ := by
  refine wpAny_call (codeAny_of_tree ?_)
  show wpAny _ A.in1 (callAny (.ref u) ⟨rest, []⟩) _ _ _
  simp only [callAny]
  refine wpAny_bind (wpAny_load hu ?_)
  have c1 : (Value.type "method-wrapper" == Value.type "method" || Value.type "method-wrapper" == Value.type "builtin_function_or_method" || Value.type "method-wrapper" == Value.type "method-wrapper") = true := by decide
  simp only [kxs_mw, c1, if_true]
  refine KFB.if_so (by decide) ?_
  refine wpAny_bind (PySem.ESX.check_bound F.excBase_ValueError hC he rfl ?_)
  refine wpAny_bind (wpAny_pure (wpAny_pure ⟨Code.quiet_builtin _ (by decide +kernel), codeAny_builtin F.excBase_ValueError.initEntry ?_⟩))
  rw [Around.under_plainId F.excBase_ValueError.init.plain _]
  wp_walk
  refine hq _ h.objs.size (fun b o hb ho => ?_) ?_
  · rw [Heap.get?_update_other _ _ (Ne.symm hb)]; exact Heap.get?_push_of_some _ ho
  · rw [Heap.get?_update_self _ (Heap.get?_push_of_some _ he) rfl]; rfl
end
theorem lookup_none {α β : Type} [BEq α] [LawfulBEq α] {x : α} : ∀ {l : List (α × β)}, (∀ v, (x, v) ∉ l) → l.lookup x = none
  | [], _ => rfl
  | (y, v) :: l, h => by
    have n : x ≠ y := fun e => h v (by rw [e]; exact List.mem_cons_self ..)
    rw [List.lookup_cons, beq_false_of_ne n]
    exact lookup_none fun v hv => h v (List.mem_cons_of_mem _ hv)
theorem lookup_rev {x : Str} {u : Value} : ∀ {ps : List Str} {us : List Value} {i : Nat}, ps.Nodup → ps[i]? = some x → us[i]? = some u → (ps.zip us).reverse.lookup x = some u
  | [], _, _, _, h, _ => by simp at h
  | _ :: _, [], _, _, _, h => by simp at h
  | p :: ps, w :: us, 0, nd, h1, h2 => by
    simp at h1 h2; subst h1; subst h2
    have e : (ps.zip us).reverse.lookup p = none := lookup_none fun v hv => (List.nodup_cons.mp nd).1 (List.of_mem_zip (List.mem_reverse.mp hv)).1
    simp [List.zip_cons_cons, List.reverse_cons, List.lookup_append, e]
  | p :: ps, w :: us, i + 1, nd, h1, h2 => by
    have e := lookup_rev (i := i) (List.nodup_cons.mp nd).2 (by simpa using h1) (by simpa using h2)
    simp [List.zip_cons_cons, List.reverse_cons, List.lookup_append, e]
end DX
namespace DX
open PySem PySem.Spec L2 PyProof.Rows
/-- the scope of such an __init__ -/
structure XScope (N : List Str) (sc : Scope) : Prop where
  kind : sc.kind = .function
  co : sc.isCoroutine = false
  gen : sc.isGenerator = false
  nd : N.Nodup
  loc : ∀ x ∈ N, sc.names.lookup x = some .local
  nocell : ∀ y ∈ sc.names, y.2 ≠ .cell
  cls : sc.names.lookup ("__class__" : Str) = some .free
  sup : sc.names.lookup ("super" : Str) = some .globalImplicit
  free : ∀ y, sc.names.lookup y = some .free → y = ("__class__" : Str)
/-- an exception class C of the text, its __init__ at f -/
structure XIni (P : Program) (K : PySem.W.Frag) (C f : Addr) (fd : FuncData) (params : Arguments) (body : List Stmt) (scope : Scope) (dvs : List V) : Prop where
  ex : ∃ (oc : Value) (od : Option Addr) (qual : Str) (dV kV doc pm : Value) (an : Option Addr) (ct : Value) (osl : Array (Option Value)) (cda cc : Addr) (cl : Value) (cld : Option Addr) (csl : Array (Option Value)) (ccl : Value) (cdd : Option Addr) (vs : Array Value) (ccs : Array (Option Value)) (file : Str) (tf : Tok),
    fd = PySem.W.ksFn "__init__" qual params body scope dV kV doc pm an (.ref cda) ct cc ∧ K.lookup f = some ⟨oc, od, .func fd, osl⟩ ∧ PySem.W.codeIn K (.ref cda) qual = true ∧ K.lookup cda = some ⟨ccl, cdd, .fields vs, ccs⟩ ∧ vs[2]? = some (.str file tf) ∧ ((P.main.file : Str) == file) = true ∧
    K.lookup cc = some ⟨cl, cld, .cell (some (.ref C)), csl⟩ ∧ DflV K dV dvs
  O : OexC K C
  iC : PySem.W.findIn K (.ref C) "__init__" = some (some (.ref f))
  tI : PySem.W.typeIn K (.ref f) = some (.type "function")
  mr : PySem.W.mroIn K C (.ref C) = some true
  tp : PySem.W.nsIn K cStatics "thirdparty.any" = some none
  su : PySem.W.ks_superIn K C C "__init__" = some (some (.builtin "ValueError.__init__"))
  ve : PySem.W.subIn K (.ref C) (.type "ValueError") = some true
  top : (P.main.scope.names.lookup ("super" : Str)).isSome = false
  sup : PySem.W.nsIn K mainGlobals "super" = some none
def cxX (P : Program) (w : World) (K : PySem.W.Frag) (mg : Str → Option Value) (base : Heap) (N : List Str) (env : Env) (A : Around) (outer : List Env) (s : Shared) (H : Hp) (xe : Value → Shared → Prop) : Cx where
  prog := P
  w := w
  K := K
  mg := mg
  base := base
  A := A.deeper env
  N := N
  s_0 := s
  H_0 := H
  env := env
  outer := outer
  stack := env :: outer
  ex := []
  calm := true
  fn := fun _ => false
  pn := []
  xe := xe
/-- what the text's own form gives of the first statement -/
def SupOk (scope : Scope) (e : Expr) (es : List Expr) (p0 p1 p2 p3 p4 : Pos) : Prop := ∀ (f : Addr) (cda cc : Addr) (qual : Str) (L : Addr), interactive (PySem.W.ksEnv qual scope L f (.ref cda) cc) = false ∧ swapsWith (.Call (.Attribute (.Call (.Name "super" p0) [] [] p1) "__init__" p2) (e :: es) [] p3) none p4.line (PySem.W.ksEnv qual scope L f (.ref cda) cc) = pure false ∧
      ∃ pl : Sem Bool, eval (.Call (.Attribute (.Call (.Name "super" p0) [] [] p1) "__init__" p2) (e :: es) [] p3) (PySem.W.ksEnv qual scope L f (.ref cda) cc) = (do
        let ov ← attributeBase (.Call (.Name "super" p0) [] [] p1) "__init__" (PySem.W.ksEnv qual scope L f (.ref cda) cc) (eval (.Call (.Name "super" p0) [] [] p1) (PySem.W.ksEnv qual scope L f (.ref cda) cc))
        standAt p2.atName
        let (f0, first) ← holding [ov] (getMethod ov "__init__" pl)
        callWith p3 f0 first (backTo p3 (starEach (e :: es) (PySem.W.ksEnv qual scope L f (.ref cda) cc))) [])
theorem fn_x {CX : CXT} {P : Program} {w : World} {K : PySem.W.Frag} {mg : Str → Option Value} {base : Heap} {k : Nat} {C f : Addr} {fd : FuncData} {params : Arguments} {scope : Scope} {dvs : List V} {N0 : List Str} {e : Expr} {es : List Expr} {rest : List Stmt} {p0 p1 p2 p3 p4 : Pos} {ar : Arg} {sp : Sp}
    (T : XIni P K C f fd params (.Expr (.Call (.Attribute (.Call (.Name "super" p0) [] [] p1) "__init__" p2) (e :: es) [] p3) p4 :: rest) scope dvs) (S : XScope ("self" :: N0) scope) (hp : (params.posonlyargs ++ params.args).head? = some ar) (har : ar.arg = "self")
    (len : ∀ vs H Q E, sp vs H Q E → vs.length = N0.length + 1)
    (hb : ∀ (env : Env) (A : Around) (outer : List Env) (s : Shared) (H : Hp) (xe : Value → Shared → Prop) (vs : List V) (Q : VK) (E : XK), env.scope = scope → (∀ x y : Str, env.kindOf x = scope.names.lookup x) → sp vs H Q E →
      ∃ a ws ta tr, vs = .ref a :: ws ∧ H a = some (exo a C none) ∧ (starEach (e :: es) env = (false, eval e env) :: starEach es env) ∧ (backTo p3 (starEach (e :: es) env)).any (·.1) = false ∧ PA (cxX P w K mg base ("self" :: N0) env A outer s H xe) (e :: es) ta ∧ PSs (cxX P w K mg base ("self" :: N0) env A outer s H xe) rest tr ∧
        ta (start ("self" :: N0) vs) H fun us H1 => us.length ≤ 1000 ∧ H1 = H ∧ tr { nx := fun _ H' => Q .non H', rt := Q } (start ("self" :: N0) vs) H)
    (hi : SupOk scope e es p0 p1 p2 p3 p4) :
    FnOk P w K mg base CX (k + 1) f fd ("self" :: N0) sp := by
  refine ⟨fun vs H Q E h => len _ _ _ _ h, fun A outer s H args us vs Q E hr e0 hbd r hsp => ?_⟩
  obtain ⟨oc, od, qual, dV, kV, doc, pm, an, ct, osl, cda, cc, cl, cld, csl, ccl, cdd, xs, ccs, file, tf, rfl, lk, hcd, lcd, hxs, hfile, lcc, _⟩ := T.ex
  have KX : K.In s.heap := e0.mod.kin.keeps fun b o e => (e0.bs b o e).1
  have lim : s.heap.NoLimit := e0.mod.nolimit.keeps fun b o e => (e0.bs b o e).1
  have hl := len _ _ _ _ hsp
  refine PySem.ks_codeAny_call_defAt hr.depth (KX _ _ lk) rfl lim (PySem.W.codeRec_of KX hcd) rfl hbd S.nocell (fun ⟨n, v⟩ hy => S.loc n (List.of_mem_zip hy).1) (fun h₀ hns hk => ?_) S.co S.gen S.kind
  obtain ⟨a, ws, ta, tr, rfl, ea, hse, hpl, hA, hR, hq⟩ := hb (PySem.W.ksEnv qual scope s.heap.objs.size f (.ref cda) cc) A outer s H (fun e s' => wpAny (model P w) (A.deeper (PySem.W.ksEnv qual scope s.heap.objs.size f (.ref cda) cc)) (leaving (PySem.W.ksEnv qual scope s.heap.objs.size f (.ref cda) cc) e) (fun _ s'' => CX outer H s E e s'') (fun e' s'' => CX outer H s E e' s'') s') _ Q E rfl (fun _ _ => rfl) hsp
  have I : L2.Inv (cxX P w K mg base ("self" :: N0) (PySem.W.ksEnv qual scope s.heap.objs.size f (.ref cda) cc) A outer s H (fun e s' => wpAny (model P w) (A.deeper (PySem.W.ksEnv qual scope s.heap.objs.size f (.ref cda) cc)) (leaving (PySem.W.ksEnv qual scope s.heap.objs.size f (.ref cda) cc) e) (fun _ s'' => CX outer H s E e s'') (fun e' s'' => CX outer H s E e' s'') s'))
      [] (start ("self" :: N0) (.ref a :: ws)) H { s with heap := h₀, toks := s.toks + ((("self" : Str) :: N0).zip us).length } := by
    have ckc : ∀ {x c}, ([("__class__", cc)] : List (Str × Addr)).lookup x = some c → x = "__class__" ∧ c = cc := fun {x c} z => by
      rw [List.lookup_cons] at z
      split at z
      · rename_i y; cases z; exact ⟨eq_of_beq y, rfl⟩
      · cases z
    have hcc := KX _ _ lcc
    refine ⟨⟨e0.mod, S.kind, rfl, rfl, Nat.le_refl _, fun y z c h1 h2 => ?_, fun y hy => ?_, fun y c h _ => Bool.noConfusion h, fun _ => hr.hd, Around.frames_deeper e0.frames, .inr ⟨rfl, rfl⟩, fun b z => absurd z List.not_mem_nil, e0.bs, e0.bsz, fun b _ _ z => absurd z List.not_mem_nil, fun b z => absurd z List.not_mem_nil, e0.funs, e0.frf⟩,
      rfl, e0.bare, Un.kept hk, ⟨_, hns, fun i y v h1 h2 h3 => ?_⟩, fun y c h => ?_, e0.hok.fresh (Nat.le_refl _), fun y c h => ?_, fun p hp => absurd hp List.not_mem_nil, e0.hok.kept hk, ?_⟩
    · exact (ckc h1).1.trans (ckc h2).1.symm
    · rcases hy with hy | hy
      · exact absurd rfl (S.nocell _ (PySem.mem_of_lookup hy))
      · rw [S.free y hy]; exact ⟨cc, rfl⟩
    · have hi : i < (V.ref a :: ws).length := by
        unfold L2.start at h2
        by_cases hi : i < (V.ref a :: ws).length
        · exact hi
        · rw [List.getElem?_append_right (by simpa using hi), List.getElem?_replicate] at h2
          split at h2 <;> cases h2
      have ha : (V.ref a :: ws)[i]? = some v := by
        unfold L2.start at h2
        rw [List.getElem?_append_left (by simpa using hi), List.getElem?_map] at h2
        cases e : (V.ref a :: ws)[i]? with
        | none => rw [e] at h2; cases h2
        | some a => rw [e] at h2; cases h2; rfl
      obtain ⟨u, hu, rv⟩ := r.get ha
      exact ⟨u, rv, .inl ⟨S.loc y (List.mem_of_getElem? h1), lookup_rev S.nd h1 hu⟩⟩
    · rw [(ckc h).2]; exact ⟨_, _, hk _ _ hcc, rfl⟩
    · rw [(ckc h).2]
      exact (e0.bs cc _ (e0.mod.kin _ _ lcc)).2
    · unfold L2.start
      show _ = (("self" : Str) :: N0).length
      rw [List.length_append, List.length_map, List.length_replicate, hl]
      simp
  have X1 : K.In h₀ := KX.keeps hk
  obtain ⟨nm, q, NN, bs, bm, sn, sub, ab, col, dd, k0, k1, k2, k3, k5, hC, hbm⟩ := T.O.cls
  have hcl : PySem.W.clsIn K C = some { name := nm, bases := bs, mro := .ref C :: bm, ns := NN, qualname := q, hasDict := true, slotNames := sn, subclasses := sub, abstract := ab, collection := col, hasDel := false } := by unfold PySem.W.clsIn; rw [hC] <;> rfl
  obtain ⟨t1, ho⟩ := exo_at I.hok ea
  have I0 : PySem.W.InstAt h₀ a _ C none := ⟨ho, rfl, rfl, trivial⟩
  obtain ⟨u0, hu0, ru0⟩ := r.get (i := 0) rfl
  obtain rfl : u0 = Value.ref a := ru0
  show _root_.PySem.wpAt (model P w) (A.deeper (PySem.W.ksEnv qual scope s.heap.objs.size f (.ref cda) cc)) (.func _ (PySem.W.ksEnv qual scope s.heap.objs.size f (.ref cda) cc)) (execs _ (PySem.W.ksEnv qual scope s.heap.objs.size f (.ref cda) cc)) _ _ _
  obtain ⟨hi1, hi2, pl, hi3⟩ := hi f cda cc qual s.heap.objs.size
  refine PySem.ks_wpAt_execs_cons (PySem.ks_wpAt_Expr_any (PySem.ks_wpAt_MethodCall (pl := pl) ?_ hi3) hi1 hi2)
  refine PySem.ks_wpAt_super_base (env := PySem.W.ksEnv qual scope s.heap.objs.size f (.ref cda) cc) S.sup S.cls (by decide) rfl (X1 _ _ lk) rfl hp rfl (X1 _ _ lcd) rfl hxs hfile T.top ?_
  obtain ⟨mb, hb1, hb2⟩ := I.mod.blt
  refine PySem.W.ks_loadName_global S.kind S.sup (PySem.Calls.loadGlobal_builtin (env := PySem.W.ksEnv qual scope s.heap.objs.size f (.ref cda) cc) (I.mod.glob.keeps I.bk) (PySem.W.mg_none_of e0.mod.kin e0.mod.glob T.sup) (hb1.keeps I.bk) ((hb2 _ (by decide +kernel)).trans PyProof.Rows.Boot.«super») ⟨rfl, ?_⟩)
  refine wpAny_loadName_free S.kind S.cls rfl ⟨_, X1 _ _ lcc, rfl⟩ ?_
  rw [har]
  refine wpAny_loadName_local S.kind (S.loc _ (List.mem_cons_self ..)) hns (lookup_rev (i := 0) S.nd rfl hu0) ?_
  refine PySem.ks_wpAny_isType_cls (X1 _ _ hC) rfl ⟨rfl, ?_⟩
  refine PySem.ks_wpAny_call_super (X1 _ _ hC) rfl I0.at_ I0.cls (fun c e => by cases e) (PySem.W.looks_mroIn X1 T.mr) (fun h1 e1 kk1 => ?_)
  have X2 : K.In h1 := X1.keeps kk1
  have I2 := I.kept (h' := h1) (t' := s.toks + ((("self" : Str) :: N0).zip us).length) kk1
  obtain ⟨t2, ho2⟩ := exo_at I2.hok ea
  have J0 : PySem.W.InstAt h1 a _ C none := ⟨ho2, rfl, rfl, trivial⟩
  have hsu := T.su
  unfold PySem.W.ks_superIn at hsu
  rw [hcl] at hsu
  refine PySem.W.kxs_getMethod PySem.W.kxs_ValueError e1 (PySem.W.looks_opaque X2 T.tp) (l₀ := .ref C :: bm) ?_ rfl X2 hsu (J0.type.andThen (PySem.W.looks_subIn X2 T.ve)) (PySem.W.ks_ne X2 J0 hcl) (by decide) ?_
  · exact fun A Q E s k q => wpAny_bind ((PySem.W.looks_clsIn X2 hcl) A _ E s k (wpAny_pure q))
  have I3 := I2.kept (h' := h1.push (PySem.W.kxs_mw "ValueError.__init__" a)) (t' := s.toks + ((("self" : Str) :: N0).zip us).length + 1) (fun b o e => Heap.get?_push_of_some _ e)
  have hn2 : H h1.objs.size = none := I2.hok.fresh (Nat.le_refl _)
  have hg3 : (h1.push (PySem.W.kxs_mw "ValueError.__init__" a)).get? h1.objs.size = some (PySem.W.kxs_mw "ValueError.__init__" a) := Heap.get?_push_at rfl rfl
  have I4 := I3.pins_of (pins' := [(h1.objs.size, PySem.W.kxs_mw "ValueError.__init__" a)]) fun p hp => by
    rw [List.mem_singleton] at hp
    subst hp
    exact ⟨hg3, hn2, Nat.ne_of_gt I2.lt, I2.nofs (Nat.le_refl _), fun v z => by cases z⟩
  refine PySem.W.kxs_callWith (i := "ValueError.__init__") (x := a) hpl ?_
  have q1 := hA.run p3 _ _ _ _ _ I4 hq
  have ev : wpAny (model P w) (A.deeper (PySem.W.ksEnv qual scope s.heap.objs.size f (.ref cda) cc)) (spliced (backTo p3 (starEach (e :: es) (PySem.W.ksEnv qual scope s.heap.objs.size f (.ref cda) cc)))) _ _ _ := q1
  rw [hse] at ev ⊢
  refine PySem.Calls.evalArgs_plain (thn ev fun vs5 s5 ⟨zs, H5, I5, r5, hz5, eH5, q5⟩ => ?_)
  subst eH5
  have hp5 := (I5.pin (h1.objs.size, PySem.W.kxs_mw "ValueError.__init__" a) (List.mem_append_right _ (List.mem_singleton.mpr rfl))).1
  obtain ⟨t5, ho5⟩ := exo_at I5.hok ea
  refine ⟨hp5, ?_⟩
  obtain ⟨hp6, g6, d6, tk6, os6⟩ := s5
  refine call_mw (I5.kIn _ _ hC) ho5 hp5 (by show vs5.length ≤ sizeLine; rw [← Paired.length r5, sizeLine_eq]; omega) fun h' t6 kk6 hx6 => ?_
  have J := (I5.pins_of (pins' := []) fun p hp => absurd hp List.not_mem_nil).write (t' := tk6) (x := a) (e := a) (o := exo a C none) (by rw [ea]; exact True.intro) (.inl rfl) kk6 ⟨_, hx6⟩ (exo_ok hx6)
  have eu : upd H5 a (exo a C none) = H5 := by
    funext b
    by_cases hb : b = a
    · rw [hb, upd_same, ea]
    · rw [upd_ne hb]
  rw [eu] at J
  refine wpAt_of_wpAny ?_
  have hrun := hR.run [] _ _ _ _ J q5
  refine wpAny_mono hrun (fun fl s' hs => ?_) fun e s' hs => hs
  cases fl with
  | ret u =>
    obtain ⟨v, σ', H', J, rv, q⟩ := hs
    exact ⟨v, H', J.os, J.bare, J.base, J.hok, rv, q⟩
  | next =>
    obtain ⟨σ', H', J, q⟩ := hs
    exact ⟨V.non, H', J.os, J.bare, J.base, J.hok, rfl, q⟩
  | brk =>
    obtain ⟨_, _, _, q⟩ := hs
    exact False.elim q
  | cont =>
    obtain ⟨_, _, _, q⟩ := hs
    exact False.elim q
/-- __init__(self, x=None): super().__init__(x), then self.x = x -/
abbrev xb1 (x : Str) (p0 p1 p2 p3 p4 p5 p6 p7 p8 p9 : Pos) : List Stmt := [.Expr (.Call (.Attribute (.Call (.Name "super" p0) [] [] p1) "__init__" p2) [.Name x p5] [] p3) p4, .Assign [.Attribute (.Name "self" p6) x p7] (.Name x p8) p9]
/-- .. of two -/
abbrev xb2 (x y : Str) (p0 p1 p2 p3 p4 p5 p6 p7 p8 p9 p10 p11 p12 p13 p14 : Pos) : List Stmt := [.Expr (.Call (.Attribute (.Call (.Name "super" p0) [] [] p1) "__init__" p2) [.Name x p5, .Name y p10] [] p3) p4, .Assign [.Attribute (.Name "self" p6) x p7] (.Name x p8) p9, .Assign [.Attribute (.Name "self" p11) y p12] (.Name y p13) p14]
def sp1 (C : Addr) (x : Str) : Sp := fun vs H Q E => ∃ a y, vs = [.ref a, y] ∧ H a = some (exo a C none) ∧ ∀ dx, H dx = none → dx ≠ a → Q .non (upd (upd H dx (exd dx [(x, y)])) a (exo a C (some dx)))
theorem fn_x1 {CX : CXT} {P : Program} {w : World} {K : PySem.W.Frag} {mg : Str → Option Value} {base : Heap} {k : Nat} {C f : Addr} {fd : FuncData} {params : Arguments} {scope : Scope} {dvs : List V} {x : Str} {p0 p1 p2 p3 p4 p5 p6 p7 p8 p9 : Pos} {ar : Arg}
    (T : XIni P K C f fd params (xb1 x p0 p1 p2 p3 p4 p5 p6 p7 p8 p9) scope dvs) (S : XScope ["self", x] scope) (hno : PySem.W.findIn K (.ref C) x = some none) (hdb : (x == ("__debug__" : Str)) = false) (hcd : (x == ("__classdict__" : Str)) = false) (hp : (params.posonlyargs ++ params.args).head? = some ar) (har : ar.arg = "self") (hi : SupOk scope (.Name x p5) [] p0 p1 p2 p3 p4) :
    FnOk P w K mg base CX (k + 1) f fd ["self", x] (sp1 C x) := by
  refine fn_x T S hp har (fun vs H Q E ⟨a, y, e, _⟩ => by rw [e]; rfl) (fun env A outer s H xe vs Q E he hk ⟨a, y, e, ea, q⟩ => ?_) hi
  subst e
  have vS : Vis env.scope ("self" : Str) := by rw [he]; exact .inl (S.loc _ (List.mem_cons_self ..))
  have vX : Vis env.scope x := by rw [he]; exact .inl (S.loc _ (List.mem_cons_of_mem _ (List.mem_cons_self ..)))
  have hX : ∀ p, PE (cxX P w K mg base ["self", x] env A outer s H xe) (.Name x p) _ := fun p => pe_var (i := 1) rfl vX hdb hcd
  have hS : ∀ p, PE (cxX P w K mg base ["self", x] env A outer s H xe) (.Name "self" p) _ := fun p => pe_var (i := 0) rfl vS (by decide) (by decide)
  refine ⟨a, [y], _, _, rfl, ea, rfl, rfl, pa_cons (hX _) pa_nil rfl, pss_cons (ps_ost (hS _) (hX _) rfl) pss_nil, ?_⟩
  refine ⟨y, rfl, ?_, rfl, y, rfl, .ref a, rfl, a, C, rfl, T.O, hno, .inl ⟨ea, fun dx h1 h2 => q dx h1 h2⟩⟩
  simp
def sp2 (C : Addr) (x1 x2 : Str) : Sp := fun vs H Q E => ∃ a y1 y2, vs = [.ref a, y1, y2] ∧ H a = some (exo a C none) ∧ ∀ dx, H dx = none → dx ≠ a → Q .non (upd (upd H dx (exd dx [(x2, y2), (x1, y1)])) a (exo a C (some dx)))
theorem fn_x2 {CX : CXT} {P : Program} {w : World} {K : PySem.W.Frag} {mg : Str → Option Value} {base : Heap} {k : Nat} {C f : Addr} {fd : FuncData} {params : Arguments} {scope : Scope} {dvs : List V} {x1 x2 : Str} {p0 p1 p2 p3 p4 p5 p6 p7 p8 p9 p10 p11 p12 p13 p14 : Pos} {ar : Arg}
    (T : XIni P K C f fd params (xb2 x1 x2 p0 p1 p2 p3 p4 p5 p6 p7 p8 p9 p10 p11 p12 p13 p14) scope dvs) (S : XScope ["self", x1, x2] scope) (hno1 : PySem.W.findIn K (.ref C) x1 = some none) (hno2 : PySem.W.findIn K (.ref C) x2 = some none)
    (hdb1 : (x1 == ("__debug__" : Str)) = false) (hcd1 : (x1 == ("__classdict__" : Str)) = false) (hdb2 : (x2 == ("__debug__" : Str)) = false) (hcd2 : (x2 == ("__classdict__" : Str)) = false) (hp : (params.posonlyargs ++ params.args).head? = some ar) (har : ar.arg = "self") (hi : SupOk scope (.Name x1 p5) [.Name x2 p10] p0 p1 p2 p3 p4) :
    FnOk P w K mg base CX (k + 1) f fd ["self", x1, x2] (sp2 C x1 x2) := by
  refine fn_x T S hp har (fun vs H Q E ⟨a, y1, y2, e, _⟩ => by rw [e]; rfl) (fun env A outer s H xe vs Q E he hk ⟨a, y1, y2, e, ea, q⟩ => ?_) hi
  subst e
  have vS : Vis env.scope ("self" : Str) := by rw [he]; exact .inl (S.loc _ (List.mem_cons_self ..))
  have v1 : Vis env.scope x1 := by rw [he]; exact .inl (S.loc _ (List.mem_cons_of_mem _ (List.mem_cons_self ..)))
  have v2 : Vis env.scope x2 := by rw [he]; exact .inl (S.loc _ (List.mem_cons_of_mem _ (List.mem_cons_of_mem _ (List.mem_cons_self ..))))
  have h1 : ∀ p, PE (cxX P w K mg base ["self", x1, x2] env A outer s H xe) (.Name x1 p) _ := fun p => pe_var (i := 1) rfl v1 hdb1 hcd1
  have h2 : ∀ p, PE (cxX P w K mg base ["self", x1, x2] env A outer s H xe) (.Name x2 p) _ := fun p => pe_var (i := 2) rfl v2 hdb2 hcd2
  have hS : ∀ p, PE (cxX P w K mg base ["self", x1, x2] env A outer s H xe) (.Name "self" p) _ := fun p => pe_var (i := 0) rfl vS (by decide) (by decide)
  refine ⟨a, [y1, y2], _, _, rfl, ea, rfl, rfl, pa_cons (h1 _) (pa_cons (h2 _) pa_nil rfl) rfl, pss_cons (ps_ost (hS _) (h1 _) rfl) (pss_cons (ps_ost (hS _) (h2 _) rfl) pss_nil), ?_⟩
  refine ⟨y1, rfl, y2, rfl, ?_, rfl, y1, rfl, .ref a, rfl, a, C, rfl, T.O, hno1, .inl ⟨ea, fun dx n1 n2 => ?_⟩⟩
  · simp
  refine ⟨y2, rfl, .ref a, rfl, a, C, rfl, T.O, hno2, .inr ⟨dx, [(x1, y1)], upd_same, by rw [upd_ne n2, upd_same], by simp, ?_⟩⟩
  have e : upd (upd (upd H dx (exd dx [(x1, y1)])) a (exo a C (some dx))) dx (exd dx [(x2, y2), (x1, y1)]) = upd (upd H dx (exd dx [(x2, y2), (x1, y1)])) a (exo a C (some dx)) := by
    funext b
    by_cases hb : b = dx
    · subst hb; rw [upd_same, upd_ne n2, upd_same]
    · rw [upd_ne hb]
      by_cases hba : b = a
      · subst hba; rw [upd_same, upd_same]
      · rw [upd_ne hba, upd_ne hba, upd_ne hb, upd_ne hb]
  rw [e]
  exact q dx n1 n2
end DX
set_option Elab.async false
set_option linter.all false
set_option maxRecDepth 100000
set_option maxHeartbeats 4000000
/-! DX2: several clauses 'except C as e'; raise and try of the deep layer -/
namespace DX
open PySem PySem.Spec L2 PyProof.Rows
abbrev Sut := Addr → Value → Option Addr → TS
/-- the ends of a suite: the clause's name goes -/
def outE (i : Nat) (D : Ends) : Ends := { nx := fun σ H => D.nx (σ.set i none) H, rt := D.rt, bk := fun σ H => D.bk (σ.set i none) H, ct := fun σ H => D.ct (σ.set i none) H }
def wAsm (K : PySem.W.Frag) (i : Nat) (Wo : WX) (D : Ends) : List (Value × Sut) → WX
  | [] => Wo
  | (c, ts) :: r => fun cls d σ H => ∃ b, PySem.W.exmOne K cls c = some b ∧ (b = true → ∀ a, H a = none → ts a cls d (outE i D) (σ.set i (some (.ref a))) H) ∧ (b = false → wAsm K i Wo D r cls d σ H)
inductive HdsA (X : Cx) (n : Str) : List ExceptHandler → List (Value × Sut) → Prop
  | nil : HdsA X n [] []
  | cons {x : Str} {c : Value} {ts : Sut} {b0 : Stmt} {suite : List Stmt} {np pos' : Pos} {hds : List ExceptHandler} {l : List (Value × Sut)} (hc : Names X x c)
      (hsu : ∀ (a : Addr) (oe : Obj) (cls : Value) (d : Option Addr) (pn : List (Addr × Obj)), Zc cls d oe → (∃ vs, oe.data = .fields vs) → PSs (X.suite a ((a, oe) :: pn)) (b0 :: suite) (ts a cls d)) (r : HdsA X n hds l) :
      HdsA X n (.ExceptHandler (some (.Name x np)) (some n) (b0 :: suite) pos' :: hds) ((c, ts) :: l)
theorem ps_try_asm {X : Cx} {n : Str} {i : Nat} {body : List Stmt} {h0 : ExceptHandler} {hds : List ExceptHandler} {l : List (Value × Sut)} {pos : Pos} {tb : WX → TS} {Wo : WX}
    (hs : X.stack = X.env :: X.outer) (hf : X.env.frame = some X.env.locals) (hN : X.N.Nodup) (hi : X.N[i]? = some n) (hln : X.env.kindOf n = some .local) (tk : Takes X Wo)
    (hb : ∀ (W : WX) (pn : List (Addr × Obj)) (xe : Value → Shared → Prop), Takes (X.tr pn xe) W → PassesOwn (model X.prog X.w) X.A X.env xe → PSs (X.tr pn xe) body (tb W))
    (hh : HdsA X n (h0 :: hds) l) : PS X (.Try body (h0 :: hds) [] [] pos) (fun D σ H => tb (wAsm X.K i Wo D l) D σ H) := by
  refine ⟨fun pins s σ H D I h => wpAny_Try_except ?_⟩
  have ok := I.ok
  have hfr : X.A.frames = some (X.env :: X.outer) := by rw [ok.frames, hs]
  have hloc : Loc X.env.scope n := .inl hln
  refine wpAny_mono ((hb (wAsm X.K i Wo D l) (X.pn ++ pins) (fun e z1 => wpAny (model X.prog X.w) X.A (noteFrame e X.env) (fun _ z2 => wpAny (model X.prog X.w) X.A (setFlight e none) (fun _ z3 =>
    wpAny (model X.prog X.w) X.A (handleBy e X.env (h0 :: hds)) (SP X pins D) X.xe z3) X.xe z2) X.xe z1) (fun u z xx => ?_) PassesOwn.looking).run [] s σ H D (I.toTry _) h) (fun f z1 hsp => ?_) (fun e z1 he => he)
  · obtain ⟨a, B, sI, pins', σ', H', cls, d, rfl, J', nb, up, sky, na, os, ag, w⟩ := xx
    have J : L2.Inv X pins σ' H' sI := J'.ofTry ok
    have sky' : Sky B (X.env :: X.outer) a (Zc cls d) X.env.locals z.heap := by rw [← hs]; exact sky
    show wpAny (model X.prog X.w) X.A (noteFrame (.ref a) X.env) _ _ _
    refine Sky.land Zc.steady hfr hf sky' fun h3 fl3 up3 => ?_
    have J3 : L2.Inv X pins σ' H' { z with heap := h3 } := J.landed nb fl3.1 (up.trans up3) os ag
    obtain ⟨oe3, vs3, he3, hz3, hd3⟩ := fl3.there
    have nfr : a ∉ frs (X.env :: X.outer) := fun hm => by
      obtain ⟨_, o', e', hnf⟩ := fl3.2.2.1.mem hm
      rw [he3] at e'; cases e'
      exact hnf _ hd3
    have nL : a ≠ X.env.locals := fun z => nfr (List.mem_filterMap.mpr ⟨X.env, List.mem_cons_self, by rw [hf, z]⟩)
    have nF : a ∉ X.fs := fun hm => by
      obtain ⟨e, he, q⟩ := List.mem_filterMap.mp hm
      exact nfr (List.mem_filterMap.mpr ⟨e, List.mem_cons_of_mem _ he, q⟩)
    have S3 := J3.suite he3 hd3 na nL nF
    have go : ∀ {hds' : List ExceptHandler} {l' : List (Value × Sut)}, HdsA X n hds' l' → wAsm X.K i Wo D l' cls d σ' H' → wpAny (model X.prog X.w) X.A (handleBy (.ref a) X.env hds') (SP X pins D) X.xe { z with heap := h3 } := by
      intro hds' l' hk
      induction hk with
      | nil =>
        intro w
        refine wpAny_handleBy_nil ?_
        obtain ⟨k1, k2, k3, oe, vs, T, oT, ts', he, hz, hd, h1, hr⟩ := id fl3
        unfold PySem.passOn
        refine wpAny_bind (wpAny_field he hd h1 ?_)
        rw [if_neg (show ¬ ((Value.ref T == Value.none) = true) from by simp)]
        have fin : wpAny (model X.prog X.w) X.A (setFlight (.ref a) X.env.frame) (fun _ z4 => wpAny (model X.prog X.w) X.A (throw (.ref a) : Sem Flow) (SP X pins D) X.xe z4) X.xe { z with heap := h3 } := by
          rw [hf]
          refine HandSPX.setFlight_upZ fl3 fun h4 hh4 up4 => wpAny_throw (tk _ _ ⟨a, B, sI, pins, σ', H', cls, d, rfl, J, nb, (up.trans up3).trans up4, .inr (.inr ?_), na, os, ag, w⟩)
          rw [hs]; exact hh4
        first
          | exact wpAny_bind (wpAny_pure (wpAny_bind fin))
          | exact wpAny_bind fin
      | @cons x c ts b0 suite np pos' hds2 l2 hc hsu r ih =>
        intro w
        obtain ⟨b, hb1, hyes, hno⟩ := w
        refine wpAny_handleBy_cons (codeAny_handlers_test ?_) (by intro q; cases q)
        have LT : PySem.W.Looks (model X.prog X.w) h3 (typeOf (.ref a)) cls := fun A Q E y k q => wpAny_typeOf_ref (k _ _ he3) (by rw [hz3.1]; exact q)
        have LM := PySem.W.exm_one (M := model X.prog X.w) (J3.kIn) LT hb1
        have test : ∀ {Q : Value → Shared → Prop} {E : Value → Shared → Prop}, Q c { z with heap := h3 } → wpAny (model X.prog X.w) (X.A.mark (some (.ref a))) (eval (.Name x np) X.env) Q E { z with heap := h3 } := fun {Q E} q => by
          obtain ⟨hg, hdbg, hm | ⟨hm, hv, hnn⟩⟩ := hc
          · exact ld_glob (X := X.suite a ((a, oe3) :: (X.pn ++ pins))) S3 hg hm q hdbg
          · exact ld_blt (X := X.suite a ((a, oe3) :: (X.pn ++ pins))) S3 hg hm hv q hnn hdbg
        refine test (LM.here ?_)
        cases b with
        | true =>
          refine codeAny_handlers_suite_as (HandSPX.lands_againZ fl3 fun h4 fl4 up4 => ?_)
          have J4 : L2.Inv X pins σ' H' { z with heap := h4 } := J.landed nb fl4.1 ((up.trans up3).trans up4) os ag
          obtain ⟨oe4, vs4, he4, hz4, hd4⟩ := fl4.there
          have S4 := J4.suite he4 hd4 na nL nF
          refine store_ok (X := X.suite a ((a, oe4) :: (X.pn ++ pins))) (v := .ref a) S4 hN hi hloc rfl (fun z5 S5 => ?_) (.inr hln)
          refine wpAny_mono ((hsu a oe4 cls d (X.pn ++ pins) hz4 ⟨_, hd4⟩).run [] z5 _ H' _ S5 (hyes rfl a na)) (fun f z6 hsp => ?_) (fun _ _ z => False.elim z)
          have bye : ∀ {σ6 : L2.St} {H6 : Hp} {Q : Shared → Prop}, L2.Inv (X.suite a ((a, oe4) :: (X.pn ++ pins))) [] σ6 H6 z6 → (∀ z7, L2.Inv X pins (σ6.set i none) H6 z7 → Q z7) →
              wpAny (model X.prog X.w) X.A (do bindName X.env n .none; unbindBehindTheSuite X.env n pos') (fun _ z7 => Q z7) X.xe z6 := fun {σ6 H6 Q} S6 hq => gone_ok (S6.unsuite ok) hN hi hln hq
          cases f with
          | ret u => obtain ⟨v6, σ6, H6, S6, r6, q6⟩ := hsp; exact bye S6 fun z7 J7 => ⟨_, _, _, J7, r6, q6⟩
          | next => obtain ⟨σ6, H6, S6, q6⟩ := hsp; exact bye S6 fun z7 J7 => ⟨_, _, J7, q6⟩
          | brk => obtain ⟨σ6, H6, S6, q6⟩ := hsp; exact bye S6 fun z7 J7 => ⟨_, _, J7, q6⟩
          | cont => obtain ⟨σ6, H6, S6, q6⟩ := hsp; exact bye S6 fun z7 J7 => ⟨_, _, J7, q6⟩
        | false =>
          show wpAny _ X.A (handleBy (.ref a) X.env hds2) _ _ _
          exact ih (hno rfl)
    exact go hh w
  · cases f with
    | ret u => obtain ⟨v, σ', H', J', r, q⟩ := hsp; exact ⟨v, σ', H', J'.ofTry ok, r, q⟩
    | next => obtain ⟨σ', H', J', q⟩ := hsp; exact wpAny_execs_nil ⟨σ', H', J'.ofTry ok, q⟩
    | brk => obtain ⟨σ', H', J', q⟩ := hsp; exact ⟨σ', H', J'.ofTry ok, q⟩
    | cont => obtain ⟨σ', H', J', q⟩ := hsp; exact ⟨σ', H', J'.ofTry ok, q⟩
end DX
namespace DL
open PySem PySem.Spec L2 DX
/-! ### raise -/
/-- x(e, ..) makes an exception of class C with the fields g -/
structure DExc (P : Program) (w : World) (K : PySem.W.Frag) (mg : Str → Option Value) (base : Heap) (k : Nat) (x : Str) (C : Addr) (g : List D → Option (List (Str × D))) : Prop where
  gl : mg x = some (.ref C)
  O : OexC K C
  ex : ∃ (f : Addr) (fd : FuncData) (ps : List Str) (sp : Sp), PySem.W.findIn K (.ref C) "__init__" = some (some (.ref f)) ∧ PySem.W.typeIn K (.ref f) = some (.type "function") ∧ FnOk P w K mg base (L2.CX P w) k f fd ps sp ∧ Binds K fd ps [] ∧
    ∀ ds fs, g ds = some fs → ds.length ≤ 1000 ∧ ∀ F vs, RepL K F ds vs → ∃ us, RepF K F fs us ∧ ∀ a H Q E, H a = some (exo a C none) → (∀ dx, H dx = none → dx ≠ a → Q .non (upd (upd H dx (exd dx us)) a (exo a C (some dx)))) → sp (.ref a :: vs) H Q E
section
variable {X : Cx} {F0 : Hp} {W : DW} {pos p apos : Pos} {k : Nat} {e o : Expr} {es : List Expr} {t : DTA} {x : Str} {C : Addr} {g : List D → Option (List (Str × D))}
@[simp] def dRaise (C : Addr) (g : List D → Option (List (Str × D))) (W : DW) (t : DTA) : DTS := fun _ δ M => t δ M fun ds M1 => ∃ fs, g ds = some fs ∧ W C fs δ M1
theorem ds_raise (c : Ctx X F0 W) (dc : DExc X.prog X.w X.K X.mg X.base k x C g) (hr : Room (k + 1) X.A) (ha : DPA X F0 (e :: es) t) (hg : Gl X x := by rfl) (hdb : (x == ("__debug__" : Str)) = false := by decide)
    (he : starEach (e :: es) X.env = (false, eval e X.env) :: starEach es X.env := by rfl) (hpl : (backTo pos (starEach es X.env)).any (·.1) = false := by rfl) :
    DPS X F0 (.Raise (some (.Call (.Name x p) (e :: es) [] pos)) none apos) (dRaise C g W t) := by
  obtain ⟨f, fd, ps, sp, iC, tI, F1, hb, lk⟩ := dc.ex
  refine PS.imp (ps_raise c.calm c.tk (pmk_oex dc.O iC tI F1 hr hb .nil (passes_call c.tk fun _ _ _ _ h => h.elim) hg dc.gl ha hdb he hpl)) fun E σ H ⟨F, δ, M, DD, e0, r, s, h, m⟩ => ?_
  refine ⟨F, δ, M, _, e0, r, s, h, fun ds M1 F1 H1 vs q e1 r1 rs => ?_⟩
  obtain ⟨fs, eg, q⟩ := q
  obtain ⟨hl, lk⟩ := lk ds fs eg
  refine ⟨by rw [← rs.length]; exact hl, fun a na => ?_⟩
  obtain ⟨us, ru, hsp⟩ := lk F1 vs rs
  rw [List.append_nil]
  refine hsp a _ _ _ upd_same fun dx n1 n2 => ⟨rfl, dx, us, upd_same, by rw [upd_ne n2, upd_same], by rw [upd_ne n2] at n1; exact n1, ?_⟩
  rw [upd_ne n2] at n1
  have eH : upd (del (upd (upd (upd H1 a (exo a C none)) dx (exd dx us)) a (exo a C (some dx))) a) dx (.xd us) = upd H1 dx (.xd us) := by
    funext b
    by_cases hbd : b = dx
    · subst hbd; rw [upd_same, upd_same]
    · rw [upd_ne hbd, upd_ne hbd]
      by_cases hba : b = a
      · subst hba; rw [del_same, na]
      · rw [del_ne hba, upd_ne hba, upd_ne hbd, upd_ne hba]
  rw [eH]
  exact ⟨C, fs, δ, M1, F1, dx, us, rfl, rfl, e0.trans e1, r1.junk n1, s.mono e1, upd_same, ru, q⟩
end
/-! ### try -/
abbrev DSut := Addr → Addr → List (Str × D) → DTS
@[simp] def outD (i : Nat) (D : DEnds) : DEnds := { nx := fun δ M => D.nx (δ.set i none) M, rt := D.rt, bk := fun δ M => D.bk (δ.set i none) M, ct := fun δ M => D.ct (δ.set i none) M }
/-- the fields of an exception of class C may be read -/
def XfA (K : PySem.W.Frag) (C : Addr) (fs : List (Str × D)) (nf : List Str) : Prop := XfC K C ∧ ∀ f ∈ nf, (fs.lookup f).isSome = true ∧ PySem.W.findIn K (.ref C) f = some none
def wTry (K : PySem.W.Frag) (i : Nat) (W : DW) (D : DEnds) : List (Value × List Str × DSut) → DW
  | [] => W
  | (c, nf, ts) :: r => fun C fs δ M => ∃ b, PySem.W.exmOne K (.ref C) c = some b ∧ (b = true → XfA K C fs nf ∧ ∀ a, M a = none → ts a C fs (outD i D) (δ.set i (some (.ref a))) M) ∧ (b = false → wTry K i W D r C fs δ M)
/-- within a suite: the exception at a, of class C, with the fields fs -/
structure Sui (X : Cx) (F1 : Hp) (a : Addr) (oe : Obj) (C : Addr) (fs : List (Str × D)) (nf : List Str) : Prop where
  xf : XfA X.K C fs nf
  ex : ∃ dx vs, Zc (.ref C) (some dx) oe ∧ (∃ vs, oe.data = .fields vs) ∧ F1 dx = some (.xd vs) ∧ RepF X.K F1 fs vs
inductive DHds (X : Cx) (n : Str) : List ExceptHandler → List (Value × List Str × DSut) → Prop
  | nil : DHds X n [] []
  | cons {x : Str} {c : Value} {nf : List Str} {ts : DSut} {b0 : Stmt} {suite : List Stmt} {np pos' : Pos} {hds : List ExceptHandler} {l : List (Value × List Str × DSut)} (hc : Names X x c)
      (hsu : ∀ (F1 : Hp) (a : Addr) (oe : Obj) (C : Addr) (fs : List (Str × D)) (pn : List (Addr × Obj)), Sui X F1 a oe C fs nf → DPSs (X.suite a ((a, oe) :: pn)) F1 (b0 :: suite) (ts a C fs)) (r : DHds X n hds l) :
      DHds X n (.ExceptHandler (some (.Name x np)) (some n) (b0 :: suite) pos' :: hds) ((c, nf, ts) :: l)
theorem PSs.imp' {X : Cx} {e : List Stmt} {t t' : TS} (h : PSs X e t) (i : ∀ D σ H, t' D σ H → t D σ H) : PSs X e t' := ⟨fun pins s σ H D I q => h.run pins s σ H D I (i _ _ _ q)⟩
def lowSut (K : PySem.W.Frag) (nf : List Str) (ts : DSut) : Sut := fun a cls d E σ H => ∃ F1 C fs dx vs, cls = .ref C ∧ d = some dx ∧ F1 dx = some (.xd vs) ∧ RepF K F1 fs vs ∧ XfA K C fs nf ∧ liftS K F1 (ts a C fs) E σ H
theorem DHds.low {X : Cx} {n : Str} {hds : List ExceptHandler} {l : List (Value × List Str × DSut)} (h : DHds X n hds l) : HdsA X n hds (l.map fun q => (q.1, lowSut X.K q.2.1 q.2.2)) := by
  induction h with
  | nil => exact .nil
  | cons hc hsu r ih =>
    refine .cons hc (fun a oe cls d pn hz hf => ⟨fun pins s σ H E I q => ?_⟩) ih
    obtain ⟨F1, C, fs, dx, vs, rfl, rfl, hF, rf, hxf, q⟩ := q
    exact (hsu F1 a oe C fs pn ⟨hxf, dx, vs, hz, hf, hF, rf⟩).run pins s σ H E I q
theorem Slots.set' {K : PySem.W.Frag} {F : Hp} : ∀ {δ : DSt} {σ : St} {i : Nat} {d : D} {v : V}, Slots K F δ σ → Rep K F d v → Slots K F (δ.set i (some d)) (σ.set i (some v))
  | [], [], i, d, v, h, r => h
  | _ :: _, _ :: _, 0, d, v, .cons h1 h2, r => .cons r h2
  | _ :: _, _ :: _, i + 1, d, v, .cons h1 h2, r => .cons h1 (Slots.set' h2 r)
theorem Slots.unset {K : PySem.W.Frag} {F : Hp} : ∀ {δ : DSt} {σ : St} {i : Nat}, Slots K F δ σ → Slots K F (δ.set i none) (σ.set i none)
  | [], [], i, h => h
  | _ :: _, _ :: _, 0, .cons h1 h2 => .cons True.intro h2
  | _ :: _, _ :: _, i + 1, .cons h1 h2 => .cons h1 (Slots.unset h2)
theorem wTry_low {K : PySem.W.Frag} {i : Nat} {W : DW} {Wo : WX} {F0 F : Hp} {DD : DEnds} {E : Ends} (e0 : Same F0 F) (m : MeetsS K F DD E) (hw : ∀ cls d σ H, lowW K F0 W cls d σ H → Wo cls d σ H) {C : Addr} {fs : List (Str × D)} {δ : DSt} {M : DM} {F1 H : Hp} {dx : Addr} {vs : List (Str × V)} {σ : St}
    (e1 : Same F F1) (r : Rel K F1 M H) (s : Slots K F1 δ σ) (hx : H dx = some (.xd vs)) (rf : RepF K F1 fs vs) : ∀ {l : List (Value × List Str × DSut)}, wTry K i W DD l C fs δ M → wAsm K i Wo E (l.map fun q => (q.1, lowSut K q.2.1 q.2.2)) (.ref C) (some dx) σ H
  | [], h => hw _ _ _ _ ⟨C, fs, δ, M, F1, dx, vs, rfl, rfl, e0.trans e1, r, s, hx, rf, h⟩
  | (c, nf, ts) :: l, h => by
    obtain ⟨b, hb, hy, hn⟩ := h
    refine ⟨b, hb, fun eb a na => ?_, fun eb => wTry_low e0 m hw e1 r s hx rf (hn eb)⟩
    have hF1 : F1 dx = none ∨ F1 dx = some (.xd vs) := by
      cases z : F1 dx with
      | none => exact .inl rfl
      | some o =>
        have := r.sub dx o z
        rw [hx] at this; exact .inr this.symm
    have e2 : Same F1 (upd F1 dx (.xd vs)) := fun b o e => by
      by_cases hbd : b = dx
      · subst hbd
        rcases hF1 with z | z
        · rw [z] at e; cases e
        · rw [z] at e; cases e; exact upd_same
      · rw [upd_ne hbd]; exact e
    have r2 : Rel K (upd F1 dx (.xd vs)) M H := by
      refine ⟨fun b o e => ?_, fun p mo e => ?_⟩
      · by_cases hbd : b = dx
        · subst hbd; rw [upd_same] at e; cases e; exact hx
        · rw [upd_ne hbd] at e; exact r.sub b o e
      · obtain ⟨h1, o, h2, h3⟩ := r.mr p mo e
        have hpd : p ≠ dx := fun z => by
          subst z
          rw [hx] at h2; cases h2
          cases mo <;> unfold RepM at h3 <;> simp at h3
        exact ⟨by rw [upd_ne hpd]; exact h1, o, h2, h3.mono e2⟩
    obtain ⟨hxf, q⟩ := hy eb
    have q := q a (r.free na)
    refine ⟨upd F1 dx (.xd vs), C, fs, dx, vs, rfl, rfl, upd_same, rf.mono e2, hxf, upd F1 dx (.xd vs), _, M, outD i DD, Same.refl _, r2, Slots.set' (s.mono e2) (by unfold Rep; rfl), q, ?_⟩
    have m2 := m.mono (e1.trans e2)
    exact ⟨fun δ M F' σ H q e r s => m2.nx _ M F' _ H q e r s.unset, m2.rt, fun δ M F' σ H q e r s => m2.bk _ M F' _ H q e r s.unset, fun δ M F' σ H q e r s => m2.ct _ M F' _ H q e r s.unset⟩
@[simp] def dTry (K : PySem.W.Frag) (i : Nat) (W : DW) (l : List (Value × List Str × DSut)) (tb : DW → DTS) : DTS := fun D δ M => tb (wTry K i W D l) D δ M
theorem ds_try {X : Cx} {F0 : Hp} {W : DW} {n : Str} {body : List Stmt} {h0 : ExceptHandler} {hds : List ExceptHandler} {l : List (Value × List Str × DSut)} {pos : Pos} {tb : DW → DTS} (c : Ctx X F0 W) (i : Nat)
    (hb : ∀ (F1 : Hp) (W1 : DW) (pn : List (Addr × Obj)) (xe : Value → Shared → Prop), Ctx (X.tr pn xe) F1 W1 → DPSs (X.tr pn xe) F1 body (tb W1)) (hh : DHds X n (h0 :: hds) l)
    (hs : X.stack = X.env :: X.outer := by rfl) (hf : X.env.frame = some X.env.locals := by rfl) (hi : X.N[i]? = some n := by rfl) (hln : X.env.kindOf n = some .local := by rfl) : DPS X F0 (.Try body (h0 :: hds) [] [] pos) (dTry X.K i W l tb) := by
  refine PS.imp (ps_try_asm (Wo := lowW X.K F0 W) (tb := fun Wx E σ H => ∃ F1 W1, Same F0 F1 ∧ (∀ cls d σ H, lowW X.K F1 W1 cls d σ H → Wx cls d σ H) ∧ liftS X.K F1 (tb W1) E σ H) hs hf c.nd hi hln c.tk (fun Wx pn xe tk po => ⟨fun pins s σ H E I q => ?_⟩) hh.low) fun E σ H ⟨F, δ, M, DD, e0, r, s, h, m⟩ => ?_
  · obtain ⟨F1, W1, e1, hw, q⟩ := q
    exact (hb F1 W1 pn xe ⟨c.calm, tk.imp hw, po, c.nd⟩).run pins s σ H E I q
  · refine ⟨F, _, e0, fun cls d σ H ⟨C, fs, δ, M, F1, dx, vs, h1, h2, e1, r1, s1, hx, rf, hq⟩ => ?_, F, δ, M, DD, Same.refl F, r, s, h, m⟩
    subst h1 h2
    exact wTry_low e0 m (fun _ _ _ _ h => h) e1 r1 s1 hx rf hq
/-- e.f within a suite -/
@[simp] def dXf (a : Addr) (fs : List (Str × D)) (f : Str) (te : DTE) : DTE := fun δ M Q => te δ M fun d M1 => d = .ref a ∧ match fs.lookup f with | some y => Q y M1 | none => False
theorem dpe_xf {X : Cx} {F1 : Hp} {a C : Addr} {oe : Obj} {fs : List (Str × D)} {pn : List (Addr × Obj)} {e : Expr} {te : DTE} {f : Str} {pos : Pos} {nf : List Str} (S : Sui X F1 a oe C fs nf) (he : DPE (X.suite a ((a, oe) :: pn)) F1 e te)
    (hf : f ∈ nf := by simp) (hb : attributeBase e f X.env (eval e X.env) = eval e X.env := by rfl) : DPE (X.suite a ((a, oe) :: pn)) F1 (.Attribute e f pos) (dXf a fs f te) := by
  obtain ⟨dx, vs, hz, hz2, hF, rf⟩ := S.ex
  obtain ⟨y, hy⟩ := Option.isSome_iff_exists.mp (S.xf.2 f hf).1
  refine PE.imp (pe_xf S.xf.1 (S.xf.2 f hf).2 hz hz2 he hb) fun σ H Q ⟨F, δ, M, QD, e0, r, sl, h, m⟩ => ?_
  refine ⟨F, δ, M, _, e0, r, sl, h, fun d M1 F2 H1 v q e1 r1 rv => ?_⟩
  obtain ⟨rfl, q⟩ := q
  rw [hy] at q
  unfold Rep at rv
  subst rv
  obtain ⟨w, hw, rw'⟩ := (rf.look (f := f)).1 y hy
  exact ⟨rfl, rfl, dx, vs, w, rfl, r1.sub _ _ (e1 _ _ (e0 _ _ hF)), hw, m _ M1 F2 H1 _ q e1 r1 (rw'.mono (e0.trans e1))⟩
end DL
set_option Elab.async false
set_option linter.all false
set_option maxRecDepth 100000
/-! DL11: texts as sequences; text methods; lists changed in place -/
namespace DL
open PySem PySem.Spec L2 PyProof.Rows
section
variable {X : Cx} {F0 : Hp} {pos : Pos}
/-- the signs of a text, one text each -/
def signs (z : Str) : List Str := z.cps.toList.map fun c => ⟨#[c]⟩
theorem signs_length (z : Str) : (signs z).length = z.length := by simp [signs, Str.length]
theorem vals_signs {z : Str} {acc : Array Value} (h : ItemsOf (SignAt z) acc z.cps.size) : Vals ((signs z).map V.str) acc.toList := by
  have key : ∀ (cs : List Nat) (vs : List Value), cs.length = vs.length → (∀ (j : Nat) v, vs[j]? = some v → ∃ c u, cs[j]? = some c ∧ v = .str ⟨#[c]⟩ u) → Vals ((cs.map fun c => (⟨#[c]⟩ : Str)).map V.str) vs := by
    intro cs
    induction cs with
    | nil =>
      intro vs hl _
      cases vs with
      | nil => exact .nil
      | cons _ _ => simp at hl
    | cons c cs ih =>
      intro vs hl hv
      cases vs with
      | nil => simp at hl
      | cons v vs =>
        refine .cons ?_ (ih vs (by simpa using hl) fun j w hw => ?_)
        · obtain ⟨c', u, e1, e2⟩ := hv 0 v rfl
          cases e1
          exact ⟨u, e2⟩
        · obtain ⟨c', u, e1, e2⟩ := hv (j + 1) w (by simpa using hw)
          exact ⟨c', u, by simpa using e1, e2⟩
  refine key z.cps.toList acc.toList (by simp [h.1]) fun j v hv => ?_
  obtain ⟨c, u, e1, e2⟩ := h.2 j v (by simpa using hv)
  exact ⟨c, u, by simpa using e1, e2⟩
theorem rep_strs {K : PySem.W.Frag} {F : Hp} : ∀ l : List Str, RepL K F (l.map D.str) (l.map V.str)
  | [] => RepL.nil
  | x :: l => RepL.cons rep_str (rep_strs l)
/-- list(x), tuple(x), sorted(x) of a text -/
def dListS : DN := fun ds M Q => match ds with
  | [.str z] => z.length ≤ sizeLine ∧ Q (.lst ((signs z).map D.str)) M
  | _ => False
def dTupleS : DN := fun ds M Q => match ds with
  | [.str z] => z.length ≤ sizeLine ∧ Q (.tup ((signs z).map D.str)) M
  | _ => False
def dSortedS : DN := fun ds M Q => match ds with
  | [.str z] => z.length ≤ sizeLine ∧ ∀ ys : List Str, ys.Perm (signs z) → sortedS ys = true → Q (.lst (ys.map D.str)) M
  | _ => False
theorem cr_dlistS (hc : X.calm = true) : CallR X (.type "list") (lowN X.K F0 dListS) := by
  intro pins s σ H xs us Q I rv h
  obtain ⟨F, M, ds, QD, e0, r, rs, q, m⟩ := h
  unfold dListS at q
  split at q
  · rename_i z
    obtain ⟨v, rfl, h1⟩ := rep1 rs
    unfold Rep at h1; subst h1
    obtain ⟨u, rfl, ru⟩ := vals1 rv
    obtain ⟨t, rfl⟩ := ru
    refine call_list_str (I.ok.hd hc) z t (fun h' tk acc c hk ho ha => ?_) (by simpa [Str.length] using q.1)
    have hn : H s.heap.objs.size = none := I.hok.fresh (Nat.le_refl _)
    obtain ⟨s1, s2, s3⟩ := ice_lst r hn (rep_strs (signs z))
    refine ⟨.ref s.heap.objs.size, upd H s.heap.objs.size (.lst ((signs z).map V.str)), I.laid (t' := tk) hk (Nat.le_refl _) ⟨?_, acc.toList, c, vals_signs ha, by rw [Array.toArray_toList]; exact ho⟩, rfl, m _ M _ _ _ q.2 s1 s2 s3⟩
    rw [List.length_map, signs_length]; exact q.1
  · exact q.elim
theorem cr_dtupleS (hc : X.calm = true) : CallR X (.type "tuple") (lowN X.K F0 dTupleS) := by
  intro pins s σ H xs us Q I rv h
  obtain ⟨F, M, ds, QD, e0, r, rs, q, m⟩ := h
  unfold dTupleS at q
  split at q
  · rename_i z
    obtain ⟨v, rfl, h1⟩ := rep1 rs
    unfold Rep at h1; subst h1
    obtain ⟨u, rfl, ru⟩ := vals1 rv
    obtain ⟨t, rfl⟩ := ru
    refine call_tuple_str (I.ok.hd hc) z t (fun h' tk acc hk ha => ?_) (by simpa [Str.length] using q.1)
    have I1 : L2.Inv X pins σ H { s with heap := h', toks := tk } := I.kept hk
    have hn : H h'.objs.size = none := I1.hok.fresh (Nat.le_refl _)
    obtain ⟨s1, s2, s3⟩ := ice_tup r hn (rep_strs (signs z))
    refine ⟨.ref h'.objs.size, upd H h'.objs.size (.tup ((signs z).map V.str)), I1.laid (t' := tk) (fun b o e => Heap.get?_push_of_some _ e) (Nat.le_refl _) ⟨?_, acc.toList, vals_signs ha, ?_⟩, rfl, m _ M _ _ _ q.2 s1 s2 s3⟩
    · rw [List.length_map, signs_length]; exact q.1
    · rw [Array.toArray_toList]; exact IsTup.new _ _
  · exact q.elim
theorem cr_dsortedS (hc : X.calm = true) : CallR X (.builtin "sorted") (lowN X.K F0 dSortedS) := by
  intro pins s σ H xs us Q I rv h
  obtain ⟨F, M, ds, QD, e0, r, rs, q, m⟩ := h
  unfold dSortedS at q
  split at q
  · rename_i z
    obtain ⟨v, rfl, h1⟩ := rep1 rs
    unfold Rep at h1; subst h1
    obtain ⟨u, rfl, ru⟩ := vals1 rv
    obtain ⟨t, rfl⟩ := ru
    have hz : z.cps.size ≤ sizeLine := by simpa [Str.length] using q.1
    refine Calls.call_function_entry PyProof.Rows.kind_sorted PyProof.Rows.plain_sorted PyProof.Rows.entry_sorted (PyProof.Rows.args_sorted1 _) ?_
    unfold Builtin.«sorted»
    refine wpAny_bind (m := checkCount "sorted" 1 1 _) (wpAny_pure (wpAny_bind (wpAny_collect_str (A := X.A.in1) (I.ok.hd hc) z t (fun s' acc hk hg hd hos ha => ?_) hz)))
    obtain ⟨h', g', d', tk, os'⟩ := s'
    obtain ⟨hp0, g0, d0, tk0, os0⟩ := s
    have e1 : g' = g0 := hg
    have e2 : d' = d0 := hd
    have e3 : os' = os0 := hos
    subst e1 e2 e3
    have hv := vals_signs ha
    have hS : StrsAre acc.toList (signs z) := strs_of_vals hv
    have hal : acc.toList.length = z.length := by rw [← hv.length, List.length_map, signs_length]
    have I1 : L2.Inv X pins σ H ⟨h', g', d', tk, os'⟩ := I.kept (t' := tk) hk
    refine wpAny_bind (wpAny_newList ?_ (by rw [hal]; exact q.1))
    have hoL : (h'.push (seqObj "list" acc.toList.toArray 0)).get? h'.objs.size = some (seqObj "list" acc.toList.toArray 0) := Heap.get?_push_size _ rfl
    show wpAny _ _ _ _ _ ⟨h'.push (seqObj "list" acc.toList.toArray 0), g', d', tk, os'⟩
    refine wpAny_bind (wpAny_holding (wpAny_call_entry PyProof.Rows.slot_list_sort ⟨_, hoL, rfl⟩ PyProof.Rows.entry_list_sort
      (PyProof.Rows.list_sort_treeKAny strKind_oneLt (s := ⟨h'.push (seqObj "list" acc.toList.toArray 0), g', d', tk, os'⟩) hoL hS.keysOf (fun v₁ v₂ rest e => keyKind_strs (by rw [← e]; exact hS)) (by rw [hal]; exact q.1) fun st' hp hs => ⟨_, rfl, ?_⟩)
      (PyProof.Rows.args_list_sort _)))
    obtain ⟨ys, y1, y2, y3⟩ := sorted_out_str hS hp hs
    obtain ⟨e', he'⟩ := PyProof.Rows.sortedHeap_at (vs := acc.toList) (out := (arrOf st').map (·.2)) hoL
    have hn : H h'.objs.size = none := I1.hok.fresh (Nat.le_refl _)
    obtain ⟨s1, s2, s3⟩ := ice_lst r hn (rep_strs ys)
    refine wpAny_pure ⟨_, rfl, .ref h'.objs.size, upd H h'.objs.size (.lst (ys.map V.str)), I1.laid (t' := tk) (fun b u e => ?_) (Nat.le_refl _)
      ⟨?_, ((arrOf st').map (·.2)).toList, e', vals_of_strs y1, by rw [Array.toArray_toList]; exact he'⟩, rfl, m _ M _ _ _ (q.2 ys y2 y3) s1 s2 s3⟩
    · have hb : b < h'.objs.size := Heap.lt_size e
      rw [PyProof.Rows.sortedHeap_old (Nat.ne_of_lt hb) (by rw [size_push']; exact Nat.lt_succ_of_lt hb)]
      exact Heap.get?_push_of_some _ e
    · rw [List.length_map, y2.length_eq, signs_length]; exact q.1
  · exact q.elim
/-- x[::-1] of a text, of a list -/
@[simp] def dRevS (te : DTE) : DTE := fun δ M Q => te δ M fun x M1 => match x with
  | .str z => z.length ≤ sizeLine ∧ Q (.str ⟨z.cps.toList.reverse.toArray⟩) M1
  | _ => False
theorem pick_rev (z : Str) : ((Builtin.Str.strSliceIndices none none (-1) z.length).filterMap (z.cps[·]?)).toArray = z.cps.toList.reverse.toArray := by
  rw [picked_rev]
  congr 1
  rw [show z.length = z.cps.size from rfl, PySem.W.krv_range, List.filterMap_reverse, PySem.W.krv_all]
theorem dpe_revS {e : Expr} {te : DTE} {k : Nat} {p1 p2 p3 : Pos} (he : DPE X F0 e te) : DPE X F0 (.Subscript e (.Slice none none (some (.UnaryOp .USub (.Constant (.int 1) k p1) p2)) p3) pos) (dRevS te) := by
  refine ⟨fun pins s σ H Q I h => ?_⟩
  obtain ⟨F, δ, M, QD, e0, r, sl, h, m⟩ := h
  refine Subscript_ (thn (he.run pins s σ H (fun x H1 => ∃ z, x = .str z ∧ z.length ≤ sizeLine ∧ Q (.str ⟨z.cps.toList.reverse.toArray⟩) H1) I ⟨F, δ, M, _, e0, r, sl, h, fun d M1 F1 H1 v q e1 r1 rv => ?_⟩) fun v s1 ⟨x, H1, I1, r1, q1⟩ => ?_)
  · split at q
    · unfold Rep at rv; subst rv
      exact ⟨_, rfl, q.1, m _ M1 F1 H1 _ q.2 e1 r1 rep_str⟩
    · exact q.elim
  obtain ⟨z, ex, hz, q⟩ := q1
  subst ex
  obtain ⟨t, rfl⟩ := r1
  have hst : PO X (some (.UnaryOp .USub (.Constant (.int 1) k p1) p2)) (tPart (tUn (rU fun i => .int (-i)) (tC (.int 1)))) := po_some (pe_un un_neg pe_int)
  refine wpAny_Slice (thn (po_none.run pins s1 σ H1 (fun o H2 => o = none ∧ H2 = H1) I1 ⟨rfl, rfl⟩) fun vl s2 ⟨l, H2, I2, pl, el, e2⟩ => ?_)
  subst el e2
  refine thn (po_none.run pins s2 σ H2 (fun o H3 => o = none ∧ H3 = H2) I2 ⟨rfl, rfl⟩) fun vu s3 ⟨u, H3, I3, pu, eu, e3⟩ => ?_
  subst eu e3
  refine thn (hst.run pins s3 σ H3 (fun o H4 => o = some (-1) ∧ H4 = H3) I3 ⟨1, rfl, -1, rfl, rfl, rfl⟩) fun vs s4 ⟨o, H4, I4, ps, eo, e4⟩ => ?_
  subst eo e4
  have I5 : L2.Inv X pins σ H4 { s4 with heap := s4.heap.push { cls := .type "slice", data := .fields #[vl, vu, vs] } } := I4.kept (t' := s4.toks) fun b ob q => Heap.get?_push_of_some _ q
  cases pl
  cases pu
  cases ps with
  | int i u =>
  refine tail_any (ops := [.str z t, .ref s4.heap.objs.size]) (T := "str") rfl PySem.F.slot_str_getitem.lookup ?_ (by with_unfolding_all rfl)
  refine wpAny_getItem_str_slice (l := none) (u := none) (st := some (-1, u)) ⟨_, Heap.get?_push_size _ rfl, rfl, rfl⟩ rfl ?_
  unfold sliceMade
  rw [if_neg (by simp)]
  show Made.post (.str ⟨((Builtin.Str.strSliceIndices none none (-1) z.length).filterMap (z.cps[·]?)).toArray⟩) _ _
  rw [pick_rev]
  exact ⟨by simpa [Str.length] using hz, .str _, H4, I5.tok _, ⟨_, rfl⟩, q⟩
end
end DL
set_option Elab.async false
set_option linter.all false
set_option maxRecDepth 100000
/-! DL12: methods of built-in types; stores by index -/
namespace DL
open PySem PySem.Spec L2 PyProof.Rows
section
variable {X : Cx} {F0 : Hp} {pos apos cpos : Pos} {o e : Expr} {es : List Expr} {to te : DTE} {t : DTA} {name : Str}
abbrev DMt := D → List D → DM → DK → Prop
def lowMt (K : PySem.W.Frag) (F0 : Hp) (ρ : DMt) : V → List V → Hp → VK → Prop := fun x xs H Q => ∃ F M d ds QD, Same F0 F ∧ Rel K F M H ∧ Rep K F d x ∧ RepL K F ds xs ∧ ρ d ds M QD ∧ DL.Meets K F QD Q
/-- d is of the type T -/
def tyB (T : String) (M : DM) : D → Prop
  | .str _ => T = "str"
  | .ref q => T = "list" ∧ ∃ xs, M q = some (.lst xs)
  | .lst _ => T = "list"
  | _ => False
theorem tyB_ok {K : PySem.W.Frag} {F H : Hp} {M : DM} {d : D} {v : V} {T : String} (r : Rel K F M H) (h : Rep K F d v) (b : tyB T M d) : tyV K T v H := by
  cases d with
  | str z => unfold Rep at h; subst h; exact b
  | ref q =>
    unfold Rep at h; subst h
    obtain ⟨rfl, xs, hx⟩ := b
    obtain ⟨_, ob, ho, vs, rfl, rs⟩ := r.mr q _ hx
    exact .inl ⟨rfl, vs, .inl (.inl ho)⟩
  | lst xs =>
    unfold Rep at h
    obtain ⟨a, vs, rfl, ha, rs⟩ := h
    exact .inl ⟨b, vs, .inl (.inl (r.sub _ _ ha))⟩
  | _ => exact b.elim
@[simp] def dBM (T : String) (ρ : DMt) (to : DTE) (t : DTA) : DTE := fun δ M Q => to δ M fun d M1 => tyB T M1 d ∧ t δ M1 fun ds M2 => ρ d ds M2 Q
@[simp] def dBM0 (T : String) (ρ : DMt) (to : DTE) : DTE := fun δ M Q => to δ M fun d M1 => tyB T M1 d ∧ ρ d [] M1 Q
theorem dpe_bm {T id : String} {ρ : DMt} (pa : PlainAttrs T) (slot : Slot T name id) (hty : typeOf (.builtin id) = pure (.type "method_descriptor")) (hm : MtR X id (lowMt X.K F0 ρ)) (ho : DPE X F0 o to) (ha : DPA X F0 (e :: es) t)
    (hbase : attributeBase o name X.env (eval o X.env) = eval o X.env := by rfl)
    (hfew : ((backTo cpos (starEach (e :: es) X.env)).all (fun x => !x.1) && (backToKw cpos (keywordEach [] X.env)).all (fun x => x.1.isSome)
      && decide ((e :: es).length + ([] : List Keyword).length + (if ([] : List Keyword).isEmpty then 0 else 1) < 30)) = true := by rfl)
    (hline : (apos.endLine == cpos.line) = true := by rfl) (hs : starEach (e :: es) X.env = (false, eval e X.env) :: starEach es X.env := by rfl) (hplain : (backTo cpos (starEach es X.env)).any (·.1) = false := by rfl) :
    DPE X F0 (.Call (.Attribute o name apos) (e :: es) [] cpos) (dBM T ρ to t) :=
  PE.imp (pe_bm pa slot hty hm ho ha hbase hfew hline hs hplain) fun σ H Q ⟨F, δ, M, QD, e0, r, s, h, m⟩ => ⟨F, δ, M, _, e0, r, s, h, fun d M1 F1 H1 v q e1 r1 rv =>
    ⟨tyB_ok r1 rv q.1, F1, δ, M1, _, e0.trans e1, r1, s.mono e1, q.2, fun ds M2 F2 H2 vs q2 e2 r2 rs => ⟨F2, M2, d, ds, QD, e0.trans (e1.trans e2), r2, rv.mono e2, rs, q2, m.mono (e1.trans e2)⟩⟩⟩
theorem dpe_bm0 {T id : String} {ρ : DMt} (pa : PlainAttrs T) (slot : Slot T name id) (hty : typeOf (.builtin id) = pure (.type "method_descriptor")) (hm : MtR X id (lowMt X.K F0 ρ)) (ho : DPE X F0 o to)
    (hbase : attributeBase o name X.env (eval o X.env) = eval o X.env := by rfl) (hline : (apos.endLine == cpos.line) = true := by rfl) : DPE X F0 (.Call (.Attribute o name apos) [] [] cpos) (dBM0 T ρ to) :=
  PE.imp (pe_bm0 pa slot hty hm ho hbase hline) fun σ H Q ⟨F, δ, M, QD, e0, r, s, h, m⟩ => ⟨F, δ, M, _, e0, r, s, h, fun d M1 F1 H1 v q e1 r1 rv =>
    ⟨tyB_ok r1 rv q.1, F1, M1, d, [], QD, e0.trans e1, r1, rv, RepL.nil, q.2, m.mono e1⟩⟩
/-- xs.append(y) -/
def dAppend : DMt := fun x ds M Q => match x, ds with
  | .ref q, [y] => (match M q with | some (.lst xs) => xs.length < sizeLine ∧ Q .non (put M q (.lst (xs ++ [y]))) | _ => False)
  | _, _ => False
theorem mt_dappend : MtR X "list.append" (lowMt X.K F0 dAppend) := by
  intro pins s σ H x xs v us Q I rx rxs h
  obtain ⟨F, M, d, ds, QD, e0, r, rd, rs, q, m⟩ := h
  unfold dAppend at q
  split at q
  · rename_i a y
    split at q
    · rename_i zs ez
      unfold Rep at rd; subst rd
      obtain ⟨_, ob, ho, vs, rfl, rz⟩ := r.mr a _ ez
      obtain ⟨w, rfl, ry⟩ := rep1 rs
      exact mt_append pins s σ H _ _ v us Q I rx rxs ⟨a, vs, w, rfl, rfl, ho, by rw [← rz.length]; exact q.1, m _ _ F _ _ q.2 (Same.refl F) (r.write (m := .lst (zs ++ [y])) ez ⟨_, rfl, rz.append (RepL.cons ry RepL.nil)⟩) rep_non⟩
    · exact q.elim
  · exact q.elim
/-- x.upper() -/
def dUpper : DMt := fun x ds M Q => match x, ds with
  | .str z, [] => z.length ≤ 5592405 ∧ Q (.str (Txt.upper z)) M
  | _, _ => False
theorem mt_dupper : MtR X "str.upper" (lowMt X.K F0 dUpper) := by
  intro pins s σ H x xs v us Q I rx rxs h
  obtain ⟨F, M, d, ds, QD, e0, r, rd, rs, q, m⟩ := h
  unfold dUpper at q
  split at q
  · rename_i z
    unfold Rep at rd; subst rd
    have := rs.nilV
    subst this
    exact mt_upper pins s σ H _ _ v us Q I rx rxs ⟨z, rfl, rfl, q.1, m _ M F H _ q.2 (Same.refl F) r rep_str⟩
  · exact q.elim
/-- x.index(y) of a text that holds it -/
def dIndexS : DMt := fun x ds M Q => match x, ds with
  | .str z, [.str y] => (match Builtin.Str.occurrences z y 0 z.length 1 with | i :: _ => Q (.int (i : Nat)) M | [] => False)
  | _, _ => False
theorem mt_dindexS : MtR X "str.index" (lowMt X.K F0 dIndexS) := by
  intro pins s σ H x xs v us Q I rx rxs h
  obtain ⟨F, M, d, ds, QD, e0, r, rd, rs, q, m⟩ := h
  unfold dIndexS at q
  split at q
  · rename_i z y
    split at q
    · rename_i i rest ei
      unfold Rep at rd; subst rd
      obtain ⟨w, rfl, ry⟩ := rep1 rs
      unfold Rep at ry; subst ry
      exact mt_sindex pins s σ H _ _ v us Q I rx rxs ⟨z, y, i, rest, rfl, rfl, ei, m _ M F H _ q (Same.refl F) r rep_int⟩
    · exact q.elim
  · exact q.elim
/-- o[i] = .. of a list that is changed -/
@[simp] def dgSub (to ti : DTE) : DTG := fun d δ M Q => to δ M fun o M1 => ti δ M1 fun i M2 => match o, i with
  | .ref q, .int k => (match M2 q with | some (.lst xs) => (match ixN xs.length k with | some j => Q δ (put M2 q (.lst (xs.set j d))) | none => False) | _ => False)
  | _, _ => False
theorem dg_sub {i : Expr} {ti : DTE} (ho : DPE X F0 o to) (hi : DPE X F0 i ti)
    (ha : ∀ v, assign (.Subscript o i pos) X.env v = (do
      let ov ← holding [v] (eval o X.env)
      let iv ← holding [v, ov] (eval i X.env)
      standAt pos
      holding [v, ov, iv] (setItem ov iv v)
      release [v, ov, iv] []) := by intro _; rfl) : DPG X F0 (.Subscript o i pos) (dgSub to ti) :=
  PG.imp (pg_sub ho hi set_list ha) fun v σ H Q ⟨F, d, δ, M, QD, e0, r, s, rd, h, m⟩ => ⟨F, δ, M, _, e0, r, s, h, fun x M1 F1 H1 vx q e1 r1 rx => ⟨F1, δ, M1, _, e0.trans e1, r1, s.mono e1, q, fun y M2 F2 H2 vy q2 e2 r2 ry => by
    split at q2
    · rename_i a k
      split at q2
      · rename_i xs ex
        split at q2
        · rename_i j ej
          unfold Rep at rx; subst rx
          unfold Rep at ry; subst ry
          obtain ⟨_, ob, ho, vs, rfl, rz⟩ := r2.mr a _ ex
          exact ⟨a, vs, k, j, rfl, rfl, ho, by rw [← rz.length]; exact ej, m _ _ F2 σ _ q2 (e1.trans e2) (r2.write (m := .lst (xs.set j d)) ex ⟨_, rfl, RepL.set (rd.mono (e1.trans e2)) j rz⟩) (s.mono (e1.trans e2))⟩
        · exact q2.elim
      · exact q2.elim
    · exact q2.elim⟩⟩
end
end DL
set_option Elab.async false
set_option linter.all false
set_option maxRecDepth 100000
/-! DL13: == of own classes -/
namespace DL
open PySem PySem.Spec L2 PyProof.Rows
section
variable {X : Cx} {F0 : Hp} {W : DW} {pins : List (Addr × Obj)} {σ : L2.St} {H : Hp} {s : Shared}
/-- the class of a value, as type() tells it -/
theorem type_of {M : DM} {F : Hp} {x : D} {v : V} {u : Value} {t : Ty} (I : L2.Inv X pins σ H s) (r : Rel X.K F M H) (h : Rep X.K F x v) (ru : RelV v u) (e : tyD M x = some t) : PySem.W.Looks (model X.prog X.w) s.heap (typeOf u) t.v := by
  have lst : ∀ {p : Addr} {vs : List V}, H p = some (.lst vs) → PySem.W.Looks (model X.prog X.w) s.heap (typeOf (.ref p)) (.type "list") := fun {p vs} hp => by
    obtain ⟨_, its, n, _, _, ho⟩ := I.lstM hp
    exact fun A Q E s k q => wpAny_typeOf_ref (k _ _ ho) q
  have ins : ∀ {p C dx : Addr} {vs : List (Str × V)}, H p = some (.ins C dx vs) → PySem.W.Looks (model X.prog X.w) s.heap (typeOf (.ref p)) (.ref C) := fun {p C dx vs} hp => by
    obtain ⟨mA, J, _⟩ := ins_get I.hok hp
    obtain ⟨od, J, _⟩ := J.look
    exact J.type
  cases x with
  | non => cases e; unfold Rep at h; subst h; cases ru; exact .of_pure rfl
  | bl b => cases e; unfold Rep at h; subst h; cases ru; exact .of_pure rfl
  | int b => cases e; unfold Rep at h; subst h; obtain ⟨t, rfl⟩ := ru; exact .of_pure rfl
  | str b => cases e; unfold Rep at h; subst h; obtain ⟨t, rfl⟩ := ru; exact .of_pure rfl
  | lst xs =>
    cases e; unfold Rep at h
    obtain ⟨a, vs, rfl, h2, _⟩ := h
    cases ru
    exact lst (r.sub _ _ h2)
  | tup xs =>
    cases e; unfold Rep at h
    obtain ⟨a, vs, rfl, h2, _⟩ := h
    cases ru
    obtain ⟨its, rv, ⟨o, h1, h2, _⟩, hz⟩ := I.tuple (SqT_mono r.sub h2)
    exact fun A Q E s k q => wpAny_typeOf_ref (k _ _ h1) (by rw [h2]; exact q)
  | ins C ns xs =>
    cases e; unfold Rep at h
    obtain ⟨a, dx, vs, rfl, h2, _⟩ := h
    cases ru
    exact ins (r.sub _ _ h2)
  | ref p =>
    unfold tyD at e
    dsimp only at e
    unfold Rep at h; subst h
    cases ru
    split at e
    · rename_i xs q
      cases e
      obtain ⟨_, _, ho, vs, rfl, _⟩ := r.mr p _ q
      exact lst ho
    · rename_i xs q
      cases e
      obtain ⟨_, _, ho, vs, rfl, _⟩ := r.mr p _ q
      obtain ⟨_, _, _, _, o, _, _, e, ex, _⟩ := I.hok p _ ho
      exact fun A Q E s k q => wpAny_typeOf_ref (k _ _ e) (by rw [ex.1]; exact q)
    · rename_i xs q
      cases e
      obtain ⟨_, _, ho, vs, rfl, _⟩ := r.mr p _ q
      obtain ⟨_, _, _, _, o, _, _, e, ex, _⟩ := I.hok p _ ho
      exact fun A Q E s k q => wpAny_typeOf_ref (k _ _ e) (by rw [ex.1]; exact q)
    · rename_i C fs q
      cases e
      obtain ⟨_, _, ho, dx, vs, rfl, _⟩ := r.mr p _ q
      exact ins ho
    · cases e
  | _ => cases e
def E0 : DXK := fun _ _ _ => False
/-- what == leaves: a Boolean -/
def blK (Q : DK) : DK := fun d M => (∃ b, d = .bl b) ∧ Q d M
/-- x == y, x of a class with its own == -/
def dEqO (K : PySem.W.Frag) (l : List (Addr × DSp)) : D2 := fun x y M Q => match insD M x, tyD M y with
  | some (C, _), some t => PySem.W.notFirst K C t.v = true ∧ sel (fun dsp => dsp [x, y] M (blK Q) E0) l C
  | _, _ => False
/-- a method of x called with given values, by its promise -/
theorem run_meth {k : Nat} {mn : Str} {C : Addr} {dsp : DSp} {F : Hp} {M : DM} {as : List D} {vs : List V} {us : List Value} {QD : DK} {Q : VK} (c : Ctx X F0 W) (dm : DMet X.prog X.w X.K X.mg X.base k C mn dsp) (hr : Room k X.A) (I : L2.Inv X pins σ H s)
    (e0 : Same F0 F) (r : Rel X.K F M H) (rs : RepL X.K F as vs) (rv : Vals vs us) (q : dsp as M QD E0) (m : DL.Meets X.K F QD Q) : ∃ f, Meth X.K C mn f ∧ wpAny (model X.prog X.w) X.A (call (.ref f) us) (EP X pins σ Q) X.xe s := by
  obtain ⟨f, fd, ps, ds, dvs, dd, dsp0, hc, hm, Fn, hb, hd, hdd, im⟩ := dm.ex
  refine ⟨f, hm, run_fnSD (E := WE (lowW X.K F0 W)) Fn hr hb hd (passW c σ) I rv ?_⟩
  exact ⟨F, M, as ++ dd, QD, E0, r, rs.append (hdd F), im _ _ _ _ q, m, fun cls d H' ⟨_, _, _, _, _, _, _, _, _, _, _, _, z⟩ => z.elim⟩
theorem op_deqO {k : Nat} {l : List (Addr × DSp)} (c : Ctx X F0 W) (dm : DMets X.prog X.w X.K X.mg X.base k "__eq__" l) (hr : Room k X.A) : DOp X F0 (compareOp .Eq) (dEqO X.K l) := by
  intro pins s σ H x y u w Q I rx ry h
  obtain ⟨F, M, d, e, QD, e0, r, rd, re, q, m⟩ := h
  unfold dEqO at q
  split at q
  · rename_i C fs t ei et
    obtain ⟨hn, q⟩ := q
    obtain ⟨a, dx, vs, rfl, ha, rf⟩ := insD_at r rd ei
    cases rx
    obtain ⟨dsp, dmt, q⟩ := sel_get dm q
    have ty := type_of I r re ry et
    obtain ⟨mA, J, _⟩ := ins_get I.hok ha
    obtain ⟨od, J, _⟩ := J.look
    obtain ⟨m0, hF⟩ := I.fr
    obtain ⟨f, hm, hrun⟩ := run_meth (QD := blK QD) (Q := fun v H' => (∃ b, v = .bl b) ∧ Q v H') c dmt hr I e0 r (RepL.cons rd (RepL.cons re RepL.nil)) (.cons rfl (.cons ry .nil)) q (fun d M F' H v q e r x => by
      obtain ⟨⟨b, rfl⟩, q⟩ := q
      have hv : v = .bl b := by unfold Rep at x; exact x
      exact ⟨⟨b, hv⟩, m _ M F' H v q e r x⟩)
    refine PySem.W.cmp_K (op := .Eq) hr.units0 hF I.ok.mod.kin J ty hn hm.at_ hm.fn ?_
    refine thn hrun fun z s1 ⟨v, H1, I1, rz, ⟨b, eb⟩, q1⟩ => ?_
    subst eb
    cases rz
    exact ⟨.bl b, H1, I1, rfl, q1⟩
  · exact q.elim
theorem tuple_eq_declines {K : PySem.W.Frag} {l b C : Addr} {o ob : Obj} {od : Option Obj} {A : Around} {R : Result → Shared → Prop} {P : Program} {w : World} (X : K.In s.heap) (hl : s.heap.get? l = some o) (J : PySem.W.InstAt s.heap b ob C od)
    (hs : PySem.W.subIn K (.ref C) (.type "tuple") = some false) (h : R (.ok (.ret .notImplemented)) s) :
    wpAny (model P w) A.in1 (Builtin.«tuple.__eq__» ⟨[.ref l, .ref b], []⟩) (GQ.FinOf P w A R) (fun e s' => R (.error e) s') s := by
  have L : PySem.W.Looks (model P w) s.heap (isInstance (.ref b) (.type "tuple")) false := J.type.andThen (PySem.W.looks_subIn X hs)
  unfold Builtin.«tuple.__eq__»
  wp_delta
  refine wpAny_bind (m := slotArgs "__eq__" 1 _) (wpAny_pure ?_)
  refine wpAny_bind (L.here ?_)
  exact wpAny_pure h
/-- x == y, x a tuple, y of a class with its own == -/
def dEqR (K : PySem.W.Frag) (l : List (Addr × DSp)) : D2 := fun x y M Q => match x, insD M y with
  | .tup _, some (C, _) => PySem.W.subIn K (.ref C) (.type "tuple") = some false ∧ sel (fun dsp => dsp [y, x] M (blK Q) E0) l C
  | _, _ => False
theorem op_deqR {k : Nat} {l : List (Addr × DSp)} (c : Ctx X F0 W) (dm : DMets X.prog X.w X.K X.mg X.base k "__eq__" l) (hr : Room k X.A) : DOp X F0 (compareOp .Eq) (dEqR X.K l) := by
  intro pins s σ H x y u w Q I rx ry h
  obtain ⟨F, M, d, e, QD, e0, r, rd, re, q, m⟩ := h
  unfold dEqR at q
  split at q
  · rename_i xs C fs ei
    obtain ⟨hn, q⟩ := q
    obtain ⟨a, dx, vs, rfl, ha, rf⟩ := insD_at r re ei
    cases ry
    have rd' := rd
    unfold Rep at rd
    obtain ⟨t, ws, rfl, h2, rw'⟩ := rd
    cases rx
    obtain ⟨its, rv, ⟨o, h1, h2, _⟩, hz⟩ := I.tuple (SqT_mono r.sub h2)
    obtain ⟨dsp, dmt, q⟩ := sel_get dm q
    obtain ⟨mA, J, _⟩ := ins_get I.hok ha
    obtain ⟨od, J, _⟩ := J.look
    obtain ⟨f, hm, hrun⟩ := run_meth (QD := blK QD) (Q := fun v H' => (∃ b, v = .bl b) ∧ Q v H') c dmt hr I e0 r (RepL.cons re (RepL.cons rd' RepL.nil)) (.cons rfl (.cons rfl .nil)) q (fun d M F' H v q e r x => by
      obtain ⟨⟨b, rfl⟩, q⟩ := q
      have hv : v = .bl b := by unfold Rep at x; exact x
      exact ⟨⟨b, hv⟩, m _ M F' H v q e r x⟩)
    have hT : s.TypeIs (.ref t) "tuple" := ⟨_, h1, h2⟩
    show wpAny _ _ (richCompare .Eq (.ref t) (.ref a)) _ _ _
    simp only [richCompare, cmpInfo, hT.oneThing_none]
    refine wpAny_holding (wpAny_bind (wpAny_cRoomFor hr.units0 (wpAny_bind (wpAny_typeOf hT (wpAny_bind (J.type.here ?_))))))
    rw [if_pos (show (Value.type "tuple" != Value.ref C) = true from rfl)]
    refine wpAny_bind ((PySem.W.looks_subIn I.kIn hn).here ?_)
    simp only [Bool.false_eq_true, if_false, Bool.not_false, if_true]
    refine wpAny_bind (wpAny_tryCompare_declines (id := "tuple.__eq__") hT PySem.F.slot_tuple_eq (GQ.call_here PySem.F.slot_tuple_eq hT PySem.F.entry_tuple_eq (PySem.F.args_tuple_eq_2 _ _) (tuple_eq_declines I.kIn h1 J hn ⟨rfl, ?_⟩)))
    show wpAny _ _ (tryCompare (.ref a) "__eq__" (.ref t) >>= _) _ _ _
    unfold tryCompare
    refine wpAny_bind (wpAny_bind (PySem.W.ifBound_K I.kIn J hm.at_ hm.fn (thn hrun fun z s1 ⟨v, H1, I1, rz, ⟨b, eb⟩, q1⟩ => ?_)))
    subst eb
    cases rz
    exact wpAny_pure (wpAny_pure ⟨.bl b, H1, I1, rfl, q1⟩)
  · exact q.elim
/-- x == y: own classes or data -/
def dEqX (K : PySem.W.Frag) (l : List (Addr × DSp)) : D2 := fun x y M Q => if (insD M x).isSome = true then dEqO K l x y M Q else if (insD M y).isSome = true then dEqR K l x y M Q else dEq x y M Q
theorem op_deqX {k : Nat} {l : List (Addr × DSp)} (c : Ctx X F0 W) (dm : DMets X.prog X.w X.K X.mg X.base k "__eq__" l) (hr : Room k X.A) : DOp X F0 (compareOp .Eq) (dEqX X.K l) := by
  intro pins s σ H x y u w Q I rx ry h
  obtain ⟨F, M, d, e, QD, e0, r, rd, re, q, m⟩ := h
  unfold dEqX at q
  split at q
  · exact op_deqO c dm hr pins s σ H x y u w Q I rx ry ⟨F, M, d, e, QD, e0, r, rd, re, q, m⟩
  · split at q
    · exact op_deqR c dm hr pins s σ H x y u w Q I rx ry ⟨F, M, d, e, QD, e0, r, rd, re, q, m⟩
    · exact op_deq hr.units pins s σ H x y u w Q I rx ry ⟨F, M, d, e, QD, e0, r, rd, re, q, m⟩
end
end DL
set_option Elab.async false
set_option linter.all false
set_option maxRecDepth 100000
/-! DH1: the head's facts, by names -/
namespace DH
open PySem PySem.Spec PyProof.Rows L2 DX DL
abbrev Frag := PySem.W.Frag
def refsC (o : Obj) : List Addr := He.refV o.cls ++ match o.data with
  | .seq its _ => its.toList.flatMap He.refV
  | .dict es _ => es.toList.flatMap fun e => He.refV e.val
  | .func fd => He.refV fd.code ++ (He.refV fd.defaults ++ (He.refV fd.kwdefaults ++ fd.closure.map (·.2)))
  | .cls cd => cd.ns :: cd.mro.flatMap He.refV
  | .fields vs => vs.toList.flatMap He.refV
  | .cell (some v) => He.refV v
  | _ => []
def growC (g : Addr → Option Obj) (as : List Addr) : List Addr := (as ++ as.flatMap fun a => match g a with
  | some o => refsC o
  | none => []).eraseDups
def asC (g : Addr → Option Obj) : Nat → List Addr
  | 0 => [mainGlobals]
  | n + 1 => growC g (asC g n)
def asX (g : Addr → Option Obj) (n : Nat) : List Addr := asC g n ++ [cStatics]
/-- an exception class of the text: its name, its __init__, the fields that it keeps -/
structure IniD where
  x : Str
  qual : Str
  params : Arguments
  body : List Stmt
  scope : Scope
  nd : Nat
  fs : List Str
abbrev FnC : Type := Option (Str × Str × Arguments × FuncBody × Scope × Addr × List Str × Addr)
def fnC (K : Frag) (a : Addr) : FnC := match K.lookup a with
  | some ⟨_, _, .func fd, _⟩ => some (fd.name, fd.qualname, fd.params, fd.body, fd.scope, fd.globals, fd.closure.map (·.1), fd.builtins)
  | _ => none
def IniD.val (d : IniD) : FnC := some ("__init__", d.qual, d.params, .stmts d.body, d.scope, mainGlobals, ["__class__"], builtinsNs)
def oexB (K : Frag) (C : Addr) : Bool := match K.lookup C with
  | some ⟨.type t, _, .cls cd, sl⟩ => t == "type" && (match cd.mro, sl.toList with
    | .ref C' :: bm, [_, _, _, _, some (.builtin n), _] => C' == C && n == "ValueError.__new__" && !cd.hasDel && cd.hasDict && PySem.HandSPX.refsVE bm
    | _, _ => false)
  | _ => false
theorem oexB_ok {K : Frag} {C : Addr} (q : oexB K C = true) : ∃ nm q N bs bm sn sub ab col dd k0 k1 k2 k3 k5, K.lookup C = some (excClassObj nm q C N bs bm true sn sub ab col dd k0 k1 k2 k3 k5 "ValueError.__new__") ∧ PySem.HandSPX.refsVE bm = true := by
  unfold oexB at q
  split at q
  · rename_i t dd cd sl ho
    simp only [Bool.and_eq_true, beq_iff_eq] at q
    obtain ⟨rfl, q⟩ := q
    split at q
    · rename_i C' bm k0 k1 k2 k3 n k5 hm hs
      simp only [Bool.and_eq_true, beq_iff_eq, Bool.not_eq_true'] at q
      obtain ⟨⟨⟨⟨rfl, rfl⟩, hdel⟩, hdct⟩, ht⟩ := q
      obtain ⟨nm, bs, mro, ns, qn, hd, sn, sub, ab, col, del⟩ := cd
      dsimp only at hm hdel hdct
      subst hm hdel hdct
      have hsl : sl = #[k0, k1, k2, k3, some (.builtin "ValueError.__new__"), k5] := by
        obtain ⟨l⟩ := sl
        simp only at hs
        rw [hs]
      subst hsl
      exact ⟨nm, qn, ns, bs, bm, sn, sub, ab, col, dd, k0, k1, k2, k3, k5, ho, ht⟩
    · cases q
  · cases q
def oexcB (K : Frag) (C : Addr) : Bool := oexB K C && (He.eqO (PySem.W.findIn K (.ref C) "__setattr__") (some (some (.builtin "object.__setattr__"))) &&
  (decide (PySem.W.subIn K (.ref C) (.type "BaseException") = some true) && (decide (PySem.W.typeIn K (.ref C) = some (.type "type")) && PySem.W.keepIn K (.ref C))))
theorem oexcB_ok {K : Frag} {C : Addr} (h : oexcB K C = true) : OexC K C := by
  obtain ⟨h1, h⟩ := He.ba h
  obtain ⟨h2, h⟩ := He.ba h
  obtain ⟨h3, h⟩ := He.ba h
  obtain ⟨h4, h5⟩ := He.ba h
  exact ⟨oexB_ok h1, He.eqO_ok h2, of_decide_eq_true h3, of_decide_eq_true h4, h5⟩
/-- the cell and the code of such an __init__ -/
def iniB (file : Str) (K : Frag) (C f : Addr) (q : Str) (dvs : List V) : Bool := match K.lookup f with
  | some ⟨_, _, .func fd, _⟩ => PySem.W.codeIn K fd.code q && (He.dflB K fd.defaults dvs && ((match fd.code with
      | .ref c => (match K.lookup c with
        | some ⟨_, _, .fields vs, _⟩ => (match (vs[2]? : Option Value) with
          | some (.str z _) => (file : Str) == z
          | _ => false)
        | _ => false)
      | _ => false) && (match fd.closure with
      | [(_, cc)] => (match K.lookup cc with
        | some ⟨_, _, .cell (some (.ref C')), _⟩ => C' == C
        | _ => false)
      | _ => false)))
  | _ => false
def IniD.ok (file : Str) (K : Frag) (d : IniD) : Bool := oexcB K (He.ga K d.x) && (iniB file K (He.ga K d.x) (He.ma K (He.ga K d.x) "__init__") d.qual (List.replicate d.nd .non) &&
  (He.eqO (PySem.W.findIn K (.ref (He.ga K d.x)) "__init__") (some (some (.ref (He.ma K (He.ga K d.x) "__init__")))) && (decide (PySem.W.typeIn K (.ref (He.ma K (He.ga K d.x) "__init__")) = some (.type "function")) &&
  (decide (PySem.W.mroIn K (He.ga K d.x) (.ref (He.ga K d.x)) = some true) && (He.eqO (PySem.W.nsIn K cStatics "thirdparty.any") (some none) && (He.eqO (PySem.W.ks_superIn K (He.ga K d.x) (He.ga K d.x) "__init__") (some (some (.builtin "ValueError.__init__"))) &&
  (decide (PySem.W.subIn K (.ref (He.ga K d.x)) (.type "ValueError") = some true) && (He.eqO (PySem.W.nsIn K mainGlobals "super") (some none) && (xfB K (He.ga K d.x) && (He.eqO (PySem.W.nsIn K mainGlobals d.x) (some (some (.ref (He.ga K d.x)))) && d.fs.all fun f => He.eqO (PySem.W.findIn K (.ref (He.ga K d.x)) f) (some none)))))))))))
structure IniK (P : Program) (K : Frag) (d : IniD) : Prop where
  ini : ∃ fd, XIni P K (He.ga K d.x) (He.ma K (He.ga K d.x) "__init__") fd d.params d.body d.scope (List.replicate d.nd .non)
  xf : XfC K (He.ga K d.x)
  gl : PySem.W.nsIn K mainGlobals d.x = some (some (.ref (He.ga K d.x)))
  no : ∀ f ∈ d.fs, PySem.W.findIn K (.ref (He.ga K d.x)) f = some none
theorem ini_ok {P : Program} {K : Frag} {d : IniD} (top : (P.main.scope.names.lookup ("super" : Str)).isSome = false) (e : fnC K (He.ma K (He.ga K d.x) "__init__") = d.val) (h : d.ok P.main.file K = true) : IniK P K d := by
  obtain ⟨h1, h⟩ := He.ba h
  obtain ⟨h2, h⟩ := He.ba h
  obtain ⟨h3, h⟩ := He.ba h
  obtain ⟨h4, h⟩ := He.ba h
  obtain ⟨h5, h⟩ := He.ba h
  obtain ⟨h6, h⟩ := He.ba h
  obtain ⟨h7, h⟩ := He.ba h
  obtain ⟨h8, h⟩ := He.ba h
  obtain ⟨h9, h⟩ := He.ba h
  obtain ⟨h10, h⟩ := He.ba h
  obtain ⟨h11, h12⟩ := He.ba h
  refine ⟨?_, xfB_ok h10, He.eqO_ok h11, fun f hf => He.eqO_ok (List.all_eq_true.mp h12 f hf)⟩
  unfold iniB at h2
  unfold fnC at e
  split at h2
  · rename_i oc od fd osl lk
    rw [lk] at e
    obtain ⟨n1, n2, n3, n4, n5, n6, n7, n8, n9, n10, n11, n12, n13, n14, n15⟩ := fd
    have e2 : (some (n1, n2, n3, n4, n5, n6, n7.map (·.1), n15) : FnC) = some (("__init__" : Str), d.qual, d.params, .stmts d.body, d.scope, mainGlobals, [("__class__" : Str)], builtinsNs) := e
    simp only [Option.some.injEq, Prod.mk.injEq] at e2
    obtain ⟨r1, r2, r3, r4, r5, r6, r7, r8⟩ := e2
    subst r1 r2 r3 r4 r5 r6 r8
    have t1 := He.ba h2
    clear h2 e
    obtain ⟨c1, t1⟩ := t1
    have t2 := He.ba t1
    clear t1
    obtain ⟨c2, t2⟩ := t2
    have t3 := He.ba t2
    clear t2
    obtain ⟨c3, c4⟩ := t3
    dsimp only at c1 c2 c3 c4
    split at c3
    · rename_i cda
      split at c3
      · rename_i ccl cdd vs ccs lc
        split at c3
        · rename_i z tf hz
          match n7, r7, c4, lk with
          | [(nm, cc)], r7, c4, lk =>
            dsimp only at c4
            split at c4
            · rename_i cl cld C' csl lcc
              have hC : C' = He.ga K d.x := by simpa using c4
              subst hC
              have hnm : nm = ("__class__" : Str) := by simpa using r7
              subst hnm
              exact ⟨_, ⟨oc, od, _, n8, n9, n10, n11, n12, n14, osl, cda, cc, cl, cld, csl, ccl, cdd, vs, ccs, z, tf, rfl, lk, c1, lc, hz, c3, lcc, He.dflB_ok c2⟩, oexcB_ok h1, He.eqO_ok h3, of_decide_eq_true h4, of_decide_eq_true h5, He.eqO_ok h6, He.eqO_ok h7, of_decide_eq_true h8, top, He.eqO_ok h9⟩
            · cases c4
          | [], r7, c4, lk => cases c4
          | _ :: _ :: _, r7, c4, lk => cases c4
        · cases c3
      · cases c3
    · cases c3
  · cases h2
/-! ### the Hook -/
abbrev Al : Type := He.AlD × List FnC
def obs (file : Str) (ck : Frag → List Bool) (fn : List He5.DefA) (ini : List IniD) (K : Frag) : Al := (((ck K).all id && (fn.all (fun d => d.ok K) && ini.all (fun d => d.ok file K)), fn.map fun d => He5.fnA K (d.at_ K)), ini.map fun d => fnC K (He.ma K (He.ga K d.x) "__init__"))
def val (fn : List He5.DefA) (ini : List IniD) : Al := ((true, fn.map He5.DefA.val), ini.map IniD.val)
def Says (file : Str) (ck : Frag → List Bool) (fn : List He5.DefA) (ini : List IniD) (K : Frag) : Prop := obs file ck fn ini K = val fn ini
def obsG (n : Nat) (file : Str) (ck : Frag → List Bool) (fn : List He5.DefA) (ini : List IniD) (g : Addr → Option Obj) : Al := obs file ck fn ini (He.frG g (asX g n))
def hook (n : Nat) (file : Str) (ck : Frag → List Bool) (fn : List He5.DefA) (ini : List IniD) : PySem.W.Hook where
  α := Al
  obs := fun s => obsG n file ck fn ini s.heap.get?
  val := fun _ => val fn ini
  says := fun _ h => ∃ K : Frag, K.In h ∧ Says file ck fn ini K
  of := fun _ _ e => ⟨_, He.frG_in, e⟩
  keeps := fun _ _ _ ⟨K, hK, c⟩ k => ⟨K, PySem.W.Frag.In.keeps hK k, c⟩
theorem obsG_eq {n : Nat} {file : Str} {ck : Frag → List Bool} {fn : List He5.DefA} {ini : List IniD} {g : Addr → Option Obj} {s : Shared} (h : ∀ a, g a = s.heap.get? a) : obsG n file ck fn ini g = (hook n file ck fn ini).obs s := by
  have e : g = s.heap.get? := funext h
  rw [e]; rfl
section
variable {file : Str} {ck : Frag → List Bool} {fn : List He5.DefA} {ini : List IniD} {K : Frag}
theorem Says.chk (c : Says file ck fn ini K) (i : Nat) {b : Bool} (h : (ck K)[i]? = some b := by rfl) : b = true := by
  have c1 := (He.ba (show ((ck K).all id && (fn.all (fun d => d.ok K) && ini.all (fun d => d.ok file K))) = true from congrArg (fun z : Al => z.1.1) c)).1
  exact List.all_eq_true.mp c1 b (List.mem_of_getElem? h)
theorem Says.def_ (c : Says file ck fn ini K) (i : Nat) {d : He5.DefA} (h : fn[i]? = some d := by rfl) : ∃ fd, FunD K d.name d.qual d.params d.body d.scope (d.dvs K) (d.kws K) (d.at_ K) fd := by
  have c2 := (He.ba (He.ba (show ((ck K).all id && (fn.all (fun d => d.ok K) && ini.all (fun d => d.ok file K))) = true from congrArg (fun z : Al => z.1.1) c)).2).1
  have e : fn.map (fun d => He5.fnA K (d.at_ K)) = fn.map He5.DefA.val := congrArg (fun z : Al => z.1.2) c
  have e2 : (fn.map fun d => He5.fnA K (d.at_ K))[i]? = (fn.map He5.DefA.val)[i]? := by rw [e]
  rw [List.getElem?_map, List.getElem?_map, h] at e2
  exact He5.DefA.funD (Option.some.inj e2) (List.all_eq_true.mp c2 d (List.mem_of_getElem? h))
theorem Says.exc {P : Program} (c : Says P.main.file ck fn ini K) (top : (P.main.scope.names.lookup ("super" : Str)).isSome = false) (i : Nat) {d : IniD} (h : ini[i]? = some d := by rfl) : IniK P K d := by
  have c2 := (He.ba (He.ba (show ((ck K).all id && (fn.all (fun d => d.ok K) && ini.all (fun d => d.ok P.main.file K))) = true from congrArg (fun z : Al => z.1.1) c)).2).2
  have e : ini.map (fun d => fnC K (He.ma K (He.ga K d.x) "__init__")) = ini.map IniD.val := congrArg (fun z : Al => z.2) c
  have e2 : (ini.map fun d => fnC K (He.ma K (He.ga K d.x) "__init__"))[i]? = (ini.map IniD.val)[i]? := by rw [e]
  rw [List.getElem?_map, List.getElem?_map, h] at e2
  exact ini_ok top (Option.some.inj e2) (List.all_eq_true.mp c2 d (List.mem_of_getElem? h))
end
end DH
set_option Elab.async false
set_option linter.all false
set_option maxRecDepth 100000
/-! DH2: promises of exception classes, of classes and their methods, from the head's facts -/
namespace DH
open PySem PySem.Spec PyProof.Rows L2 DX DL
section
variable {P : Program} {w : World} {K : Frag} {mg : Str → Option Value} {base : Heap} {k : Nat} {d : IniD}
def g1 (x : Str) : List D → Option (List (Str × D))
  | [y] => some [(x, y)]
  | _ => none
def g2 (x1 x2 : Str) : List D → Option (List (Str × D))
  | [y1, y2] => some [(x2, y2), (x1, y1)]
  | _ => none
/-- how such an __init__ binds n values -/
def BindI (d : IniD) (n m : Nat) (ps : List Str) : Prop := ∀ (T : Addr) (qual : Str) (kV doc pm : Value) (an : Option Addr) (cda : Addr) (ct : Value) (cc : Addr) (us its : List Value), us.length = n → its.length = m →
  ∃ k, bindArgs (PySem.W.ksFn "__init__" qual d.params d.body d.scope (.ref T) kV doc pm an (.ref cda) ct cc) ⟨us, []⟩ = seqItems? (.ref T) >>= k ∧ k (some its.toArray) = pure (ps.zip us)
theorem binds_ini {C f : Addr} {fd : FuncData} {n m : Nat} {ps : List Str} (T : XIni P K C f fd d.params d.body d.scope (List.replicate m .non)) (hm : m ≠ 0) (hps : ps.length = n) (h : BindI d n m ps) : Binds K fd ps [] := by
  obtain ⟨oc, od, qual, dV, kV, doc, pm, an, ct, osl, cda, cc, cl, cld, csl, ccl, cdd, xs, ccs, file, tf, rfl, lk, hcd, lcd, hxs, hfile, lcc, hD⟩ := T.ex
  rcases hD with ⟨e, _⟩ | ⟨_, Tt, o, its, n', rfl, lT, oT, rT⟩
  · cases m with
    | zero => exact absurd rfl hm
    | succ m => cases e
  · intro s us X hl
    rw [List.append_nil] at hl ⊢
    have l1 : its.length = m := by rw [← rT.length, List.length_replicate]
    obtain ⟨k, e1, e2⟩ := h Tt qual kV doc pm an cda ct cc us its (by rw [hl, hps]) l1
    refine BindsTo.of_looks fun M => ?_
    rw [e1]
    exact looks_items X lT oT (.of_pure e2)
theorem IniK.dexc1 (c : IniK P K d) (G : mg d.x = some (.ref (He.ga K d.x))) (x : Str) {p0 p1 p2 p3 p4 p5 p6 p7 p8 p9 : Pos} {ar : Arg} (hb : d.body = xb1 x p0 p1 p2 p3 p4 p5 p6 p7 p8 p9) (hnd : d.nd = 1) (hfs : x ∈ d.fs) (S : XScope ["self", x] d.scope)
    (hdb : (x == ("__debug__" : Str)) = false) (hcd : (x == ("__classdict__" : Str)) = false) (hp : (d.params.posonlyargs ++ d.params.args).head? = some ar) (har : ar.arg = "self") (hi : SupOk d.scope (.Name x p5) [] p0 p1 p2 p3 p4) (hB : BindI d 2 1 ["self", x]) :
    DExc P w K mg base (k + 1) d.x (He.ga K d.x) (g1 x) := by
  obtain ⟨fd, T⟩ := c.ini
  rw [hnd] at T
  have B := binds_ini (ps := ["self", x]) (n := 2) T (by decide) rfl hB
  rw [hb] at T
  refine ⟨G, T.O, _, fd, ["self", x], sp1 (He.ga K d.x) x, T.iC, T.tI, fn_x1 T S (c.no x hfs) hdb hcd hp har hi, B, fun ds fs e => ?_⟩
  match ds, e with
  | [y], e =>
    cases e
    refine ⟨by simp, fun F vs rs => ?_⟩
    obtain ⟨v, rfl, rv⟩ := rep1 rs
    exact ⟨[(x, v)], .cons ⟨rfl, rv⟩ .nil, fun a H Q E ea q => ⟨a, v, rfl, ea, q⟩⟩
theorem IniK.dexc2 (c : IniK P K d) (G : mg d.x = some (.ref (He.ga K d.x))) (x1 x2 : Str) {p0 p1 p2 p3 p4 p5 p6 p7 p8 p9 p10 p11 p12 p13 p14 : Pos} {ar : Arg} (hb : d.body = xb2 x1 x2 p0 p1 p2 p3 p4 p5 p6 p7 p8 p9 p10 p11 p12 p13 p14) (hnd : d.nd = 2) (hf1 : x1 ∈ d.fs) (hf2 : x2 ∈ d.fs) (S : XScope ["self", x1, x2] d.scope)
    (hdb1 : (x1 == ("__debug__" : Str)) = false) (hcd1 : (x1 == ("__classdict__" : Str)) = false) (hdb2 : (x2 == ("__debug__" : Str)) = false) (hcd2 : (x2 == ("__classdict__" : Str)) = false)
    (hp : (d.params.posonlyargs ++ d.params.args).head? = some ar) (har : ar.arg = "self") (hi : SupOk d.scope (.Name x1 p5) [.Name x2 p10] p0 p1 p2 p3 p4) (hB : BindI d 3 2 ["self", x1, x2]) :
    DExc P w K mg base (k + 1) d.x (He.ga K d.x) (g2 x1 x2) := by
  obtain ⟨fd, T⟩ := c.ini
  rw [hnd] at T
  have B := binds_ini (ps := ["self", x1, x2]) (n := 3) T (by decide) rfl hB
  rw [hb] at T
  refine ⟨G, T.O, _, fd, ["self", x1, x2], sp2 (He.ga K d.x) x1 x2, T.iC, T.tI, fn_x2 T S (c.no x1 hf1) (c.no x2 hf2) hdb1 hcd1 hdb2 hcd2 hp har hi, B, fun ds fs e => ?_⟩
  match ds, e with
  | [y1, y2], e =>
    cases e
    refine ⟨by simp, fun F vs rs => ?_⟩
    obtain ⟨v1, r1, rfl, rv1, rs⟩ := rs.consV
    obtain ⟨v2, rfl, rv2⟩ := rep1 rs
    exact ⟨[(x2, v2), (x1, v1)], .cons ⟨rfl, rv2⟩ (.cons ⟨rfl, rv1⟩ .nil), fun a H Q E ea q => ⟨a, v1, v2, rfl, ea, q⟩⟩
end
theorem xfree_of {sc : Scope} (h : ∀ p ∈ sc.names, p.2 = .free → p.1 = ("__class__" : Str)) : ∀ y, sc.names.lookup y = some .free → y = ("__class__" : Str) := fun y e => h _ (PySem.mem_of_lookup e) rfl
abbrev dW (W : DXK) : DW := fun C fs _ M => W C fs M
/-! ### checks of the text's classes -/
def iclsB (K : Frag) (C : Addr) : Bool := He.eqO (PySem.W.findIn K (.ref C) "__class__") (some (some (.builtin "object.__class__"))) && (He.eqO (PySem.W.specialIn K (.builtin "object.__class__") "__get__") (some (some (.builtin "getset_descriptor.__get__"))) &&
  (decide (PySem.W.takesIn K (.builtin "object.__class__") = some true) && decide (PySem.W.mroIn K C (.type "object") = some true)))
theorem iclsB_ok {K : Frag} {x : Str} (h0 : (He.Fa.cls x).ok K = true) (h : iclsB K (He.ga K x) = true) : ICls K (He.ga K x) := by
  obtain ⟨h1, h⟩ := He.ba h
  obtain ⟨h2, h⟩ := He.ba h
  obtain ⟨h3, h4⟩ := He.ba h
  exact ⟨He.cls_ok h0, He.eqO_ok h1, He.eqO_ok h2, of_decide_eq_true h3, of_decide_eq_true h4⟩
/-- the getter of a property -/
def pg (K : Frag) (x f : Str) : Addr := match PySem.W.recIn K (He.ma K (He.ga K x) f) "property" with
  | some (.ref g :: _) => g
  | _ => 0
def propB (K : Frag) (x f : Str) : Bool := He.eqO (PySem.W.findIn K (.ref (He.ga K x)) f) (some (some (.ref (He.ma K (He.ga K x) f)))) && (He.eqO (PySem.W.specialIn K (.ref (He.ma K (He.ga K x) f)) "__get__") (some (some (.builtin "property.__get__"))) &&
  (decide (PySem.W.takesIn K (.ref (He.ma K (He.ga K x) f)) = some true) && (match PySem.W.recIn K (He.ma K (He.ga K x) f) "property" with
    | some (.ref g :: _) => true
    | _ => false)))
theorem propB_ok {K : Frag} {x f : Str} (h : propB K x f = true) : PropOf K (He.ga K x) f (He.ma K (He.ga K x) f) (pg K x f) := by
  obtain ⟨h1, h⟩ := He.ba h
  obtain ⟨h2, h⟩ := He.ba h
  obtain ⟨h3, h4⟩ := He.ba h
  refine ⟨He.eqO_ok h1, He.eqO_ok h2, of_decide_eq_true h3, ?_⟩
  unfold pg
  split at h4
  · rename_i g rest e
    rw [e]; exact ⟨rest, rfl⟩
  · cases h4
def kitB' (K : Frag) (a b : Value) (r : Bool) : Bool := decide (PySem.W.kitOne K a b = some r)
def subB (K : Frag) (a b : Value) (r : Bool) : Bool := decide (PySem.W.subIn K a b = some r)
end DH
set_option Elab.async false
set_option linter.all false
set_option maxRecDepth 100000
/-! DP1: unfolding readings; plain facts about values -/
namespace DL
open PySem PySem.Spec L2 DH
section
variable {M : DM} {Q : DK} {i j : Int} {x y : Str} {a b : Bool}
@[simp] theorem put_two {M : DM} {p : Addr} {m n : MO} : put (put M p m) p n = put M p n := put_put
@[simp] theorem put_at {M : DM} {p : Addr} {m : MO} : put M p m p = some m := put_same
@[simp] theorem dAdd_ii : dAdd (.int i) (.int j) M Q = Q (.int (i + j)) M := rfl
@[simp] theorem dAdd_ss : dAdd (.str x) (.str y) M Q = (x.length + y.length ≤ sizeLine ∧ Q (.str (x ++ y)) M) := rfl
@[simp] theorem dSub_ii : dSub (.int i) (.int j) M Q = Q (.int (i - j)) M := by simp [dSub, dII]
@[simp] theorem dMul_ii : dMul (.int i) (.int j) M Q = (CMul i j ∧ Q (.int (i * j)) M) := rfl
@[simp] theorem dMod_ii : dMod (.int i) (.int j) M Q = (0 < j ∧ Q (.int (i % j)) M) := rfl
@[simp] theorem dFdiv_ii : dFdiv (.int i) (.int j) M Q = (CDiv i j ∧ Q (.int (i / j)) M) := rfl
@[simp] theorem dPow_ii : dPow (.int i) (.int j) M Q = (CPowB i j ∧ Q (.int (i ^ j.toNat)) M) := rfl
@[simp] theorem dLt_ii : dCmp .Lt (.int i) (.int j) M Q = Q (.bl (decide (i < j))) M := by simp [dCmp, res, lay, like, cmpD, ltD]
@[simp] theorem dGt_ii : dCmp .Gt (.int i) (.int j) M Q = Q (.bl (decide (j < i))) M := by simp [dCmp, res, lay, like, cmpD, ltD]
@[simp] theorem dLe_ii : dCmp .LtE (.int i) (.int j) M Q = Q (.bl (decide (i ≤ j))) M := by
  have e : (!decide (j < i)) = decide (i ≤ j) := by rw [← decide_not]; exact decide_eq_decide.mpr Int.not_lt
  simp only [dCmp, res, lay, like, cmpD, ltD, e, Bool.and_self, true_and]
@[simp] theorem dGe_ii : dCmp .GtE (.int i) (.int j) M Q = Q (.bl (decide (j ≤ i))) M := by
  have e : (!decide (i < j)) = decide (j ≤ i) := by rw [← decide_not]; exact decide_eq_decide.mpr Int.not_lt
  simp only [dCmp, res, lay, like, cmpD, ltD, e, Bool.and_self, true_and]
@[simp] theorem dEq_ii : dEq (.int i) (.int j) M Q = Q (.bl (decide (i = j))) M := by
  have e : (i == j) = decide (i = j) := rfl
  simp only [dEq, res, lay, eqD, e, Bool.and_self, true_and]
@[simp] theorem dNe_ii : dNe (.int i) (.int j) M Q = Q (.bl (!decide (i = j))) M := by
  have e : (i == j) = decide (i = j) := rfl
  simp only [dNe, res, lay, eqD, e, Bool.and_self, true_and]
@[simp] theorem dEq_ss : dEq (.str x) (.str y) M Q = Q (.bl (x == y)) M := by simp only [dEq, res, lay, eqD, Bool.and_self, true_and]
@[simp] theorem dNe_ss : dNe (.str x) (.str y) M Q = Q (.bl (!(x == y))) M := by simp only [dNe, res, lay, eqD, Bool.and_self, true_and]
@[simp] theorem dEq_bb : dEq (.bl a) (.bl b) M Q = Q (.bl (a == b)) M := by simp only [dEq, res, lay, eqD, Bool.and_self, true_and]
@[simp] theorem dNe_bb : dNe (.bl a) (.bl b) M Q = Q (.bl (!(a == b))) M := by simp only [dNe, res, lay, eqD, Bool.and_self, true_and]
@[simp] theorem dInt_i : dInt [.int i] M Q = Q (.int i) M := rfl
@[simp] theorem dInt_b : dInt [.bl a] M Q = Q (.int (if a then 1 else 0)) M := rfl
@[simp] theorem dBool_b : dBool [.bl a] M Q = Q (.bl a) M := rfl
theorem dIx_ref {p : Addr} {xs : List D} (h : M p = some (.lst xs)) : dIx (.ref p) (.int i) M Q = (match atI xs i with | some d => Q d M | none => False) := by
  unfold dIx asR res
  simp only [h] <;> cases atI xs i <;> rfl
@[simp] theorem dIx_lst {xs : List D} : dIx (.lst xs) (.int i) M Q = (match atI xs i with | some d => Q d M | none => False) := rfl
@[simp] theorem dIx_tup {xs : List D} : dIx (.tup xs) (.int i) M Q = (match atI xs i with | some d => Q d M | none => False) := rfl
@[simp] theorem dIx_str {z : Str} : dIx (.str z) (.int i) M Q = (z.length ≤ sizeLine ∧ match atI z.cps.toList i with | some c => Q (.str ⟨#[c]⟩) M | none => False) := rfl
@[simp] theorem dSl_str {z : Str} {lo hi : Option Int} : dSl (.str z) lo hi M Q = (z.length ≤ sizeLine ∧ Q (.str (cutS z lo hi)) M) := rfl
@[simp] theorem dIx_put {p : Addr} {xs : List D} : dIx (.ref p) (.int i) (put M p (.lst xs)) Q = (match atI xs i with | some d => Q d (put M p (.lst xs)) | none => False) := dIx_ref put_same
theorem dEq_of {x y : D} {b : Bool} (h : (lay 60 (res M x) && lay 60 (res M y)) = true) (e : eqD (res M x) (res M y) = b) (q : Q (.bl b) M) : dEq x y M Q := ⟨h, by rw [e]; exact q⟩
theorem dNe_of {x y : D} {b : Bool} (h : (lay 60 (res M x) && lay 60 (res M y)) = true) (e : eqD (res M x) (res M y) = b) (q : Q (.bl (!b)) M) : dNe x y M Q := ⟨h, by rw [e]; exact q⟩
end
theorem atI_lt {α : Type} {xs : List α} {i : Int} (h0 : 0 ≤ i) (h1 : i < xs.length) : atI xs i = some (xs[i.toNat]'(by omega)) := by
  unfold atI ixN
  rw [if_pos h0, if_pos h1]
  simp
theorem rng_zero {lo : Int} : rng lo 0 = [] := rfl
theorem rng_succ {lo : Int} {n : Nat} : rng lo (n + 1) = .int lo :: rng (lo + 1) n := by
  unfold rng
  rw [List.range_succ_eq_map, List.map_cons, List.map_map]
  congr 1
  · simp
  · apply List.map_congr_left
    intro k _
    simp only [Function.comp_apply, D.int.injEq]
    omega
theorem size63 : (63 : Nat) ≤ sizeLine := by rw [sizeLine_eq]; decide
theorem small {n : Nat} (h : n ≤ 1000000) : n ≤ sizeLine := by rw [sizeLine_eq]; omega
theorem eqL_refl_of {l : List D} (h : ∀ d ∈ l, eqD d d = true) : eqL l l = true := by
  induction l with
  | nil => rfl
  | cons x l ih =>
    simp only [eqL, Bool.and_eq_true]
    exact ⟨h x (List.mem_cons_self ..), ih fun d hd => h d (List.mem_cons_of_mem _ hd)⟩
/-- data are equal to themselves -/
theorem eqD_refl : ∀ {n : Nat} {d : D}, lay n d = true → eqD d d = true
  | _, .non, _ => rfl
  | _, .bl _, _ => by simp [eqD]
  | _, .int _, _ => by simp [eqD]
  | _, .str _, _ => by simp [eqD]
  | n + 1, .lst xs, h => by
    simp only [eqD]
    exact eqL_refl_of fun d hd => eqD_refl (n := n) (List.all_eq_true.mp (show xs.all (lay n) = true from h) d hd)
  | n + 1, .tup xs, h => by
    simp only [eqD]
    exact eqL_refl_of fun d hd => eqD_refl (n := n) (List.all_eq_true.mp (show xs.all (lay n) = true from h) d hd)
  | 0, .lst _, h => by simp [lay] at h
  | 0, .tup _, h => by simp [lay] at h
  | n, .ty _, h => by cases n <;> simp [lay] at h
  | n, .ref _, h => by cases n <;> simp [lay] at h
  | n, .ins _ _ _, h => by cases n <;> simp [lay] at h
  | n, .scr _, h => by cases n <;> simp [lay] at h
theorem lay_mono : ∀ {n m : Nat} {d : D}, n ≤ m → lay n d = true → lay m d = true
  | _, _, .non, _, _ => by simp [lay]
  | _, _, .bl _, _, _ => by simp [lay]
  | _, _, .int _, _, _ => by simp [lay]
  | _, _, .str _, _, _ => by simp [lay]
  | n + 1, m + 1, .lst xs, h, e => by
    simp only [lay] at e ⊢
    exact List.all_eq_true.mpr fun d hd => lay_mono (Nat.le_of_succ_le_succ h) (List.all_eq_true.mp e d hd)
  | n + 1, m + 1, .tup xs, h, e => by
    simp only [lay] at e ⊢
    exact List.all_eq_true.mpr fun d hd => lay_mono (Nat.le_of_succ_le_succ h) (List.all_eq_true.mp e d hd)
  | 0, _, .lst _, _, h => by simp [lay] at h
  | 0, _, .tup _, _, h => by simp [lay] at h
  | n + 1, 0, .lst _, h, _ => by omega
  | n + 1, 0, .tup _, h, _ => by omega
  | n, _, .ty _, _, h => by cases n <;> simp [lay] at h
  | n, _, .ref _, _, h => by cases n <;> simp [lay] at h
  | n, _, .ins _ _ _, _, h => by cases n <;> simp [lay] at h
  | n, _, .scr _, _, h => by cases n <;> simp [lay] at h
theorem up_mk {Q : DK} {d : D} {M : DM} (h : Q d M) : up Q d M := up.mk h
/-- values that are data without own classes -/
def plain : D → Bool
  | .non | .bl _ | .int _ | .str _ | .tup _ | .lst _ => true
  | _ => false
def isInt : D → Bool
  | .int _ => true
  | _ => false
def isBl : D → Bool
  | .bl _ => true
  | _ => false
def isStr : D → Bool
  | .str _ => true
  | _ => false
def isTup : D → Bool
  | .tup _ => true
  | _ => false
/-- isinstance against a built-in type, of plain values -/
theorem isi_int {K : Frag} {M : DM} {d : D} {Q : DK} (h : plain d = true) (q : Q (.bl (isInt d || isBl d)) M) : dIsi K [d, .ty "int"] M Q := by
  cases d <;> first | exact ⟨trivial, q⟩ | cases h
theorem isi_bool {K : Frag} {M : DM} {d : D} {Q : DK} (h : plain d = true) (q : Q (.bl (isBl d)) M) : dIsi K [d, .ty "bool"] M Q := by
  cases d <;> first | exact ⟨trivial, q⟩ | cases h
theorem isi_str {K : Frag} {M : DM} {d : D} {Q : DK} (h : plain d = true) (q : Q (.bl (isStr d)) M) : dIsi K [d, .ty "str"] M Q := by
  cases d <;> first | exact ⟨trivial, q⟩ | cases h
theorem isi_tuple {K : Frag} {M : DM} {d : D} {Q : DK} (h : plain d = true) (q : Q (.bl (isTup d)) M) : dIsi K [d, .ty "tuple"] M Q := by
  cases d <;> first | exact ⟨trivial, q⟩ | cases h
end DL
set_option Elab.async false
set_option linter.all false
set_option maxRecDepth 100000
/-! DH3: glue: from a def that keeps its promise to what its callers use -/
namespace DH
open PySem PySem.Spec L2 DX DL
/-- a comprehension's block, by a look at the names -/
def blkB (N : List Str) (sc scope : Scope) (own : List (Str × Nat)) : Bool := decide (scope.kind = .function) && (decide (∀ y ∈ scope.names, scope.names.lookup y.1 = some y.2) && (decide (∀ p ∈ own, N[p.2]? = some p.1) &&
  (decide (∀ y ∈ scope.names, y.2 = .free → sc.names.lookup y.1 = some .cell ∨ sc.names.lookup y.1 = some .free) && decide (∀ y ∈ scope.names, y.2 = .local ∨ y.2 = .cell → y.1 ∈ own.map (·.1) ∨ y.1 ∉ N))))
theorem blk_of {N : List Str} {sc scope : Scope} {own : List (Str × Nat)} (h : blkB N sc scope own = true) : BlkOk N sc scope own := by
  obtain ⟨h1, h⟩ := He.ba h
  obtain ⟨h2, h⟩ := He.ba h
  obtain ⟨h3, h⟩ := He.ba h
  obtain ⟨h4, h5⟩ := He.ba h
  exact ⟨of_decide_eq_true h1, of_decide_eq_true h2, of_decide_eq_true h3, of_decide_eq_true h4, of_decide_eq_true h5⟩
section
variable {P : Program} {w : World} {K : Frag} {mg : Str → Option Value} {base : Heap} {k : Nat} {x q : Str} {pa : Arguments} {bo : List Stmt} {sc : Scope} {dvs : List V} {f C : Addr} {ps : List Str} {dsp : DSp} {m : Str}
/-- the def at f keeps dsp -/
def Keeps (P : Program) (w : World) (K : Frag) (mg : Str → Option Value) (base : Heap) (k : Nat) (x q : Str) (pa : Arguments) (bo : List Stmt) (sc : Scope) (dvs : List V) (f : Addr) (ps : List Str) (dsp : DSp) : Prop :=
  ∃ fd, FunD K x q pa bo sc dvs [] f fd ∧ DFn P w K mg base k f fd ps dsp
/-- all parameters given, no defaults -/
def BindN (K : Frag) (x q : Str) (pa : Arguments) (bo : List Stmt) (sc : Scope) (f : Addr) (ps : List Str) : Prop := ∀ fd, FunD K x q pa bo sc [] [] f fd → Binds K fd ps []
theorem Keeps.cal (h : Keeps P w K mg base k x q pa bo sc [] f ps dsp) (b : BindN K x q pa bo sc f ps) (hm : mg x = some (.ref f)) : DCal P w K mg base k x dsp := by
  obtain ⟨fd, F, D⟩ := h
  exact ⟨f, fd, ps, [], [], [], dsp, hm, F.kp, D, b fd F, .nil, fun _ => RepL.nil, fun as M Q E h => by rw [List.append_nil]; exact h⟩
theorem Keeps.met (h : Keeps P w K mg base k m q pa bo sc [] f ps dsp) (b : BindN K m q pa bo sc f ps) (hc : Cls K C) (hm : Meth K C m f) : DMet P w K mg base k C m dsp := by
  obtain ⟨fd, F, D⟩ := h
  exact ⟨f, fd, ps, [], [], [], dsp, hc, hm, D, b fd F, .nil, fun _ => RepL.nil, fun as M Q E h => by rw [List.append_nil]; exact h⟩
theorem Keeps.prp {pr : Addr} (h : Keeps P w K mg base k m q pa bo sc [] f ps dsp) (b : BindN K m q pa bo sc f ps) (hc : Cls K C) (hm : PropOf K C m pr f) : DPrp P w K mg base k C m dsp := by
  obtain ⟨fd, F, D⟩ := h
  exact ⟨pr, f, fd, ps, hc, hm, D, b fd F⟩
theorem vals_rep {F : Hp} : ∀ {dd : List D} {vs : List V}, RepL K F dd vs → RepL K F dd vs := fun h => h
/-- the last values are left out: dd are their defaults -/
theorem Keeps.mak {dsp' : DSp} {dd : List D} (n j : Nat) (h : Keeps P w K mg base k "__init__" q pa bo sc dvs f ps dsp) (hd : dvs ≠ []) (hn : n + (dvs.length - j) = ps.length)
    (hb : ∀ (T : Addr) (kV doc pm : Value) (an : Option Addr) (cdv ct : Value) (us its : List Value), us.length = n → its.length = dvs.length →
      ∃ k, bindArgs (PySem.W.fnOf "__init__" q pa bo sc (.ref T) kV doc pm an cdv ct) ⟨us, []⟩ = seqItems? (.ref T) >>= k ∧ k (some its.toArray) = pure (ps.zip (us ++ its.drop j)))
    (hdd : ∀ F, RepL K F dd (dvs.drop j)) (hm : mg x = some (.ref C)) (hmk : Mk K C f)
    (hl : ∀ as M Q E, dsp' as M Q E → ∀ q, M q = none → dsp (.ref q :: (as ++ dd)) (put M q (.ins C [])) (fun v M2 => v = .non ∧ up Q (.ref q) M2) (upX E)) : DMak P w K mg base k x dsp' := by
  obtain ⟨fd, F, D⟩ := h
  obtain ⟨ds, hv, B⟩ := F.binds1 n j hd hn hb
  exact ⟨C, f, fd, ps, ds, dvs.drop j, dd, dsp, hm, hmk, D, B, hv, hdd, hl⟩
/-- without defaults -/
theorem Keeps.mak0 {dsp' : DSp} (h : Keeps P w K mg base k "__init__" q pa bo sc [] f ps dsp) (b : BindN K "__init__" q pa bo sc f ps) (hm : mg x = some (.ref C)) (hmk : Mk K C f)
    (hl : ∀ as M Q E, dsp' as M Q E → ∀ q, M q = none → dsp (.ref q :: as) (put M q (.ins C [])) (fun v M2 => v = .non ∧ up Q (.ref q) M2) (upX E)) : DMak P w K mg base k x dsp' := by
  obtain ⟨fd, F, D⟩ := h
  exact ⟨C, f, fd, ps, [], [], [], dsp, hm, hmk, D, b fd F, .nil, fun _ => RepL.nil, fun as M Q E h q hq => by rw [List.append_nil]; exact hl as M Q E h q hq⟩
theorem FrzTo.insP {M : DM} {p C : Addr} {fs : List (Str × D)} (h : M p = none) : FrzTo (put M p (.ins C fs)) (.ref p) M (insOf C fs) := by
  have := FrzTo.ins (M := put M p (.ins C fs)) (p := p) (C := C) (fs := fs) put_same
  rwa [drp_put h] at this
theorem DCal.lift {k' : Nat} (h : DCal P w K mg base k x dsp) (hk : k ≤ k') : DCal P w K mg base k' x dsp := by
  obtain ⟨f, fd, ps, ds, dvs, dd, dsp0, h1, h2, h3, r⟩ := h.ex
  exact ⟨f, fd, ps, ds, dvs, dd, dsp0, h1, h2, h3.mono hk, r⟩
end
end DH
set_option Elab.async false
set_option linter.all false
set_option maxRecDepth 100000
/-! DH4: the end of a law -/
namespace DH
open PySem PySem.Spec PyProof.Rows L2 DX DL
/-- a law's promise: of every script it tells True -/
def Tells (K : Frag) (dsp : DSp) : Prop := ∀ (ns : List Int), ns.length ≤ 63 → dsp [.scr (ns.map D.int)] (fun _ => none) (fun d _ => d = .bl true) (fun _ _ _ => False)
theorem repL_ints {K : Frag} {F : Hp} : ∀ ns : List Int, RepL K F (ns.map D.int) (ns.map V.int)
  | [] => RepL.nil
  | n :: ns => RepL.cons rep_int (repL_ints ns)
theorem Tells.low {K : Frag} {dsp : DSp} (h : Tells K dsp) {H : Hp} {a : Addr} {ns : List Int} (hl : ns.length ≤ 63) (hs : SqL K H a (ns.map V.int)) : lowSp K dsp [.ref a] H (fun v _ => v = .bl true) fun _ _ _ => False := by
  refine ⟨H, fun _ => none, [.scr (ns.map D.int)], fun d _ => d = .bl true, fun _ _ _ => False, ⟨Same.refl H, fun a m e => by cases e⟩, RepL.cons ?_ RepL.nil, h ns hl, fun d M F' H' v q _ _ x => ?_, fun cls d H' ⟨_, _, _, _, _, _, _, _, _, _, _, _, z⟩ => z.elim⟩
  · unfold Rep
    exact ⟨a, ns.map V.int, rfl, hs, repL_ints ns⟩
  · subst q
    unfold Rep at x
    exact x
theorem cx_none {P : Program} {w : World} {H : Hp} {s : Shared} {e : Value} {s' : Shared} (h : L2.CX P w [] H s (fun _ _ _ => False) e s') : False := by
  obtain ⟨_, _, _, _, _, _, _, _, _, _, _, _, z⟩ := h
  exact z
/-- the law's def keeps a promise that tells True -/
theorem walkD {l : PySem.W.OpenLaw} {k : Nat} {q : Program} {loose : List Str} {XP : (Str → Option Value) → Heap → Prop} {YP : World → Heap → Prop} {d : DefRec} {x : Str}
    (hn : l.most = some 63) (hdf : d.params.defaults = []) (hr : Room k callerA)
    (G : ∀ (w : World) (mg : Str → Option Value) (fa : Addr) (h : Heap), YP w h → h.Ns mainGlobals mg → mg d.name = some (.ref fa) →
      ∃ (K : Frag) (fd : FuncData) (dsp : DSp), K.In h ∧ (∀ (s : Shared) (u : Value), BindsTo s fd ⟨[u], []⟩ [(x, u)]) ∧ Tells K dsp ∧
        ∀ base : Heap, K.In base → base.Ns mainGlobals mg → DFn l.prog w K mg base k fa fd [x] dsp) :
    PySem.W.WalkO q loose XP YP l.row.toRowW d [] (fun f vs => PySem.call f vs) := by
  refine Att.attach_call hn hdf fun w s₀ s₁ mg mb fa o pm cd doc a vs ns G0 Y ho hd hcd hmg hobj hints hlen hg => ?_
  obtain ⟨K, fd, dsp, KX, hb, ht, hF⟩ := G w mg fa _ Y G0.T.g hmg
  exact law_call KX G0.T.g G0.T.b G0.T.builtins G0.T.nolimit hg hobj hints (Nat.le_trans hlen size63) hr hF hb (fun H _ hS => ht.low hlen hS) fun H e s' z => cx_none z
end DH
set_option Elab.async false
set_option linter.all false
set_option maxRecDepth 100000
set_option maxHeartbeats 4000000
namespace K02
open PySem PySem.Spec PyProof.Rows L2 DX DL DH
abbrev P : Program := PySem.Challenge.pw_betweenlists_k02_forms_made
def top (i : Nat) : Stmt := P.main.body.getD i (.Pass ⟨0, 0, 0, 0⟩)
def inCls (st : Stmt) (j : Nat) : Stmt := match st with
  | .ClassDef _ _ _ b _ _ _ _ _ _ _ => b.getD j (.Pass ⟨0, 0, 0, 0⟩)
  | _ => .Pass ⟨0, 0, 0, 0⟩
abbrev s_is_whole : Stmt := top 8
theorem sc_is_whole : FnScope ["value"] ["value"] (defScope s_is_whole) := ⟨rfl, rfl, rfl, by decide +kernel, rfl, by decide +kernel, by decide +kernel⟩
abbrev s_is_order : Stmt := top 14
theorem sc_is_order : FnScope ["letters", "chains"] ["letters", "chains"] (defScope s_is_order) := ⟨rfl, rfl, rfl, by decide +kernel, rfl, by decide +kernel, by decide +kernel⟩
abbrev s_Form___init__ : Stmt := inCls (top 16) 0
theorem sc_Form___init__ : FnScope ["self", "letters", "chains"] ["self", "letters", "chains"] (defScope s_Form___init__) := ⟨rfl, rfl, rfl, by decide +kernel, rfl, by decide +kernel, by decide +kernel⟩
abbrev s_Form_letters : Stmt := inCls (top 16) 1
theorem sc_Form_letters : FnScope ["self"] ["self"] (defScope s_Form_letters) := ⟨rfl, rfl, rfl, by decide +kernel, rfl, by decide +kernel, by decide +kernel⟩
abbrev s_Form_chains : Stmt := inCls (top 16) 2
theorem sc_Form_chains : FnScope ["self"] ["self"] (defScope s_Form_chains) := ⟨rfl, rfl, rfl, by decide +kernel, rfl, by decide +kernel, by decide +kernel⟩
abbrev s_Form___eq__ : Stmt := inCls (top 16) 4
theorem sc_Form___eq__ : FnScope ["self", "other"] ["self", "other"] (defScope s_Form___eq__) := ⟨rfl, rfl, rfl, by decide +kernel, rfl, by decide +kernel, by decide +kernel⟩
abbrev s__law_purse : Stmt := top 18
theorem sc__law_purse : FnScope ["_law_script", "_law_at", "_law_cell"] ["_law_script", "_law_at"] (defScope s__law_purse) := ⟨rfl, rfl, rfl, by decide +kernel, rfl, by decide +kernel, by decide +kernel⟩
abbrev s__law_draw : Stmt := top 19
theorem sc__law_draw : FnScope ["_law_purse_here", "_law_many", "_law_drawn", "_law_number"] ["_law_purse_here", "_law_many"] (defScope s__law_draw) := ⟨rfl, rfl, rfl, by decide +kernel, rfl, by decide +kernel, by decide +kernel⟩
abbrev s__law_form : Stmt := top 20
theorem sc__law_form : FnScope ["_law_purse_here", "_law_letters", "_law_way", "_law_at", "_law_turn", "_law_rest", "_law_many"] ["_law_purse_here"] (defScope s__law_form) := ⟨rfl, rfl, rfl, by decide +kernel, rfl, by decide +kernel, by decide +kernel⟩
abbrev s__law_whole : Stmt := top 21
theorem sc__law_whole : FnScope ["_law_value"] ["_law_value"] (defScope s__law_whole) := ⟨rfl, rfl, rfl, by decide +kernel, rfl, by decide +kernel, by decide +kernel⟩
abbrev s__law_refused : Stmt := top 22
theorem sc__law_refused : FnScope ["_law_letters", "_law_chains", "_law_found", "e"] ["_law_letters", "_law_chains"] (defScope s__law_refused) := ⟨rfl, rfl, rfl, by decide +kernel, rfl, by decide +kernel, by decide +kernel⟩
abbrev s__law_right : Stmt := top 23
theorem sc__law_right : FnScope ["_law_form_here", "_law_letters", "_law_chains"] ["_law_form_here", "_law_letters", "_law_chains"] (defScope s__law_right) := ⟨rfl, rfl, rfl, by decide +kernel, rfl, by decide +kernel, by decide +kernel⟩
abbrev s__law_bad_letters : Stmt := top 24
theorem sc__law_bad_letters : FnScope ["_law_letters", "_law_at", "_law_rest", "_law_bad", "_law_letter"] ["_law_letters", "_law_at"] (defScope s__law_bad_letters) := ⟨rfl, rfl, rfl, by decide +kernel, rfl, by decide +kernel, by decide +kernel⟩
abbrev s_law : Stmt := top 25
theorem sc_law : FnScope ["_law_script", "_law_forms", "_law_pairs", "_law_at", "_law_purse_here", "_law_letters", "_law_chains", "_law_bad", "_law_far", "_law_one", "_law_k", "_law_other"] ["_law_script"] (defScope s_law) := ⟨rfl, rfl, rfl, by decide +kernel, rfl, by decide +kernel, by decide +kernel⟩
def fn : List He5.DefA := [
  ⟨fun K => He.ga K "is_whole", "is_whole", "is_whole", defArgs s_is_whole, defBody s_is_whole, defScope s_is_whole, [], []⟩,
  ⟨fun K => He.ga K "is_order", "is_order", "is_order", defArgs s_is_order, defBody s_is_order, defScope s_is_order, [], []⟩,
  ⟨fun K => He.ma K (He.ga K "Form") "__init__", "__init__", "Form.__init__", defArgs s_Form___init__, defBody s_Form___init__, defScope s_Form___init__, [.str "abcdefghijklmnopqrstuvwxyz", .int 1], []⟩,
  ⟨fun K => pg K "Form" "letters", "letters", "Form.letters", defArgs s_Form_letters, defBody s_Form_letters, defScope s_Form_letters, [], []⟩,
  ⟨fun K => pg K "Form" "chains", "chains", "Form.chains", defArgs s_Form_chains, defBody s_Form_chains, defScope s_Form_chains, [], []⟩,
  ⟨fun K => He.ma K (He.ga K "Form") "__eq__", "__eq__", "Form.__eq__", defArgs s_Form___eq__, defBody s_Form___eq__, defScope s_Form___eq__, [], []⟩,
  ⟨fun K => He.ga K "_law_purse", "_law_purse", "_law_purse", defArgs s__law_purse, defBody s__law_purse, defScope s__law_purse, [], []⟩,
  ⟨fun K => He.ga K "_law_draw", "_law_draw", "_law_draw", defArgs s__law_draw, defBody s__law_draw, defScope s__law_draw, [], []⟩,
  ⟨fun K => He.ga K "_law_form", "_law_form", "_law_form", defArgs s__law_form, defBody s__law_form, defScope s__law_form, [], []⟩,
  ⟨fun K => He.ga K "_law_whole", "_law_whole", "_law_whole", defArgs s__law_whole, defBody s__law_whole, defScope s__law_whole, [], []⟩,
  ⟨fun K => He.ga K "_law_refused", "_law_refused", "_law_refused", defArgs s__law_refused, defBody s__law_refused, defScope s__law_refused, [], []⟩,
  ⟨fun K => He.ga K "_law_right", "_law_right", "_law_right", defArgs s__law_right, defBody s__law_right, defScope s__law_right, [], []⟩,
  ⟨fun K => He.ga K "_law_bad_letters", "_law_bad_letters", "_law_bad_letters", defArgs s__law_bad_letters, defBody s__law_bad_letters, defScope s__law_bad_letters, [], []⟩,
  ⟨fun K => He.ga K "law", "law", "law", defArgs s_law, defBody s_law, defScope s_law, [], []⟩]
abbrev i_InvalidForm : Stmt := inCls (top 4) 0
def ini : List IniD := [
  ⟨"InvalidForm", "InvalidForm.__init__", defArgs i_InvalidForm, defBody i_InvalidForm, defScope i_InvalidForm, 1, ["value"]⟩]
def ck (K : Frag) : List Bool := [
  He.Fa.ok K (.glo "Form"),
  He.Fa.ok K (.glo "_law_bad_letters"),
  He.Fa.ok K (.glo "_law_draw"),
  He.Fa.ok K (.glo "_law_form"),
  He.Fa.ok K (.glo "_law_purse"),
  He.Fa.ok K (.glo "_law_refused"),
  He.Fa.ok K (.glo "_law_right"),
  He.Fa.ok K (.glo "_law_whole"),
  He.Fa.ok K (.glo "is_order"),
  He.Fa.ok K (.glo "is_whole"),
  He.Fa.ok K (.glo "law"),
  He.Fa.ok K (.free "bool"),
  He.Fa.ok K (.free "enumerate"),
  He.Fa.ok K (.free "int"),
  He.Fa.ok K (.free "isinstance"),
  He.Fa.ok K (.free "list"),
  He.Fa.ok K (.free "range"),
  He.Fa.ok K (.free "sorted"),
  He.Fa.ok K (.free "str"),
  He.Fa.ok K (.free "sum"),
  He.Fa.ok K (.free "tuple"),
  He.Fa.ok K (.str "ALPHABET" "abcdefghijklmnopqrstuvwxyz"),
  He.Fa.ok K (.int "MOST_CHAINS" 1000),
  He.Fa.ok K (.cls "Form"),
  iclsB K (He.ga K "Form"),
  He.Fa.ok K (.mkr "Form"),
  He.Fa.ok K (.meth "Form" "__init__"),
  propB K "Form" "letters",
  propB K "Form" "chains",
  He.Fa.ok K (.meth "Form" "__eq__"),
  He.Fa.ok K (.noat "Form" "ranking"),
  He.Fa.ok K (.noat "Form" "many"),
  kitB' K (.type "NoneType") (.ref (He.ga K "Form")) false,
  PySem.W.notFirst K (He.ga K "Form") (.type "NoneType"),
  kitB' K (.ref (He.ga K "Form")) (.type "NoneType") false,
  kitB' K (.type "bool") (.ref (He.ga K "Form")) false,
  PySem.W.notFirst K (He.ga K "Form") (.type "bool"),
  kitB' K (.ref (He.ga K "Form")) (.type "bool") false,
  kitB' K (.type "int") (.ref (He.ga K "Form")) false,
  PySem.W.notFirst K (He.ga K "Form") (.type "int"),
  kitB' K (.ref (He.ga K "Form")) (.type "int") false,
  kitB' K (.type "str") (.ref (He.ga K "Form")) false,
  PySem.W.notFirst K (He.ga K "Form") (.type "str"),
  kitB' K (.ref (He.ga K "Form")) (.type "str") false,
  kitB' K (.type "tuple") (.ref (He.ga K "Form")) false,
  PySem.W.notFirst K (He.ga K "Form") (.type "tuple"),
  kitB' K (.ref (He.ga K "Form")) (.type "tuple") false,
  kitB' K (.type "list") (.ref (He.ga K "Form")) false,
  PySem.W.notFirst K (He.ga K "Form") (.type "list"),
  kitB' K (.ref (He.ga K "Form")) (.type "list") false,
  kitB' K (.type "dict") (.ref (He.ga K "Form")) false,
  PySem.W.notFirst K (He.ga K "Form") (.type "dict"),
  kitB' K (.ref (He.ga K "Form")) (.type "dict") false,
  subB K (.ref (He.ga K "Form")) (.type "tuple") false,
  kitB' K (.ref (He.ga K "Form")) (.ref (He.ga K "Form")) true,
  PySem.W.notFirst K (He.ga K "Form") (.ref (He.ga K "Form")),
  He.Fa.ok K (.exm "InvalidForm" "InvalidForm" true)]
structure Fx (K : Frag) (mg : Str → Option Value) : Prop where
  s : Says P.main.file ck fn ini K
  x : ∃ h : Heap, K.In h ∧ h.Ns mainGlobals mg
theorem noSuper : (P.main.scope.names.lookup ("super" : Str)).isSome = false := by decide +kernel
section
variable {K : Frag} {mg : Str → Option Value}
theorem Fx.g_Form (hx : Fx K mg) : mg "Form" = some (.ref (He.ga K "Form")) := by obtain ⟨h, X, G⟩ := hx.x; exact He.glo_ok X G (hx.s.chk 0)
theorem Fx.g__law_bad_letters (hx : Fx K mg) : mg "_law_bad_letters" = some (.ref (He.ga K "_law_bad_letters")) := by obtain ⟨h, X, G⟩ := hx.x; exact He.glo_ok X G (hx.s.chk 1)
theorem Fx.g__law_draw (hx : Fx K mg) : mg "_law_draw" = some (.ref (He.ga K "_law_draw")) := by obtain ⟨h, X, G⟩ := hx.x; exact He.glo_ok X G (hx.s.chk 2)
theorem Fx.g__law_form (hx : Fx K mg) : mg "_law_form" = some (.ref (He.ga K "_law_form")) := by obtain ⟨h, X, G⟩ := hx.x; exact He.glo_ok X G (hx.s.chk 3)
theorem Fx.g__law_purse (hx : Fx K mg) : mg "_law_purse" = some (.ref (He.ga K "_law_purse")) := by obtain ⟨h, X, G⟩ := hx.x; exact He.glo_ok X G (hx.s.chk 4)
theorem Fx.g__law_refused (hx : Fx K mg) : mg "_law_refused" = some (.ref (He.ga K "_law_refused")) := by obtain ⟨h, X, G⟩ := hx.x; exact He.glo_ok X G (hx.s.chk 5)
theorem Fx.g__law_right (hx : Fx K mg) : mg "_law_right" = some (.ref (He.ga K "_law_right")) := by obtain ⟨h, X, G⟩ := hx.x; exact He.glo_ok X G (hx.s.chk 6)
theorem Fx.g__law_whole (hx : Fx K mg) : mg "_law_whole" = some (.ref (He.ga K "_law_whole")) := by obtain ⟨h, X, G⟩ := hx.x; exact He.glo_ok X G (hx.s.chk 7)
theorem Fx.g_is_order (hx : Fx K mg) : mg "is_order" = some (.ref (He.ga K "is_order")) := by obtain ⟨h, X, G⟩ := hx.x; exact He.glo_ok X G (hx.s.chk 8)
theorem Fx.g_is_whole (hx : Fx K mg) : mg "is_whole" = some (.ref (He.ga K "is_whole")) := by obtain ⟨h, X, G⟩ := hx.x; exact He.glo_ok X G (hx.s.chk 9)
theorem Fx.g_law (hx : Fx K mg) : mg "law" = some (.ref (He.ga K "law")) := by obtain ⟨h, X, G⟩ := hx.x; exact He.glo_ok X G (hx.s.chk 10)
theorem Fx.b_bool (hx : Fx K mg) : mg "bool" = none := by obtain ⟨h, X, G⟩ := hx.x; exact He.free_ok X G (hx.s.chk 11)
theorem Fx.b_enumerate (hx : Fx K mg) : mg "enumerate" = none := by obtain ⟨h, X, G⟩ := hx.x; exact He.free_ok X G (hx.s.chk 12)
theorem Fx.b_int (hx : Fx K mg) : mg "int" = none := by obtain ⟨h, X, G⟩ := hx.x; exact He.free_ok X G (hx.s.chk 13)
theorem Fx.b_isinstance (hx : Fx K mg) : mg "isinstance" = none := by obtain ⟨h, X, G⟩ := hx.x; exact He.free_ok X G (hx.s.chk 14)
theorem Fx.b_list (hx : Fx K mg) : mg "list" = none := by obtain ⟨h, X, G⟩ := hx.x; exact He.free_ok X G (hx.s.chk 15)
theorem Fx.b_range (hx : Fx K mg) : mg "range" = none := by obtain ⟨h, X, G⟩ := hx.x; exact He.free_ok X G (hx.s.chk 16)
theorem Fx.b_sorted (hx : Fx K mg) : mg "sorted" = none := by obtain ⟨h, X, G⟩ := hx.x; exact He.free_ok X G (hx.s.chk 17)
theorem Fx.b_str (hx : Fx K mg) : mg "str" = none := by obtain ⟨h, X, G⟩ := hx.x; exact He.free_ok X G (hx.s.chk 18)
theorem Fx.b_sum (hx : Fx K mg) : mg "sum" = none := by obtain ⟨h, X, G⟩ := hx.x; exact He.free_ok X G (hx.s.chk 19)
theorem Fx.b_tuple (hx : Fx K mg) : mg "tuple" = none := by obtain ⟨h, X, G⟩ := hx.x; exact He.free_ok X G (hx.s.chk 20)
theorem Fx.c_ALPHABET (hx : Fx K mg) : ∃ t, mg "ALPHABET" = some (.str "abcdefghijklmnopqrstuvwxyz" t) := by obtain ⟨h, X, G⟩ := hx.x; exact He.str_ok X G (hx.s.chk 21)
theorem Fx.e_ALPHABET {X : Cx} {F0 : Hp} {pos : Pos} (hx : Fx X.K X.mg) (hg : Gl X "ALPHABET" := by rfl) : DPE X F0 (.Name "ALPHABET" pos) (dC (.str "abcdefghijklmnopqrstuvwxyz")) := by obtain ⟨t, e⟩ := hx.c_ALPHABET; exact dglob e (show RelV (.str _) _ from ⟨t, rfl⟩) (fun _ => rep_str) hg
theorem Fx.c_MOST_CHAINS (hx : Fx K mg) : ∃ t, mg "MOST_CHAINS" = some (.int 1000 t) := by obtain ⟨h, X, G⟩ := hx.x; exact He.int_ok X G (hx.s.chk 22)
theorem Fx.e_MOST_CHAINS {X : Cx} {F0 : Hp} {pos : Pos} (hx : Fx X.K X.mg) (hg : Gl X "MOST_CHAINS" := by rfl) : DPE X F0 (.Name "MOST_CHAINS" pos) (dC (.int 1000)) := by obtain ⟨t, e⟩ := hx.c_MOST_CHAINS; exact dglob e (show RelV (.int _) _ from ⟨t, rfl⟩) (fun _ => rep_int) hg
theorem Fx.cl_Form (hx : Fx K mg) : Cls K (He.ga K "Form") := He.cls_ok (hx.s.chk 23)
theorem Fx.ic_Form (hx : Fx K mg) : ICls K (He.ga K "Form") := iclsB_ok (hx.s.chk 23) (hx.s.chk 24)
theorem Fx.mk_Form (hx : Fx K mg) : Mk K (He.ga K "Form") (He.ma K (He.ga K "Form") "__init__") := He.mkr_ok (hx.s.chk 25)
theorem Fx.me_Form___init__ (hx : Fx K mg) : Meth K (He.ga K "Form") "__init__" (He.ma K (He.ga K "Form") "__init__") := He.meth_ok (hx.s.chk 26)
theorem Fx.pr_Form_letters (hx : Fx K mg) : PropOf K (He.ga K "Form") "letters" (He.ma K (He.ga K "Form") "letters") (pg K "Form" "letters") := propB_ok (hx.s.chk 27)
theorem Fx.pr_Form_chains (hx : Fx K mg) : PropOf K (He.ga K "Form") "chains" (He.ma K (He.ga K "Form") "chains") (pg K "Form" "chains") := propB_ok (hx.s.chk 28)
theorem Fx.me_Form___eq__ (hx : Fx K mg) : Meth K (He.ga K "Form") "__eq__" (He.ma K (He.ga K "Form") "__eq__") := He.meth_ok (hx.s.chk 29)
theorem Fx.pf_Form_ranking (hx : Fx K mg) : PF K (He.ga K "Form") "ranking" := ⟨hx.cl_Form, He.noat_ok (hx.s.chk 30)⟩
theorem Fx.pf_Form_many (hx : Fx K mg) : PF K (He.ga K "Form") "many" := ⟨hx.cl_Form, He.noat_ok (hx.s.chk 31)⟩
theorem Fx.kt_NoneType_Form (hx : Fx K mg) : PySem.W.kitOne K (.type "NoneType") (.ref (He.ga K "Form")) = some false := of_decide_eq_true (hx.s.chk 32)
theorem Fx.nf_Form_NoneType (hx : Fx K mg) : PySem.W.notFirst K (He.ga K "Form") (.type "NoneType") = true := hx.s.chk 33
theorem Fx.ko_Form_NoneType (hx : Fx K mg) : PySem.W.kitOne K (.ref (He.ga K "Form")) (.type "NoneType") = some false := of_decide_eq_true (hx.s.chk 34)
theorem Fx.kt_bool_Form (hx : Fx K mg) : PySem.W.kitOne K (.type "bool") (.ref (He.ga K "Form")) = some false := of_decide_eq_true (hx.s.chk 35)
theorem Fx.nf_Form_bool (hx : Fx K mg) : PySem.W.notFirst K (He.ga K "Form") (.type "bool") = true := hx.s.chk 36
theorem Fx.ko_Form_bool (hx : Fx K mg) : PySem.W.kitOne K (.ref (He.ga K "Form")) (.type "bool") = some false := of_decide_eq_true (hx.s.chk 37)
theorem Fx.kt_int_Form (hx : Fx K mg) : PySem.W.kitOne K (.type "int") (.ref (He.ga K "Form")) = some false := of_decide_eq_true (hx.s.chk 38)
theorem Fx.nf_Form_int (hx : Fx K mg) : PySem.W.notFirst K (He.ga K "Form") (.type "int") = true := hx.s.chk 39
theorem Fx.ko_Form_int (hx : Fx K mg) : PySem.W.kitOne K (.ref (He.ga K "Form")) (.type "int") = some false := of_decide_eq_true (hx.s.chk 40)
theorem Fx.kt_str_Form (hx : Fx K mg) : PySem.W.kitOne K (.type "str") (.ref (He.ga K "Form")) = some false := of_decide_eq_true (hx.s.chk 41)
theorem Fx.nf_Form_str (hx : Fx K mg) : PySem.W.notFirst K (He.ga K "Form") (.type "str") = true := hx.s.chk 42
theorem Fx.ko_Form_str (hx : Fx K mg) : PySem.W.kitOne K (.ref (He.ga K "Form")) (.type "str") = some false := of_decide_eq_true (hx.s.chk 43)
theorem Fx.kt_tuple_Form (hx : Fx K mg) : PySem.W.kitOne K (.type "tuple") (.ref (He.ga K "Form")) = some false := of_decide_eq_true (hx.s.chk 44)
theorem Fx.nf_Form_tuple (hx : Fx K mg) : PySem.W.notFirst K (He.ga K "Form") (.type "tuple") = true := hx.s.chk 45
theorem Fx.ko_Form_tuple (hx : Fx K mg) : PySem.W.kitOne K (.ref (He.ga K "Form")) (.type "tuple") = some false := of_decide_eq_true (hx.s.chk 46)
theorem Fx.kt_list_Form (hx : Fx K mg) : PySem.W.kitOne K (.type "list") (.ref (He.ga K "Form")) = some false := of_decide_eq_true (hx.s.chk 47)
theorem Fx.nf_Form_list (hx : Fx K mg) : PySem.W.notFirst K (He.ga K "Form") (.type "list") = true := hx.s.chk 48
theorem Fx.ko_Form_list (hx : Fx K mg) : PySem.W.kitOne K (.ref (He.ga K "Form")) (.type "list") = some false := of_decide_eq_true (hx.s.chk 49)
theorem Fx.kt_dict_Form (hx : Fx K mg) : PySem.W.kitOne K (.type "dict") (.ref (He.ga K "Form")) = some false := of_decide_eq_true (hx.s.chk 50)
theorem Fx.nf_Form_dict (hx : Fx K mg) : PySem.W.notFirst K (He.ga K "Form") (.type "dict") = true := hx.s.chk 51
theorem Fx.ko_Form_dict (hx : Fx K mg) : PySem.W.kitOne K (.ref (He.ga K "Form")) (.type "dict") = some false := of_decide_eq_true (hx.s.chk 52)
theorem Fx.st_Form (hx : Fx K mg) : PySem.W.subIn K (.ref (He.ga K "Form")) (.type "tuple") = some false := of_decide_eq_true (hx.s.chk 53)
theorem Fx.kc_Form_Form (hx : Fx K mg) : PySem.W.kitOne K (.ref (He.ga K "Form")) (.ref (He.ga K "Form")) = some true := of_decide_eq_true (hx.s.chk 54)
theorem Fx.nc_Form_Form (hx : Fx K mg) : PySem.W.notFirst K (He.ga K "Form") (.ref (He.ga K "Form")) = true := hx.s.chk 55
theorem Fx.xm_InvalidForm_InvalidForm (hx : Fx K mg) : PySem.W.exmOne K (.ref (He.ga K "InvalidForm")) (.ref (He.ga K "InvalidForm")) = some true := He.exm_ok (hx.s.chk 56)
theorem Fx.in_InvalidForm (hx : Fx K mg) : IniK P K ⟨"InvalidForm", "InvalidForm.__init__", defArgs i_InvalidForm, defBody i_InvalidForm, defScope i_InvalidForm, 1, ["value"]⟩ := hx.s.exc noSuper 0
theorem Fx.g_InvalidForm (hx : Fx K mg) : mg "InvalidForm" = some (.ref (He.ga K "InvalidForm")) := by obtain ⟨h, X, G⟩ := hx.x; exact PySem.W.mg_of X G hx.in_InvalidForm.gl
theorem xs_InvalidForm : XScope ["self", "value"] (defScope i_InvalidForm) := ⟨rfl, rfl, rfl, by decide +kernel, by decide +kernel, by decide +kernel, rfl, rfl, xfree_of (by decide +kernel)⟩
abbrev xg_InvalidForm := g1 "value"
theorem Fx.dx_InvalidForm (hx : Fx K mg) (w : World) (base : Heap) (k : Nat) : DExc P w K mg base (k + 1) "InvalidForm" (He.ga K "InvalidForm") xg_InvalidForm :=
  hx.in_InvalidForm.dexc1 hx.g_InvalidForm "value" rfl rfl (by decide) xs_InvalidForm (by decide) (by decide) rfl rfl (fun _ _ _ _ _ => ⟨rfl, rfl, _, rfl⟩) (fun _ _ _ _ _ _ _ _ _ us its h1 h2 => match us, its, h1, h2 with | [_, _], [_], _, _ => ⟨_, rfl, rfl⟩)
theorem Fx.fd_is_whole (hx : Fx K mg) : ∃ fd, FunD K "is_whole" "is_whole" (defArgs s_is_whole) (defBody s_is_whole) (defScope s_is_whole) [] [] (He.ga K "is_whole") fd := hx.s.def_ 0
theorem Fx.fd_is_order (hx : Fx K mg) : ∃ fd, FunD K "is_order" "is_order" (defArgs s_is_order) (defBody s_is_order) (defScope s_is_order) [] [] (He.ga K "is_order") fd := hx.s.def_ 1
theorem Fx.fd_Form___init__ (hx : Fx K mg) : ∃ fd, FunD K "__init__" "Form.__init__" (defArgs s_Form___init__) (defBody s_Form___init__) (defScope s_Form___init__) [.str "abcdefghijklmnopqrstuvwxyz", .int 1] [] (He.ma K (He.ga K "Form") "__init__") fd := hx.s.def_ 2
theorem Fx.fd_Form_letters (hx : Fx K mg) : ∃ fd, FunD K "letters" "Form.letters" (defArgs s_Form_letters) (defBody s_Form_letters) (defScope s_Form_letters) [] [] (pg K "Form" "letters") fd := hx.s.def_ 3
theorem Fx.fd_Form_chains (hx : Fx K mg) : ∃ fd, FunD K "chains" "Form.chains" (defArgs s_Form_chains) (defBody s_Form_chains) (defScope s_Form_chains) [] [] (pg K "Form" "chains") fd := hx.s.def_ 4
theorem Fx.fd_Form___eq__ (hx : Fx K mg) : ∃ fd, FunD K "__eq__" "Form.__eq__" (defArgs s_Form___eq__) (defBody s_Form___eq__) (defScope s_Form___eq__) [] [] (He.ma K (He.ga K "Form") "__eq__") fd := hx.s.def_ 5
theorem Fx.fd__law_purse (hx : Fx K mg) : ∃ fd, FunD K "_law_purse" "_law_purse" (defArgs s__law_purse) (defBody s__law_purse) (defScope s__law_purse) [] [] (He.ga K "_law_purse") fd := hx.s.def_ 6
theorem Fx.fd__law_draw (hx : Fx K mg) : ∃ fd, FunD K "_law_draw" "_law_draw" (defArgs s__law_draw) (defBody s__law_draw) (defScope s__law_draw) [] [] (He.ga K "_law_draw") fd := hx.s.def_ 7
theorem Fx.fd__law_form (hx : Fx K mg) : ∃ fd, FunD K "_law_form" "_law_form" (defArgs s__law_form) (defBody s__law_form) (defScope s__law_form) [] [] (He.ga K "_law_form") fd := hx.s.def_ 8
theorem Fx.fd__law_whole (hx : Fx K mg) : ∃ fd, FunD K "_law_whole" "_law_whole" (defArgs s__law_whole) (defBody s__law_whole) (defScope s__law_whole) [] [] (He.ga K "_law_whole") fd := hx.s.def_ 9
theorem Fx.fd__law_refused (hx : Fx K mg) : ∃ fd, FunD K "_law_refused" "_law_refused" (defArgs s__law_refused) (defBody s__law_refused) (defScope s__law_refused) [] [] (He.ga K "_law_refused") fd := hx.s.def_ 10
theorem Fx.fd__law_right (hx : Fx K mg) : ∃ fd, FunD K "_law_right" "_law_right" (defArgs s__law_right) (defBody s__law_right) (defScope s__law_right) [] [] (He.ga K "_law_right") fd := hx.s.def_ 11
theorem Fx.fd__law_bad_letters (hx : Fx K mg) : ∃ fd, FunD K "_law_bad_letters" "_law_bad_letters" (defArgs s__law_bad_letters) (defBody s__law_bad_letters) (defScope s__law_bad_letters) [] [] (He.ga K "_law_bad_letters") fd := hx.s.def_ 12
theorem Fx.fd_law (hx : Fx K mg) : ∃ fd, FunD K "law" "law" (defArgs s_law) (defBody s_law) (defScope s_law) [] [] (He.ga K "law") fd := hx.s.def_ 13
end
end K02
set_option Elab.async false
set_option linter.all false
set_option maxRecDepth 100000
set_option maxHeartbeats 4000000
namespace K02
open PySem PySem.Spec PyProof.Rows L2 DX DL DH
/-! ### promises -/
def alpha : Str := "abcdefghijklmnopqrstuvwxyz"
/-- the letters are those of the alphabet, each once -/
abbrev cl (z : Str) : List Nat := z.cps.toList
def permS (z : Str) : Bool := (cl z).isPerm (cl alpha)
def isWh : D → Bool
  | .int _ => true
  | _ => false
def inR : D → Bool
  | .int n => decide (1 ≤ n) && decide (n ≤ 1000)
  | _ => false
def isOrd (l c : D) : Bool := match l with
  | .str z => permS z && inR c
  | _ => false
abbrev cF (K : Frag) : Addr := He.ga K "Form"
abbrev cX (K : Frag) : Addr := He.ga K "InvalidForm"
def form (K : Frag) (l c : D) : D := .ins (cF K) ["ranking", "many"] [l, c]
/-- short enough -/
def short : D → Bool
  | .str z => decide (z.length ≤ 10000)
  | _ => true
def sp_is_whole (K : Frag) : DSp := fun ds M Q _ => ∃ d, ds = [d] ∧ plain d = true ∧ Q (.bl (isWh d)) M
def sp_is_order (K : Frag) : DSp := fun ds M Q _ => ∃ l c, ds = [l, c] ∧ plain l = true ∧ plain c = true ∧ short l = true ∧ Q (.bl (isOrd l c)) M
def sp_Form___init__ (K : Frag) : DSp := fun ds M Q E => ∃ q l c, ds = [.ref q, l, c] ∧ M q = some (.ins (cF K) []) ∧ plain l = true ∧ plain c = true ∧ short l = true ∧
  (isOrd l c = true → Q .non (put M q (.ins (cF K) [("ranking", l), ("many", c)]))) ∧ (isOrd l c = false → E (cX K) [("value", .tup [l, c])] M)
/-- the arguments with their defaults -/
def fargs : List D → Option (D × D)
  | [] => some (.str alpha, .int 1)
  | [l] => some (l, .int 1)
  | [l, c] => some (l, c)
  | _ => none
def mk_Form (K : Frag) : DSp := fun ds M Q E => ∃ l c, fargs ds = some (l, c) ∧ plain l = true ∧ plain c = true ∧ short l = true ∧ (isOrd l c = true → Q (form K l c) M) ∧ (isOrd l c = false → E (cX K) [("value", .tup [l, c])] M)
def mk_Form0 (K : Frag) : DSp := fun ds M Q E => ds.length = 0 ∧ mk_Form K ds M Q E
def mk_Form1 (K : Frag) : DSp := fun ds M Q E => ds.length = 1 ∧ mk_Form K ds M Q E
def mk_Form2 (K : Frag) : DSp := fun ds M Q E => ds.length = 2 ∧ mk_Form K ds M Q E
def sp_Form_letters (K : Frag) : DSp := fun ds M Q _ => ∃ l c, ds = [form K l c] ∧ Q l M
def sp_Form_chains (K : Frag) : DSp := fun ds M Q _ => ∃ l c, ds = [form K l c] ∧ Q c M
def p_letters (K : Frag) : List (Addr × DSp) := [(cF K, sp_Form_letters K)]
def p_chains (K : Frag) : List (Addr × DSp) := [(cF K, sp_Form_chains K)]
/-- what form == y tells -/
def feq (K : Frag) (z : Str) (n : Int) : D → Option Bool
  | .ins C ["ranking", "many"] [.str y, .int m] => if C = cF K then some (decide (z = y) && decide (n = m)) else none
  | d => if plain d = true then some false else none
def sp_Form___eq__ (K : Frag) : DSp := fun ds M Q _ => ∃ z n y b, ds = [form K (.str z) (.int n), y] ∧ feq K z n y = some b ∧ Q (.bl b) M
def m___eq__ (K : Frag) : List (Addr × DSp) := [(cF K, sp_Form___eq__ K)]
/-- a purse: three numbers, the first not below 0 -/
def purse (a b c : Int) : MO := .lst [.int a, .int b, .int c]
def sp__law_purse (K : Frag) : DSp := fun ds M Q _ => ∃ (ns : List Int) (i : Nat), ds = [.scr (ns.map D.int), .int i] ∧ ns.length ≤ 63 ∧ i < 1000 ∧ ∀ (p : Addr) (a b c : Int), M p = none → 0 ≤ a → Q (.ref p) (put M p (purse a b c))
def sp__law_draw (K : Frag) : DSp := fun ds M Q _ => ∃ (q : Addr) (a b c n : Int), ds = [.ref q, .int n] ∧ M q = some (purse a b c) ∧ 0 ≤ a ∧ 1 ≤ n ∧ n ≤ 1000 ∧ ∀ (r a' b' c' : Int), 0 ≤ r → r < n → 0 ≤ a' → Q (.int r) (put M q (purse a' b' c'))
def sp__law_form (K : Frag) : DSp := fun ds M Q _ => ∃ (q : Addr) (a b c : Int), ds = [.ref q] ∧ M q = some (purse a b c) ∧ 0 ≤ a ∧ ∀ (z : Str) (n a' b' c' : Int), permS z = true → 1 ≤ n → n ≤ 1000 → 0 ≤ a' → Q (.tup [.str z, .int n]) (put M q (purse a' b' c'))
def sp__law_whole (K : Frag) : DSp := fun ds M Q _ => ∃ d, ds = [d] ∧ plain d = true ∧ Q (.bl (isWh d)) M
def sp__law_refused (K : Frag) : DSp := fun ds M Q _ => ∃ l c, ds = [l, c] ∧ plain l = true ∧ plain c = true ∧ short l = true ∧ lay 50 l = true ∧ lay 50 c = true ∧ isOrd l c = false ∧ Q (.bl true) M
def sp__law_right (K : Frag) : DSp := fun ds M Q _ => ∃ z n, ds = [form K (.str z) (.int n), .str z, .int n] ∧ isOrd (.str z) (.int n) = true ∧ short (.str z) = true ∧ Q (.bl true) M
/-- values that are no letters of a form -/
def badL (d : D) : Prop := plain d = true ∧ short d = true ∧ lay 50 d = true ∧ ∀ c, isOrd d c = false
def sp__law_bad_letters (K : Frag) : DSp := fun ds M Q _ => ∃ (z : Str) (i : Int), ds = [.str z, .int i] ∧ permS z = true ∧ 0 ≤ i ∧ i < 26 ∧ ∀ xs, (∀ d ∈ xs, badL d) → Q (.lst xs) M
def sp_law (K : Frag) : DSp := fun ds M Q _ => ∃ ns : List Int, ds = [.scr (ns.map D.int)] ∧ ns.length ≤ 63 ∧ ∀ M', Q (.bl true) M'
end K02
set_option Elab.async false
set_option linter.all false
set_option maxRecDepth 100000
set_option maxHeartbeats 4000000
namespace K02
open PySem PySem.Spec PyProof.Rows L2 DX DL DH
def t_is_whole (K : Frag) (W : DXK) : DTS := dRet (dAndV (dCB (dIsi K) (dCons (dVar 0) (dCons (dC (.ty "int")) (dNil)))) (dNotE (dCB (dIsi K) (dCons (dVar 0) (dCons (dC (.ty "bool")) (dNil))))))
def t_is_order (K : Frag) (W : DXK) : DTS := dSeq (dIfS (dOr (dNot (dB (dCB (dIsi K) (dCons (dVar 0) (dCons (dC (.ty "str")) (dNil)))))) (dB (dOp dNe (dCB dSortedS (dCons (dVar 0) (dNil))) (dCB dListS (dCons (dC (.str "abcdefghijklmnopqrstuvwxyz")) (dNil)))))) (dRet (dC (.bl false))) (dNext)) (dRet (dAndV (dCall (sp_is_whole K) (dW W) (dCons (dVar 1) (dNil))) (dChain (dCmp .LtE) (dCmp .LtE) (dC (.int 1)) (dVar 1) (dC (.int 1000)))))
def t_Form___init__ (K : Frag) (W : DXK) : DTS := dSeq (dIfS (dNot (dB (dCall (sp_is_order K) (dW W) (dCons (dVar 1) (dCons (dVar 2) (dNil)))))) (dRaise (He.ga K "InvalidForm") (xg_InvalidForm) (dW W) (dCons (dTup (dCons (dVar 1) (dCons (dVar 2) (dNil)))) (dNil))) (dNext)) (dSeq (dSetF K "ranking" (dVar 0) (dVar 1)) (dSetF K "many" (dVar 0) (dVar 2)))
def t_Form_letters (K : Frag) (W : DXK) : DTS := dRet (dFld K "ranking" (dVar 0))
def t_Form_chains (K : Frag) (W : DXK) : DTS := dRet (dFld K "many" (dVar 0))
def t_Form___eq__ (K : Frag) (W : DXK) : DTS := dRet (dAndV (dCB (dIsi K) (dCons (dVar 1) (dCons (dC (.ref (He.ga K "Form"))) (dNil)))) (dAndV (dOp dEq (dFld K "ranking" (dVar 0)) (dFld K "ranking" (dVar 1))) (dOp dEq (dFld K "many" (dVar 0)) (dFld K "many" (dVar 1)))))
def t__law_purse (K : Frag) (W : DXK) : DTS := dSeq (dSet 2 (dCB dInt (dCons (dCB dSum (dCons (dSlice (dVar 0) (dPart (dVar 1)) (dPart (dOp dAdd (dVar 1) (dC (.int 1))))) (dNil))) (dNil)))) (dRet (dLstM (dCons (dOp dMul (dCB dInt (dCons (dOp (dCmp .GtE) (dVar 2) (dOp dPow (dC (.int 10)) (dC (.int 18)))) (dNil))) (dOp dMod (dVar 2) (dOp dPow (dOp dPow (dC (.int 10)) (dC (.int 60))) (dC (.int 10))))) (dCons (dOp dMod (dVar 2) (dC (.int 2147483629))) (dCons (dOp dMul (dC (.int 1000)) (dVar 1)) (dNil))))))
def t__law_draw (K : Frag) (W : DXK) : DTS := dSeq (dIfS (dB (dOp (dCmp .Gt) (dOp dIx (dVar 0) (dC (.int 0))) (dC (.int 0)))) (dSeq (dSet 2 (dOp dMod (dOp dIx (dVar 0) (dC (.int 0))) (dVar 1))) (dSeq (dAsg (dOp dFdiv (dOp dIx (dVar 0) (dC (.int 0))) (dVar 1)) (dgSub (dVar 0) (dC (.int 0)))) (dRet (dVar 2)))) (dNext)) (dSeq (dAsg (dOp dAdd (dOp dIx (dVar 0) (dC (.int 2))) (dC (.int 1))) (dgSub (dVar 0) (dC (.int 2)))) (dSeq (dSet 3 (dOp dMod (dOp dAdd (dOp dAdd (dOp dMul (dOp dIx (dVar 0) (dC (.int 1))) (dC (.int 48271))) (dOp dMul (dOp dIx (dVar 0) (dC (.int 2))) (dC (.int 1299709)))) (dC (.int 907))) (dC (.int 2147483629)))) (dSeq (dSet 3 (dOp dMod (dOp dAdd (dOp dMul (dVar 3) (dVar 3)) (dOp dIx (dVar 0) (dC (.int 2)))) (dC (.int 2147483587)))) (dSeq (dSet 3 (dOp dMod (dOp dAdd (dOp dMul (dVar 3) (dVar 3)) (dC (.int 69621))) (dC (.int 2147483563)))) (dRet (dOp dMod (dOp dFdiv (dVar 3) (dC (.int 64))) (dVar 1)))))))
def t__law_form_1 (K : Frag) (W : DXK) : DTS := dSeq (dSet 3 (dOp dAdd (dVar 4) (dCall (sp__law_draw K) (dW W) (dCons (dVar 0) (dCons (dOp dSub (dC (.int 26)) (dVar 4)) (dNil)))))) (dSeq (dSet 5 (dOp dAdd (dSlice (dVar 1) (dPart (dVar 4)) (dPart (dVar 3))) (dSlice (dVar 1) (dPart (dOp dAdd (dVar 3) (dC (.int 1)))) dNoP))) (dSet 1 (dOp dAdd (dOp dAdd (dSlice (dVar 1) dNoP (dPart (dVar 4))) (dOp dIx (dVar 1) (dVar 3))) (dVar 5))))
def t__law_form_2 (K : Frag) (W : DXK) : DTS := dSeq (dSet 6 (dOp dIx (dLst (dCons (dC (.int 1)) (dCons (dC (.int 1)) (dCons (dC (.int 4)) (dCons (dC (.int 1000)) (dNil)))))) (dCall (sp__law_draw K) (dW W) (dCons (dVar 0) (dCons (dC (.int 4)) (dNil)))))) (dRet (dTup (dCons (dVar 1) (dCons (dOp dAdd (dC (.int 1)) (dCall (sp__law_draw K) (dW W) (dCons (dVar 0) (dCons (dVar 6) (dNil))))) (dNil)))))
def t__law_form_3 (K : Frag) (W : DXK) : DTS := dSeq (dIfS (dB (dOp dEq (dVar 2) (dC (.int 3)))) (dFor (dRng1 (dCons (dC (.int 25)) (dNil))) (dgN 4) (t__law_form_1 K W)) (dNext)) (t__law_form_2 K W)
def t__law_form_4 (K : Frag) (W : DXK) : DTS := dSeq (dIfS (dB (dOp dEq (dVar 2) (dC (.int 2)))) (dSeq (dSet 3 (dCall (sp__law_draw K) (dW W) (dCons (dVar 0) (dCons (dC (.int 26)) (dNil))))) (dSet 1 (dOp dAdd (dSlice (dVar 1) (dPart (dVar 3)) dNoP) (dSlice (dVar 1) dNoP (dPart (dVar 3)))))) (dNext)) (t__law_form_3 K W)
def t__law_form (K : Frag) (W : DXK) : DTS := dSeq (dSet 1 (dC (.str "abcdefghijklmnopqrstuvwxyz"))) (dSeq (dSet 2 (dCall (sp__law_draw K) (dW W) (dCons (dVar 0) (dCons (dC (.int 5)) (dNil))))) (dSeq (dIfS (dB (dOp dEq (dVar 2) (dC (.int 1)))) (dSet 1 (dRevS (dVar 1))) (dNext)) (t__law_form_4 K W)))
def t__law_whole (K : Frag) (W : DXK) : DTS := dRet (dAndV (dCB (dIsi K) (dCons (dVar 0) (dCons (dC (.ty "int")) (dNil)))) (dNotE (dCB (dIsi K) (dCons (dVar 0) (dCons (dC (.ty "bool")) (dNil))))))
def t__law_refused_1 (K : Frag) (W : DXK) : DTS := dRet (dAndV (dOp dEq (dVar 2) (dTup (dCons (dVar 0) (dCons (dVar 1) (dNil))))) (dCB (dIsi K) (dCons (dVar 2) (dCons (dC (.ty "tuple")) (dNil)))))
def t__law_refused (K : Frag) (W : DXK) : DTS := dSeq (dSet 2 (dC .non)) (dSeq (dTry K 3 (dW W) [(.ref (He.ga K "InvalidForm"), ["value"], fun a C fs => dSet 2 (dXf a fs "value" (dVar 3)))] (fun W => dDrop (dCall (mk_Form2 K) W (dCons (dVar 0) (dCons (dVar 1) (dNil)))))) (t__law_refused_1 K W))
def t__law_right (K : Frag) (W : DXK) : DTS := dSeq (dIfS (dOr (dB (dOp dNe (dProp (p_letters K) (dVar 0)) (dVar 1))) (dOr (dB (dOp dNe (dProp (p_chains K) (dVar 0)) (dVar 2))) (dNot (dB (dCall (sp__law_whole K) (dW W) (dCons (dProp (p_chains K) (dVar 0)) (dNil))))))) (dRet (dC (.bl false))) (dNext)) (dRet (dAndV (dCB (dIsi K) (dCons (dVar 0) (dCons (dC (.ref (He.ga K "Form"))) (dNil)))) (dOp (dEqX K (m___eq__ K)) (dVar 0) (dCall (mk_Form2 K) (dW W) (dCons (dVar 1) (dCons (dVar 2) (dNil)))))))
def t__law_bad_letters_1 (K : Frag) (W : DXK) : DTS := dRet (dOp dAdd (dVar 3) (dLst (dCons (dOp dAdd (dOp dAdd (dC (.str "z")) (dVar 2)) (dC (.str "a"))) (dNil))))
def t__law_bad_letters_2 (K : Frag) (W : DXK) : DTS := dSeq (dSet 3 (dOp dAdd (dVar 3) (dLst (dCons (dOp dAdd (dVar 2) (dC (.str "0"))) (dCons (dLc (st1 4 (dYes) (dVar 4)) (dSeqI (dVar 0))) (dCons (dCB dTupleS (dCons (dVar 0) (dNil))) (dCons (dC .non) (dCons (dVar 1) (dCons (dOp dAdd (dVar 0) (dC (.str "\n"))) (dNil)))))))))) (t__law_bad_letters_1 K W)
def t__law_bad_letters_3 (K : Frag) (W : DXK) : DTS := dSeq (dSet 3 (dLst (dCons (dVar 2) (dCons (dOp dAdd (dVar 0) (dOp dIx (dVar 0) (dVar 1))) (dCons (dOp dAdd (dVar 2) (dOp dIx (dVar 0) (dOp dMod (dOp dAdd (dVar 1) (dC (.int 1))) (dC (.int 26))))) (dCons (dOp dAdd (dVar 2) (dBM0 "str" dUpper (dOp dIx (dVar 0) (dVar 1)))) (dCons (dOp dAdd (dVar 2) (dC (.str " "))) (dCons (dC (.str "")) (dNil))))))))) (t__law_bad_letters_2 K W)
def t__law_bad_letters (K : Frag) (W : DXK) : DTS := dSeq (dSet 2 (dOp dAdd (dSlice (dVar 0) dNoP (dPart (dVar 1))) (dSlice (dVar 0) (dPart (dOp dAdd (dVar 1) (dC (.int 1)))) dNoP))) (t__law_bad_letters_3 K W)
def t_law_1 (K : Frag) (W : DXK) : DTS := dIfS (dNot (dB (dCall (sp__law_refused K) (dW W) (dCons (dVar 7) (dCons (dVar 6) (dNil)))))) (dRet (dC (.bl false))) (dNext)
def t_law_2 (K : Frag) (W : DXK) : DTS := dIfS (dNot (dB (dCall (sp__law_refused K) (dW W) (dCons (dVar 5) (dCons (dVar 7) (dNil)))))) (dRet (dC (.bl false))) (dNext)
def t_law_3 (K : Frag) (W : DXK) : DTS := dSeq (dDrop (dBM "list" dAppend (dVar 1) (dCons (dCall (mk_Form2 K) (dW W) (dCons (dVar 5) (dCons (dVar 6) (dNil)))) (dNil)))) (dSeq (dDrop (dBM "list" dAppend (dVar 2) (dCons (dTup (dCons (dVar 5) (dCons (dVar 6) (dNil)))) (dNil)))) (dSeq (dDrop (dBM "list" dAppend (dVar 1) (dCons (dCall (mk_Form2 K) (dW W) (dCons (dVar 5) (dCons (dOp dAdd (dOp dMod (dVar 6) (dC (.int 1000))) (dC (.int 1))) (dNil)))) (dNil)))) (dDrop (dBM "list" dAppend (dVar 2) (dCons (dTup (dCons (dVar 5) (dCons (dOp dAdd (dOp dMod (dVar 6) (dC (.int 1000))) (dC (.int 1))) (dNil)))) (dNil))))))
def t_law_4 (K : Frag) (W : DXK) : DTS := dSeq (dSet 8 (dOp dMod (dCB dInt (dCons (dCB dSum (dCons (dSlice (dVar 0) (dPart (dVar 3)) (dPart (dOp dAdd (dVar 3) (dC (.int 1))))) (dNil))) (dNil))) (dOp dPow (dC (.int 10)) (dC (.int 39))))) (dSeq (dFor (dSeqI (dLst (dCons (dC (.int 0)) (dCons (dC (.int 1001)) (dCons (dOp dSub (dC (.int 0)) (dVar 6)) (dCons (dOp dAdd (dC (.int 1001)) (dVar 8)) (dCons (dOp dSub (dC (.int 0)) (dVar 8)) (dCons (dC (.bl true)) (dCons (dC (.bl false)) (dCons (dC .non) (dCons (dC (.str "1")) (dCons (dLst (dCons (dVar 6) (dNil))) (dCons (dTup (dCons (dVar 6) (dNil))) (dNil)))))))))))))) (dgN 7) (t_law_2 K W)) (t_law_3 K W))
def t_law_5 (K : Frag) (W : DXK) : DTS := dSeq (dSet 4 (dCall (sp__law_purse K) (dW W) (dCons (dVar 0) (dCons (dVar 3) (dNil))))) (dSeq (dAsg (dCall (sp__law_form K) (dW W) (dCons (dVar 4) (dNil))) (dgTup 2 (dgCons (dgN 5) (dgCons (dgN 6) (dgNil))))) (dSeq (dSet 6 (dOp dIx (dLst (dCons (dVar 6) (dCons (dC (.int 1)) (dCons (dC (.int 1000)) (dNil))))) (dCall (sp__law_draw K) (dW W) (dCons (dVar 4) (dCons (dC (.int 3)) (dNil)))))) (dSeq (dIfS (dOr (dNot (dB (dCall (sp__law_right K) (dW W) (dCons (dCall (mk_Form2 K) (dW W) (dCons (dVar 5) (dCons (dVar 6) (dNil)))) (dCons (dVar 5) (dCons (dVar 6) (dNil))))))) (dNot (dB (dCall (sp__law_right K) (dW W) (dCons (dCall (mk_Form1 K) (dW W) (dCons (dVar 5) (dNil))) (dCons (dVar 5) (dCons (dC (.int 1)) (dNil)))))))) (dRet (dC (.bl false))) (dNext)) (dSeq (dFor (dSeqI (dCall (sp__law_bad_letters K) (dW W) (dCons (dVar 5) (dCons (dCall (sp__law_draw K) (dW W) (dCons (dVar 4) (dCons (dC (.int 26)) (dNil)))) (dNil))))) (dgN 7) (t_law_1 K W)) (t_law_4 K W)))))
def t_law_6 (K : Frag) (W : DXK) : DTS := dIfS (dB (dOp dNe (dCB dBool (dCons (dOp (dEqX K (m___eq__ K)) (dVar 9) (dVar 11)) (dNil))) (dOp (dEqX K (m___eq__ K)) (dOp dIx (dVar 2) (dVar 3)) (dOp dIx (dVar 2) (dVar 10))))) (dRet (dC (.bl false))) (dNext)
def t_law_7 (K : Frag) (W : DXK) : DTS := dIfS (dOr (dB (dOp (dEqX K (m___eq__ K)) (dVar 9) (dOp dIx (dVar 2) (dVar 3)))) (dOr (dB (dOp (dEqX K (m___eq__ K)) (dVar 9) (dOp dIx (dOp dIx (dVar 2) (dVar 3)) (dC (.int 0))))) (dOr (dB (dOp (dEqX K (m___eq__ K)) (dVar 9) (dOp dIx (dOp dIx (dVar 2) (dVar 3)) (dC (.int 1))))) (dB (dOp (dEqX K (m___eq__ K)) (dOp dIx (dVar 2) (dVar 3)) (dVar 9)))))) (dRet (dC (.bl false))) (dNext)
def t_law_8 (K : Frag) (W : DXK) : DTS := dSeq (dFor (dEnumI (dCons (dVar 1) (dNil))) (dgTup 2 (dgCons (dgN 10) (dgCons (dgN 11) (dgNil)))) (t_law_6 K W)) (t_law_7 K W)
def t_law_9 (K : Frag) (W : DXK) : DTS := dRet (dC (.bl true))
def t_law_10 (K : Frag) (W : DXK) : DTS := dSeq (dFor (dEnumI (dCons (dVar 1) (dNil))) (dgTup 2 (dgCons (dgN 3) (dgCons (dgN 9) (dgNil)))) (t_law_8 K W)) (t_law_9 K W)
def t_law (K : Frag) (W : DXK) : DTS := dSeq (dIfS (dNot (dB (dCall (sp__law_right K) (dW W) (dCons (dCall (mk_Form0 K) (dW W) dNil) (dCons (dC (.str "abcdefghijklmnopqrstuvwxyz")) (dCons (dC (.int 1)) (dNil))))))) (dRet (dC (.bl false))) (dNext)) (dSeq (dPar 1 2 (dCons (dLstM (dNil)) (dCons (dLstM (dNil)) (dNil)))) (dSeq (dFor (dRng1 (dCons (dC (.int 4)) (dNil))) (dgN 3) (t_law_5 K W)) (t_law_10 K W)))
end K02
set_option Elab.async false
set_option linter.all false
set_option maxRecDepth 100000
set_option maxHeartbeats 4000000
namespace K02
open PySem PySem.Spec L2 DX DL DH
section
variable {K : Frag} {mg : Str → Option Value} {ds : List D} {M : DM} {Q : DK} {W : DXK}
theorem pure_is_whole (hx : Fx K mg) (h : sp_is_whole K ds M Q W) : t_is_whole K W (endsF Q) (startD ["value"] ds) M := by
  obtain ⟨d, rfl, hp, q⟩ := h
  simp [t_is_whole]
  refine isi_int hp ?_
  have q' := up.mk q
  cases d <;> simp [isInt, isBl, isWh] at q' ⊢ <;> first | exact q' | exact isi_bool rfl (by simpa [isBl] using q') | cases hp
theorem pure__law_whole (hx : Fx K mg) (h : sp__law_whole K ds M Q W) : t__law_whole K W (endsF Q) (startD ["_law_value"] ds) M := pure_is_whole (W := W) hx h
/-! ### texts -/
/-- a row of single signs, as a row of numbers -/
theorem rising_chain : ∀ (l : List Nat) (p : Nat), PyProof.Rows.risingS ⟨#[p]⟩ (l.map fun c => (⟨#[c]⟩ : Str)) = true → (p :: l).Pairwise (· ≤ ·) := by
  intro l
  induction l with
  | nil => intro p _; simp
  | cons c l ih =>
    intro p h
    have h2 : (!ltCps [c] [p] && PyProof.Rows.risingS ⟨#[c]⟩ (l.map fun c => (⟨#[c]⟩ : Str))) = true := h
    simp only [Bool.and_eq_true, Bool.not_eq_true'] at h2
    obtain ⟨h3, h4⟩ := h2
    have hp : p ≤ c := by
      simp [ltCps] at h3
      exact h3
    have := ih c h4
    refine List.pairwise_cons.mpr ⟨fun x hx => ?_, this⟩
    rcases List.mem_cons.mp hx with rfl | hx
    · exact hp
    · exact Nat.le_trans hp ((List.pairwise_cons.mp this).1 x hx)
theorem sorted_chain (l : List Nat) (h : PyProof.Rows.sortedS (l.map fun c => (⟨#[c]⟩ : Str)) = true) : l.Pairwise (· ≤ ·) := by
  cases l with
  | nil => exact .nil
  | cons c l => exact rising_chain l c h
theorem signs_of {ys : List Str} {z : Str} (hp : ys.Perm (signs z)) : ∃ l : List Nat, ys = l.map (fun c => (⟨#[c]⟩ : Str)) ∧ l.Perm (cl z) := by
  have inj : ∀ ys : List Str, (∀ x ∈ ys, ∃ c : Nat, x = ⟨#[c]⟩) → ∃ l : List Nat, ys = l.map (fun c => (⟨#[c]⟩ : Str)) := by
    intro ys
    induction ys with
    | nil => intro _; exact ⟨[], rfl⟩
    | cons x ys ih =>
      intro h
      obtain ⟨c, rfl⟩ := h x (List.mem_cons_self ..)
      obtain ⟨l, rfl⟩ := ih fun x hx => h x (List.mem_cons_of_mem _ hx)
      exact ⟨c :: l, rfl⟩
  obtain ⟨l, rfl⟩ := inj ys fun x hx => by
    obtain ⟨c, _, e⟩ := List.mem_map.mp (hp.mem_iff.mp hx)
    exact ⟨c, e.symm⟩
  refine ⟨l, rfl, ?_⟩
  have h2 := hp.map (fun s : Str => s.cps.toList.headD 0)
  simpa [signs, List.map_map, Function.comp_def] using h2
theorem eqL_strs : ∀ (a b : List Str), eqL (a.map D.str) (b.map D.str) = decide (a = b)
  | [], [] => rfl
  | [], _ :: _ => rfl
  | _ :: _, [] => rfl
  | x :: a, y :: b => by
    have e : (x == y) = decide (x = y) := by by_cases h : x = y <;> simp [h]
    simp only [List.map_cons, eqL, eqD, eqL_strs a b, e, List.cons.injEq, Bool.decide_and]
theorem alpha_sorted : (cl alpha).Pairwise (· ≤ ·) := by decide +kernel
theorem order_str {z : Str} {ys : List Str} (hp : ys.Perm (signs z)) (hs : PyProof.Rows.sortedS ys = true) : eqD (.lst (ys.map D.str)) (.lst ((signs alpha).map D.str)) = permS z := by
  obtain ⟨l, rfl, hl⟩ := signs_of hp
  have so := sorted_chain l hs
  show eqL _ _ = _
  rw [eqL_strs]
  have key : (l.map (fun c => (⟨#[c]⟩ : Str)) = signs alpha) ↔ (cl z).Perm (cl alpha) := by
    constructor
    · intro e
      have e2 := congrArg (List.map fun s : Str => s.cps.toList.headD 0) e
      have e3 : l = cl alpha := by simpa [signs, List.map_map, Function.comp_def] using e2
      rw [← e3]; exact hl.symm
    · intro h
      have e3 : l = cl alpha := (hl.trans h).eq_of_pairwise (fun a b _ _ => Nat.le_antisymm) so alpha_sorted
      rw [e3]; rfl
  cases hz : permS z with
  | true => exact decide_eq_true (key.mpr (List.isPerm_iff.mp hz))
  | false =>
    refine decide_eq_false fun h => ?_
    have h2 : permS z = true := List.isPerm_iff.mpr (key.mp h)
    rw [hz] at h2
    cases h2
theorem pure_is_order (hx : Fx K mg) (h : sp_is_order K ds M Q W) : t_is_order K W (endsF Q) (startD ["letters", "chains"] ds) M := by
  obtain ⟨l, c, rfl, hp, hc, hs, q⟩ := h
  have q' := up.mk q
  simp [t_is_order]
  refine isi_str hp ?_
  cases l <;> simp [isStr] <;> first | exact q' | cases hp | skip
  rename_i z
  have hz : z.length ≤ sizeLine := small (Nat.le_trans (of_decide_eq_true hs) (by decide))
  refine ⟨hz, fun ys hy hso => ⟨by rw [sizeLine_eq]; decide +kernel, ?_⟩⟩
  refine dNe_of (by simp [res, lay]) (order_str hy hso) ?_
  cases hz2 : permS z with
  | false => simpa [isOrd, hz2] using q'
  | true =>
    simp
    refine ⟨c, rfl, hc, ?_⟩
    cases c <;> simp [isWh] <;> first | simpa [isOrd, inR, hz2] using q' | cases hc | skip
    rename_i n
    by_cases h1 : 1 ≤ n <;> by_cases h2 : n ≤ 1000 <;> simpa [isOrd, inR, hz2, h1, h2] using q'
theorem pure_Form___init__ (hx : Fx K mg) (h : sp_Form___init__ K ds M Q W) : t_Form___init__ K (upX W) (endsF Q) (startD ["self", "letters", "chains"] ds) M := by
  obtain ⟨p, l, c, rfl, hM, hp, hc, hs, q1, q2⟩ := h
  simp [t_Form___init__]
  refine ⟨l, c, rfl, hp, hc, hs, ?_⟩
  cases ho : isOrd l c with
  | true =>
    simp only [if_true, hM]
    exact ⟨hx.pf_Form_ranking, by simp, hx.pf_Form_many, by simp [putD], up.mk (q1 ho)⟩
  | false => exact ⟨small (by decide), _, rfl, upX.mk (q2 ho)⟩
theorem pure_Form_letters (hx : Fx K mg) (h : sp_Form_letters K ds M Q W) : t_Form_letters K W (endsF Q) (startD ["self"] ds) M := by
  obtain ⟨l, c, rfl, q⟩ := h
  exact ⟨hx.pf_Form_ranking, up.mk q⟩
theorem pure_Form_chains (hx : Fx K mg) (h : sp_Form_chains K ds M Q W) : t_Form_chains K W (endsF Q) (startD ["self"] ds) M := by
  obtain ⟨l, c, rfl, q⟩ := h
  exact ⟨hx.pf_Form_many, up.mk q⟩
/-- isinstance(y, Form) -/
theorem isi_form (hx : Fx K mg) {y : D} {Q : DK} (q : plain y = true → Q (.bl false) M) (q2 : ∀ l c, y = form K l c → Q (.bl true) M) (h : plain y = true ∨ ∃ l c, y = form K l c) : dIsi K [y, .ref (cF K)] M Q := by
  rcases h with h | ⟨l, c, rfl⟩
  · have q' := q h
    cases y with
    | non => exact ⟨trivial, by rw [show kitD K (.b "NoneType") (.o (cF K)) = some false from hx.kt_NoneType_Form]; exact q'⟩
    | bl b => exact ⟨trivial, by rw [show kitD K (.b "bool") (.o (cF K)) = some false from hx.kt_bool_Form]; exact q'⟩
    | int b => exact ⟨trivial, by rw [show kitD K (.b "int") (.o (cF K)) = some false from hx.kt_int_Form]; exact q'⟩
    | str b => exact ⟨trivial, by rw [show kitD K (.b "str") (.o (cF K)) = some false from hx.kt_str_Form]; exact q'⟩
    | tup b => exact ⟨trivial, by rw [show kitD K (.b "tuple") (.o (cF K)) = some false from hx.kt_tuple_Form]; exact q'⟩
    | lst b => exact ⟨trivial, by rw [show kitD K (.b "list") (.o (cF K)) = some false from hx.kt_list_Form]; exact q'⟩
    | _ => cases h
  · exact ⟨hx.ic_Form, by rw [show kitD K (.o (cF K)) (.o (cF K)) = some true from hx.kc_Form_Form]; exact q2 l c rfl⟩
theorem pure_Form___eq__ (hx : Fx K mg) (h : sp_Form___eq__ K ds M Q W) : t_Form___eq__ K W (endsF Q) (startD ["self", "other"] ds) M := by
  obtain ⟨z, n, y, b, rfl, hy, q⟩ := h
  have q' := up.mk q
  simp [t_Form___eq__]
  have hk : plain y = true ∨ ∃ z' m, y = form K (.str z') (.int m) ∧ b = (decide (z = z') && decide (n = m)) := by
    unfold feq at hy
    split at hy
    · split at hy
      · rename_i hC
        cases hy
        subst hC
        exact .inr ⟨_, _, rfl, rfl⟩
      · cases hy
    · split at hy
      · rename_i hp
        exact .inl hp
      · cases hy
  rcases hk with hp | ⟨z', m, rfl, hb⟩
  · have hb : b = false := by
      cases y <;> first | exact (Option.some.inj (show some false = some b from hy)).symm | cases hp
    subst hb
    refine isi_form hx (fun _ => ?_) (fun l c e => ?_) (.inl hp)
    · simpa using q'
    · subst e; cases hp
  · refine isi_form hx (fun hp => by cases hp) (fun l c e => ?_) (.inr ⟨_, _, rfl⟩)
    have lk : ∀ a b : D, List.lookup (Str.ofString "many") [(Str.ofString "ranking", a), (Str.ofString "many", b)] = some b := fun _ _ => rfl
    simp [form, insD, lk]
    refine ⟨hx.pf_Form_ranking, ?_⟩
    rw [hb] at q'
    by_cases hz : z = z'
    · simp only [hz, if_true]
      exact ⟨hx.pf_Form_many, by simpa [hz] using q'⟩
    · simpa [hz] using q'
theorem pure__law_purse (hx : Fx K mg) (h : sp__law_purse K ds M Q W) : t__law_purse K W (endsF Q) (startD ["_law_script", "_law_at", "_law_cell"] ds) M := by
  obtain ⟨ns, i, rfl, hl, hi, q⟩ := h
  have e : ∀ lo hi Q, dSl (.scr (ns.map D.int)) lo hi M Q = Q (.lst ((cut ns lo hi).map D.int)) M := fun lo hi Q => by
    unfold dSl asR res cut
    simp
  simp [t__law_purse, e]
  have ei : ∀ l : List Int, intsD (l.map D.int) = some l := fun l => by
    induction l with
    | nil => rfl
    | cons x l ih => simp [intsD, ih]
  have es : ∀ (l : List Int) Q, dSum [.lst (l.map D.int)] M Q = Q (.int l.sum) M := fun l Q => by
    show (match intsD (l.map D.int) with | some ns => Q (.int ns.sum) M | none => False) = _
    rw [ei]
  simp [es]
  refine ⟨⟨by decide, by decide +kernel⟩, ⟨by decide, by decide +kernel⟩, ⟨by decide, by decide +kernel⟩, .inl ?_, .inl (by decide), small (by decide), fun p hp => up.mk (q p _ _ _ hp ?_)⟩
  · split <;> decide
  · refine Int.mul_nonneg (by split <;> decide) (Int.emod_nonneg _ (by decide))
theorem pure__law_draw (hx : Fx K mg) (h : sp__law_draw K ds M Q W) : t__law_draw K W (endsF Q) (startD ["_law_purse_here", "_law_many", "_law_drawn", "_law_number"] ds) M := by
  obtain ⟨p, a, b, c, n, rfl, hM, ha, h1, h2, q⟩ := h
  have hM' : M p = some (.lst [.int a, .int b, .int c]) := hM
  simp [t__law_draw, dIx_ref hM', hM', atI, ixN]
  have sm : ∀ i m : Int, 0 < m → m < 2 ^ 64 → CMul (i % m) (i % m) := fun i m h1 h2 => .inl ⟨by have := Int.emod_nonneg i (by omega : m ≠ 0); omega, by have := Int.emod_lt_of_pos i h1; omega⟩
  split
  · exact ⟨by omega, ⟨by omega, by omega⟩, up.mk (q _ _ _ _ (Int.emod_nonneg _ (by omega)) (Int.emod_lt_of_pos _ (by omega)) (Int.ediv_nonneg ha (by omega)))⟩
  · exact ⟨.inr (by decide), .inr (by decide), sm _ _ (by decide) (by decide), sm _ _ (by decide) (by decide), by constructor <;> decide, by omega, up.mk (q _ _ _ _ (Int.emod_nonneg _ (by omega)) (Int.emod_lt_of_pos _ (by omega)) ha)⟩
end
end K02
set_option Elab.async false
set_option linter.all false
set_option maxRecDepth 100000
set_option maxHeartbeats 4000000
namespace K02
open PySem PySem.Spec L2 DX DL DH
/-! ### letters -/
theorem permS_iff {z : Str} : permS z = true ↔ (cl z).Perm (cl alpha) := List.isPerm_iff
theorem perm_len {z : Str} (h : permS z = true) : (cl z).length = 26 := by
  rw [(permS_iff.mp h).length_eq]; decide +kernel
theorem alpha_nodup : (cl alpha).Nodup := by decide +kernel
theorem perm_nodup {z : Str} (h : permS z = true) : (cl z).Nodup := (permS_iff.mp h).nodup_iff.mpr alpha_nodup
theorem perm_mem {z : Str} (h : permS z = true) {c : Nat} (hc : c ∈ cl z) : c ∈ cl alpha := (permS_iff.mp h).mem_iff.mp hc
theorem permS_false {z : Str} (h : ¬ (cl z).Perm (cl alpha)) : permS z = false := by
  cases e : permS z with
  | false => rfl
  | true => exact absurd (permS_iff.mp e) h
theorem not_perm_len {z : Str} (h : (cl z).length ≠ 26) : permS z = false := permS_false fun p => h (by rw [p.length_eq]; decide +kernel)
theorem not_perm_mem {z : Str} {c : Nat} (hc : c ∈ cl z) (h : c ∉ cl alpha) : permS z = false := permS_false fun p => h (p.mem_iff.mp hc)
theorem not_perm_dup {z : Str} (h : ¬ (cl z).Nodup) : permS z = false := permS_false fun p => h (p.nodup_iff.mpr alpha_nodup)
theorem cl_app (x y : Str) : cl (x ++ y) = cl x ++ cl y := TL.tl_append x y
theorem cl_mk (l : List Nat) : cl ⟨l.toArray⟩ = l := rfl
theorem sIx_some {n d : Nat} {i : Int} (h0 : 0 ≤ i) (h1 : i ≤ n) : HT.sIx n d (some i) = i.toNat := by
  show (if i < 0 then (i + (n : Int)).toNat else min i.toNat n) = _
  rw [if_neg (by omega)]
  omega
theorem cl_cut (z : Str) (lo hi : Option Int) : cl (cutS z lo hi) = ((cl z).drop (HT.sIx z.length 0 lo)).take (HT.sIx z.length z.length hi - HT.sIx z.length 0 lo) := rfl
theorem len_cl (z : Str) : z.length = (cl z).length := by simp [Str.length]
theorem cut_from {z : Str} {i : Int} (h0 : 0 ≤ i) (h1 : i ≤ (cl z).length) : cl (cutS z (some i) none) = (cl z).drop i.toNat := by
  rw [cl_cut, len_cl, sIx_some h0 (by omega)]
  show ((cl z).drop i.toNat).take ((cl z).length - i.toNat) = _
  rw [List.take_of_length_le (by rw [List.length_drop]; exact Nat.le_refl _)]
theorem cut_to {z : Str} {i : Int} (h0 : 0 ≤ i) (h1 : i ≤ (cl z).length) : cl (cutS z none (some i)) = (cl z).take i.toNat := by
  rw [cl_cut, len_cl, sIx_some h0 (by omega)]
  rfl
theorem cut_mid {z : Str} {i j : Int} (h0 : 0 ≤ i) (h1 : i ≤ j) (h2 : j ≤ (cl z).length) : cl (cutS z (some i) (some j)) = ((cl z).drop i.toNat).take (j.toNat - i.toNat) := by
  rw [cl_cut, len_cl, sIx_some h0 (by omega), sIx_some (by omega) h2]
theorem short_len {z : Str} (h : permS z = true) : z.length ≤ sizeLine := by rw [len_cl, perm_len h]; exact small (by decide)
/-- one letter taken to the place k -/
theorem move_perm (l : List Nat) {k i : Nat} (h1 : k ≤ i) (h2 : i < l.length) : (l.take k ++ [l[i]] ++ ((l.drop k).take (i - k) ++ l.drop (i + 1))).Perm l := by
  have e : l = l.take k ++ ((l.drop k).take (i - k) ++ (l[i] :: l.drop (i + 1))) := by
    have e1 : l.drop k = (l.drop k).take (i - k) ++ l.drop i := by
      conv => lhs; rw [← List.take_append_drop (i - k) (l.drop k)]
      rw [List.drop_drop, show k + (i - k) = i by omega]
    rw [← List.drop_eq_getElem_cons h2, ← e1, List.take_append_drop]
  conv => rhs; rw [e]
  rw [List.append_assoc]
  refine List.Perm.append_left _ ?_
  simp only [List.singleton_append]
  exact List.perm_middle.symm
section
variable {K : Frag} {mg : Str → Option Value} {ds : List D} {M : DM} {Q : DK} {W : DXK}
theorem alpha_perm : permS alpha = true := by decide +kernel
theorem pure_form2 {p : Addr} {a b c : Int} {z : Str} {o3 o4 o5 o6 : Option D} {d : D} (hM : M p = some (purse a b c)) (ha : 0 ≤ a) (hz : permS z = true)
    (q : ∀ (z : Str) (n a' b' c' : Int), permS z = true → 1 ≤ n → n ≤ 1000 → 0 ≤ a' → Q (.tup [.str z, .int n]) (put M p (purse a' b' c'))) {nx : DSt → DM → Prop} :
    t__law_form_2 K W { nx := nx, rt := up Q } [some (.ref p), some (.str z), some d, o3, o4, o5, o6] M := by
  simp [t__law_form_2]
  refine ⟨small (by decide), p, a, b, c, 4, rfl, hM, ha, by decide, by decide, fun r a1 b1 c1 h0 h1 ha1 => ?_⟩
  have key : ∀ m : Int, 1 ≤ m → m ≤ 1000 → sp__law_draw K [D.ref p, D.int m] (put M p (purse a1 b1 c1)) (fun y M2 => dAdd (D.int 1) y M2 fun x M1 => 2 ≤ sizeLine ∧ up Q (D.tup [D.str z, x]) M1) (DL.wE (dW W) [some (D.ref p), some (D.str z), some d, o3, o4, o5, some (D.int m)]) := fun m h1 h2 => by
    refine ⟨p, a1, b1, c1, m, rfl, put_same, ha1, h1, h2, fun r a2 b2 c2 h3 h4 ha2 => ?_⟩
    simp
    exact ⟨small (by decide), up.mk (q z _ _ _ _ hz (by omega) (by omega) ha2)⟩
  have hr : r = 0 ∨ r = 1 ∨ r = 2 ∨ r = 3 := by omega
  rcases hr with rfl | rfl | rfl | rfl
  · exact key 1 (by decide) (by decide)
  · exact key 1 (by decide) (by decide)
  · exact key 4 (by decide) (by decide)
  · exact key 1000 (by decide) (by decide)
end
end K02
set_option Elab.async false
set_option linter.all false
set_option maxRecDepth 100000
set_option maxHeartbeats 4000000
namespace K02
open PySem PySem.Spec L2 DX DL DH
section
variable {K : Frag} {mg : Str → Option Value} {ds : List D} {M : DM} {Q : DK} {W : DXK}
abbrev QF (Q : DK) (M : DM) (p : Addr) : Prop := ∀ (z : Str) (n a' b' c' : Int), permS z = true → 1 ≤ n → n ≤ 1000 → 0 ≤ a' → Q (.tup [.str z, .int n]) (put M p (purse a' b' c'))
theorem QF.put (h : QF Q M p) {m : MO} : QF Q (put M p m) p := fun z n a b c h1 h2 h3 h4 => by rw [put_put]; exact h z n a b c h1 h2 h3 h4
theorem form_turns {p : Addr} {d : D} {nx : DSt → DM → Prop} (q : QF Q M p) : ∀ (n k : Nat) (a b c : Int) (z : Str) (o3 o4 o5 o6 : Option D), k + n = 25 → 0 ≤ a → permS z = true →
    forR (dgN 4) (t__law_form_1 K W) (fun _ => True) { nx := t__law_form_2 K W { nx := nx, rt := up Q }, rt := up Q } (rng k n) [some (.ref p), some (.str z), some d, o3, o4, o5, o6] (put M p (purse a b c))
  | 0, k, a, b, c, z, o3, o4, o5, o6, hk, ha, hz => ⟨trivial, pure_form2 put_same ha hz q.put⟩
  | n + 1, k, a, b, c, z, o3, o4, o5, o6, hk, ha, hz => by
    rw [rng_succ]
    refine ⟨trivial, ?_⟩
    simp [t__law_form_1]
    refine ⟨p, a, b, c, 26 - k, rfl, put_same, ha, by omega, by omega, fun r a1 b1 c1 h0 h1 ha1 => ?_⟩
    simp
    have hl := perm_len hz
    have hz2 := short_len hz
    obtain ⟨j, hj⟩ : ∃ j : Nat, (k : Int) + r = (j : Int) := ⟨((k : Int) + r).toNat, by omega⟩
    rw [hj]
    have hj1 : k ≤ j := by omega
    have hj2 : j < (cl z).length := by omega
    have e1 : cl (cutS z (some (k : Int)) (some (j : Int))) = ((cl z).drop k).take (j - k) := by rw [cut_mid (by omega) (by omega) (by omega)]; simp
    have e2 : cl (cutS z (some ((j : Int) + 1)) none) = (cl z).drop (j + 1) := by rw [cut_from (by omega) (by omega)]; congr 1
    have e3 : cl (cutS z none (some (k : Int))) = (cl z).take k := by rw [cut_to (by omega) (by omega)]; simp
    have e4 : atI z.cps.toList (j : Int) = some (cl z)[j] := by rw [atI_lt (by omega) (by show (j : Int) < ((cl z).length : Nat); omega)]; simp
    rw [e4]
    have sz : ∀ n : Nat, n ≤ 1000 → n ≤ sizeLine := fun n h => small (by omega)
    have l1 : (cutS z (some (k : Int)) (some (j : Int))).length ≤ 26 := by rw [len_cl, e1, List.length_take]; simp; omega
    have l2 : (cutS z (some ((j : Int) + 1)) none).length ≤ 26 := by rw [len_cl, e2, List.length_drop]; omega
    have l3 : (cutS z none (some (k : Int))).length ≤ 26 := by rw [len_cl, e3, List.length_take]; omega
    have la : ∀ x y : Str, (x ++ y).length = x.length + y.length := fun x y => by rw [len_cl, cl_app, List.length_append, ← len_cl, ← len_cl]
    have lo : ∀ c : Nat, ({ cps := #[c] } : Str).length = 1 := fun c => rfl
    refine ⟨hz2, sz _ (by omega), hz2, sz _ (by rw [lo]; omega), sz _ (by rw [la, la, lo]; omega), ?_⟩
    refine form_turns q n (k + 1) a1 b1 c1 _ _ _ _ _ (by omega) ha1 ?_
    rw [permS_iff]
    refine List.Perm.trans ?_ (permS_iff.mp hz)
    rw [cl_app, cl_app, cl_app, e1, e2, e3]
    exact move_perm (cl z) hj1 hj2
theorem pure_form3 {p : Addr} {a b c : Int} {z : Str} {o3 o4 o5 o6 : Option D} {w : Int} {nx : DSt → DM → Prop} (hM : M p = some (purse a b c)) (ha : 0 ≤ a) (hz : permS z = true) (q : QF Q M p) :
    t__law_form_3 K W { nx := nx, rt := up Q } [some (.ref p), some (.str z), some (.int w), o3, o4, o5, o6] M := by
  simp [t__law_form_3, dRng1]
  split
  · have h := form_turns (K := K) (W := W) (d := .int w) (nx := nx) q 25 0 a b c z o3 o4 o5 o6 rfl ha hz
    have e : put M p (purse a b c) = M := by
      funext x
      by_cases hx : x = p
      · rw [hx, put_same, hM]
      · rw [put_ne hx]
    rw [e] at h
    exact h
  · exact pure_form2 hM ha hz q
theorem pure_form4 {p : Addr} {a b c : Int} {z : Str} {o3 o4 o5 o6 : Option D} {w : Int} {nx : DSt → DM → Prop} (hM : M p = some (purse a b c)) (ha : 0 ≤ a) (hz : permS z = true) (q : QF Q M p) :
    t__law_form_4 K W { nx := nx, rt := up Q } [some (.ref p), some (.str z), some (.int w), o3, o4, o5, o6] M := by
  simp [t__law_form_4]
  split
  · refine ⟨p, a, b, c, 26, rfl, hM, ha, by decide, by decide, fun r a1 b1 c1 h0 h1 ha1 => ?_⟩
    have hl := perm_len hz
    have hz2 := short_len hz
    have e1 : cl (cutS z (some r) none) = (cl z).drop r.toNat := cut_from h0 (by omega)
    have e2 : cl (cutS z none (some r)) = (cl z).take r.toNat := cut_to h0 (by omega)
    simp
    refine ⟨hz2, small ?_, pure_form3 put_same ha1 ?_ q.put⟩
    · rw [len_cl, len_cl, e1, e2, List.length_drop, List.length_take]; omega
    · rw [permS_iff, cl_app, e1, e2]
      refine List.Perm.trans List.perm_append_comm ?_
      rw [List.take_append_drop]
      exact permS_iff.mp hz
  · exact pure_form3 hM ha hz q
theorem pure__law_form (hx : Fx K mg) (h : sp__law_form K ds M Q W) : t__law_form K W (endsF Q) (startD ["_law_purse_here", "_law_letters", "_law_way", "_law_at", "_law_turn", "_law_rest", "_law_many"] ds) M := by
  obtain ⟨p, a, b, c, rfl, hM, ha, q⟩ := h
  simp [t__law_form]
  refine ⟨p, a, b, c, 5, rfl, hM, ha, by decide, by decide, fun r a1 b1 c1 h0 h1 ha1 => ?_⟩
  have q' : QF Q (put M p (purse a1 b1 c1)) p := QF.put q
  simp
  split
  · exact ⟨short_len alpha_perm, pure_form4 put_same ha1 (by decide +kernel) q'⟩
  · exact pure_form4 put_same ha1 alpha_perm q'
end
end K02
set_option Elab.async false
set_option linter.all false
set_option maxRecDepth 100000
set_option maxHeartbeats 4000000
namespace K02
open PySem PySem.Spec L2 DX DL DH
section
variable {K : Frag} {mg : Str → Option Value} {ds : List D} {M : DM} {Q : DK} {W : DXK}
theorem pure__law_refused (hx : Fx K mg) (h : sp__law_refused K ds M Q W) : t__law_refused K W (endsF Q) (startD ["_law_letters", "_law_chains", "_law_found", "e"] ds) M := by
  obtain ⟨l, c, rfl, hp, hc, hs, hl, hcl, ho, q⟩ := h
  simp [t__law_refused]
  refine ⟨rfl, l, c, rfl, hp, hc, hs, (fun h => by rw [ho] at h; cases h), fun _ => ?_⟩
  refine ⟨true, hx.xm_InvalidForm_InvalidForm, fun _ => ⟨⟨hx.in_InvalidForm.xf, fun f hf => ?_⟩, fun a ha => ?_⟩, fun h => by cases h⟩
  · simp at hf
    subst hf
    exact ⟨rfl, hx.in_InvalidForm.no _ (by simp)⟩
  · have lk : List.lookup (Str.ofString "value") [(Str.ofString "value", D.tup [l, c])] = some (D.tup [l, c]) := rfl
    have hll : lay 60 (D.tup [l, c]) = true := by
      have m : ∀ d : D, lay 50 d = true → lay 59 d = true := fun d h => lay_mono (by decide) h
      simp [lay, m l hl, m c hcl]
    simp [lk, t__law_refused_1]
    refine ⟨small (by decide), dEq_of (b := true) (by simp [res, hll]) (eqD_refl hll) ?_⟩
    exact isi_tuple (d := .tup [l, c]) rfl (up.mk q)
/-- form == y -/
theorem eq_form (hx : Fx K mg) {z : Str} {n : Int} {y : D} {b : Bool} (hy : feq K z n y = some b) (hk : plain y = true ∨ ∃ l c, y = form K l c) (q : Q (.bl b) M) : dEqX K (m___eq__ K) (form K (.str z) (.int n)) y M Q := by
  have e : (insD M (form K (.str z) (.int n))).isSome = true := rfl
  unfold dEqX
  rw [if_pos e]
  have go : sel (fun dsp => dsp [form K (.str z) (.int n), y] M (blK Q) E0) (m___eq__ K) (cF K) := .inl ⟨rfl, z, n, y, b, rfl, hy, ⟨_, rfl⟩, q⟩
  rcases hk with hp | ⟨l, c, rfl⟩
  · cases y with
    | non => exact ⟨hx.nf_Form_NoneType, go⟩
    | bl _ => exact ⟨hx.nf_Form_bool, go⟩
    | int _ => exact ⟨hx.nf_Form_int, go⟩
    | str _ => exact ⟨hx.nf_Form_str, go⟩
    | tup _ => exact ⟨hx.nf_Form_tuple, go⟩
    | lst _ => exact ⟨hx.nf_Form_list, go⟩
    | _ => cases hp
  · exact ⟨hx.nc_Form_Form, go⟩
theorem feq_form {z y : Str} {n m : Int} : feq K z n (form K (.str y) (.int m)) = some (decide (z = y) && decide (n = m)) := by
  show (if cF K = cF K then some (decide (z = y) && decide (n = m)) else none) = _
  simp
theorem feq_plain {z : Str} {n : Int} {y : D} (hp : plain y = true) : feq K z n y = some false := by
  cases y <;> first | rfl | cases hp
/-- tuple == form -/
theorem eq_tup_form (hx : Fx K mg) {z : Str} {n : Int} {xs : List D} (q : Q (.bl false) M) : dEqX K (m___eq__ K) (.tup xs) (form K (.str z) (.int n)) M Q :=
  ⟨hx.st_Form, .inl ⟨rfl, z, n, .tup xs, false, rfl, rfl, ⟨_, rfl⟩, q⟩⟩
theorem pure__law_right (hx : Fx K mg) (h : sp__law_right K ds M Q W) : t__law_right K W (endsF Q) (startD ["_law_form_here", "_law_letters", "_law_chains"] ds) M := by
  obtain ⟨z, n, rfl, ho, hs, q⟩ := h
  have si : ∀ l c, insD M (form K l c) = some (cF K, [(Str.ofString "ranking", l), (Str.ofString "many", c)]) := fun _ _ => rfl
  have sl : ∀ l c M Q E, sp_Form_letters K [form K l c] M Q E = Q l M := fun l c M Q E => propext ⟨fun ⟨l', c', e, q⟩ => by cases e; exact q, fun q => ⟨l, c, rfl, q⟩⟩
  have sc : ∀ l c M Q E, sp_Form_chains K [form K l c] M Q E = Q c M := fun l c M Q E => propext ⟨fun ⟨l', c', e, q⟩ => by cases e; exact q, fun q => ⟨l, c, rfl, q⟩⟩
  simp [t__law_right, p_letters, p_chains, sel, si, sl, sc]
  refine ⟨_, rfl, rfl, ?_⟩
  simp [isWh]
  refine isi_form hx (fun hp => by cases hp) (fun _ _ _ => ?_) (.inr ⟨_, _, rfl⟩)
  simp
  refine ⟨rfl, _, _, rfl, rfl, rfl, hs, fun _ => ?_, fun h => by rw [ho] at h; cases h⟩
  exact eq_form hx (b := true) (by rw [feq_form]; simp) (.inr ⟨_, _, rfl⟩) (up.mk q)
end
end K02
set_option Elab.async false
set_option linter.all false
set_option maxRecDepth 100000
set_option maxHeartbeats 4000000
namespace K02
open PySem PySem.Spec L2 DX DL DH
section
variable {K : Frag} {mg : Str → Option Value} {ds : List D} {M : DM} {Q : DK} {W : DXK}
@[simp] theorem dAdd_ll {xs ys : List D} : dAdd (.lst xs) (.lst ys) M Q = (xs.length + ys.length ≤ sizeLine ∧ Q (.lst (xs ++ ys)) M) := rfl
theorem str_len_app (x y : Str) : (x ++ y).length = x.length + y.length := by rw [len_cl, cl_app, List.length_append, ← len_cl, ← len_cl]
theorem badS {z : Str} (hl : z.length ≤ 10000) (h : permS z = false) : badL (.str z) := ⟨rfl, decide_eq_true hl, rfl, fun c => by show (permS z && inR c) = false; rw [h]; rfl⟩
theorem badN {z : Str} (hl : z.length ≤ 10000) (h : z.length ≠ 26) : badL (.str z) := badS hl (not_perm_len (by rw [← len_cl]; exact h))
theorem pure_bad1 {z rest : Str} {i : Int} {xs : List D} {o4 : Option D} {nx : DSt → DM → Prop} (hr : rest.length = 25) (hn : xs.length ≤ 100) (hx : ∀ d ∈ xs, badL d) (q : ∀ xs, (∀ d ∈ xs, badL d) → Q (.lst xs) M) :
    t__law_bad_letters_1 K W { nx := nx, rt := up Q } [some (.str z), some (.int i), some (.str rest), some (.lst xs), o4] M := by
  simp only [t__law_bad_letters_1, dRet, dOp, dVar, dLst, dCons, dNil, dC, List.getElem?_cons_zero, List.getElem?_cons_succ, dAdd_ss, dAdd_ll]
  have e1 : (Str.ofString "z").length = 1 := rfl
  have e2 : (Str.ofString "a").length = 1 := rfl
  refine ⟨small (by omega), small (by rw [str_len_app]; omega), small (by simp), small (by simp; omega), up.mk (q _ fun d hd => ?_)⟩
  rcases List.mem_append.mp hd with h | h
  · exact hx d h
  · rw [List.mem_singleton.mp h]
    have l : (Str.ofString "z" ++ rest ++ Str.ofString "a").length = 27 := by rw [str_len_app, str_len_app]; omega
    exact badN (by omega) (by omega)
theorem lcLetters {z rest : Str} {i : Int} {d3 : D} {o4 : Option D} (hz : z.length ≤ 1000) {Q : DK} (q : Q (.lst (z.cps.toList.map one)) M) :
    dLc (st1 4 dYes (dVar 4)) (dSeqI (dVar 0)) [some (.str z), some (.int i), some (.str rest), some d3, o4] M Q := by
  have hl : (z.cps.toList.map one).length ≤ sizeLine := by
    rw [List.length_map]
    show (cl z).length ≤ sizeLine
    rw [← len_cl]; exact small (by omega)
  have h : ∀ Q : DK, Q (.lst ((z.cps.toList.map one).filterMap some)) M → dLc (st1 4 dYes (dVar 4)) (dSeqI (dVar 0)) [some (.str z), some (.int i), some (.str rest), some d3, o4] M Q :=
    fun Q q => dLc_pure (keep := fun _ => True) some (fun x _ M K k => k) (fun _ _ _ => trivial) hl q
  exact h Q (by rw [List.filterMap_some]; exact q)
theorem lay_ones (l : List Nat) : (l.map one).all (lay 49) = true := by
  rw [List.all_eq_true]
  intro d hd
  obtain ⟨c, _, rfl⟩ := List.mem_map.mp hd
  rfl
theorem lay_strs (l : List Str) : (l.map D.str).all (lay 49) = true := by
  rw [List.all_eq_true]
  intro d hd
  obtain ⟨c, _, rfl⟩ := List.mem_map.mp hd
  rfl
theorem badO {d : D} (h1 : plain d = true) (h2 : isStr d = false) (h3 : lay 50 d = true) : badL d := by
  cases d <;> first | cases h1; done | cases h2; done | exact ⟨rfl, rfl, h3, fun _ => rfl⟩ | cases h1 | cases h2
theorem pure_bad2 {z rest : Str} {i : Int} {xs : List D} {o4 : Option D} {nx : DSt → DM → Prop} (hz : z.length = 26) (hr : rest.length = 25) (h0 : '0'.toNat ∈ cl (rest ++ Str.ofString "0") ∧ '0'.toNat ∉ cl alpha) (hn : xs.length ≤ 50) (hx : ∀ d ∈ xs, badL d) (q : ∀ xs, (∀ d ∈ xs, badL d) → Q (.lst xs) M) :
    t__law_bad_letters_2 K W { nx := nx, rt := up Q } [some (.str z), some (.int i), some (.str rest), some (.lst xs), o4] M := by
  have e1 : (Str.ofString "0").length = 1 := rfl
  have e2 : (Str.ofString "\n").length = 1 := rfl
  simp only [t__law_bad_letters_2, dSeq, dSet, dOp, dVar, dLst, dCons, dNil, dC, List.getElem?_cons_zero, List.getElem?_cons_succ, dAdd_ss, dAdd_ll]
  refine ⟨small (by omega), lcLetters (by omega) ?_⟩
  simp only [dCB, dTupleS, dCons, dNil, dVar, List.getElem?_cons_zero]
  refine ⟨small (by omega), small (by omega), small (by simp), small (by simp; omega), ?_⟩
  refine pure_bad1 hr (by simp; omega) (fun d hd => ?_) q
  rcases List.mem_append.mp hd with h | h
  · exact hx d h
  · simp only [List.mem_cons, List.not_mem_nil, or_false] at h
    rcases h with rfl | rfl | rfl | rfl | rfl | rfl
    · exact badS (by rw [str_len_app]; omega) (not_perm_mem h0.1 h0.2)
    · exact badO rfl rfl (by show (z.cps.toList.map one).all (lay 49) = true; exact lay_ones _)
    · exact badO rfl rfl (by show ((signs z).map D.str).all (lay 49) = true; exact lay_strs _)
    · exact badO rfl rfl rfl
    · exact badO rfl rfl rfl
    · exact badN (by rw [str_len_app]; omega) (by rw [str_len_app]; omega)
end
end K02
set_option Elab.async false
set_option linter.all false
set_option maxRecDepth 100000
set_option maxHeartbeats 4000000
namespace K02
open PySem PySem.Spec L2 DX DL DH
section
variable {K : Frag} {mg : Str → Option Value} {ds : List D} {M : DM} {Q : DK} {W : DXK}
theorem upper_letter : ∀ c ∈ cl alpha, cl (Txt.upper ⟨#[c]⟩) = [c - 32] := by decide +kernel
theorem upper_not : ∀ c ∈ cl alpha, c - 32 ∉ cl alpha := by decide +kernel
theorem pure_bad3 {z rest : Str} {i : Nat} {o3 o4 : Option D} {nx : DSt → DM → Prop} (hz : permS z = true) (hi : i < 26) (hr : cl rest = (cl z).take i ++ (cl z).drop (i + 1)) (q : ∀ xs, (∀ d ∈ xs, badL d) → Q (.lst xs) M) :
    t__law_bad_letters_3 K W { nx := nx, rt := up Q } [some (.str z), some (.int i), some (.str rest), o3, o4] M := by
  have hl := perm_len hz
  have hz1 : z.length = 26 := by rw [len_cl, hl]
  have hr1 : rest.length = 25 := by rw [len_cl, hr, List.length_append, List.length_take, List.length_drop]; omega
  have hi1 : i < (cl z).length := by omega
  have ha : atI z.cps.toList (i : Int) = some (cl z)[i] := by rw [atI_lt (by omega) (by show (i : Int) < ((cl z).length : Nat); omega)]; simp
  obtain ⟨j, hj, hj2, hji⟩ : ∃ j : Nat, ((i : Int) + 1) % 26 = (j : Int) ∧ j < (cl z).length ∧ j ≠ i := ⟨(((i : Int) + 1) % 26).toNat, by omega, by omega, by omega⟩
  have hb : atI z.cps.toList (((i : Int) + 1) % 26) = some (cl z)[j] := by rw [hj, atI_lt (by omega) (by show (j : Int) < ((cl z).length : Nat); omega)]; simp
  have mi : (cl z)[i] ∈ cl alpha := perm_mem hz (List.getElem_mem hi1)
  have hu := upper_letter _ mi
  have hu1 : (Txt.upper ⟨#[(cl z)[i]]⟩).length = 1 := by rw [len_cl, hu]; rfl
  have e1 : (Str.ofString " ").length = 1 := rfl
  have e2 : ∀ c : Nat, ({ cps := #[c] } : Str).length = 1 := fun c => rfl
  have zs := short_len hz
  simp only [t__law_bad_letters_3, dSeq, dSet, dOp, dVar, dLst, dCons, dNil, dC, List.getElem?_cons_zero, List.getElem?_cons_succ, dAdd_ss, dAdd_ll, dAdd_ii, dMod_ii, dIx_str, dBM0, ha, hb]
  refine ⟨zs, small (by rw [hz1, e2]; decide), by decide, zs, small (by rw [hr1, e2]; decide), zs, rfl, ⟨by rw [e2]; decide, ?_⟩⟩
  simp only [dAdd_ss]
  refine ⟨small (by rw [hr1, hu1]; decide), small (by rw [hr1, e1]; decide), small (by simp), ?_⟩
  refine pure_bad2 hz1 hr1 ⟨?_, by decide +kernel⟩ (by simp) (fun d hd => ?_) q
  · rw [cl_app]
    exact List.mem_append_right _ (by decide +kernel)
  simp only [List.mem_cons, List.not_mem_nil, or_false] at hd
  rcases hd with rfl | rfl | rfl | rfl | rfl | rfl
  · exact badN (by omega) (by omega)
  · exact badN (by rw [str_len_app, e2]; omega) (by rw [str_len_app, e2]; omega)
  · refine badS (by rw [str_len_app, e2]; omega) (not_perm_dup ?_)
    rw [cl_app]
    intro nd
    have h3 := (List.nodup_append.mp nd).2.2
    have m1 : (cl z)[j] ∈ cl rest := by
      rw [hr]
      by_cases h : j < i
      · exact List.mem_append_left _ (List.mem_take_iff_getElem.mpr ⟨j, by omega, rfl⟩)
      · refine List.mem_append_right _ (List.mem_drop_iff_getElem.mpr ⟨j - (i + 1), by omega, ?_⟩)
        congr 1
        omega
    exact h3 _ m1 _ (List.mem_singleton.mpr rfl) rfl
  · refine badS (by rw [str_len_app, hu1]; omega) (not_perm_mem (c := (cl z)[i] - 32) ?_ (upper_not _ mi))
    rw [cl_app, hu]
    exact List.mem_append_right _ (List.mem_singleton.mpr rfl)
  · refine badS (by rw [str_len_app, e1]; omega) (not_perm_mem (c := 32) ?_ (by decide +kernel))
    rw [cl_app]
    exact List.mem_append_right _ (by decide +kernel)
  · exact badN (by decide +kernel) (by decide +kernel)
theorem pure__law_bad_letters (hx : Fx K mg) (h : sp__law_bad_letters K ds M Q W) : t__law_bad_letters K W (endsF Q) (startD ["_law_letters", "_law_at", "_law_rest", "_law_bad", "_law_letter"] ds) M := by
  obtain ⟨z, i, rfl, hz, h0, h1, q⟩ := h
  obtain ⟨n, rfl⟩ : ∃ n : Nat, i = (n : Int) := ⟨i.toNat, by omega⟩
  have hl := perm_len hz
  have zs := short_len hz
  have e1 : cl (cutS z none (some (n : Int))) = (cl z).take n := by rw [cut_to (by omega) (by omega)]; simp
  have e2 : cl (cutS z (some ((n : Int) + 1)) none) = (cl z).drop (n + 1) := by rw [cut_from (by omega) (by omega)]; congr 1
  simp [t__law_bad_letters]
  refine ⟨zs, small ?_, pure_bad3 hz (by omega) (by rw [cl_app, e1, e2]) q⟩
  rw [len_cl, len_cl, e1, e2, List.length_take, List.length_drop]; omega
end
end K02
set_option Elab.async false
set_option linter.all false
set_option maxRecDepth 100000
set_option maxHeartbeats 4000000
namespace K02
open PySem PySem.Spec L2 DX DL DH
section
variable {K : Frag} {mg : Str → Option Value} {ds : List D} {M : DM} {Q : DK} {W : DXK}
abbrev Pr := Str × Int
def fm (K : Frag) (q : Pr) : D := form K (.str q.1) (.int q.2)
def tp (q : Pr) : D := .tup [.str q.1, .int q.2]
theorem ix_pl {p : Addr} {ps : List Pr} {k : Nat} {q : Pr} (hM : M p = some (.lst (ps.map tp))) (h : ps[k]? = some q) {Q : DK} : dIx (.ref p) (.int k) M Q = Q (tp q) M := by
  have hk : k < ps.length := (List.getElem?_eq_some_iff.mp h).1
  have e : atI (ps.map tp) (k : Int) = some (tp q) := by
    rw [atI_lt (by omega) (by simp; omega)]
    simp only [Int.toNat_natCast, List.getElem_map]
    rw [(List.getElem?_eq_some_iff.mp h).2]
  rw [dIx_ref hM, e]
theorem eq_plainF (hx : Fx K mg) {z : Str} {n : Int} (y : D) (hp : plain y = true) (q : Q (.bl false) M) : dEqX K (m___eq__ K) (form K (.str z) (.int n)) y M Q := eq_form hx (feq_plain hp) (.inl hp) q
theorem law7 (hx : Fx K mg) {p : Addr} {ps : List Pr} {k : Nat} {q : Pr} {E : DEnds} {o0 o1 o4 o5 o6 o7 o8 o10 o11 : Option D} (hM : M p = some (.lst (ps.map tp))) (h : ps[k]? = some q)
    (hn : E.nx [o0, o1, some (.ref p), some (.int k), o4, o5, o6, o7, o8, some (fm K q), o10, o11] M) : t_law_7 K W E [o0, o1, some (.ref p), some (.int k), o4, o5, o6, o7, o8, some (fm K q), o10, o11] M := by
  have a0 : atI [D.str q.1, D.int q.2] 0 = some (.str q.1) := rfl
  have a1 : atI [D.str q.1, D.int q.2] 1 = some (.int q.2) := rfl
  simp only [t_law_7, dIfS, dOr, dB, dOp, dVar, dC, List.getElem?_cons_zero, List.getElem?_cons_succ, ix_pl hM h]
  refine eq_plainF hx (tp q) rfl ?_
  simp only [Bool.false_eq_true, if_false, ix_pl hM h, tp, dIx_tup, a0]
  refine eq_plainF hx (.str q.1) rfl ?_
  simp only [Bool.false_eq_true, if_false, ix_pl hM h, tp, dIx_tup, a1]
  refine eq_plainF hx (.int q.2) rfl ?_
  simp only [Bool.false_eq_true, if_false, ix_pl hM h, tp]
  refine eq_tup_form hx ?_
  simpa using hn
theorem eqX_data {x y : D} {b : Bool} (h1 : insD M x = none) (h2 : insD M y = none) (h : (lay 60 (res M x) && lay 60 (res M y)) = true) (e : eqD (res M x) (res M y) = b) {Q : DK} (q : Q (.bl b) M) : dEqX K (m___eq__ K) x y M Q := by
  unfold dEqX
  rw [h1, h2]
  simp only [Option.isSome_none, Bool.false_eq_true, if_false]
  exact dEq_of h e q
theorem law6 (hx : Fx K mg) {p : Addr} {ps : List Pr} {k j : Nat} {q r : Pr} {E : DEnds} {o0 o1 o4 o5 o6 o7 o8 : Option D} (hM : M p = some (.lst (ps.map tp))) (h : ps[k]? = some q) (h' : ps[j]? = some r)
    (hn : E.nx [o0, o1, some (.ref p), some (.int k), o4, o5, o6, o7, o8, some (fm K q), some (.int j), some (fm K r)] M) :
    t_law_6 K W E [o0, o1, some (.ref p), some (.int k), o4, o5, o6, o7, o8, some (fm K q), some (.int j), some (fm K r)] M := by
  simp only [t_law_6, dIfS, dB, dOp, dCB, dCons, dNil, dVar, dC, List.getElem?_cons_zero, List.getElem?_cons_succ]
  refine eq_form hx feq_form (.inr ⟨_, _, rfl⟩) ?_
  simp only [dBool_b, ix_pl hM h, ix_pl hM h']
  refine eqX_data (b := decide (q.1 = r.1) && decide (q.2 = r.2)) rfl rfl rfl ?_ ?_
  · have e1 : (q.1 == r.1) = decide (q.1 = r.1) := by
      by_cases h : q.1 = r.1 <;> simp [h]
    have e2 : (q.2 == r.2) = decide (q.2 = r.2) := by
      by_cases h : q.2 = r.2 <;> simp [h]
    simp only [res, tp, eqD, eqL, e1, e2, Bool.and_true]
  · simpa using hn
theorem loop6 (hx : Fx K mg) {p1 p : Addr} {ps : List Pr} {k : Nat} {q : Pr} {E : DEnds} {o0 o4 o5 o6 o7 o8 : Option D} (hM : M p = some (.lst (ps.map tp))) (hF : M p1 = some (.lst (ps.map (fm K)))) (h : ps[k]? = some q)
    (hn : ∀ o10 o11, E.nx [o0, some (.ref p1), some (.ref p), some (.int k), o4, o5, o6, o7, o8, some (fm K q), o10, o11] M) :
    ∀ (r : List Pr) (j : Nat) (o10 o11 : Option D), (∀ i q, r[i]? = some q → ps[j + i]? = some q) →
      forR (dgTup 2 (dgCons (dgN 10) (dgCons (dgN 11) dgNil))) (t_law_6 K W) (fun M2 => asR M2 (.ref p1) = some (ps.map (fm K))) E (enumD j (r.map (fm K))) [o0, some (.ref p1), some (.ref p), some (.int k), o4, o5, o6, o7, o8, some (fm K q), o10, o11] M
  | [], j, o10, o11, _ => ⟨by simp [asR, res, hF], hn o10 o11⟩
  | x :: r, j, o10, o11, hr => by
    refine ⟨by simp [asR, res, hF], ?_⟩
    simp only [dgTup, dgCons, dgN, dgNil, List.length_cons, List.length_nil, true_and, List.set_cons_succ, List.set_cons_zero]
    exact law6 hx hM h (by simpa using hr 0 x rfl) (loop6 hx hM hF h hn r (j + 1) _ _ fun i q e => by
      have := hr (i + 1) q (by simpa using e)
      rw [show j + 1 + i = j + (i + 1) by omega]
      exact this)
theorem loop8 (hx : Fx K mg) {p1 p : Addr} {ps : List Pr} {E : DEnds} {o0 o4 o5 o6 o7 o8 : Option D} (hM : M p = some (.lst (ps.map tp))) (hF : M p1 = some (.lst (ps.map (fm K))))
    (hn : ∀ o3 o9 o10 o11, E.nx [o0, some (.ref p1), some (.ref p), o3, o4, o5, o6, o7, o8, o9, o10, o11] M) :
    ∀ (r : List Pr) (j : Nat) (o3 o9 o10 o11 : Option D), (∀ i q, r[i]? = some q → ps[j + i]? = some q) →
      forR (dgTup 2 (dgCons (dgN 3) (dgCons (dgN 9) dgNil))) (t_law_8 K W) (fun M2 => asR M2 (.ref p1) = some (ps.map (fm K))) E (enumD j (r.map (fm K))) [o0, some (.ref p1), some (.ref p), o3, o4, o5, o6, o7, o8, o9, o10, o11] M
  | [], j, o3, o9, o10, o11, _ => ⟨by simp [asR, res, hF], hn o3 o9 o10 o11⟩
  | x :: r, j, o3, o9, o10, o11, hr => by
    refine ⟨by simp [asR, res, hF], ?_⟩
    have hx0 : ps[j]? = some x := by simpa using hr 0 x rfl
    have ea : asR M (.ref p1) = some (ps.map (fm K)) := by simp [asR, res, hF]
    simp only [dgTup, dgCons, dgN, dgNil, List.length_cons, List.length_nil, true_and, List.set_cons_succ, List.set_cons_zero, t_law_8, dSeq, dFor, dEnumI, dCons, dNil, dVar, List.getElem?_cons_zero, List.getElem?_cons_succ, ea]
    refine loop6 hx hM hF hx0 (fun o10 o11 => ?_) ps 0 _ _ (fun i q e => by simpa using e)
    refine law7 (W := W) hx hM hx0 ?_
    exact loop8 hx hM hF hn r (j + 1) _ _ _ _ fun i q e => by
      have := hr (i + 1) q (by simpa using e)
      rw [show j + 1 + i = j + (i + 1) by omega]
      exact this
theorem law10 (hx : Fx K mg) {p1 p : Addr} {ps : List Pr} {o0 o3 o4 o5 o6 o7 o8 o9 o10 o11 : Option D} {nx : DSt → DM → Prop} (hM : M p = some (.lst (ps.map tp))) (hF : M p1 = some (.lst (ps.map (fm K)))) (q : ∀ M', Q (.bl true) M') :
    t_law_10 K W { nx := nx, rt := up Q } [o0, some (.ref p1), some (.ref p), o3, o4, o5, o6, o7, o8, o9, o10, o11] M := by
  have ea : asR M (.ref p1) = some (ps.map (fm K)) := by simp [asR, res, hF]
  simp only [t_law_10, dSeq, dFor, dEnumI, dCons, dNil, dVar, List.getElem?_cons_zero, List.getElem?_cons_succ, ea]
  exact loop8 hx hM hF (fun _ _ _ _ => up.mk (q _)) ps 0 _ _ _ _ (fun i q e => by simpa using e)
end
end K02
set_option Elab.async false
set_option linter.all false
set_option maxRecDepth 100000
set_option maxHeartbeats 4000000
namespace K02
open PySem PySem.Spec L2 DX DL DH
section
variable {K : Frag} {mg : Str → Option Value} {ds : List D} {M : DM} {Q : DK} {W : DXK}
theorem dSl_scr {ns : List Int} {lo hi : Option Int} : dSl (.scr (ns.map D.int)) lo hi M Q = Q (.lst ((cut ns lo hi).map D.int)) M := by
  unfold dSl asR res cut
  simp
theorem ints_map : ∀ l : List Int, intsD (l.map D.int) = some l
  | [] => rfl
  | x :: l => by simp [intsD, ints_map l]
theorem dSum_ints {l : List Int} : dSum [.lst (l.map D.int)] M Q = Q (.int l.sum) M := by
  show (match intsD (l.map D.int) with | some ns => Q (.int ns.sum) M | none => False) = _
  rw [ints_map]
structure St (K : Frag) (M : DM) (p1 p2 : Addr) (ps : List Pr) : Prop where
  ne : p1 ≠ p2
  fo : M p1 = some (.lst (ps.map (fm K)))
  pa : M p2 = some (.lst (ps.map tp))
theorem St.put {p1 p2 p : Addr} {ps : List Pr} {o : MO} (s : St K M p1 p2 ps) (h1 : p ≠ p1) (h2 : p ≠ p2) : St K (put M p o) p1 p2 ps := ⟨s.ne, by rw [put_ne h1.symm]; exact s.fo, by rw [put_ne h2.symm]; exact s.pa⟩
theorem ord_ok {z : Str} {n : Int} (hz : permS z = true) (h1 : 1 ≤ n) (h2 : n ≤ 1000) : isOrd (.str z) (.int n) = true := by
  show (permS z && (decide (1 ≤ n) && decide (n ≤ 1000))) = true
  simp [hz, h1, h2]
theorem short_perm {z : Str} (hz : permS z = true) : short (.str z) = true := decide_eq_true (by rw [len_cl, perm_len hz]; decide)
theorem mk_ok {z : Str} {n : Int} (hz : permS z = true) (h1 : 1 ≤ n) (h2 : n ≤ 1000) {Q : DK} {E : DXK} (q : Q (form K (.str z) (.int n)) M) : mk_Form2 K [.str z, .int n] M Q E :=
  ⟨rfl, _, _, rfl, rfl, rfl, short_perm hz, fun _ => q, fun h => by rw [ord_ok hz h1 h2] at h; cases h⟩
theorem app_form {p1 p2 : Addr} {ps : List Pr} {q : Pr} (s : St K M p1 p2 ps) (hl : ps.length ≤ 1000) {Q : DK} (k : Q .non (DL.put M p1 (.lst ((ps ++ [q]).map (fm K))))) : dAppend (.ref p1) [fm K q] M Q := by
  unfold dAppend
  simp only [s.fo]
  exact ⟨Nat.lt_of_lt_of_le (by simp; omega) (small (n := 1001) (by decide)), by simpa using k⟩
theorem app_pair {p2 : Addr} {ps : List Pr} {q : Pr} (h : M p2 = some (.lst (ps.map tp))) (hl : ps.length ≤ 1000) {Q : DK} (k : Q .non (DL.put M p2 (.lst ((ps ++ [q]).map tp)))) : dAppend (.ref p2) [tp q] M Q := by
  unfold dAppend
  simp only [h]
  exact ⟨Nat.lt_of_lt_of_le (by simp; omega) (small (n := 1001) (by decide)), by simpa using k⟩
/-- one form and its pair laid down -/
theorem St.both {p1 p2 : Addr} {ps : List Pr} {q : Pr} (s : St K M p1 p2 ps) : St K (DL.put (DL.put M p1 (.lst ((ps ++ [q]).map (fm K)))) p2 (.lst ((ps ++ [q]).map tp))) p1 p2 (ps ++ [q]) :=
  ⟨s.ne, by rw [put_ne s.ne, put_same], put_same⟩
theorem law3 {p1 p2 : Addr} {ps : List Pr} {z : Str} {n : Int} {E : DEnds} {o0 o3 o4 o7 o8 o9 o10 o11 : Option D} (s : St K M p1 p2 ps) (hl : ps.length ≤ 100) (hz : permS z = true) (h1 : 1 ≤ n) (h2 : n ≤ 1000)
    (hn : ∀ M', St K M' p1 p2 (ps ++ [(z, n)] ++ [(z, n % 1000 + 1)]) → E.nx [o0, some (.ref p1), some (.ref p2), o3, o4, some (.str z), some (.int n), o7, o8, o9, o10, o11] M') :
    t_law_3 K W E [o0, some (.ref p1), some (.ref p2), o3, o4, some (.str z), some (.int n), o7, o8, o9, o10, o11] M := by
  simp only [t_law_3, dSeq, dDrop, dBM, dCons, dNil, dCall, dTup, dOp, dVar, dC, List.getElem?_cons_zero, List.getElem?_cons_succ, dAdd_ii, dMod_ii]
  refine ⟨⟨rfl, _, s.fo⟩, mk_ok hz h1 h2 ?_⟩
  refine app_form (q := (z, n)) s (by omega) ?_
  refine ⟨⟨rfl, _, by rw [put_ne s.ne.symm]; exact s.pa⟩, small (by simp), ?_⟩
  refine app_pair (q := (z, n)) (ps := ps) (by rw [put_ne s.ne.symm]; exact s.pa) (by omega) ?_
  have s1 := s.both (q := (z, n))
  have hm := Int.emod_nonneg n (by decide : (1000 : Int) ≠ 0)
  have hm2 := Int.emod_lt_of_pos n (by decide : (0 : Int) < 1000)
  refine ⟨⟨rfl, _, s1.fo⟩, by decide, mk_ok hz (by omega) (by omega) ?_⟩
  refine app_form (q := (z, n % 1000 + 1)) s1 (by simp; omega) ?_
  refine ⟨⟨rfl, _, by rw [put_ne s1.ne.symm]; exact s1.pa⟩, by decide, small (by simp), ?_⟩
  refine app_pair (q := (z, n % 1000 + 1)) (ps := ps ++ [(z, n)]) (by rw [put_ne s1.ne.symm]; exact s1.pa) (by simp; omega) ?_
  exact hn _ s1.both
theorem loop2 {z : Str} {E : DEnds} {o0 o1 o2 o3 o4 o6 o8 o9 o10 o11 : Option D} (hz : permS z = true) (hn : ∀ o7, E.nx [o0, o1, o2, o3, o4, some (.str z), o6, o7, o8, o9, o10, o11] M) :
    ∀ (xs : List D) (o7 : Option D), (∀ d ∈ xs, plain d = true ∧ lay 50 d = true ∧ inR d = false) → forR (dgN 7) (t_law_2 K W) (fun M2 => asR M2 (.lst ys) = some ys) E xs [o0, o1, o2, o3, o4, some (.str z), o6, o7, o8, o9, o10, o11] M
  | [], o7, _ => ⟨rfl, hn o7⟩
  | x :: xs, o7, h => by
    refine ⟨rfl, ?_⟩
    obtain ⟨h1, h2, h3⟩ := h x (List.mem_cons_self ..)
    simp only [dgN, List.set_cons_succ, List.set_cons_zero, t_law_2, dIfS, dNot, dB, dCall, dCons, dNil, dVar, List.getElem?_cons_zero, List.getElem?_cons_succ]
    refine ⟨.str z, x, rfl, rfl, h1, short_perm hz, rfl, h2, by show (permS z && inR x) = false; rw [h3]; simp, ?_⟩
    simp only [Bool.not_true, Bool.false_eq_true, if_false, dNext]
    exact loop2 hz hn xs _ fun d hd => h d (List.mem_cons_of_mem _ hd)
theorem loop1 {n : Int} {E : DEnds} {o0 o1 o2 o3 o4 o5 o8 o9 o10 o11 : Option D} (hn : ∀ o7, E.nx [o0, o1, o2, o3, o4, o5, some (.int n), o7, o8, o9, o10, o11] M) :
    ∀ (xs : List D) (o7 : Option D), (∀ d ∈ xs, badL d) → forR (dgN 7) (t_law_1 K W) (fun M2 => asR M2 (.lst ys) = some ys) E xs [o0, o1, o2, o3, o4, o5, some (.int n), o7, o8, o9, o10, o11] M
  | [], o7, _ => ⟨rfl, hn o7⟩
  | x :: xs, o7, h => by
    refine ⟨rfl, ?_⟩
    obtain ⟨h1, h2, h3, h4⟩ := h x (List.mem_cons_self ..)
    simp only [dgN, List.set_cons_succ, List.set_cons_zero, t_law_1, dIfS, dNot, dB, dCall, dCons, dNil, dVar, List.getElem?_cons_zero, List.getElem?_cons_succ]
    refine ⟨x, .int n, rfl, h1, rfl, h2, h3, rfl, h4 _, ?_⟩
    simp only [Bool.not_true, Bool.false_eq_true, if_false, dNext]
    exact loop1 hn xs _ fun d hd => h d (List.mem_cons_of_mem _ hd)
theorem law4 {p1 p2 : Addr} {ps : List Pr} {ns : List Int} {i : Nat} {z : Str} {n : Int} {E : DEnds} {o4 o7 o8 o9 o10 o11 : Option D} (s : St K M p1 p2 ps) (hl : ps.length ≤ 100) (hz : permS z = true) (h1 : 1 ≤ n) (h2 : n ≤ 1000)
    (hn : ∀ M' o7 o8, St K M' p1 p2 (ps ++ [(z, n)] ++ [(z, n % 1000 + 1)]) → E.nx [some (.scr (ns.map D.int)), some (.ref p1), some (.ref p2), some (.int i), o4, some (.str z), some (.int n), o7, o8, o9, o10, o11] M') :
    t_law_4 K W E [some (.scr (ns.map D.int)), some (.ref p1), some (.ref p2), some (.int i), o4, some (.str z), some (.int n), o7, o8, o9, o10, o11] M := by
  simp only [t_law_4, dSeq, dSet, dFor, dSeqI, dCB, dSlice, dPart, dLst, dTup, dCons, dNil, dOp, dVar, dC, List.getElem?_cons_zero, List.getElem?_cons_succ, List.set_cons_succ, List.set_cons_zero, dAdd_ii, dSub_ii, dMod_ii, dPow_ii, dSl_scr, dSum_ints, dInt_i]
  refine ⟨⟨by decide, by decide +kernel⟩, by decide +kernel, small (by simp), small (by simp), small (by simp), ?_⟩
  have hf := Int.emod_nonneg (cut ns (some (i : Int)) (some ((i : Int) + 1))).sum (by decide +kernel : (10 : Int) ^ (39 : Int).toNat ≠ 0)
  generalize (cut ns (some (i : Int)) (some ((i : Int) + 1))).sum % (10 : Int) ^ (39 : Int).toNat = far at hf ⊢
  refine loop2 hz (fun o7 => law3 s hl hz h1 h2 fun M' s' => hn M' o7 _ s') _ _ fun d hd => ?_
  simp only [List.mem_cons, List.not_mem_nil, or_false] at hd
  rcases hd with rfl | rfl | rfl | rfl | rfl | rfl | rfl | rfl | rfl | rfl | rfl <;> refine ⟨rfl, by simp [lay], ?_⟩ <;> simp [inR] <;> omega
end
end K02
set_option Elab.async false
set_option linter.all false
set_option maxRecDepth 100000
set_option maxHeartbeats 4000000
namespace K02
open PySem PySem.Spec L2 DX DL DH
section
variable {K : Frag} {mg : Str → Option Value} {ds : List D} {M : DM} {Q : DK} {W : DXK}
theorem right_ok {z : Str} {n : Int} (hz : permS z = true) (h1 : 1 ≤ n) (h2 : n ≤ 1000) {Q : DK} {E : DXK} (q : Q (.bl true) M) : sp__law_right K [form K (.str z) (.int n), .str z, .int n] M Q E :=
  ⟨z, n, rfl, ord_ok hz h1 h2, short_perm hz, q⟩
theorem mk1_ok {z : Str} (hz : permS z = true) {Q : DK} {E : DXK} (q : Q (form K (.str z) (.int 1)) M) : mk_Form1 K [.str z] M Q E :=
  ⟨rfl, _, _, rfl, rfl, rfl, short_perm hz, fun _ => q, fun h => by rw [ord_ok hz (by decide) (by decide)] at h; cases h⟩
theorem law5 (hx : Fx K mg) {p1 p2 : Addr} {ps : List Pr} {ns : List Int} {i : Nat} {E : DEnds} {o4 o5 o6 o7 o8 o9 o10 o11 : Option D} (hns : ns.length ≤ 63) (hi : i < 1000) (s : St K M p1 p2 ps) (hl : ps.length ≤ 100)
    (hn : ∀ M' o4 o5 o6 o7 o8 z n, St K M' p1 p2 (ps ++ [(z, n)] ++ [(z, n % 1000 + 1)]) → E.nx [some (.scr (ns.map D.int)), some (.ref p1), some (.ref p2), some (.int i), o4, o5, o6, o7, o8, o9, o10, o11] M') :
    t_law_5 K W E [some (.scr (ns.map D.int)), some (.ref p1), some (.ref p2), some (.int i), o4, o5, o6, o7, o8, o9, o10, o11] M := by
  simp only [t_law_5, dSeq, dSet, dAsg, dgTup, dgCons, dgN, dgNil, dCall, dCons, dNil, dVar, List.getElem?_cons_zero, List.getElem?_cons_succ, List.set_cons_succ, List.set_cons_zero]
  refine ⟨ns, i, rfl, hns, hi, fun p a b c hp ha => ?_⟩
  have hp1 : p ≠ p1 := fun e => by rw [e, s.fo] at hp; cases hp
  have hp2 : p ≠ p2 := fun e => by rw [e, s.pa] at hp; cases hp
  simp only [List.getElem?_cons_zero, List.getElem?_cons_succ]
  refine ⟨p, a, b, c, rfl, put_same, ha, fun z n a b c hz h1 h2 ha => ?_⟩
  simp only [dLst, dCons, dNil, dOp, dC, dVar, dCall, List.getElem?_cons_zero, List.getElem?_cons_succ, List.set_cons_succ, List.set_cons_zero, List.length_cons, List.length_nil, true_and, put_two]
  refine ⟨small (by decide), p, a, b, c, 3, rfl, put_same, ha, by decide, by decide, fun r a b c h3 h4 ha => ?_⟩
  have key : ∀ m : Int, 1 ≤ m → m ≤ 1000 → (dSeq (dIfS (dOr (dNot (dB (dCall (sp__law_right K) (dW W) (dCons (dCall (mk_Form2 K) (dW W) (dCons (dVar 5) (dCons (dVar 6) (dNil)))) (dCons (dVar 5) (dCons (dVar 6) (dNil))))))) (dNot (dB (dCall (sp__law_right K) (dW W) (dCons (dCall (mk_Form1 K) (dW W) (dCons (dVar 5) (dNil))) (dCons (dVar 5) (dCons (dC (.int 1)) (dNil)))))))) (dRet (dC (.bl false))) (dNext)) (dSeq (dFor (dSeqI (dCall (sp__law_bad_letters K) (dW W) (dCons (dVar 5) (dCons (dCall (sp__law_draw K) (dW W) (dCons (dVar 4) (dCons (dC (.int 26)) (dNil)))) (dNil))))) (dgN 7) (t_law_1 K W)) (t_law_4 K W)))
      E [some (.scr (ns.map D.int)), some (.ref p1), some (.ref p2), some (.int i), some (.ref p), some (.str z), some (.int m), o7, o8, o9, o10, o11] (put M p (purse a b c)) := fun m h1 h2 => by
    simp only [dSeq, dIfS, dOr, dNot, dB, dFor, dSeqI, dCall, dCons, dNil, dVar, dC, List.getElem?_cons_zero, List.getElem?_cons_succ]
    refine mk_ok hz h1 h2 (right_ok hz h1 h2 ?_)
    simp only [Bool.not_true, Bool.false_eq_true, if_false]
    refine mk1_ok hz (right_ok hz (by decide) (by decide) ?_)
    simp only [Bool.not_true, Bool.false_eq_true, if_false, dNext]
    refine ⟨p, a, b, c, 26, rfl, put_same, ha, by decide, by decide, fun r a b c h5 h6 ha => ?_⟩
    refine ⟨z, r, rfl, hz, h5, h6, fun xs hxs => ?_⟩
    exact loop1 (fun o7 => law4 ((s.put hp1 hp2).put hp1 hp2) hl hz h1 h2 fun M' o7 o8 s' => hn M' _ _ _ _ _ _ _ s') xs _ hxs
  have hr : r = 0 ∨ r = 1 ∨ r = 2 := by omega
  simp only [put_two]
  rcases hr with rfl | rfl | rfl
  · exact key n h1 h2
  · exact key 1 (by decide) (by decide)
  · exact key 1000 (by decide) (by decide)
theorem loop5 (hx : Fx K mg) {p1 p2 : Addr} {ns : List Int} {E : DEnds} {o9 o10 o11 : Option D} (hns : ns.length ≤ 63)
    (hn : ∀ M' ps o3 o4 o5 o6 o7 o8, St K M' p1 p2 ps → E.nx [some (.scr (ns.map D.int)), some (.ref p1), some (.ref p2), o3, o4, o5, o6, o7, o8, o9, o10, o11] M') :
    ∀ (n i : Nat) (M : DM) (ps : List Pr) (o3 o4 o5 o6 o7 o8 : Option D), i + n ≤ 4 → ps.length ≤ 2 * i → St K M p1 p2 ps →
      forR (dgN 3) (t_law_5 K W) (fun _ => True) E (rng i n) [some (.scr (ns.map D.int)), some (.ref p1), some (.ref p2), o3, o4, o5, o6, o7, o8, o9, o10, o11] M
  | 0, i, M, ps, o3, o4, o5, o6, o7, o8, _, _, s => ⟨trivial, hn M ps _ _ _ _ _ _ s⟩
  | n + 1, i, M, ps, o3, o4, o5, o6, o7, o8, hi, hl, s => by
    rw [rng_succ]
    refine ⟨trivial, ?_⟩
    simp only [dgN, List.set_cons_succ, List.set_cons_zero]
    refine law5 hx hns (by omega) s (by omega) fun M' o4 o5 o6 o7 o8 z m s' => ?_
    exact loop5 hx hns hn n (i + 1) M' _ _ _ _ _ _ _ (by omega) (by simp; omega) s'
theorem pure_law (hx : Fx K mg) (h : sp_law K ds M Q W) : t_law K W (endsF Q) (startD ["_law_script", "_law_forms", "_law_pairs", "_law_at", "_law_purse_here", "_law_letters", "_law_chains", "_law_bad", "_law_far", "_law_one", "_law_k", "_law_other"] ds) M := by
  obtain ⟨ns, rfl, hns, q⟩ := h
  simp only [t_law, endsF, startD, dSeq, dIfS, dNot, dB, dPar, dLstM, dFor, dRng1, dCall, dCons, dNil, dVar, dC, List.map_cons, List.map_nil, List.length_cons, List.length_nil, List.replicate, List.cons_append, List.nil_append, List.getElem?_cons_zero, List.getElem?_cons_succ]
  refine ⟨rfl, .str alpha, .int 1, rfl, rfl, rfl, short_perm alpha_perm, fun _ => ?_, fun h => by rw [ord_ok alpha_perm (by decide) (by decide)] at h; cases h⟩
  refine right_ok alpha_perm (by decide) (by decide) ?_
  simp only [Bool.not_true, Bool.false_eq_true, if_false, dNext, List.set_cons_succ, List.set_cons_zero]
  refine ⟨small (by decide), fun p1 h1 => ⟨small (by decide), fun p2 h2 => ⟨by decide, by decide, ?_⟩⟩⟩
  have hne : p1 ≠ p2 := fun e => by rw [e, put_same] at h2; cases h2
  refine loop5 hx hns (fun M' ps o3 o4 o5 o6 o7 o8 s => law10 hx s.pa s.fo q) 4 0 _ [] _ _ _ _ _ _ (by decide) (by decide) ⟨hne, by rw [put_ne hne, put_same]; rfl, by rw [put_same]; rfl⟩
end
end K02
set_option Elab.async false
set_option linter.all false
set_option maxRecDepth 100000
set_option maxHeartbeats 4000000
namespace K02
open PySem PySem.Spec L2 DX DL DH
section
variable {K : Frag} {mg : Str → Option Value} {as : List D} {M : DM} {Q : DK} {E : DXK} {q : Addr}
theorem mkl {l c : D} (h : fargs as = some (l, c)) (hm : mk_Form K as M Q E) (hq : M q = none) : sp_Form___init__ K [.ref q, l, c] (put M q (.ins (cF K) [])) (fun v M2 => v = .non ∧ up Q (.ref q) M2) (upX E) := by
  obtain ⟨l', c', e, h1, h2, h3, h4, h5⟩ := hm
  rw [h] at e
  cases e
  refine ⟨q, l, c, rfl, put_same, h1, h2, h3, fun ho => ⟨rfl, ?_⟩, fun ho => ⟨M, fun a m e => put_ne' e hq, h5 ho⟩⟩
  rw [put_put]
  exact ⟨_, M, FrzTo.insP hq, h4 ho⟩
theorem mkl_Form0 (hx : Fx K mg) (hm : mk_Form0 K as M Q E) (hq : M q = none) : sp_Form___init__ K (.ref q :: (as ++ [.str "abcdefghijklmnopqrstuvwxyz", .int 1])) (put M q (.ins (cF K) [])) (fun v M2 => v = .non ∧ up Q (.ref q) M2) (upX E) := by
  obtain ⟨hl, hm⟩ := hm
  match as, hl with
  | [], _ => exact mkl rfl hm hq
theorem mkl_Form1 (hx : Fx K mg) (hm : mk_Form1 K as M Q E) (hq : M q = none) : sp_Form___init__ K (.ref q :: (as ++ [.int 1])) (put M q (.ins (cF K) [])) (fun v M2 => v = .non ∧ up Q (.ref q) M2) (upX E) := by
  obtain ⟨hl, hm⟩ := hm
  match as, hl with
  | [l], _ => exact mkl rfl hm hq
theorem mkl_Form2 (hx : Fx K mg) (hm : mk_Form2 K as M Q E) (hq : M q = none) : sp_Form___init__ K (.ref q :: (as ++ [])) (put M q (.ins (cF K) [])) (fun v M2 => v = .non ∧ up Q (.ref q) M2) (upX E) := by
  obtain ⟨hl, hm⟩ := hm
  match as, hl with
  | [l, c], _ => exact mkl rfl hm hq
theorem law_tells {ns : List Int} (hl : ns.length ≤ 63) : sp_law K [.scr (ns.map D.int)] (fun _ => none) (fun d _ => d = .bl true) (fun _ _ _ => False) := ⟨ns, rfl, hl, fun _ => rfl⟩
end
end K02
set_option Elab.async false
set_option linter.all false
set_option maxRecDepth 100000
set_option maxHeartbeats 4000000
namespace K02
open PySem PySem.Spec PyProof.Rows L2 DX DL DH
section
variable {w : World} {K : Frag} {mg : Str → Option Value} {base : Heap}
theorem r_is_whole {cdv : Value} {A : Around} {outer : List Env} {s : Shared} {H : Hp} {E : XK} {F0 : Hp} {W : DXK} (hx : Fx K mg)
    (c : Ctx (cxOf (L2.CX P w) P w K mg base ["value"] "is_whole" (defScope s_is_whole) (He.ga K "is_whole") cdv A outer s H E) F0 (dW W)) (hr : Room 0 (cxOf (L2.CX P w) P w K mg base ["value"] "is_whole" (defScope s_is_whole) (He.ga K "is_whole") cdv A outer s H E).A) :
    DPSs (cxOf (L2.CX P w) P w K mg base ["value"] "is_whole" (defScope s_is_whole) (He.ga K "is_whole") cdv A outer s H E) F0 (defBody s_is_whole) (t_is_whole K W) :=
  dss_one (ds_ret (dpe_and (dpe_callB cr_disi hx.b_isinstance (da_cons (dv 0) (da_cons ((dbltn hx.b_int Boot.«int»)) (da_nil)))) (dpe_one (dpe_not (dpe_callB cr_disi hx.b_isinstance (da_cons (dv 0) (da_cons ((dbltn hx.b_bool Boot.«bool»)) (da_nil))))))))
theorem Fx.kp_is_whole (hx : Fx K mg) (w : World) (base : Heap) : Keeps P w K mg base 1 "is_whole" "is_whole" (defArgs s_is_whole) (defBody s_is_whole) (defScope s_is_whole) [] (He.ga K "is_whole") ["value"] (sp_is_whole K) := by
  obtain ⟨fd, F⟩ := hx.fd_is_whole
  exact ⟨fd, F, dfn F sc_is_whole (fun ds M Q E h => by first | (obtain ⟨_, rfl, _⟩ := h; rfl) | (obtain ⟨_, _, rfl, _⟩ := h; rfl) | (obtain ⟨_, _, _, rfl, _⟩ := h; rfl) | (obtain ⟨_, _, _, _, rfl, _⟩ := h; rfl) | (obtain ⟨_, _, _, _, _, rfl, _⟩ := h; rfl) | (obtain ⟨_, _, _, _, _, _, rfl, _⟩ := h; rfl) | (obtain ⟨_, _, _, _, _, _, _, rfl, _⟩ := h; rfl) | (obtain ⟨_, _, _, _, _, _, _, _, rfl, _⟩ := h; rfl)) fun cdv A outer s H E F0 W c hr => ⟨t_is_whole K (upX W), r_is_whole hx c hr, fun ds M Q h => pure_is_whole hx h⟩⟩
theorem Fx.cal_is_whole (hx : Fx K mg) (w : World) (base : Heap) : DCal P w K mg base 1 "is_whole" (sp_is_whole K) := (hx.kp_is_whole w base).cal (fun fd F => F.bindsN fun _ _ _ _ _ _ us hl => match us, hl with | [_], _ => rfl) hx.g_is_whole
theorem r_is_order {cdv : Value} {A : Around} {outer : List Env} {s : Shared} {H : Hp} {E : XK} {F0 : Hp} {W : DXK} (hx : Fx K mg)
    (c : Ctx (cxOf (L2.CX P w) P w K mg base ["letters", "chains"] "is_order" (defScope s_is_order) (He.ga K "is_order") cdv A outer s H E) F0 (dW W)) (hr : Room 1 (cxOf (L2.CX P w) P w K mg base ["letters", "chains"] "is_order" (defScope s_is_order) (He.ga K "is_order") cdv A outer s H E).A) :
    DPSs (cxOf (L2.CX P w) P w K mg base ["letters", "chains"] "is_order" (defScope s_is_order) (He.ga K "is_order") cdv A outer s H E) F0 (defBody s_is_order) (t_is_order K W) :=
  dss_cons (ds_if (dpw (dpw_or (dpt_not (dpt_val (dpe_callB cr_disi hx.b_isinstance (da_cons (dv 0) (da_cons ((dbltn hx.b_str Boot.«str»)) (da_nil)))))) (dpw_or1 (dpt_cmp (op_dne hr.units) (dpe_callB (cr_dsortedS c.calm) hx.b_sorted (da_cons (dv 0) (da_nil))) (dpe_callTy (cr_dlistS c.calm) hx.b_list (da_cons (hx.e_ALPHABET) (da_nil))))))) (dss_one (ds_ret (dbl))) (dss_nil)) (dss_one (ds_ret (dpe_and (dpe_call c (hx.cal_is_whole w base) (hr.mono (by decide)) (da_cons (dv 1) (da_nil))) (dpe_one (dpe_chain (op_dcmp hr.units) (op_dcmp hr.units) (dint) (dv 1) (hx.e_MOST_CHAINS))))))
theorem Fx.kp_is_order (hx : Fx K mg) (w : World) (base : Heap) : Keeps P w K mg base 2 "is_order" "is_order" (defArgs s_is_order) (defBody s_is_order) (defScope s_is_order) [] (He.ga K "is_order") ["letters", "chains"] (sp_is_order K) := by
  obtain ⟨fd, F⟩ := hx.fd_is_order
  exact ⟨fd, F, dfn F sc_is_order (fun ds M Q E h => by first | (obtain ⟨_, rfl, _⟩ := h; rfl) | (obtain ⟨_, _, rfl, _⟩ := h; rfl) | (obtain ⟨_, _, _, rfl, _⟩ := h; rfl) | (obtain ⟨_, _, _, _, rfl, _⟩ := h; rfl) | (obtain ⟨_, _, _, _, _, rfl, _⟩ := h; rfl) | (obtain ⟨_, _, _, _, _, _, rfl, _⟩ := h; rfl) | (obtain ⟨_, _, _, _, _, _, _, rfl, _⟩ := h; rfl) | (obtain ⟨_, _, _, _, _, _, _, _, rfl, _⟩ := h; rfl)) fun cdv A outer s H E F0 W c hr => ⟨t_is_order K (upX W), r_is_order hx c hr, fun ds M Q h => pure_is_order hx h⟩⟩
theorem Fx.cal_is_order (hx : Fx K mg) (w : World) (base : Heap) : DCal P w K mg base 2 "is_order" (sp_is_order K) := (hx.kp_is_order w base).cal (fun fd F => F.bindsN fun _ _ _ _ _ _ us hl => match us, hl with | [_, _], _ => rfl) hx.g_is_order
theorem r_Form___init__ {cdv : Value} {A : Around} {outer : List Env} {s : Shared} {H : Hp} {E : XK} {F0 : Hp} {W : DXK} (hx : Fx K mg)
    (c : Ctx (cxOf (L2.CX P w) P w K mg base ["self", "letters", "chains"] "Form.__init__" (defScope s_Form___init__) (He.ma K (He.ga K "Form") "__init__") cdv A outer s H E) F0 (dW W)) (hr : Room 2 (cxOf (L2.CX P w) P w K mg base ["self", "letters", "chains"] "Form.__init__" (defScope s_Form___init__) (He.ma K (He.ga K "Form") "__init__") cdv A outer s H E).A) :
    DPSs (cxOf (L2.CX P w) P w K mg base ["self", "letters", "chains"] "Form.__init__" (defScope s_Form___init__) (He.ma K (He.ga K "Form") "__init__") cdv A outer s H E) F0 (defBody s_Form___init__) (t_Form___init__ K W) :=
  dss_cons (ds_if (dpt_not (dpt_val (dpe_call c (hx.cal_is_order w base) (hr.mono (by decide)) (da_cons (dv 1) (da_cons (dv 2) (da_nil)))))) (dss_one (ds_raise c (hx.dx_InvalidForm w base 0) (hr.mono (by decide)) (da_cons (dpe_tup (da_cons (dv 1) (da_cons (dv 2) (da_nil)))) (da_nil)))) (dss_nil)) (dss_cons (ds_fld (dv 0) (dv 1)) (dss_one (ds_fld (dv 0) (dv 2))))
theorem Fx.kp_Form___init__ (hx : Fx K mg) (w : World) (base : Heap) : Keeps P w K mg base 3 "__init__" "Form.__init__" (defArgs s_Form___init__) (defBody s_Form___init__) (defScope s_Form___init__) [.str "abcdefghijklmnopqrstuvwxyz", .int 1] (He.ma K (He.ga K "Form") "__init__") ["self", "letters", "chains"] (sp_Form___init__ K) := by
  obtain ⟨fd, F⟩ := hx.fd_Form___init__
  exact ⟨fd, F, dfn F sc_Form___init__ (fun ds M Q E h => by first | (obtain ⟨_, rfl, _⟩ := h; rfl) | (obtain ⟨_, _, rfl, _⟩ := h; rfl) | (obtain ⟨_, _, _, rfl, _⟩ := h; rfl) | (obtain ⟨_, _, _, _, rfl, _⟩ := h; rfl) | (obtain ⟨_, _, _, _, _, rfl, _⟩ := h; rfl) | (obtain ⟨_, _, _, _, _, _, rfl, _⟩ := h; rfl) | (obtain ⟨_, _, _, _, _, _, _, rfl, _⟩ := h; rfl) | (obtain ⟨_, _, _, _, _, _, _, _, rfl, _⟩ := h; rfl)) fun cdv A outer s H E F0 W c hr => ⟨t_Form___init__ K (upX W), r_Form___init__ hx c hr, fun ds M Q h => pure_Form___init__ hx h⟩⟩
theorem Fx.mak_Form0 (hx : Fx K mg) (w : World) (base : Heap) : DMak P w K mg base 3 "Form" (mk_Form0 K) :=
  (hx.kp_Form___init__ w base).mak (dd := [.str "abcdefghijklmnopqrstuvwxyz", .int 1]) 1 0 (by simp) rfl (fun _ _ _ _ _ _ _ us its h1 h2 => match us, its, h1, h2 with | [_], [_, _], _, _ => ⟨_, rfl, rfl⟩) (fun F => RepL.cons rep_str (RepL.cons rep_int (RepL.nil))) hx.g_Form hx.mk_Form (fun as M Q E h q hq => mkl_Form0 hx h hq)
theorem Fx.mak_Form1 (hx : Fx K mg) (w : World) (base : Heap) : DMak P w K mg base 3 "Form" (mk_Form1 K) :=
  (hx.kp_Form___init__ w base).mak (dd := [.int 1]) 2 1 (by simp) rfl (fun _ _ _ _ _ _ _ us its h1 h2 => match us, its, h1, h2 with | [_, _], [_, _], _, _ => ⟨_, rfl, rfl⟩) (fun F => RepL.cons rep_int (RepL.nil)) hx.g_Form hx.mk_Form (fun as M Q E h q hq => mkl_Form1 hx h hq)
theorem Fx.mak_Form2 (hx : Fx K mg) (w : World) (base : Heap) : DMak P w K mg base 3 "Form" (mk_Form2 K) :=
  (hx.kp_Form___init__ w base).mak (dd := []) 3 2 (by simp) rfl (fun _ _ _ _ _ _ _ us its h1 h2 => match us, its, h1, h2 with | [_, _, _], [_, _], _, _ => ⟨_, rfl, rfl⟩) (fun F => RepL.nil) hx.g_Form hx.mk_Form (fun as M Q E h q hq => mkl_Form2 hx h hq)
theorem r_Form_letters {cdv : Value} {A : Around} {outer : List Env} {s : Shared} {H : Hp} {E : XK} {F0 : Hp} {W : DXK} (hx : Fx K mg)
    (c : Ctx (cxOf (L2.CX P w) P w K mg base ["self"] "Form.letters" (defScope s_Form_letters) (pg K "Form" "letters") cdv A outer s H E) F0 (dW W)) (hr : Room 0 (cxOf (L2.CX P w) P w K mg base ["self"] "Form.letters" (defScope s_Form_letters) (pg K "Form" "letters") cdv A outer s H E).A) :
    DPSs (cxOf (L2.CX P w) P w K mg base ["self"] "Form.letters" (defScope s_Form_letters) (pg K "Form" "letters") cdv A outer s H E) F0 (defBody s_Form_letters) (t_Form_letters K W) :=
  dss_one (ds_ret (dpe_fld (dv 0)))
theorem Fx.kp_Form_letters (hx : Fx K mg) (w : World) (base : Heap) : Keeps P w K mg base 1 "letters" "Form.letters" (defArgs s_Form_letters) (defBody s_Form_letters) (defScope s_Form_letters) [] (pg K "Form" "letters") ["self"] (sp_Form_letters K) := by
  obtain ⟨fd, F⟩ := hx.fd_Form_letters
  exact ⟨fd, F, dfn F sc_Form_letters (fun ds M Q E h => by first | (obtain ⟨_, rfl, _⟩ := h; rfl) | (obtain ⟨_, _, rfl, _⟩ := h; rfl) | (obtain ⟨_, _, _, rfl, _⟩ := h; rfl) | (obtain ⟨_, _, _, _, rfl, _⟩ := h; rfl) | (obtain ⟨_, _, _, _, _, rfl, _⟩ := h; rfl) | (obtain ⟨_, _, _, _, _, _, rfl, _⟩ := h; rfl) | (obtain ⟨_, _, _, _, _, _, _, rfl, _⟩ := h; rfl) | (obtain ⟨_, _, _, _, _, _, _, _, rfl, _⟩ := h; rfl)) fun cdv A outer s H E F0 W c hr => ⟨t_Form_letters K (upX W), r_Form_letters hx c hr, fun ds M Q h => pure_Form_letters hx h⟩⟩
theorem Fx.dp_letters (hx : Fx K mg) (w : World) (base : Heap) : DPrps P w K mg base 1 "letters" (p_letters K) := ⟨(hx.kp_Form_letters w base).prp (fun fd F => F.bindsN fun _ _ _ _ _ _ us hl => match us, hl with | [_], _ => rfl) hx.cl_Form hx.pr_Form_letters, trivial⟩
theorem r_Form_chains {cdv : Value} {A : Around} {outer : List Env} {s : Shared} {H : Hp} {E : XK} {F0 : Hp} {W : DXK} (hx : Fx K mg)
    (c : Ctx (cxOf (L2.CX P w) P w K mg base ["self"] "Form.chains" (defScope s_Form_chains) (pg K "Form" "chains") cdv A outer s H E) F0 (dW W)) (hr : Room 0 (cxOf (L2.CX P w) P w K mg base ["self"] "Form.chains" (defScope s_Form_chains) (pg K "Form" "chains") cdv A outer s H E).A) :
    DPSs (cxOf (L2.CX P w) P w K mg base ["self"] "Form.chains" (defScope s_Form_chains) (pg K "Form" "chains") cdv A outer s H E) F0 (defBody s_Form_chains) (t_Form_chains K W) :=
  dss_one (ds_ret (dpe_fld (dv 0)))
theorem Fx.kp_Form_chains (hx : Fx K mg) (w : World) (base : Heap) : Keeps P w K mg base 1 "chains" "Form.chains" (defArgs s_Form_chains) (defBody s_Form_chains) (defScope s_Form_chains) [] (pg K "Form" "chains") ["self"] (sp_Form_chains K) := by
  obtain ⟨fd, F⟩ := hx.fd_Form_chains
  exact ⟨fd, F, dfn F sc_Form_chains (fun ds M Q E h => by first | (obtain ⟨_, rfl, _⟩ := h; rfl) | (obtain ⟨_, _, rfl, _⟩ := h; rfl) | (obtain ⟨_, _, _, rfl, _⟩ := h; rfl) | (obtain ⟨_, _, _, _, rfl, _⟩ := h; rfl) | (obtain ⟨_, _, _, _, _, rfl, _⟩ := h; rfl) | (obtain ⟨_, _, _, _, _, _, rfl, _⟩ := h; rfl) | (obtain ⟨_, _, _, _, _, _, _, rfl, _⟩ := h; rfl) | (obtain ⟨_, _, _, _, _, _, _, _, rfl, _⟩ := h; rfl)) fun cdv A outer s H E F0 W c hr => ⟨t_Form_chains K (upX W), r_Form_chains hx c hr, fun ds M Q h => pure_Form_chains hx h⟩⟩
theorem Fx.dp_chains (hx : Fx K mg) (w : World) (base : Heap) : DPrps P w K mg base 1 "chains" (p_chains K) := ⟨(hx.kp_Form_chains w base).prp (fun fd F => F.bindsN fun _ _ _ _ _ _ us hl => match us, hl with | [_], _ => rfl) hx.cl_Form hx.pr_Form_chains, trivial⟩
theorem r_Form___eq__ {cdv : Value} {A : Around} {outer : List Env} {s : Shared} {H : Hp} {E : XK} {F0 : Hp} {W : DXK} (hx : Fx K mg)
    (c : Ctx (cxOf (L2.CX P w) P w K mg base ["self", "other"] "Form.__eq__" (defScope s_Form___eq__) (He.ma K (He.ga K "Form") "__eq__") cdv A outer s H E) F0 (dW W)) (hr : Room 0 (cxOf (L2.CX P w) P w K mg base ["self", "other"] "Form.__eq__" (defScope s_Form___eq__) (He.ma K (He.ga K "Form") "__eq__") cdv A outer s H E).A) :
    DPSs (cxOf (L2.CX P w) P w K mg base ["self", "other"] "Form.__eq__" (defScope s_Form___eq__) (He.ma K (He.ga K "Form") "__eq__") cdv A outer s H E) F0 (defBody s_Form___eq__) (t_Form___eq__ K W) :=
  dss_one (ds_ret (dpe_and (dpe_callB cr_disi hx.b_isinstance (da_cons (dv 1) (da_cons ((dglobr hx.g_Form)) (da_nil)))) (dpe_and (dpe_cmp (op_deq hr.units) (dpe_fld (dv 0)) (dpe_fld (dv 1))) (dpe_one (dpe_cmp (op_deq hr.units) (dpe_fld (dv 0)) (dpe_fld (dv 1)))))))
theorem Fx.kp_Form___eq__ (hx : Fx K mg) (w : World) (base : Heap) : Keeps P w K mg base 1 "__eq__" "Form.__eq__" (defArgs s_Form___eq__) (defBody s_Form___eq__) (defScope s_Form___eq__) [] (He.ma K (He.ga K "Form") "__eq__") ["self", "other"] (sp_Form___eq__ K) := by
  obtain ⟨fd, F⟩ := hx.fd_Form___eq__
  exact ⟨fd, F, dfn F sc_Form___eq__ (fun ds M Q E h => by first | (obtain ⟨_, rfl, _⟩ := h; rfl) | (obtain ⟨_, _, rfl, _⟩ := h; rfl) | (obtain ⟨_, _, _, rfl, _⟩ := h; rfl) | (obtain ⟨_, _, _, _, rfl, _⟩ := h; rfl) | (obtain ⟨_, _, _, _, _, rfl, _⟩ := h; rfl) | (obtain ⟨_, _, _, _, _, _, rfl, _⟩ := h; rfl) | (obtain ⟨_, _, _, _, _, _, _, rfl, _⟩ := h; rfl) | (obtain ⟨_, _, _, _, _, _, _, _, rfl, _⟩ := h; rfl)) fun cdv A outer s H E F0 W c hr => ⟨t_Form___eq__ K (upX W), r_Form___eq__ hx c hr, fun ds M Q h => pure_Form___eq__ hx h⟩⟩
theorem Fx.dm___eq__ (hx : Fx K mg) (w : World) (base : Heap) : DMets P w K mg base 1 "__eq__" (m___eq__ K) := ⟨(hx.kp_Form___eq__ w base).met (fun fd F => F.bindsN fun _ _ _ _ _ _ us hl => match us, hl with | [_, _], _ => rfl) hx.cl_Form hx.me_Form___eq__, trivial⟩
theorem r__law_purse {cdv : Value} {A : Around} {outer : List Env} {s : Shared} {H : Hp} {E : XK} {F0 : Hp} {W : DXK} (hx : Fx K mg)
    (c : Ctx (cxOf (L2.CX P w) P w K mg base ["_law_script", "_law_at", "_law_cell"] "_law_purse" (defScope s__law_purse) (He.ga K "_law_purse") cdv A outer s H E) F0 (dW W)) (hr : Room 0 (cxOf (L2.CX P w) P w K mg base ["_law_script", "_law_at", "_law_cell"] "_law_purse" (defScope s__law_purse) (He.ga K "_law_purse") cdv A outer s H E).A) :
    DPSs (cxOf (L2.CX P w) P w K mg base ["_law_script", "_law_at", "_law_cell"] "_law_purse" (defScope s__law_purse) (He.ga K "_law_purse") cdv A outer s H E) F0 (defBody s__law_purse) (t__law_purse K W) :=
  dss_cons (ds_set 2 c.nd (dpe_callTy cr_dint hx.b_int (da_cons (dpe_callB (cr_dsum c.calm) hx.b_sum (da_cons (dpe_slice (dv 0) (dpo_some (dv 1)) (dpo_some (dpe_op op_dadd (dv 1) (dint)))) (da_nil))) (da_nil)))) (dss_one (ds_ret (dpe_lstM (da_cons (dpe_op op_dmul (dpe_callTy cr_dint hx.b_int (da_cons (dpe_cmp (op_dcmp hr.units) (dv 2) (dpe_op op_dpow (dint) (dint))) (da_nil))) (dpe_op op_dmod (dv 2) (dpe_op op_dpow (dpe_op op_dpow (dint) (dint)) (dint)))) (da_cons (dpe_op op_dmod (dv 2) (dint)) (da_cons (dpe_op op_dmul (dint) (dv 1)) (da_nil)))))))
theorem Fx.kp__law_purse (hx : Fx K mg) (w : World) (base : Heap) : Keeps P w K mg base 1 "_law_purse" "_law_purse" (defArgs s__law_purse) (defBody s__law_purse) (defScope s__law_purse) [] (He.ga K "_law_purse") ["_law_script", "_law_at"] (sp__law_purse K) := by
  obtain ⟨fd, F⟩ := hx.fd__law_purse
  exact ⟨fd, F, dfn F sc__law_purse (fun ds M Q E h => by first | (obtain ⟨_, rfl, _⟩ := h; rfl) | (obtain ⟨_, _, rfl, _⟩ := h; rfl) | (obtain ⟨_, _, _, rfl, _⟩ := h; rfl) | (obtain ⟨_, _, _, _, rfl, _⟩ := h; rfl) | (obtain ⟨_, _, _, _, _, rfl, _⟩ := h; rfl) | (obtain ⟨_, _, _, _, _, _, rfl, _⟩ := h; rfl) | (obtain ⟨_, _, _, _, _, _, _, rfl, _⟩ := h; rfl) | (obtain ⟨_, _, _, _, _, _, _, _, rfl, _⟩ := h; rfl)) fun cdv A outer s H E F0 W c hr => ⟨t__law_purse K (upX W), r__law_purse hx c hr, fun ds M Q h => pure__law_purse hx h⟩⟩
theorem Fx.cal__law_purse (hx : Fx K mg) (w : World) (base : Heap) : DCal P w K mg base 1 "_law_purse" (sp__law_purse K) := (hx.kp__law_purse w base).cal (fun fd F => F.bindsN fun _ _ _ _ _ _ us hl => match us, hl with | [_, _], _ => rfl) hx.g__law_purse
theorem r__law_draw {cdv : Value} {A : Around} {outer : List Env} {s : Shared} {H : Hp} {E : XK} {F0 : Hp} {W : DXK} (hx : Fx K mg)
    (c : Ctx (cxOf (L2.CX P w) P w K mg base ["_law_purse_here", "_law_many", "_law_drawn", "_law_number"] "_law_draw" (defScope s__law_draw) (He.ga K "_law_draw") cdv A outer s H E) F0 (dW W)) (hr : Room 0 (cxOf (L2.CX P w) P w K mg base ["_law_purse_here", "_law_many", "_law_drawn", "_law_number"] "_law_draw" (defScope s__law_draw) (He.ga K "_law_draw") cdv A outer s H E).A) :
    DPSs (cxOf (L2.CX P w) P w K mg base ["_law_purse_here", "_law_many", "_law_drawn", "_law_number"] "_law_draw" (defScope s__law_draw) (He.ga K "_law_draw") cdv A outer s H E) F0 (defBody s__law_draw) (t__law_draw K W) :=
  dss_cons (ds_if (dpt_cmp (op_dcmp hr.units) (dpe_ix (dv 0) (dint)) (dint)) (dss_cons (ds_set 2 c.nd (dpe_op op_dmod (dpe_ix (dv 0) (dint)) (dv 1))) (dss_cons (ds_asg (dpe_op op_dfdiv (dpe_ix (dv 0) (dint)) (dv 1)) (dg_sub (dv 0) (dint))) (dss_one (ds_ret (dv 2))))) (dss_nil)) (dss_cons (ds_asg (dpe_op op_dadd (dpe_ix (dv 0) (dint)) (dint)) (dg_sub (dv 0) (dint))) (dss_cons (ds_set 3 c.nd (dpe_op op_dmod (dpe_op op_dadd (dpe_op op_dadd (dpe_op op_dmul (dpe_ix (dv 0) (dint)) (dint)) (dpe_op op_dmul (dpe_ix (dv 0) (dint)) (dint))) (dint)) (dint))) (dss_cons (ds_set 3 c.nd (dpe_op op_dmod (dpe_op op_dadd (dpe_op op_dmul (dv 3) (dv 3)) (dpe_ix (dv 0) (dint))) (dint))) (dss_cons (ds_set 3 c.nd (dpe_op op_dmod (dpe_op op_dadd (dpe_op op_dmul (dv 3) (dv 3)) (dint)) (dint))) (dss_one (ds_ret (dpe_op op_dmod (dpe_op op_dfdiv (dv 3) (dint)) (dv 1))))))))
theorem Fx.kp__law_draw (hx : Fx K mg) (w : World) (base : Heap) : Keeps P w K mg base 1 "_law_draw" "_law_draw" (defArgs s__law_draw) (defBody s__law_draw) (defScope s__law_draw) [] (He.ga K "_law_draw") ["_law_purse_here", "_law_many"] (sp__law_draw K) := by
  obtain ⟨fd, F⟩ := hx.fd__law_draw
  exact ⟨fd, F, dfn F sc__law_draw (fun ds M Q E h => by first | (obtain ⟨_, rfl, _⟩ := h; rfl) | (obtain ⟨_, _, rfl, _⟩ := h; rfl) | (obtain ⟨_, _, _, rfl, _⟩ := h; rfl) | (obtain ⟨_, _, _, _, rfl, _⟩ := h; rfl) | (obtain ⟨_, _, _, _, _, rfl, _⟩ := h; rfl) | (obtain ⟨_, _, _, _, _, _, rfl, _⟩ := h; rfl) | (obtain ⟨_, _, _, _, _, _, _, rfl, _⟩ := h; rfl) | (obtain ⟨_, _, _, _, _, _, _, _, rfl, _⟩ := h; rfl)) fun cdv A outer s H E F0 W c hr => ⟨t__law_draw K (upX W), r__law_draw hx c hr, fun ds M Q h => pure__law_draw hx h⟩⟩
theorem Fx.cal__law_draw (hx : Fx K mg) (w : World) (base : Heap) : DCal P w K mg base 1 "_law_draw" (sp__law_draw K) := (hx.kp__law_draw w base).cal (fun fd F => F.bindsN fun _ _ _ _ _ _ us hl => match us, hl with | [_, _], _ => rfl) hx.g__law_draw
theorem r__law_form {cdv : Value} {A : Around} {outer : List Env} {s : Shared} {H : Hp} {E : XK} {F0 : Hp} {W : DXK} (hx : Fx K mg)
    (c : Ctx (cxOf (L2.CX P w) P w K mg base ["_law_purse_here", "_law_letters", "_law_way", "_law_at", "_law_turn", "_law_rest", "_law_many"] "_law_form" (defScope s__law_form) (He.ga K "_law_form") cdv A outer s H E) F0 (dW W)) (hr : Room 1 (cxOf (L2.CX P w) P w K mg base ["_law_purse_here", "_law_letters", "_law_way", "_law_at", "_law_turn", "_law_rest", "_law_many"] "_law_form" (defScope s__law_form) (He.ga K "_law_form") cdv A outer s H E).A) :
    DPSs (cxOf (L2.CX P w) P w K mg base ["_law_purse_here", "_law_letters", "_law_way", "_law_at", "_law_turn", "_law_rest", "_law_many"] "_law_form" (defScope s__law_form) (He.ga K "_law_form") cdv A outer s H E) F0 (defBody s__law_form) (t__law_form K W) :=
  dss_cons (ds_set 1 c.nd (dstr)) (dss_cons (ds_set 2 c.nd (dpe_call c (hx.cal__law_draw w base) (hr.mono (by decide)) (da_cons (dv 0) (da_cons (dint) (da_nil))))) (dss_cons (ds_if (dpt_cmp (op_deq hr.units) (dv 2) (dint)) (dss_one (ds_set 1 c.nd (dpe_revS (dv 1)))) (dss_nil)) (dss_cons (ds_if (dpt_cmp (op_deq hr.units) (dv 2) (dint)) (dss_cons (ds_set 3 c.nd (dpe_call c (hx.cal__law_draw w base) (hr.mono (by decide)) (da_cons (dv 0) (da_cons (dint) (da_nil))))) (dss_one (ds_set 1 c.nd (dpe_op op_dadd (dpe_slice (dv 1) (dpo_some (dv 3)) dpo_none) (dpe_slice (dv 1) dpo_none (dpo_some (dv 3))))))) (dss_nil)) (dss_cons (ds_if (dpt_cmp (op_deq hr.units) (dv 2) (dint)) (dss_one (ds_for c.own c.calm (dpi_range1 hx.b_range (da_cons (dint) (da_nil))) (dg_name 4 c.nd) (dss_cons (ds_set 3 c.nd (dpe_op op_dadd (dv 4) (dpe_call c (hx.cal__law_draw w base) (hr.mono (by decide)) (da_cons (dv 0) (da_cons (dpe_op op_dsub (dint) (dv 4)) (da_nil)))))) (dss_cons (ds_set 5 c.nd (dpe_op op_dadd (dpe_slice (dv 1) (dpo_some (dv 4)) (dpo_some (dv 3))) (dpe_slice (dv 1) (dpo_some (dpe_op op_dadd (dv 3) (dint))) dpo_none))) (dss_one (ds_set 1 c.nd (dpe_op op_dadd (dpe_op op_dadd (dpe_slice (dv 1) dpo_none (dpo_some (dv 4))) (dpe_ix (dv 1) (dv 3))) (dv 5)))))))) (dss_nil)) (dss_cons (ds_set 6 c.nd (dpe_ix (dpe_lst (da_cons (dint) (da_cons (dint) (da_cons (dint) (da_cons (dint) (da_nil)))))) (dpe_call c (hx.cal__law_draw w base) (hr.mono (by decide)) (da_cons (dv 0) (da_cons (dint) (da_nil)))))) (dss_one (ds_ret (dpe_tup (da_cons (dv 1) (da_cons (dpe_op op_dadd (dint) (dpe_call c (hx.cal__law_draw w base) (hr.mono (by decide)) (da_cons (dv 0) (da_cons (dv 6) (da_nil))))) (da_nil)))))))))))
theorem Fx.kp__law_form (hx : Fx K mg) (w : World) (base : Heap) : Keeps P w K mg base 2 "_law_form" "_law_form" (defArgs s__law_form) (defBody s__law_form) (defScope s__law_form) [] (He.ga K "_law_form") ["_law_purse_here"] (sp__law_form K) := by
  obtain ⟨fd, F⟩ := hx.fd__law_form
  exact ⟨fd, F, dfn F sc__law_form (fun ds M Q E h => by first | (obtain ⟨_, rfl, _⟩ := h; rfl) | (obtain ⟨_, _, rfl, _⟩ := h; rfl) | (obtain ⟨_, _, _, rfl, _⟩ := h; rfl) | (obtain ⟨_, _, _, _, rfl, _⟩ := h; rfl) | (obtain ⟨_, _, _, _, _, rfl, _⟩ := h; rfl) | (obtain ⟨_, _, _, _, _, _, rfl, _⟩ := h; rfl) | (obtain ⟨_, _, _, _, _, _, _, rfl, _⟩ := h; rfl) | (obtain ⟨_, _, _, _, _, _, _, _, rfl, _⟩ := h; rfl)) fun cdv A outer s H E F0 W c hr => ⟨t__law_form K (upX W), r__law_form hx c hr, fun ds M Q h => pure__law_form hx h⟩⟩
theorem Fx.cal__law_form (hx : Fx K mg) (w : World) (base : Heap) : DCal P w K mg base 2 "_law_form" (sp__law_form K) := (hx.kp__law_form w base).cal (fun fd F => F.bindsN fun _ _ _ _ _ _ us hl => match us, hl with | [_], _ => rfl) hx.g__law_form
theorem r__law_whole {cdv : Value} {A : Around} {outer : List Env} {s : Shared} {H : Hp} {E : XK} {F0 : Hp} {W : DXK} (hx : Fx K mg)
    (c : Ctx (cxOf (L2.CX P w) P w K mg base ["_law_value"] "_law_whole" (defScope s__law_whole) (He.ga K "_law_whole") cdv A outer s H E) F0 (dW W)) (hr : Room 0 (cxOf (L2.CX P w) P w K mg base ["_law_value"] "_law_whole" (defScope s__law_whole) (He.ga K "_law_whole") cdv A outer s H E).A) :
    DPSs (cxOf (L2.CX P w) P w K mg base ["_law_value"] "_law_whole" (defScope s__law_whole) (He.ga K "_law_whole") cdv A outer s H E) F0 (defBody s__law_whole) (t__law_whole K W) :=
  dss_one (ds_ret (dpe_and (dpe_callB cr_disi hx.b_isinstance (da_cons (dv 0) (da_cons ((dbltn hx.b_int Boot.«int»)) (da_nil)))) (dpe_one (dpe_not (dpe_callB cr_disi hx.b_isinstance (da_cons (dv 0) (da_cons ((dbltn hx.b_bool Boot.«bool»)) (da_nil))))))))
theorem Fx.kp__law_whole (hx : Fx K mg) (w : World) (base : Heap) : Keeps P w K mg base 1 "_law_whole" "_law_whole" (defArgs s__law_whole) (defBody s__law_whole) (defScope s__law_whole) [] (He.ga K "_law_whole") ["_law_value"] (sp__law_whole K) := by
  obtain ⟨fd, F⟩ := hx.fd__law_whole
  exact ⟨fd, F, dfn F sc__law_whole (fun ds M Q E h => by first | (obtain ⟨_, rfl, _⟩ := h; rfl) | (obtain ⟨_, _, rfl, _⟩ := h; rfl) | (obtain ⟨_, _, _, rfl, _⟩ := h; rfl) | (obtain ⟨_, _, _, _, rfl, _⟩ := h; rfl) | (obtain ⟨_, _, _, _, _, rfl, _⟩ := h; rfl) | (obtain ⟨_, _, _, _, _, _, rfl, _⟩ := h; rfl) | (obtain ⟨_, _, _, _, _, _, _, rfl, _⟩ := h; rfl) | (obtain ⟨_, _, _, _, _, _, _, _, rfl, _⟩ := h; rfl)) fun cdv A outer s H E F0 W c hr => ⟨t__law_whole K (upX W), r__law_whole hx c hr, fun ds M Q h => pure__law_whole hx h⟩⟩
theorem Fx.cal__law_whole (hx : Fx K mg) (w : World) (base : Heap) : DCal P w K mg base 1 "_law_whole" (sp__law_whole K) := (hx.kp__law_whole w base).cal (fun fd F => F.bindsN fun _ _ _ _ _ _ us hl => match us, hl with | [_], _ => rfl) hx.g__law_whole
theorem r__law_refused {cdv : Value} {A : Around} {outer : List Env} {s : Shared} {H : Hp} {E : XK} {F0 : Hp} {W : DXK} (hx : Fx K mg)
    (c : Ctx (cxOf (L2.CX P w) P w K mg base ["_law_letters", "_law_chains", "_law_found", "e"] "_law_refused" (defScope s__law_refused) (He.ga K "_law_refused") cdv A outer s H E) F0 (dW W)) (hr : Room 4 (cxOf (L2.CX P w) P w K mg base ["_law_letters", "_law_chains", "_law_found", "e"] "_law_refused" (defScope s__law_refused) (He.ga K "_law_refused") cdv A outer s H E).A) :
    DPSs (cxOf (L2.CX P w) P w K mg base ["_law_letters", "_law_chains", "_law_found", "e"] "_law_refused" (defScope s__law_refused) (He.ga K "_law_refused") cdv A outer s H E) F0 (defBody s__law_refused) (t__law_refused K W) :=
  dss_cons (ds_set 2 c.nd (dnon)) (dss_cons (ds_try c 3 (fun F1 W1 pn xe c1 => dss_one (ds_expr (dpe_make c1 (hx.mak_Form2 w base) (hr.mono (by decide)) (da_cons (dv 0) (da_cons (dv 1) (da_nil)))))) (DHds.cons ⟨rfl, by decide, .inl hx.g_InvalidForm⟩ (fun F1 a oe C fs pn sui => dss_one (ds_set 2 c.nd (dpe_xf sui (dv 3)))) (DHds.nil))) (dss_one (ds_ret (dpe_and (dpe_cmp (op_deq hr.units) (dv 2) (dpe_tup (da_cons (dv 0) (da_cons (dv 1) (da_nil))))) (dpe_one (dpe_callB cr_disi hx.b_isinstance (da_cons (dv 2) (da_cons ((dbltn hx.b_tuple Boot.«tuple»)) (da_nil)))))))))
theorem Fx.kp__law_refused (hx : Fx K mg) (w : World) (base : Heap) : Keeps P w K mg base 5 "_law_refused" "_law_refused" (defArgs s__law_refused) (defBody s__law_refused) (defScope s__law_refused) [] (He.ga K "_law_refused") ["_law_letters", "_law_chains"] (sp__law_refused K) := by
  obtain ⟨fd, F⟩ := hx.fd__law_refused
  exact ⟨fd, F, dfn F sc__law_refused (fun ds M Q E h => by first | (obtain ⟨_, rfl, _⟩ := h; rfl) | (obtain ⟨_, _, rfl, _⟩ := h; rfl) | (obtain ⟨_, _, _, rfl, _⟩ := h; rfl) | (obtain ⟨_, _, _, _, rfl, _⟩ := h; rfl) | (obtain ⟨_, _, _, _, _, rfl, _⟩ := h; rfl) | (obtain ⟨_, _, _, _, _, _, rfl, _⟩ := h; rfl) | (obtain ⟨_, _, _, _, _, _, _, rfl, _⟩ := h; rfl) | (obtain ⟨_, _, _, _, _, _, _, _, rfl, _⟩ := h; rfl)) fun cdv A outer s H E F0 W c hr => ⟨t__law_refused K (upX W), r__law_refused hx c hr, fun ds M Q h => pure__law_refused hx h⟩⟩
theorem Fx.cal__law_refused (hx : Fx K mg) (w : World) (base : Heap) : DCal P w K mg base 5 "_law_refused" (sp__law_refused K) := (hx.kp__law_refused w base).cal (fun fd F => F.bindsN fun _ _ _ _ _ _ us hl => match us, hl with | [_, _], _ => rfl) hx.g__law_refused
theorem r__law_right {cdv : Value} {A : Around} {outer : List Env} {s : Shared} {H : Hp} {E : XK} {F0 : Hp} {W : DXK} (hx : Fx K mg)
    (c : Ctx (cxOf (L2.CX P w) P w K mg base ["_law_form_here", "_law_letters", "_law_chains"] "_law_right" (defScope s__law_right) (He.ga K "_law_right") cdv A outer s H E) F0 (dW W)) (hr : Room 4 (cxOf (L2.CX P w) P w K mg base ["_law_form_here", "_law_letters", "_law_chains"] "_law_right" (defScope s__law_right) (He.ga K "_law_right") cdv A outer s H E).A) :
    DPSs (cxOf (L2.CX P w) P w K mg base ["_law_form_here", "_law_letters", "_law_chains"] "_law_right" (defScope s__law_right) (He.ga K "_law_right") cdv A outer s H E) F0 (defBody s__law_right) (t__law_right K W) :=
  dss_cons (ds_if (dpw (dpw_or (dpt_cmp (op_dne hr.units) (dpe_prop (hx.dp_letters w base) (hr.mono (by decide)) (dv 0)) (dv 1)) (dpw_or (dpt_cmp (op_dne hr.units) (dpe_prop (hx.dp_chains w base) (hr.mono (by decide)) (dv 0)) (dv 2)) (dpw_or1 (dpt_not (dpt_val (dpe_call c (hx.cal__law_whole w base) (hr.mono (by decide)) (da_cons (dpe_prop (hx.dp_chains w base) (hr.mono (by decide)) (dv 0)) (da_nil))))))))) (dss_one (ds_ret (dbl))) (dss_nil)) (dss_one (ds_ret (dpe_and (dpe_callB cr_disi hx.b_isinstance (da_cons (dv 0) (da_cons ((dglobr hx.g_Form)) (da_nil)))) (dpe_one (dpe_cmp (op_deqX c (hx.dm___eq__ w base) (hr.mono (by decide))) (dv 0) (dpe_make c (hx.mak_Form2 w base) (hr.mono (by decide)) (da_cons (dv 1) (da_cons (dv 2) (da_nil)))))))))
theorem Fx.kp__law_right (hx : Fx K mg) (w : World) (base : Heap) : Keeps P w K mg base 5 "_law_right" "_law_right" (defArgs s__law_right) (defBody s__law_right) (defScope s__law_right) [] (He.ga K "_law_right") ["_law_form_here", "_law_letters", "_law_chains"] (sp__law_right K) := by
  obtain ⟨fd, F⟩ := hx.fd__law_right
  exact ⟨fd, F, dfn F sc__law_right (fun ds M Q E h => by first | (obtain ⟨_, rfl, _⟩ := h; rfl) | (obtain ⟨_, _, rfl, _⟩ := h; rfl) | (obtain ⟨_, _, _, rfl, _⟩ := h; rfl) | (obtain ⟨_, _, _, _, rfl, _⟩ := h; rfl) | (obtain ⟨_, _, _, _, _, rfl, _⟩ := h; rfl) | (obtain ⟨_, _, _, _, _, _, rfl, _⟩ := h; rfl) | (obtain ⟨_, _, _, _, _, _, _, rfl, _⟩ := h; rfl) | (obtain ⟨_, _, _, _, _, _, _, _, rfl, _⟩ := h; rfl)) fun cdv A outer s H E F0 W c hr => ⟨t__law_right K (upX W), r__law_right hx c hr, fun ds M Q h => pure__law_right hx h⟩⟩
theorem Fx.cal__law_right (hx : Fx K mg) (w : World) (base : Heap) : DCal P w K mg base 5 "_law_right" (sp__law_right K) := (hx.kp__law_right w base).cal (fun fd F => F.bindsN fun _ _ _ _ _ _ us hl => match us, hl with | [_, _, _], _ => rfl) hx.g__law_right
theorem r__law_bad_letters {cdv : Value} {A : Around} {outer : List Env} {s : Shared} {H : Hp} {E : XK} {F0 : Hp} {W : DXK} (hx : Fx K mg)
    (c : Ctx (cxOf (L2.CX P w) P w K mg base ["_law_letters", "_law_at", "_law_rest", "_law_bad", "_law_letter"] "_law_bad_letters" (defScope s__law_bad_letters) (He.ga K "_law_bad_letters") cdv A outer s H E) F0 (dW W)) (hr : Room 0 (cxOf (L2.CX P w) P w K mg base ["_law_letters", "_law_at", "_law_rest", "_law_bad", "_law_letter"] "_law_bad_letters" (defScope s__law_bad_letters) (He.ga K "_law_bad_letters") cdv A outer s H E).A) :
    DPSs (cxOf (L2.CX P w) P w K mg base ["_law_letters", "_law_at", "_law_rest", "_law_bad", "_law_letter"] "_law_bad_letters" (defScope s__law_bad_letters) (He.ga K "_law_bad_letters") cdv A outer s H E) F0 (defBody s__law_bad_letters) (t__law_bad_letters K W) :=
  dss_cons (ds_set 2 c.nd (dpe_op op_dadd (dpe_slice (dv 0) dpo_none (dpo_some (dv 1))) (dpe_slice (dv 0) (dpo_some (dpe_op op_dadd (dv 1) (dint))) dpo_none))) (dss_cons (ds_set 3 c.nd (dpe_lst (da_cons (dv 2) (da_cons (dpe_op op_dadd (dv 0) (dpe_ix (dv 0) (dv 1))) (da_cons (dpe_op op_dadd (dv 2) (dpe_ix (dv 0) (dpe_op op_dmod (dpe_op op_dadd (dv 1) (dint)) (dint)))) (da_cons (dpe_op op_dadd (dv 2) (dpe_bm0 PySem.F.plainAttrs_str PySem.F.slot_str_upper PySem.F.type_str_upper mt_dupper (dpe_ix (dv 0) (dv 1)))) (da_cons (dpe_op op_dadd (dv 2) (dstr)) (da_cons (dstr) (da_nil))))))))) (dss_cons (ds_set 3 c.nd (dpe_op op_dadd (dv 3) (dpe_lst (da_cons (dpe_op op_dadd (dv 2) (dstr)) (da_cons (dpe_lc 4 c.calm c.nd (blk_of (N := ["_law_letters", "_law_at", "_law_rest", "_law_bad", "_law_letter"]) (sc := defScope s__law_bad_letters) (by decide +kernel)) (dpi_seq (dv 0)) (fun s H C cl fp =>  pg_name (i := 4) c.nd rfl (Or.inl rfl) (.inr rfl)) (fun s H C cl fp =>  dts_nil) (fun s H C cl fp =>  dv 4)) (da_cons (dpe_callTy (cr_dtupleS c.calm) hx.b_tuple (da_cons (dv 0) (da_nil))) (da_cons (dnon) (da_cons (dv 1) (da_cons (dpe_op op_dadd (dv 0) (dstr)) (da_nil)))))))))) (dss_one (ds_ret (dpe_op op_dadd (dv 3) (dpe_lst (da_cons (dpe_op op_dadd (dpe_op op_dadd (dstr) (dv 2)) (dstr)) (da_nil))))))))
theorem Fx.kp__law_bad_letters (hx : Fx K mg) (w : World) (base : Heap) : Keeps P w K mg base 1 "_law_bad_letters" "_law_bad_letters" (defArgs s__law_bad_letters) (defBody s__law_bad_letters) (defScope s__law_bad_letters) [] (He.ga K "_law_bad_letters") ["_law_letters", "_law_at"] (sp__law_bad_letters K) := by
  obtain ⟨fd, F⟩ := hx.fd__law_bad_letters
  exact ⟨fd, F, dfn F sc__law_bad_letters (fun ds M Q E h => by first | (obtain ⟨_, rfl, _⟩ := h; rfl) | (obtain ⟨_, _, rfl, _⟩ := h; rfl) | (obtain ⟨_, _, _, rfl, _⟩ := h; rfl) | (obtain ⟨_, _, _, _, rfl, _⟩ := h; rfl) | (obtain ⟨_, _, _, _, _, rfl, _⟩ := h; rfl) | (obtain ⟨_, _, _, _, _, _, rfl, _⟩ := h; rfl) | (obtain ⟨_, _, _, _, _, _, _, rfl, _⟩ := h; rfl) | (obtain ⟨_, _, _, _, _, _, _, _, rfl, _⟩ := h; rfl)) fun cdv A outer s H E F0 W c hr => ⟨t__law_bad_letters K (upX W), r__law_bad_letters hx c hr, fun ds M Q h => pure__law_bad_letters hx h⟩⟩
theorem Fx.cal__law_bad_letters (hx : Fx K mg) (w : World) (base : Heap) : DCal P w K mg base 1 "_law_bad_letters" (sp__law_bad_letters K) := (hx.kp__law_bad_letters w base).cal (fun fd F => F.bindsN fun _ _ _ _ _ _ us hl => match us, hl with | [_, _], _ => rfl) hx.g__law_bad_letters
theorem r_law {cdv : Value} {A : Around} {outer : List Env} {s : Shared} {H : Hp} {E : XK} {F0 : Hp} {W : DXK} (hx : Fx K mg)
    (c : Ctx (cxOf (L2.CX P w) P w K mg base ["_law_script", "_law_forms", "_law_pairs", "_law_at", "_law_purse_here", "_law_letters", "_law_chains", "_law_bad", "_law_far", "_law_one", "_law_k", "_law_other"] "law" (defScope s_law) (He.ga K "law") cdv A outer s H E) F0 (dW W)) (hr : Room 5 (cxOf (L2.CX P w) P w K mg base ["_law_script", "_law_forms", "_law_pairs", "_law_at", "_law_purse_here", "_law_letters", "_law_chains", "_law_bad", "_law_far", "_law_one", "_law_k", "_law_other"] "law" (defScope s_law) (He.ga K "law") cdv A outer s H E).A) :
    DPSs (cxOf (L2.CX P w) P w K mg base ["_law_script", "_law_forms", "_law_pairs", "_law_at", "_law_purse_here", "_law_letters", "_law_chains", "_law_bad", "_law_far", "_law_one", "_law_k", "_law_other"] "law" (defScope s_law) (He.ga K "law") cdv A outer s H E) F0 (defBody s_law) (t_law K W) :=
  dss_cons (ds_if (dpt_not (dpt_val (dpe_call c (hx.cal__law_right w base) (hr.mono (by decide)) (da_cons (dpe_make0 c (hx.mak_Form0 w base) (hr.mono (by decide))) (da_cons (dstr) (da_cons (dint) (da_nil))))))) (dss_one (ds_ret (dbl))) (dss_nil)) (dss_cons (ds_par 1 2 c.calm c.nd (da_cons (dpe_lstM (da_nil)) (da_cons (dpe_lstM (da_nil)) (da_nil)))) (dss_cons (ds_for c.own c.calm (dpi_range1 hx.b_range (da_cons (dint) (da_nil))) (dg_name 3 c.nd) (dss_cons (ds_set 4 c.nd (dpe_call c (hx.cal__law_purse w base) (hr.mono (by decide)) (da_cons (dv 0) (da_cons (dv 3) (da_nil))))) (dss_cons (ds_asg (dpe_call c (hx.cal__law_form w base) (hr.mono (by decide)) (da_cons (dv 4) (da_nil))) (dg_tup c.calm (dgs_cons (dg_name 5 c.nd) (dgs_cons (dg_name 6 c.nd) (dgs_nil))))) (dss_cons (ds_set 6 c.nd (dpe_ix (dpe_lst (da_cons (dv 6) (da_cons (dint) (da_cons (dint) (da_nil))))) (dpe_call c (hx.cal__law_draw w base) (hr.mono (by decide)) (da_cons (dv 4) (da_cons (dint) (da_nil)))))) (dss_cons (ds_if (dpw (dpw_or (dpt_not (dpt_val (dpe_call c (hx.cal__law_right w base) (hr.mono (by decide)) (da_cons (dpe_make c (hx.mak_Form2 w base) (hr.mono (by decide)) (da_cons (dv 5) (da_cons (dv 6) (da_nil)))) (da_cons (dv 5) (da_cons (dv 6) (da_nil))))))) (dpw_or1 (dpt_not (dpt_val (dpe_call c (hx.cal__law_right w base) (hr.mono (by decide)) (da_cons (dpe_make c (hx.mak_Form1 w base) (hr.mono (by decide)) (da_cons (dv 5) (da_nil))) (da_cons (dv 5) (da_cons (dint) (da_nil)))))))))) (dss_one (ds_ret (dbl))) (dss_nil)) (dss_cons (ds_for c.own c.calm (dpi_seq (dpe_call c (hx.cal__law_bad_letters w base) (hr.mono (by decide)) (da_cons (dv 5) (da_cons (dpe_call c (hx.cal__law_draw w base) (hr.mono (by decide)) (da_cons (dv 4) (da_cons (dint) (da_nil)))) (da_nil))))) (dg_name 7 c.nd) (dss_one (ds_if (dpt_not (dpt_val (dpe_call c (hx.cal__law_refused w base) (hr.mono (by decide)) (da_cons (dv 7) (da_cons (dv 6) (da_nil)))))) (dss_one (ds_ret (dbl))) (dss_nil)))) (dss_cons (ds_set 8 c.nd (dpe_op op_dmod (dpe_callTy cr_dint hx.b_int (da_cons (dpe_callB (cr_dsum c.calm) hx.b_sum (da_cons (dpe_slice (dv 0) (dpo_some (dv 3)) (dpo_some (dpe_op op_dadd (dv 3) (dint)))) (da_nil))) (da_nil))) (dpe_op op_dpow (dint) (dint)))) (dss_cons (ds_for c.own c.calm (dpi_seq (dpe_lst (da_cons (dint) (da_cons (dint) (da_cons (dpe_op op_dsub (dint) (dv 6)) (da_cons (dpe_op op_dadd (dint) (dv 8)) (da_cons (dpe_op op_dsub (dint) (dv 8)) (da_cons (dbl) (da_cons (dbl) (da_cons (dnon) (da_cons (dstr) (da_cons (dpe_lst (da_cons (dv 6) (da_nil))) (da_cons (dpe_tup (da_cons (dv 6) (da_nil))) (da_nil)))))))))))))) (dg_name 7 c.nd) (dss_one (ds_if (dpt_not (dpt_val (dpe_call c (hx.cal__law_refused w base) (hr.mono (by decide)) (da_cons (dv 5) (da_cons (dv 7) (da_nil)))))) (dss_one (ds_ret (dbl))) (dss_nil)))) (dss_cons (ds_expr (dpe_bm PySem.F.plainAttrs_list PySem.F.slot_list_append PySem.F.type_list_append mt_dappend (dv 1) (da_cons (dpe_make c (hx.mak_Form2 w base) (hr.mono (by decide)) (da_cons (dv 5) (da_cons (dv 6) (da_nil)))) (da_nil)))) (dss_cons (ds_expr (dpe_bm PySem.F.plainAttrs_list PySem.F.slot_list_append PySem.F.type_list_append mt_dappend (dv 2) (da_cons (dpe_tup (da_cons (dv 5) (da_cons (dv 6) (da_nil)))) (da_nil)))) (dss_cons (ds_expr (dpe_bm PySem.F.plainAttrs_list PySem.F.slot_list_append PySem.F.type_list_append mt_dappend (dv 1) (da_cons (dpe_make c (hx.mak_Form2 w base) (hr.mono (by decide)) (da_cons (dv 5) (da_cons (dpe_op op_dadd (dpe_op op_dmod (dv 6) (dint)) (dint)) (da_nil)))) (da_nil)))) (dss_one (ds_expr (dpe_bm PySem.F.plainAttrs_list PySem.F.slot_list_append PySem.F.type_list_append mt_dappend (dv 2) (da_cons (dpe_tup (da_cons (dv 5) (da_cons (dpe_op op_dadd (dpe_op op_dmod (dv 6) (dint)) (dint)) (da_nil)))) (da_nil)))))))))))))))) (dss_cons (ds_for c.own c.calm (dpi_enum hx.b_enumerate (da_cons (dv 1) (da_nil))) (dg_tup c.calm (dgs_cons (dg_name 3 c.nd) (dgs_cons (dg_name 9 c.nd) (dgs_nil)))) (dss_cons (ds_for c.own c.calm (dpi_enum hx.b_enumerate (da_cons (dv 1) (da_nil))) (dg_tup c.calm (dgs_cons (dg_name 10 c.nd) (dgs_cons (dg_name 11 c.nd) (dgs_nil)))) (dss_one (ds_if (dpt_cmp (op_dne hr.units) (dpe_callTy cr_dbool hx.b_bool (da_cons (dpe_cmp (op_deqX c (hx.dm___eq__ w base) (hr.mono (by decide))) (dv 9) (dv 11)) (da_nil))) (dpe_cmp (op_deqX c (hx.dm___eq__ w base) (hr.mono (by decide))) (dpe_ix (dv 2) (dv 3)) (dpe_ix (dv 2) (dv 10)))) (dss_one (ds_ret (dbl))) (dss_nil)))) (dss_one (ds_if (dpw (dpw_or (dpt_cmp (op_deqX c (hx.dm___eq__ w base) (hr.mono (by decide))) (dv 9) (dpe_ix (dv 2) (dv 3))) (dpw_or (dpt_cmp (op_deqX c (hx.dm___eq__ w base) (hr.mono (by decide))) (dv 9) (dpe_ix (dpe_ix (dv 2) (dv 3)) (dint))) (dpw_or (dpt_cmp (op_deqX c (hx.dm___eq__ w base) (hr.mono (by decide))) (dv 9) (dpe_ix (dpe_ix (dv 2) (dv 3)) (dint))) (dpw_or1 (dpt_cmp (op_deqX c (hx.dm___eq__ w base) (hr.mono (by decide))) (dpe_ix (dv 2) (dv 3)) (dv 9))))))) (dss_one (ds_ret (dbl))) (dss_nil))))) (dss_one (ds_ret (dbl))))))
theorem Fx.kp_law (hx : Fx K mg) (w : World) (base : Heap) : Keeps P w K mg base 6 "law" "law" (defArgs s_law) (defBody s_law) (defScope s_law) [] (He.ga K "law") ["_law_script"] (sp_law K) := by
  obtain ⟨fd, F⟩ := hx.fd_law
  exact ⟨fd, F, dfn F sc_law (fun ds M Q E h => by first | (obtain ⟨_, rfl, _⟩ := h; rfl) | (obtain ⟨_, _, rfl, _⟩ := h; rfl) | (obtain ⟨_, _, _, rfl, _⟩ := h; rfl) | (obtain ⟨_, _, _, _, rfl, _⟩ := h; rfl) | (obtain ⟨_, _, _, _, _, rfl, _⟩ := h; rfl) | (obtain ⟨_, _, _, _, _, _, rfl, _⟩ := h; rfl) | (obtain ⟨_, _, _, _, _, _, _, rfl, _⟩ := h; rfl) | (obtain ⟨_, _, _, _, _, _, _, _, rfl, _⟩ := h; rfl)) fun cdv A outer s H E F0 W c hr => ⟨t_law K (upX W), r_law hx c hr, fun ds M Q h => pure_law hx h⟩⟩
theorem Fx.cal_law (hx : Fx K mg) (w : World) (base : Heap) : DCal P w K mg base 6 "law" (sp_law K) := (hx.kp_law w base).cal (fun fd F => F.bindsN fun _ _ _ _ _ _ us hl => match us, hl with | [_], _ => rfl) hx.g_law
end
end K02
set_option Elab.async false
set_option linter.all false
set_option maxRecDepth 100000
set_option maxHeartbeats 4000000
namespace K02
open PySem PySem.Spec PyProof.Rows L2 DX DL DH
abbrev R : PySem.W.OpenRow := PySem.W.OpenLaw.row PySem.Challenge.rw_betweenlists_k02_forms_made
def loose0 : List Str := ["_wall", "BetweenError", "InvalidName", "InvalidForm", "InvalidNumber", "ALPHABET", "is_whole", "is_name", "check_name", "check_whole", "MOST_CHAINS", "is_order", "key_in", "Form", "_law_purse", "_law_draw", "_law_form", "_law_whole", "_law_refused", "_law_right", "_law_bad_letters"]
def loose : List Str := loose0
abbrev hk : PySem.W.Hook := hook 5 P.main.file ck fn ini
def ob (s : PySem.W.SharedT) : Al := obsG 5 P.main.file ck fn ini (HandSHeadRun.getT s)
theorem ob_eq (s : PySem.W.SharedT) : ob s = hk.obs s.abs := obsG_eq (HandSHeadRun.getT_eq s)
theorem run (w : World) : HandSHeadRun.RunEq R (PySem.W.view R.prog [25]) hk ob 6000 loose w := by
  intro os
  kernel_rfl
end K02
set_option Elab.async false
set_option linter.all false
set_option maxRecDepth 100000
set_option maxHeartbeats 4000000
namespace K02
open PySem PySem.Spec PyProof.Rows L2 DX DL DH
theorem facts {w : World} {K : Frag} {h : Heap} {mg : Str → Option Value} {f : Addr} (X : K.In h) (G : h.Ns mainGlobals mg) (hf : mg ("law" : Str) = some (.ref f)) (c : Says P.main.file ck fn ini K) :
    ∃ (fd : FuncData), (∀ (s : Shared) (u : Value), BindsTo s fd ⟨[u], []⟩ [("_law_script", u)]) ∧ ∀ base : Heap, K.In base → base.Ns mainGlobals mg → DFn P w K mg base 6 f fd ["_law_script"] (sp_law K) := by
  have hx : Fx K mg := ⟨c, h, X, G⟩
  have e := hf.symm.trans hx.g_law
  cases e
  obtain ⟨fd, F⟩ := hx.fd_law
  refine ⟨fd, fun s u => FunD.bindsA (ps := ["_law_script"]) F (fun _ _ _ _ _ _ us hl => match us, hl with | [_], _ => rfl) s [u] rfl, fun base _ _ => ?_⟩
  exact dfn F sc_law (fun ds M Q E h => by obtain ⟨_, rfl, _⟩ := h; rfl) fun cdv A outer s H E F0 W c hr => ⟨t_law K (upX W), r_law hx c hr, fun ds M Q h => pure_law hx h⟩
end K02
open PySem PySem.W PySem.Calls PyProof.Rows
set_option maxRecDepth 100000 in
set_option maxHeartbeats 0 in
theorem PySem.Challenge.cw_betweenlists_k02_forms_made_holds : PySem.Challenge.rw_betweenlists_k02_forms_made.Holds := by
  w_on; o_law
  refine HandSHeadRun.head_any (r := K02.R) (q := PySem.W.view K02.R.prog [25]) (H := K02.hk) (ob := K02.ob) (M := 6000) (loose := K02.loose) (d := HandSHeadRun.topDef K02.R.prog 25) (kwd := []) K02.ob_eq
    (by kernel_rfl) (fun s => by kernel_rfl) K02.run (by kernel_rfl) (by kernel_rfl) (by kernel_rfl) (by rfl) (by first | assumption | decide +kernel) (by decide +kernel) ⟨rfl, rfl, rfl, rfl, rfl, by decide +kernel⟩ ?hw ?hc
  case hw => w_witness2
  case hc =>
    refine DH.walkD (l := PySem.Challenge.rw_betweenlists_k02_forms_made) (k := 6) (x := "_law_script") rfl (by kernel_rfl) ⟨rfl, by decide, by decide⟩ ?G
    intro w mg fa h Y G hmg0
    obtain ⟨K, KX, c⟩ := Y
    have hmg : mg ("law" : PySem.Str) = some (.ref fa) := by
      have e : (HandSHeadRun.topDef K02.R.prog 25).name = ("law" : PySem.Str) := by kernel_rfl
      rw [← e]
      exact hmg0
    obtain ⟨fd, hb, hF⟩ := K02.facts (w := w) KX G hmg c
    exact ⟨K, fd, K02.sp_law K, KX, hb, fun ns hl => K02.law_tells hl, hF⟩
